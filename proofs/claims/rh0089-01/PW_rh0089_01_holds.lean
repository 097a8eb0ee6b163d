import PyProof.Rows.All
import Wide.All
import OpenK.AllK
import Wide.FinOn
import PySem.Challenge.RW_rh0089_01
open PySem PySem.W PyProof.Rows
set_option Elab.async false
set_option maxRecDepth 100000
set_option maxHeartbeats 8000000
set_option compiler.extract_closed false
set_option linter.all false
namespace Mine

/-! a small interpreter of our own: what a def's text computes, over plain values -/
inductive X (ν : Type) where
  | nm (x : ν) | int (i : Int) | str (s : ν) | bool (b : Bool) | none
  | tup (l : List (X ν)) | lst (l : List (X ν)) | dict
  | att (e : X ν) (a : ν)
  | sub (e i : X ν)
  | upto (hi : X ν) | frm (lo : X ν)
  | cmp (op : CmpOp) (a b : X ν)
  | bop (op : BoolOp) (l : List (X ν))
  | not (a : X ν) | neg (a : X ν)
  | bin (op : Operator) (a b : X ν)
  | call (f : X ν) (args : List (X ν))
  | bad
inductive S (ν : Type) where
  | col (t : ν) (i : Int) (src : ν) | ex (e : X ν) | asg (t e : X ν) | aug (t : X ν) (op : Operator) (e : X ν)
  | ite (c : X ν) (a b : List (S ν)) | whl (c : X ν) (b : List (S ν)) | for (x : ν) (e : X ν) (b : List (S ν))
  | ret (e : X ν) | ret0 | cont | bad

/-! the text without its places -/
noncomputable def erC : Const → X Str
  | .int i => .int i | .str s => .str s | .bool b => .bool b | .none => .none | _ => .bad
noncomputable def erD : List (Option Expr) → List Expr → X Str
  | [], [] => .dict | _, _ => .bad
noncomputable def erU : UnaryOp → X Str → X Str
  | .Not, a => .not a | .USub, a => .neg a | _, _ => .bad
/-- a method's name stands on the call's line -/
noncomputable def lineOk : Expr → Pos → Bool
  | .Attribute _ _ a, p => a.endLine == p.line
  | _, _ => true
noncomputable def er : Nat → Expr → X Str
  | 0, _ => .bad
  | n + 1, e => match e with
    | .Name x _ => .nm x
    | .Constant c _ _ => erC c
    | .Tuple l _ _ => .tup (l.map (er n))
    | .List l _ => .lst (l.map (er n))
    | .Dict a b _ => erD a b
    | .Attribute e a _ => .att (er n e) a
    | .Subscript e i _ => .sub (er n e) (er n i)
    | .Slice a b c _ => match c with
      | some _ => .bad
      | none => match a, b with
        | none, some h => .upto (er n h)
        | some l, none => .frm (er n l)
        | none, none => .bad
        | some _, some _ => .bad
    | .Compare a ops bs _ => match ops with
      | [] => .bad
      | op :: more => match more with
        | _ :: _ => .bad
        | [] => match bs with
          | [] => .bad
          | b :: more => match more with
            | _ :: _ => .bad
            | [] => .cmp op (er n a) (er n b)
    | .BoolOp op l _ => .bop op (l.map (er n))
    | .UnaryOp u a _ => erU u (er n a)
    | .BinOp a op b _ => .bin op (er n a) (er n b)
    | .Call f l kw p => match kw with
      | [] => if lineOk f p = true then .call (er n f) (l.map (er n)) else .bad
      | _ :: _ => .bad
    | _ => .bad
/-- x = [y[i] for y in z], on one line -/
noncomputable def exNameD : (e : Expr) → Option { a : Str × Pos // e = .Name a.1 a.2 }
  | .Name x p => some ⟨(x, p), rfl⟩
  | _ => none
noncomputable def exName (e : Expr) : Option (Str × Pos) := (exNameD e).map (·.1)
noncomputable def exIntD : (e : Expr) → Option { i : Int // ∃ j p, e = .Constant (.int i) j p }
  | .Constant c j p => (match c with | .int i => some ⟨i, j, p, rfl⟩ | _ => none)
  | _ => none
noncomputable def exInt (e : Expr) : Option Int := (exIntD e).map (·.1)
noncomputable def exSubD : (e : Expr) → Option { a : Expr × Expr // ∃ p, e = .Subscript a.1 a.2 p }
  | .Subscript a b p => some ⟨(a, b), p, rfl⟩
  | _ => none
noncomputable def exSub (e : Expr) : Option (Expr × Expr) := (exSubD e).map (·.1)
noncomputable def exLcD : (e : Expr) → Option { a : Expr × List Comprehension × Scope × Pos // e = .ListComp a.1 a.2.1 a.2.2.1 a.2.2.2 }
  | .ListComp e g s q => some ⟨(e, g, s, q), rfl⟩
  | _ => none
noncomputable def exLc (e : Expr) : Option (Expr × List Comprehension × Scope × Pos) := (exLcD e).map (·.1)
theorem sub_some {α : Type} {P : α → Prop} {o : Option { a : α // P a }} {a : α} (h : o.map (·.1) = some a) : P a := by
  obtain ⟨⟨b, hb⟩, _, e⟩ := Option.map_eq_some_iff.mp h
  exact e ▸ hb
noncomputable def one? {α : Type} : List α → Option α
  | [] => none
  | a :: r => if r.isEmpty = true then some a else none
noncomputable def colOf (t e : Expr) : Option (Str × Int × Str) :=
  (exName t).bind fun x => (exLc e).bind fun L => (exSub L.1).bind fun s => (exName s.1).bind fun y => (exInt s.2).bind fun i => (one? L.2.1).bind fun g => (exName g.target).bind fun y' => (exName g.iter).bind fun z =>
    if (y.1 = y'.1 ∧ g.ifs.isEmpty = true ∧ g.is_async = 0) ∧ x.2.line = L.2.2.2.line ∧ L.2.2.1.kind = .function ∧ L.2.2.1.names = [(Str.ofString ".0", .local), (y.1, .local)] ∧ y.1 ≠ Str.ofString ".0" ∧ x.1 ≠ y.1 ∧ x.1 ≠ Str.ofString ".0" ∧ (y.1 == Str.ofString "__debug__") = false then some (x.1, i, z.1) else none
noncomputable def erS : Nat → Stmt → S Str
  | 0, _ => .bad
  | n + 1, s => match s with
    | .Expr e _ => .ex (er n e)
    | .Assign ts e _ => match ts with
      | [] => .bad
      | t :: more => match more with
        | [] => match colOf t e with
          | some (x, i, z) => .col x i z
          | none => .asg (er n t) (er n e)
        | _ :: _ => .bad
    | .AugAssign t op e _ => .aug (er n t) op (er n e)
    | .If c a b _ => .ite (er n c) (a.map (erS n)) (b.map (erS n))
    | .While c b o _ => match o with
      | [] => .whl (er n c) (b.map (erS n))
      | _ :: _ => .bad
    | .For t e b o _ => match o with
      | [] => (match er n t with | .nm x => .for x (er n e) (b.map (erS n)) | _ => .bad)
      | _ :: _ => .bad
    | .Return e _ => match e with
      | some e => .ret (er n e)
      | none => .ret0
    | .Continue _ => .cont
    | _ => .bad
/-- names put in for numbers -/
noncomputable def X.put (f : Nat → Str) : Nat → X Nat → X Str
  | 0, _ => .none
  | n + 1, e => match e with
    | .nm x => .nm (f x) | .int i => .int i | .str s => .str (f s) | .bool b => .bool b | .none => .none
    | .tup l => .tup (l.map (put f n)) | .lst l => .lst (l.map (put f n)) | .dict => .dict
    | .att e a => .att (put f n e) (f a) | .sub e i => .sub (put f n e) (put f n i)
    | .upto h => .upto (put f n h) | .frm l => .frm (put f n l)
    | .cmp op a b => .cmp op (put f n a) (put f n b) | .bop op l => .bop op (l.map (put f n))
    | .not a => .not (put f n a) | .neg a => .neg (put f n a) | .bin op a b => .bin op (put f n a) (put f n b)
    | .call g l => .call (put f n g) (l.map (put f n))
    | .bad => .none
noncomputable def S.put (f : Nat → Str) : Nat → S Nat → S Str
  | 0, _ => .ret0
  | n + 1, s => match s with
    | .col x i z => .col (f x) i (f z) | .ex e => .ex (e.put f n) | .asg t e => .asg (t.put f n) (e.put f n) | .aug t op e => .aug (t.put f n) op (e.put f n)
    | .ite c a b => .ite (c.put f n) (a.map (put f n)) (b.map (put f n)) | .whl c b => .whl (c.put f n) (b.map (put f n))
    | .for x e b => .for (f x) (e.put f n) (b.map (put f n)) | .ret e => .ret (e.put f n) | .ret0 => .ret0 | .cont => .cont
    | .bad => .ret0

/-! values, objects -/
inductive AV where
  | int (i : Int) | str (s : Nat) | bool (b : Bool) | none | tup (l : List AV) | obj (i : Nat)
inductive AO where
  | list (l : List AV) | dict (l : List (Int × AV)) (lk : Bool) | set (f : Int → Bool) | inst (c : Nat) (l : List (Nat × AV))
noncomputable abbrev AH := List AO
noncomputable abbrev Loc := List (Nat × AV)
noncomputable abbrev Sc := List (Nat × NameKind)
inductive Fl where
  | next | cont | ret (v : AV)
noncomputable def setL (x : Nat) (v : AV) : Loc → Loc
  | [] => [(x, v)]
  | (y, u) :: r => if x = y then (y, v) :: r else (y, u) :: setL x v r
noncomputable def setD (k : Int) (v : AV) : List (Int × AV) → List (Int × AV)
  | [] => [(k, v)]
  | (j, u) :: r => if j = k then (j, v) :: r else (j, u) :: setD k v r
structure Fn where
  ps : List Nat
  sc : Sc
  body : List (S Nat)
inductive Callee where
  | fn (i : Nat) | cls (c : Nat) | len | rev | list | tuple | sorted | set | range
/-- what the text's names stand for -/
structure Tab where
  fn : Nat → Option Fn
  call : Nat → Option Callee
  glob : Nat → Option Int
  meth : Nat → Nat → Option Nat
  init : Nat → Option Nat
  cat : Nat → Nat → Option Nat
  attr : Nat → Nat → Bool
/-- built-in methods of a list, dict, set -/
inductive Bm where
  | append | pop | insert | extend | get | add | discard
noncomputable def X.plainB {ν : Type} : X ν → Bool
  | .nm _ => true | .att _ _ => true | .sub _ _ => true | _ => false
mutual
noncomputable def AV.flatN : Nat → AV → Bool
  | _, .int _ => true
  | _, .str _ => true
  | _, .none => true
  | 0, .tup _ => false
  | n + 1, .tup l => flatsN n l
  | _, .obj _ => false
  | _, .bool _ => false
noncomputable def flatsN : Nat → List AV → Bool
  | _, [] => true
  | n, a :: l => a.flatN n && flatsN n l
end
noncomputable def cmpInt (op : CmpOp) (i j : Int) : Option Bool :=
  match op with
  | .Eq => some (decide (i = j)) | .NotEq => some (!decide (i = j)) | .Lt => some (decide (i < j)) | .Gt => some (decide (i > j))
  | .LtE => some (decide (i ≤ j)) | .GtE => some (decide (i ≥ j)) | _ => none
noncomputable def lookI (k : Int) : List (Int × AV) → Option AV
  | [] => none
  | (j, v) :: r => if j = k then some v else lookI k r
/-- what a comparison tells -/
inductive CmpIs (H : AH) : CmpOp → AV → AV → Bool → Prop
  | int {op : CmpOp} {i j : Int} {c : Bool} (h : cmpInt op i j = some c) : CmpIs H op (.int i) (.int j) c
  | seq (i j : Nat) : CmpIs H .Eq (.str i) (.str j) (decide (i = j))
  | sne (i j : Nat) : CmpIs H .NotEq (.str i) (.str j) (!decide (i = j))
  | cne (s s' : Nat) (n m : Int) : CmpIs H .NotEq (.tup [.str s, .int n]) (.tup [.str s', .int m]) (!(decide (s = s') && decide (n = m)))
  | inS {i : Int} {o : Nat} {f : Int → Bool} (h : H[o]? = some (.set f)) : CmpIs H .In (.int i) (.obj o) (f i)
  | ninS {i : Int} {o : Nat} {f : Int → Bool} (h : H[o]? = some (.set f)) : CmpIs H .NotIn (.int i) (.obj o) (!f i)
  | inD {i : Int} {o : Nat} {l : List (Int × AV)} {b : Bool} (h : H[o]? = some (.dict l b)) : CmpIs H .In (.int i) (.obj o) (lookI i l).isSome
  | ninD {i : Int} {o : Nat} {l : List (Int × AV)} {b : Bool} (h : H[o]? = some (.dict l b)) : CmpIs H .NotIn (.int i) (.obj o) (!(lookI i l).isSome)
  | inL {i : Int} {o : Nat} {l : List Int} (h : H[o]? = some (.list (l.map AV.int))) : CmpIs H .In (.int i) (.obj o) (decide (i ∈ l))
  | lne {o q : Nat} {l : List AV} (h1 : H[o]? = some (.list l)) (h2 : H[q]? = some (.list l)) (hf : flatsN 8 l = true) : CmpIs H .NotEq (.obj o) (.obj q) false
  | seqq {o q : Nat} {f : Int → Bool} (h1 : H[o]? = some (.set f)) (h2 : H[q]? = some (.set f)) : CmpIs H .Eq (.obj o) (.obj q) true
noncomputable def binInt (op : Operator) (i j : Int) : Option AV :=
  match op with
  | .Add => some (.int (i + j))
  | .Sub => some (.int (i - j))
  | .Mod => if 0 < j ∧ j ≤ 100000000000000000000 then some (.int (Int.fmod i j)) else none
  | .FloorDiv => if 0 < j ∧ j ≤ 100000000000000000000 then some (.int (Int.fdiv i j)) else none
  | .Pow => if i = 10 ∧ j = 20 then some (.int 100000000000000000000) else none
  | _ => none
noncomputable def binOp (T : Tab) (op : Operator) (a b : AV) : Option AV :=
  match a with
  | .int i => match b with
    | .int j => binInt op i j
    | _ => none
  | .str i => match b with
    | .str j => match op with
      | .Add => (T.cat i j).map .str
      | _ => none
    | _ => none
  | _ => none
noncomputable def augInt (op : Operator) (i j : Int) : Option AV :=
  match op with
  | .Add => some (.int (i + j))
  | .Sub => some (.int (i - j))
  | _ => none
noncomputable def augOp (op : Operator) (a b : AV) : Option AV :=
  match a with
  | .int i => match b with
    | .int j => augInt op i j
    | _ => none
  | _ => none
noncomputable def truth (H : AH) : AV → Option Bool
  | .bool b => some b
  | .obj o => match H[o]? with | some (.list l) => if l.length ≤ 1000000 then some (!l.isEmpty) else none | _ => none
  | _ => none
noncomputable def lookN (k : Nat) : List (Nat × AV) → Option AV
  | [] => none
  | (j, v) :: r => if j = k then some v else lookN k r
noncomputable def itemAt (l : List AV) (i : Int) : Option AV := if 0 ≤ i ∧ i < 1000000 then l[i.toNat]? else none
noncomputable def item (H : AH) (a i : AV) : Option AV :=
  match a, i with
  | .tup l, .int i => itemAt l i
  | .obj o, .int i => match H[o]? with
    | some (.list l) => itemAt l i
    | some (.dict l _) => lookI i l
    | _ => none
  | _, _ => none
noncomputable def itemL (H : AH) (a i : AV) : Option AV :=
  match a, i with
  | .obj o, .int n => match H[o]? with | some (.list l) => itemAt l n | _ => none
  | _, _ => none
noncomputable def storeItem (H : AH) (a i v : AV) : Option AH :=
  match a, i with
  | .obj o, .int i => match H[o]? with
    | some (.list l) => if 0 ≤ i ∧ i < l.length ∧ l.length ≤ 1000000 then some (H.set o (.list (l.set i.toNat v))) else none
    | some (.dict l false) => if l.length ≤ 1000000 then some (H.set o (.dict (setD i v l) false)) else none
    | _ => none
  | _, _ => none
noncomputable def getAt (T : Tab) (H : AH) (a : AV) (x : Nat) : Option AV :=
  match a with
  | .obj o => match H[o]? with | some (.inst c l) => if T.attr c x = true then lookN x l else none | _ => none
  | _ => none
noncomputable def setAt (T : Tab) (H : AH) (a : AV) (x : Nat) (v : AV) : Option AH :=
  match a with
  | .obj o => match H[o]? with | some (.inst c l) => if T.attr c x = true ∧ l.length < 100 then some (H.set o (.inst c (setL x v l))) else none | _ => none
  | _ => none
noncomputable def seqOf (H : AH) : AV → Option (List AV)
  | .tup l => some l
  | .obj o => match H[o]? with | some (.list l) => some l | _ => none
  | _ => none

noncomputable def ins (k : Int) : List Int → List Int
  | [] => [k]
  | j :: r => if k ≤ j then k :: j :: r else j :: ins k r
noncomputable def insSort (l : List Int) : List Int := l.foldr ins []
noncomputable def bmOf : Nat → Option Bm
  | 0 => some .append | 1 => some .pop | 2 => some .insert | 3 => some .extend | 4 => some .get | 5 => some .add | 6 => some .discard
  | _ => none
noncomputable def bmHas : Bm → AO → Bool
  | .append, .list _ => true | .pop, .list _ => true | .insert, .list _ => true | .extend, .list _ => true | .get, .dict _ _ => true | .add, .set _ => true | .discard, .set _ => true
  | _, _ => false
/-- what a built-in method does -/
inductive BmRun : Bm → Nat → List AV → AH → AV → AH → Prop
  | append {a : Nat} {v : AV} {H : AH} {l : List AV} (h : H[a]? = some (.list l)) (hl : l.length < 1000000) : BmRun .append a [v] H .none (H.set a (.list (l ++ [v])))
  | pop {a : Nat} {v : AV} {H : AH} {l : List AV} (h : H[a]? = some (.list (l ++ [v]))) (hl : (l ++ [v]).length ≤ 1000000) : BmRun .pop a [] H v (H.set a (.list l))
  | insert {a : Nat} {i : Int} {v : AV} {H : AH} {l : List AV} (h : H[a]? = some (.list l)) (hi : 0 ≤ i ∧ i ≤ l.length ∧ l.length < 1000000) : BmRun .insert a [.int i, v] H .none (H.set a (.list (l.take i.toNat ++ v :: l.drop i.toNat)))
  | get {a : Nat} {k : Int} {v : AV} {H : AH} {l : List (Int × AV)} {b : Bool} (h : H[a]? = some (.dict l b)) : BmRun .get a [.int k, v] H ((lookI k l).getD v) H
  | add {a : Nat} {k : Int} {H : AH} {f : Int → Bool} (h : H[a]? = some (.set f)) (hk : 0 ≤ k ∧ k < 5) : BmRun .add a [.int k] H .none (H.set a (.set fun y => f y || decide (y = k)))
  | discard {a : Nat} {k : Int} {H : AH} {f : Int → Bool} (h : H[a]? = some (.set f)) (hk : 0 ≤ k ∧ k < 5) : BmRun .discard a [.int k] H .none (H.set a (.set fun y => f y && !decide (y = k)))
/-- what a for takes its items from -/
inductive Src where
  | tup (l : List AV) | lst (o : Nat) | rng (n : Nat) | keys (o n : Nat)
noncomputable def srcAt (H : AH) : AV → Option Src
  | .tup l => some (.tup l)
  | .obj o => match H[o]? with
    | some (.list _) => some (.lst o)
    | some (.dict l _) => some (.keys o l.length)
    | _ => none
  | _ => none
noncomputable def nextOf (H : AH) (q : Src) (i : Nat) : Option (Option AV) :=
  match q with
  | .tup l => some l[i]?
  | .lst o => match H[o]? with | some (.list l) => some l[i]? | _ => none
  | .rng n => if i < n then some (some (.int i)) else some none
  | .keys o n => match H[o]? with | some (.dict l true) => if l.length = n then some (l[i]?.map fun p => .int p.1) else none | _ => none
noncomputable def lock (q : Src) (H : AH) : Option AH :=
  match q with
  | .keys o _ => match H[o]? with | some (.dict l false) => some (H.set o (.dict l true)) | _ => none
  | _ => some H
noncomputable def unlock (q : Src) (H : AH) : Option AH :=
  match q with
  | .keys o _ => match H[o]? with | some (.dict l true) => some (H.set o (.dict l false)) | _ => none
  | _ => some H
noncomputable def colRun (i : Nat) : List AV → Option (List AV)
  | [] => some []
  | a :: r => match a with
    | .tup l => l[i]?.bind fun v => (colRun i r).map fun k => v :: k
    | _ => none
noncomputable def rangeOf (T : Tab) (sc : Sc) : X Nat → Option (X Nat)
  | .call (.nm g) [e] => match sc.lookup g, T.call g with
    | some .globalImplicit, some .range => some e
    | _, _ => none
  | _ => none

/-! the text's functions, names as numbers (printed by tab.py) -/
noncomputable def F_variables : Fn := ⟨[8], [(8, .local), (7, .globalImplicit)], [
    .ret (.call (.nm 7) [.lst [.nm 8]])]⟩
noncomputable def F_variables_of : Fn := ⟨[14], [(14, .local), (9, .local), (10, .local), (11, .local), (8, .local), (12, .globalImplicit), (13, .globalImplicit)], [
    .asg (.nm 9) (.dict),
    .asg (.nm 10) (.lst []),
    .asg (.nm 11) (.call (.nm 12) [.call (.nm 13) [.nm 14]]),
    .whl (.nm 11) [.asg (.nm 8) (.call (.att (.nm 11) 1) []), .ite (.cmp .Eq (.sub (.nm 8) (.int 0)) (.str 15)) [.ite (.cmp .NotIn (.sub (.nm 8) (.int 1)) (.nm 9)) [.asg (.sub (.nm 9) (.sub (.nm 8) (.int 1))) (.bool true), .ex (.call (.att (.nm 10) 0) [.sub (.nm 8) (.int 1)])] []] [.ite (.cmp .Eq (.sub (.nm 8) (.int 0)) (.str 16)) [.ex (.call (.att (.nm 11) 3) [.call (.nm 13) [.sub (.nm 8) (.int 2)]])] []]],
    .ret (.nm 10)]⟩
noncomputable def F_occurrences : Fn := ⟨[8], [(8, .local), (17, .local), (11, .local), (18, .local), (13, .globalImplicit)], [
    .asg (.nm 17) (.dict),
    .asg (.nm 11) (.lst [.nm 8]),
    .whl (.nm 11) [.asg (.nm 18) (.call (.att (.nm 11) 1) []), .ite (.cmp .Eq (.sub (.nm 18) (.int 0)) (.str 15)) [.asg (.sub (.nm 17) (.sub (.nm 18) (.int 1))) (.bin .Add (.call (.att (.nm 17) 4) [.sub (.nm 18) (.int 1), .int 0]) (.int 1))] [.ite (.cmp .Eq (.sub (.nm 18) (.int 0)) (.str 16)) [.ex (.call (.att (.nm 11) 3) [.call (.nm 13) [.sub (.nm 18) (.int 2)]])] []]],
    .ret (.nm 17)]⟩
noncomputable def F_constant_cell : Fn := ⟨[8], [(8, .local), (20, .globalImplicit), (21, .globalImplicit)], [
    .ite (.cmp .Eq (.sub (.nm 8) (.int 0)) (.str 19)) [.ret (.tup [.nm 20, .sub (.nm 8) (.int 1)])] [],
    .ret (.tup [.nm 21, .sub (.nm 8) (.int 1)])]⟩
noncomputable def F_CodeState_init : Fn := ⟨[22, 23, 24], [(22, .local), (23, .local), (24, .local), (26, .globalImplicit)], [
    .asg (.att (.nm 22) 23) (.nm 23),
    .asg (.att (.nm 22) 24) (.nm 24),
    .asg (.att (.nm 22) 25) (.lst []),
    .asg (.att (.nm 22) 9) (.call (.nm 26) []),
    .asg (.att (.nm 22) 27) (.call (.nm 26) []),
    .asg (.att (.nm 22) 28) (.att (.nm 23) 29)]⟩
noncomputable def F_CodeState_emit : Fn := ⟨[22, 30], [(22, .local), (30, .local)], [
    .ex (.call (.att (.att (.nm 22) 25) 0) [.nm 30])]⟩
noncomputable def F_CodeState_new_temporary : Fn := ⟨[22], [(22, .local), (31, .local)], [
    .asg (.nm 31) (.att (.nm 22) 28),
    .asg (.att (.nm 22) 28) (.bin .Add (.nm 31) (.int 1)),
    .ret (.tup [.str 32, .nm 31])]⟩
noncomputable def F_CodeState_is_void : Fn := ⟨[22, 34], [(22, .local), (34, .local)], [
    .ret (.cmp .Eq (.att (.sub (.att (.att (.nm 22) 24) 33) (.nm 34)) 35) (.str 36))]⟩
noncomputable def F_CodeState_is_permanent : Fn := ⟨[22, 34], [(22, .local), (34, .local)], [
    .ret (.cmp .Eq (.att (.sub (.att (.att (.nm 22) 24) 33) (.nm 34)) 35) (.str 37))]⟩
noncomputable def F_CodeState_place : Fn := ⟨[22, 34], [(22, .local), (34, .local), (38, .local)], [
    .asg (.nm 38) (.sub (.att (.att (.nm 22) 24) 33) (.nm 34)),
    .ite (.cmp .Eq (.att (.nm 38) 35) (.str 37)) [.ret (.tup [.str 39, .att (.nm 38) 40])] [],
    .ret (.tup [.str 32, .nm 34])]⟩
noncomputable def F_Matcher_head_argument : Fn := ⟨[22, 8, 45], [(22, .local), (8, .local), (45, .local), (34, .local), (49, .globalImplicit)], [
    .ite (.cmp .Eq (.sub (.nm 8) (.int 0)) (.str 15)) [.asg (.nm 34) (.sub (.nm 8) (.int 1)), .ite (.call (.att (.nm 22) 41) [.nm 34]) [.ret0] [], .ite (.cmp .In (.nm 34) (.att (.nm 22) 9)) [.ex (.call (.att (.nm 22) 42) [.tup [.str 43, .call (.att (.nm 22) 44) [.nm 34], .nm 45]])] [.ex (.call (.att (.att (.nm 22) 9) 5) [.nm 34]), .ex (.call (.att (.att (.nm 22) 27) 5) [.nm 34]), .ex (.call (.att (.nm 22) 42) [.tup [.str 46, .call (.att (.nm 22) 44) [.nm 34], .nm 45]])]] [.ite (.cmp .Eq (.sub (.nm 8) (.int 0)) (.str 16)) [.ex (.call (.att (.nm 22) 47) [.nm 8, .nm 45])] [.ex (.call (.att (.nm 22) 42) [.tup [.str 48, .call (.nm 49) [.nm 8], .nm 45]])]]]⟩
noncomputable def F_Matcher_match : Fn := ⟨[22, 8, 45], [(22, .local), (8, .local), (45, .local), (50, .local), (52, .local), (53, .local), (51, .globalImplicit), (54, .globalImplicit)], [
    .asg (.nm 50) (.lst [.tup [.nm 8, .nm 45]]),
    .whl (.cmp .Gt (.call (.nm 51) [.nm 50]) (.int 0)) [.asg (.tup [.nm 52, .nm 53]) (.call (.att (.nm 50) 1) []), .ite (.cmp .Eq (.sub (.nm 52) (.int 1)) (.nm 54)) [.ex (.call (.att (.nm 22) 42) [.tup [.str 55, .nm 53]])] [.ex (.call (.att (.nm 22) 42) [.tup [.str 56, .sub (.nm 52) (.int 1), .nm 53]])], .ex (.call (.att (.nm 22) 57) [.sub (.nm 52) (.int 2), .nm 50])]]⟩
noncomputable def F_Matcher_match_arguments : Fn := ⟨[22, 61, 50], [(22, .local), (61, .local), (50, .local), (58, .local), (59, .local), (60, .local), (64, .local), (49, .globalImplicit), (51, .globalImplicit)], [
    .asg (.nm 58) (.lst []),
    .asg (.nm 59) (.int 0),
    .for 60 (.nm 61) [.ite (.bop .And [.cmp .Eq (.sub (.nm 60) (.int 0)) (.str 15), .call (.att (.nm 22) 41) [.sub (.nm 60) (.int 1)]]) [.aug (.nm 59) .Add (.int 1), .cont] [], .ite (.cmp .Gt (.nm 59) (.int 0)) [.ex (.call (.att (.nm 22) 42) [.tup [.str 62, .nm 59]]), .asg (.nm 59) (.int 0)] [], .ite (.cmp .Eq (.sub (.nm 60) (.int 0)) (.str 15)) [.ex (.call (.att (.nm 22) 63) [.sub (.nm 60) (.int 1)])] [.ite (.cmp .Eq (.sub (.nm 60) (.int 0)) (.str 16)) [.asg (.nm 64) (.call (.att (.nm 22) 65) []), .ex (.call (.att (.nm 22) 42) [.tup [.str 66, .nm 64]]), .ex (.call (.att (.nm 58) 0) [.tup [.nm 60, .nm 64]])] [.ex (.call (.att (.nm 22) 42) [.tup [.str 67, .call (.nm 49) [.nm 60]]])]]],
    .ite (.cmp .Gt (.nm 59) (.int 0)) [.ex (.call (.att (.nm 22) 42) [.tup [.str 62, .nm 59]])] [],
    .whl (.cmp .Gt (.call (.nm 51) [.nm 58]) (.int 0)) [.ex (.call (.att (.nm 50) 0) [.call (.att (.nm 58) 1) []])]]⟩
noncomputable def F_Matcher_match_variable : Fn := ⟨[22, 34], [(22, .local), (34, .local)], [
    .ite (.cmp .NotIn (.nm 34) (.att (.nm 22) 9)) [.ex (.call (.att (.att (.nm 22) 9) 5) [.nm 34]), .ex (.call (.att (.nm 22) 42) [.tup [.str 66, .call (.att (.nm 22) 44) [.nm 34]]])] [.ite (.cmp .In (.nm 34) (.att (.nm 22) 27)) [.ex (.call (.att (.nm 22) 42) [.tup [.str 68, .call (.att (.nm 22) 44) [.nm 34]]])] [.ex (.call (.att (.nm 22) 42) [.tup [.str 69, .call (.att (.nm 22) 44) [.nm 34]]])]]]⟩
noncomputable def F_Builder_build : Fn := ⟨[22, 8, 76], [(22, .local), (8, .local), (76, .local), (70, .local), (71, .local), (72, .local), (52, .local), (74, .local), (53, .local), (51, .globalImplicit), (54, .globalImplicit)], [
    .asg (.nm 70) (.lst [.tup [.bool false, .nm 8]]),
    .asg (.nm 71) (.lst []),
    .whl (.cmp .Gt (.call (.nm 51) [.nm 70]) (.int 0)) [.asg (.tup [.nm 72, .nm 52]) (.call (.att (.nm 70) 1) []), .ite (.not (.nm 72)) [.ex (.call (.att (.nm 70) 0) [.tup [.bool true, .nm 52]]), .ex (.call (.att (.nm 22) 73) [.sub (.nm 52) (.int 2), .nm 70]), .cont] [], .asg (.nm 74) (.call (.att (.nm 22) 75) [.sub (.nm 52) (.int 2), .nm 71]), .ite (.cmp .Eq (.call (.nm 51) [.nm 70]) (.int 0)) [.asg (.nm 53) (.nm 76)] [.asg (.nm 53) (.call (.att (.nm 22) 65) [])], .ite (.cmp .Eq (.sub (.nm 52) (.int 1)) (.nm 54)) [.ex (.call (.att (.nm 22) 42) [.tup [.str 77, .nm 53]])] [.ex (.call (.att (.nm 22) 42) [.tup [.str 78, .sub (.nm 52) (.int 1), .nm 53]])], .ex (.call (.att (.nm 22) 79) [.nm 74]), .ex (.call (.att (.nm 71) 0) [.nm 53])]]⟩
noncomputable def F_Builder_wait_for_nested : Fn := ⟨[22, 61, 70], [(22, .local), (61, .local), (70, .local), (80, .local), (81, .local), (51, .globalImplicit)], [
    .asg (.nm 80) (.bin .Sub (.call (.nm 51) [.nm 61]) (.int 1)),
    .asg (.nm 81) (.bin .Sub (.nm 80) (.int 1)),
    .whl (.cmp .GtE (.nm 81) (.int 0)) [.ite (.cmp .Eq (.sub (.sub (.nm 61) (.nm 81)) (.int 0)) (.str 16)) [.ex (.call (.att (.nm 70) 0) [.tup [.bool false, .sub (.nm 61) (.nm 81)]])] [], .aug (.nm 81) .Sub (.int 1)],
    .ite (.cmp .Eq (.sub (.sub (.nm 61) (.nm 80)) (.int 0)) (.str 16)) [.ex (.call (.att (.nm 70) 0) [.tup [.bool false, .sub (.nm 61) (.nm 80)]])] []]⟩
noncomputable def F_Builder_take_nested : Fn := ⟨[22, 61, 71], [(22, .local), (61, .local), (71, .local), (74, .local), (80, .local), (81, .local), (12, .globalImplicit), (51, .globalImplicit)], [
    .asg (.nm 74) (.call (.nm 12) [.nm 61]),
    .asg (.nm 80) (.bin .Sub (.call (.nm 51) [.nm 61]) (.int 1)),
    .asg (.nm 81) (.bin .Sub (.nm 80) (.int 1)),
    .whl (.cmp .GtE (.nm 81) (.int 0)) [.ite (.cmp .Eq (.sub (.sub (.nm 61) (.nm 81)) (.int 0)) (.str 16)) [.asg (.sub (.nm 74) (.nm 81)) (.call (.att (.nm 71) 1) [])] [], .aug (.nm 81) .Sub (.int 1)],
    .ite (.cmp .Eq (.sub (.sub (.nm 61) (.nm 80)) (.int 0)) (.str 16)) [.asg (.sub (.nm 74) (.nm 80)) (.call (.att (.nm 71) 1) [])] [],
    .ret (.nm 74)]⟩
noncomputable def F_Builder_set_arguments : Fn := ⟨[22, 74], [(22, .local), (74, .local), (59, .local), (82, .local), (49, .globalImplicit)], [
    .asg (.nm 59) (.int 0),
    .for 82 (.nm 74) [.ite (.bop .And [.cmp .Eq (.sub (.nm 82) (.int 0)) (.str 15), .call (.att (.nm 22) 41) [.sub (.nm 82) (.int 1)]]) [.aug (.nm 59) .Add (.int 1), .cont] [], .ite (.cmp .Gt (.nm 59) (.int 0)) [.ex (.call (.att (.nm 22) 42) [.tup [.str 83, .nm 59]]), .asg (.nm 59) (.int 0)] [], .ite (.cmp .Eq (.sub (.nm 82) (.int 0)) (.str 15)) [.ex (.call (.att (.nm 22) 84) [.sub (.nm 82) (.int 1)])] [.ite (.cmp .Eq (.sub (.nm 82) (.int 0)) (.str 32)) [.ex (.call (.att (.nm 22) 42) [.tup [.str 85, .nm 82]])] [.ex (.call (.att (.nm 22) 42) [.tup [.str 86, .call (.nm 49) [.nm 82]]])]]],
    .ite (.cmp .Gt (.nm 59) (.int 0)) [.ex (.call (.att (.nm 22) 42) [.tup [.str 83, .nm 59]])] []]⟩
noncomputable def F_Builder_set_variable : Fn := ⟨[22, 34], [(22, .local), (34, .local)], [
    .ite (.cmp .NotIn (.nm 34) (.att (.nm 22) 9)) [.ex (.call (.att (.att (.nm 22) 9) 5) [.nm 34]), .ex (.call (.att (.nm 22) 42) [.tup [.str 84, .call (.att (.nm 22) 44) [.nm 34]]])] [.ite (.cmp .In (.nm 34) (.att (.nm 22) 27)) [.ex (.call (.att (.nm 22) 42) [.tup [.str 87, .call (.att (.nm 22) 44) [.nm 34]]]), .ite (.not (.call (.att (.nm 22) 88) [.nm 34])) [.ex (.call (.att (.att (.nm 22) 27) 6) [.nm 34])] []] [.ex (.call (.att (.nm 22) 42) [.tup [.str 85, .call (.att (.nm 22) 44) [.nm 34]]])]]]⟩
noncomputable def F_InPlace_unify_goal : Fn := ⟨[22, 90, 91], [(22, .local), (90, .local), (91, .local), (89, .local), (92, .local), (93, .local), (81, .local), (51, .globalImplicit)], [
    .asg (.nm 89) (.lst [.tup [.nm 90, .nm 91]]),
    .whl (.cmp .Gt (.call (.nm 51) [.nm 89]) (.int 0)) [.asg (.tup [.nm 92, .nm 93]) (.call (.att (.nm 89) 1) []), .ite (.bop .And [.cmp .NotEq (.sub (.nm 92) (.int 0)) (.str 15), .cmp .Eq (.sub (.nm 93) (.int 0)) (.str 15)]) [.asg (.tup [.nm 92, .nm 93]) (.tup [.nm 93, .nm 92])] [], .ite (.cmp .Eq (.sub (.nm 92) (.int 0)) (.str 15)) [.ex (.call (.att (.nm 22) 94) [.sub (.nm 92) (.int 1), .nm 93])] [.ite (.bop .And [.cmp .Eq (.sub (.nm 92) (.int 0)) (.str 16), .cmp .Eq (.sub (.nm 93) (.int 0)) (.str 16), .cmp .Eq (.sub (.nm 92) (.int 1)) (.sub (.nm 93) (.int 1))]) [.asg (.nm 81) (.bin .Sub (.call (.nm 51) [.sub (.nm 92) (.int 2)]) (.int 1)), .whl (.cmp .GtE (.nm 81) (.int 0)) [.ex (.call (.att (.nm 89) 0) [.tup [.sub (.sub (.nm 92) (.int 2)) (.nm 81), .sub (.sub (.nm 93) (.int 2)) (.nm 81)]]), .aug (.nm 81) .Sub (.int 1)]] [.ite (.bop .Or [.cmp .Eq (.sub (.nm 92) (.int 0)) (.str 16), .cmp .Eq (.sub (.nm 93) (.int 0)) (.str 16), .cmp .NotEq (.nm 92) (.nm 93)]) [.ex (.call (.att (.nm 22) 42) [.tup [.str 95]])] []]]]]⟩
noncomputable def F_InPlace_unify_with_variable : Fn := ⟨[22, 34, 8], [(22, .local), (34, .local), (8, .local), (53, .local), (97, .globalImplicit), (49, .globalImplicit)], [
    .ite (.cmp .Eq (.sub (.nm 8) (.int 0)) (.str 15)) [.ex (.call (.att (.nm 22) 96) [.nm 34, .sub (.nm 8) (.int 1)]), .ret0] [],
    .ite (.bop .And [.cmp .NotIn (.nm 34) (.att (.nm 22) 9), .cmp .In (.nm 34) (.call (.nm 97) [.nm 8])]) [.ex (.call (.att (.nm 22) 98) [.nm 34])] [],
    .ite (.cmp .In (.nm 34) (.att (.nm 22) 9)) [.asg (.nm 53) (.call (.att (.nm 22) 99) [.nm 34]), .ite (.cmp .Eq (.sub (.nm 8) (.int 0)) (.str 16)) [.ex (.call (.att (.nm 22) 47) [.nm 8, .nm 53])] [.ex (.call (.att (.nm 22) 42) [.tup [.str 48, .call (.nm 49) [.nm 8], .nm 53]])]] [.ite (.call (.att (.nm 22) 41) [.nm 34]) [.ite (.cmp .Eq (.sub (.nm 8) (.int 0)) (.str 16)) [.ex (.call (.att (.nm 22) 100) [.nm 8, .call (.att (.nm 22) 65) []])] []] [.asg (.nm 53) (.call (.att (.nm 22) 101) [.nm 34]), .ite (.cmp .Eq (.sub (.nm 8) (.int 0)) (.str 16)) [.ex (.call (.att (.nm 22) 100) [.nm 8, .nm 53])] [.ex (.call (.att (.nm 22) 42) [.tup [.str 102, .call (.nm 49) [.nm 8], .nm 53]])], .ex (.call (.att (.nm 22) 103) [.nm 34, .nm 53])]]]⟩
noncomputable def F_InPlace_unify_variables : Fn := ⟨[22, 104, 34], [(22, .local), (104, .local), (34, .local)], [
    .ite (.bop .And [.cmp .In (.nm 104) (.att (.nm 22) 9), .cmp .In (.nm 34) (.att (.nm 22) 9)]) [.ite (.cmp .Eq (.nm 104) (.nm 34)) [.ret0] [], .ite (.call (.att (.nm 22) 88) [.nm 104]) [.ex (.call (.att (.nm 22) 42) [.tup [.str 43, .call (.att (.nm 22) 44) [.nm 104], .call (.att (.nm 22) 99) [.nm 34]]])] [.ex (.call (.att (.nm 22) 42) [.tup [.str 43, .call (.att (.nm 22) 44) [.nm 34], .call (.att (.nm 22) 44) [.nm 104]]])]] [.ite (.cmp .In (.nm 104) (.att (.nm 22) 9)) [.ex (.call (.att (.nm 22) 105) [.nm 34, .nm 104])] [.ite (.cmp .In (.nm 34) (.att (.nm 22) 9)) [.ex (.call (.att (.nm 22) 105) [.nm 104, .nm 34])] [.ex (.call (.att (.nm 22) 98) [.nm 34]), .ite (.cmp .NotEq (.nm 104) (.nm 34)) [.ite (.cmp .In (.nm 34) (.att (.nm 22) 9)) [.ex (.call (.att (.nm 22) 105) [.nm 104, .nm 34])] [.ex (.call (.att (.nm 22) 98) [.nm 104])]] []]]]]⟩
noncomputable def F_InPlace_introduce : Fn := ⟨[22, 34], [(22, .local), (34, .local), (53, .local)], [
    .ite (.call (.att (.nm 22) 41) [.nm 34]) [.ret0] [],
    .asg (.nm 53) (.call (.att (.nm 22) 101) [.nm 34]),
    .ex (.call (.att (.nm 22) 42) [.tup [.str 106, .nm 53]]),
    .ex (.call (.att (.nm 22) 103) [.nm 34, .nm 53])]⟩
noncomputable def F_InPlace_alias : Fn := ⟨[22, 34, 107], [(22, .local), (34, .local), (107, .local), (53, .local)], [
    .ite (.call (.att (.nm 22) 41) [.nm 34]) [.ret0] [],
    .ite (.call (.att (.nm 22) 88) [.nm 107]) [.asg (.nm 53) (.call (.att (.nm 22) 101) [.nm 34]), .ex (.call (.att (.nm 22) 108) [.nm 107, .nm 53]), .ex (.call (.att (.nm 22) 103) [.nm 34, .nm 53]), .ret0] [],
    .ite (.cmp .In (.nm 107) (.att (.nm 22) 27)) [.ex (.call (.att (.att (.nm 22) 27) 5) [.nm 34])] [],
    .ex (.call (.att (.att (.nm 22) 9) 5) [.nm 34]),
    .ite (.call (.att (.nm 22) 88) [.nm 34]) [.ex (.call (.att (.nm 22) 42) [.tup [.str 46, .call (.att (.nm 22) 44) [.nm 34], .call (.att (.nm 22) 44) [.nm 107]]])] [.ex (.call (.att (.nm 22) 42) [.tup [.str 109, .call (.att (.nm 22) 44) [.nm 107], .call (.att (.nm 22) 44) [.nm 34]]])]]⟩
noncomputable def F_InPlace_fresh_register : Fn := ⟨[22, 34], [(22, .local), (34, .local)], [
    .ite (.call (.att (.nm 22) 88) [.nm 34]) [.ret (.call (.att (.nm 22) 65) [])] [],
    .ret (.tup [.str 32, .nm 34])]⟩
noncomputable def F_InPlace_settle : Fn := ⟨[22, 34, 53], [(22, .local), (34, .local), (53, .local)], [
    .ex (.call (.att (.att (.nm 22) 9) 5) [.nm 34]),
    .ite (.call (.att (.nm 22) 88) [.nm 34]) [.ex (.call (.att (.nm 22) 42) [.tup [.str 46, .call (.att (.nm 22) 44) [.nm 34], .nm 53]])] []]⟩
noncomputable def F_InPlace_register_of : Fn := ⟨[22, 34], [(22, .local), (34, .local), (53, .local)], [
    .ite (.not (.call (.att (.nm 22) 88) [.nm 34])) [.ret (.tup [.str 32, .nm 34])] [],
    .asg (.nm 53) (.call (.att (.nm 22) 65) []),
    .ex (.call (.att (.nm 22) 108) [.nm 34, .nm 53]),
    .ret (.nm 53)]⟩
noncomputable def F_InPlace_load_slot : Fn := ⟨[22, 34, 53], [(22, .local), (34, .local), (53, .local)], [
    .ite (.cmp .In (.nm 34) (.att (.nm 22) 27)) [.ex (.call (.att (.nm 22) 42) [.tup [.str 110, .call (.att (.nm 22) 44) [.nm 34], .nm 53]])] [.ex (.call (.att (.nm 22) 42) [.tup [.str 109, .call (.att (.nm 22) 44) [.nm 34], .nm 53]])]]⟩
noncomputable def F_KernelClause_init : Fn := ⟨[22, 111, 61, 112, 29], [(22, .local), (111, .local), (61, .local), (112, .local), (29, .local)], [
    .asg (.att (.nm 22) 111) (.nm 111),
    .asg (.att (.nm 22) 61) (.nm 61),
    .asg (.att (.nm 22) 112) (.nm 112),
    .asg (.att (.nm 22) 29) (.nm 29)]⟩
noncomputable def F_goal_terms : Fn := ⟨[113], [(113, .local), (35, .local)], [
    .asg (.nm 35) (.sub (.nm 113) (.int 0)),
    .ite (.bop .Or [.cmp .Eq (.nm 35) (.str 114), .cmp .Eq (.nm 35) (.str 115)]) [.ret (.sub (.nm 113) (.int 2))] [],
    .ite (.cmp .Eq (.nm 35) (.str 116)) [.ret (.tup [.sub (.nm 113) (.int 1), .sub (.nm 113) (.int 2)])] [],
    .ret (.tup [])]⟩
noncomputable def F_goal_special : Fn := ⟨[113], [(113, .local)], [
    .ite (.bop .Or [.cmp .Eq (.sub (.nm 113) (.int 0)) (.str 117), .cmp .Eq (.sub (.nm 113) (.int 0)) (.str 118), .cmp .Eq (.sub (.nm 113) (.int 0)) (.str 119)]) [.ret (.sub (.nm 113) (.int 1))] [],
    .ret (.neg (.int 1))]⟩
noncomputable def F_VarInfo_init : Fn := ⟨[22, 34, 122], [(22, .local), (34, .local), (122, .local)], [
    .asg (.att (.nm 22) 120) (.nm 34),
    .asg (.att (.nm 22) 35) (.str 121),
    .asg (.att (.nm 22) 40) (.int 0),
    .asg (.att (.nm 22) 122) (.nm 122),
    .asg (.att (.nm 22) 123) (.bool false),
    .asg (.att (.nm 22) 124) (.neg (.int 1)),
    .asg (.att (.nm 22) 29) (.int 0),
    .asg (.att (.nm 22) 125) (.int 0),
    .asg (.att (.nm 22) 126) (.int 0)]⟩
noncomputable def F_ClausePlan_init : Fn := ⟨[22, 33, 127, 128, 129, 130], [(22, .local), (33, .local), (127, .local), (128, .local), (129, .local), (130, .local)], [
    .asg (.att (.nm 22) 33) (.nm 33),
    .asg (.att (.nm 22) 127) (.nm 127),
    .asg (.att (.nm 22) 128) (.nm 128),
    .asg (.att (.nm 22) 129) (.nm 129),
    .asg (.att (.nm 22) 130) (.nm 130)]⟩
noncomputable def F_chunk_numbers : Fn := ⟨[112], [(112, .local), (127, .local), (131, .local), (113, .local)], [
    .asg (.nm 127) (.lst []),
    .asg (.nm 131) (.int 0),
    .for 113 (.nm 112) [.ex (.call (.att (.nm 127) 0) [.nm 131]), .ite (.cmp .Eq (.sub (.nm 113) (.int 0)) (.str 114)) [.aug (.nm 131) .Add (.int 1)] []],
    .ret (.nm 127)]⟩
noncomputable def F_Survey_init : Fn := ⟨[22], [(22, .local)], [
    .asg (.att (.nm 22) 33) (.dict)]⟩
noncomputable def F_Survey_meet : Fn := ⟨[22, 34, 122, 113, 131, 29], [(22, .local), (34, .local), (122, .local), (113, .local), (131, .local), (29, .local), (38, .local), (132, .globalImplicit)], [
    .ite (.cmp .NotIn (.nm 34) (.att (.nm 22) 33)) [.asg (.sub (.att (.nm 22) 33) (.nm 34)) (.call (.nm 132) [.nm 34, .nm 122]), .asg (.att (.sub (.att (.nm 22) 33) (.nm 34)) 125) (.nm 131)] [],
    .asg (.nm 38) (.sub (.att (.nm 22) 33) (.nm 34)),
    .aug (.att (.nm 38) 29) .Add (.nm 29),
    .asg (.att (.nm 38) 124) (.nm 113),
    .asg (.att (.nm 38) 126) (.nm 131)]⟩
noncomputable def F_Survey_terms : Fn := ⟨[22, 14, 44, 113, 131], [(22, .local), (14, .local), (44, .local), (113, .local), (131, .local), (8, .local), (17, .local), (34, .local), (135, .globalImplicit), (97, .globalImplicit)], [
    .for 8 (.nm 14) [.ite (.cmp .Eq (.sub (.nm 8) (.int 0)) (.str 15)) [.ex (.call (.att (.nm 22) 133) [.sub (.nm 8) (.int 1), .bin .Add (.nm 44) (.str 134), .nm 113, .nm 131, .int 1])] [.asg (.nm 17) (.call (.nm 135) [.nm 8]), .for 34 (.call (.nm 97) [.nm 8]) [.ex (.call (.att (.nm 22) 133) [.nm 34, .bin .Add (.nm 44) (.str 136), .nm 113, .nm 131, .sub (.nm 17) (.nm 34)])]]]]⟩
noncomputable def F_kind_of : Fn := ⟨[38], [(38, .local)], [
    .ite (.cmp .Eq (.att (.nm 38) 29) (.int 1)) [.ret (.str 36)] [],
    .ite (.cmp .Gt (.att (.nm 38) 126) (.att (.nm 38) 125)) [.ret (.str 37)] [],
    .ret (.str 121)]⟩
noncomputable def F_slot_order : Fn := ⟨[33], [(33, .local), (137, .local), (34, .local), (38, .local), (81, .local), (138, .globalImplicit), (51, .globalImplicit)], [
    .asg (.nm 137) (.lst []),
    .for 34 (.call (.nm 138) [.nm 33]) [.asg (.nm 38) (.sub (.nm 33) (.nm 34)), .ite (.cmp .Eq (.att (.nm 38) 35) (.str 37)) [.asg (.nm 81) (.call (.nm 51) [.nm 137]), .whl (.bop .And [.cmp .Gt (.nm 81) (.int 0), .cmp .Lt (.att (.sub (.nm 33) (.sub (.nm 137) (.bin .Sub (.nm 81) (.int 1)))) 124) (.att (.nm 38) 124)]) [.aug (.nm 81) .Sub (.int 1)], .ex (.call (.att (.nm 137) 2) [.nm 81, .nm 34])] []],
    .ret (.nm 137)]⟩
noncomputable def F_classify : Fn := ⟨[23], [(23, .local), (112, .local), (127, .local), (140, .local), (128, .local), (81, .local), (113, .local), (144, .local), (33, .local), (34, .local), (137, .local), (38, .local), (130, .local), (150, .local), (139, .globalImplicit), (141, .globalImplicit), (143, .globalImplicit), (51, .globalImplicit), (145, .globalImplicit), (146, .globalImplicit), (147, .globalImplicit), (148, .globalImplicit), (151, .globalImplicit)], [
    .asg (.nm 112) (.att (.nm 23) 112),
    .asg (.nm 127) (.call (.nm 139) [.nm 112]),
    .asg (.nm 140) (.call (.nm 141) []),
    .ex (.call (.att (.nm 140) 14) [.att (.nm 23) 61, .str 142, .neg (.int 1), .int 0]),
    .asg (.nm 128) (.bool false),
    .for 81 (.call (.nm 143) [.call (.nm 51) [.nm 112]]) [.asg (.nm 113) (.sub (.nm 112) (.nm 81)), .asg (.nm 144) (.call (.nm 145) [.nm 113]), .ite (.cmp .GtE (.nm 144) (.int 0)) [.ex (.call (.att (.nm 140) 133) [.nm 144, .str 144, .nm 81, .sub (.nm 127) (.nm 81), .int 1])] [], .ex (.call (.att (.nm 140) 14) [.call (.nm 146) [.nm 113], .str 113, .nm 81, .sub (.nm 127) (.nm 81)]), .ite (.bop .And [.cmp .Eq (.sub (.nm 113) (.int 0)) (.str 114), .cmp .Lt (.bin .Add (.nm 81) (.int 1)) (.call (.nm 51) [.nm 112])]) [.asg (.nm 128) (.bool true)] []],
    .asg (.nm 33) (.att (.nm 140) 33),
    .for 34 (.nm 33) [.asg (.att (.sub (.nm 33) (.nm 34)) 35) (.call (.nm 147) [.sub (.nm 33) (.nm 34)])],
    .asg (.nm 137) (.call (.nm 148) [.nm 33]),
    .for 81 (.call (.nm 143) [.call (.nm 51) [.nm 137]]) [.asg (.nm 38) (.sub (.nm 33) (.sub (.nm 137) (.nm 81))), .asg (.att (.nm 38) 40) (.bin .Add (.nm 81) (.int 1)), .asg (.att (.nm 38) 123) (.cmp .Eq (.att (.nm 38) 122) (.str 149))],
    .asg (.nm 130) (.lst []),
    .for 81 (.call (.nm 143) [.call (.nm 51) [.nm 112]]) [.asg (.nm 150) (.int 0), .whl (.bop .And [.cmp .Lt (.nm 150) (.call (.nm 51) [.nm 137]), .cmp .Gt (.att (.sub (.nm 33) (.sub (.nm 137) (.nm 150))) 124) (.nm 81)]) [.aug (.nm 150) .Add (.int 1)], .ex (.call (.att (.nm 130) 0) [.nm 150])],
    .ret (.call (.nm 151) [.nm 33, .nm 127, .nm 128, .call (.nm 51) [.nm 137], .nm 130])]⟩
noncomputable def F__law_digit : Fn := ⟨[152, 155], [(152, .local), (155, .local), (153, .local), (154, .local), (156, .local), (51, .globalImplicit)], [
    .ite (.cmp .GtE (.sub (.nm 152) (.int 1)) (.call (.nm 51) [.sub (.nm 152) (.int 0)])) [.ret (.int 0)] [],
    .asg (.nm 153) (.sub (.sub (.nm 152) (.int 0)) (.sub (.nm 152) (.int 1))),
    .asg (.nm 154) (.bin .Mod (.nm 153) (.nm 155)),
    .asg (.nm 156) (.bin .FloorDiv (.nm 153) (.nm 155)),
    .aug (.sub (.nm 152) (.int 2)) .Add (.int 1),
    .ite (.bop .Or [.cmp .Eq (.nm 156) (.int 0), .cmp .Eq (.nm 156) (.neg (.int 1)), .cmp .Eq (.sub (.nm 152) (.int 2)) (.int 30)]) [.aug (.sub (.nm 152) (.int 1)) .Add (.int 1), .asg (.sub (.nm 152) (.int 2)) (.int 0)] [.asg (.sub (.sub (.nm 152) (.int 0)) (.sub (.nm 152) (.int 1))) (.nm 156)],
    .ret (.nm 154)]⟩
noncomputable def F__law_term : Fn := ⟨[152, 160], [(152, .local), (160, .local), (157, .local), (92, .local), (163, .local), (158, .globalImplicit), (161, .globalImplicit), (162, .globalImplicit), (54, .globalImplicit), (164, .globalImplicit)], [
    .asg (.nm 157) (.call (.nm 158) [.nm 152, .int 6]),
    .ite (.cmp .Eq (.nm 157) (.int 2)) [.ret (.tup [.str 19, .call (.nm 158) [.nm 152, .int 4]])] [],
    .ite (.cmp .Eq (.nm 157) (.int 3)) [.ret (.tup [.str 159, .bin .Sub (.call (.nm 158) [.nm 152, .bin .Pow (.int 10) (.int 20)]) (.int 5)])] [],
    .ite (.bop .And [.cmp .Eq (.nm 157) (.int 4), .cmp .Gt (.nm 160) (.int 0)]) [.ret (.tup [.str 16, .nm 161, .tup [.call (.nm 162) [.nm 152, .bin .Sub (.nm 160) (.int 1)]]])] [],
    .ite (.bop .And [.cmp .Eq (.nm 157) (.int 5), .cmp .Gt (.nm 160) (.int 0)]) [.asg (.nm 92) (.call (.nm 162) [.nm 152, .bin .Sub (.nm 160) (.int 1)]), .asg (.nm 163) (.call (.nm 162) [.nm 152, .bin .Sub (.nm 160) (.int 1)]), .ret (.tup [.str 16, .sub (.lst [.nm 54, .nm 164]) (.call (.nm 158) [.nm 152, .int 2]), .tup [.nm 92, .nm 163]])] [],
    .ret (.tup [.str 15, .call (.nm 158) [.nm 152, .int 5]])]⟩
noncomputable def F__law_equations : Fn := ⟨[152], [(152, .local), (165, .local), (166, .local), (90, .local), (91, .local), (143, .globalImplicit), (158, .globalImplicit), (162, .globalImplicit)], [
    .asg (.nm 165) (.lst []),
    .for 166 (.call (.nm 143) [.bin .Add (.int 1) (.call (.nm 158) [.nm 152, .int 4])]) [.asg (.nm 90) (.call (.nm 162) [.nm 152, .int 2]), .asg (.nm 91) (.call (.nm 162) [.nm 152, .int 2]), .ex (.call (.att (.nm 165) 0) [.tup [.nm 90, .nm 91]])],
    .ret (.nm 165)]⟩
noncomputable def F__law_calls : Fn := ⟨[152], [(152, .local), (165, .local), (166, .local), (92, .local), (163, .local), (143, .globalImplicit), (158, .globalImplicit), (167, .globalImplicit)], [
    .asg (.nm 165) (.lst []),
    .for 166 (.call (.nm 143) [.bin .Add (.int 1) (.call (.nm 158) [.nm 152, .int 2])]) [.asg (.nm 92) (.tup [.str 15, .call (.nm 158) [.nm 152, .int 5]]), .asg (.nm 163) (.tup [.str 15, .call (.nm 158) [.nm 152, .int 5]]), .ex (.call (.att (.nm 165) 0) [.tup [.str 114, .nm 167, .tup [.nm 92, .nm 163]]])],
    .ret (.nm 165)]⟩
noncomputable def F__law_joined : Fn := ⟨[152, 168], [(152, .local), (168, .local), (90, .local), (91, .local), (81, .local), (169, .local), (51, .globalImplicit), (158, .globalImplicit), (54, .globalImplicit), (164, .globalImplicit), (161, .globalImplicit)], [
    .col 90 0 168,
    .col 91 1 168,
    .whl (.cmp .Gt (.call (.nm 51) [.nm 90]) (.int 1)) [.asg (.nm 81) (.bin .Mod (.call (.nm 158) [.nm 152, .int 3]) (.bin .Sub (.call (.nm 51) [.nm 90]) (.int 1))), .asg (.nm 169) (.sub (.lst [.nm 54, .nm 164]) (.call (.nm 158) [.nm 152, .int 2])), .asg (.nm 90) (.bin .Add (.bin .Add (.sub (.nm 90) (.upto (.nm 81))) (.lst [.tup [.str 16, .nm 169, .tup [.sub (.nm 90) (.nm 81), .sub (.nm 90) (.bin .Add (.nm 81) (.int 1))]]])) (.sub (.nm 90) (.frm (.bin .Add (.nm 81) (.int 2))))), .asg (.nm 91) (.bin .Add (.bin .Add (.sub (.nm 91) (.upto (.nm 81))) (.lst [.tup [.str 16, .nm 169, .tup [.sub (.nm 91) (.nm 81), .sub (.nm 91) (.bin .Add (.nm 81) (.int 1))]]])) (.sub (.nm 91) (.frm (.bin .Add (.nm 81) (.int 2)))))],
    .ret (.tup [.tup [.str 16, .nm 161, .tup [.sub (.nm 90) (.int 0)]], .tup [.str 16, .nm 161, .tup [.sub (.nm 91) (.int 0)]]])]⟩
noncomputable def F__law_behind_head : Fn := ⟨[172, 24], [(172, .local), (24, .local), (170, .local), (31, .local), (18, .local), (171, .globalImplicit)], [
    .asg (.nm 170) (.call (.nm 171) [.nm 172, .nm 24]),
    .asg (.nm 31) (.int 0),
    .for 18 (.att (.nm 172) 61) [.aug (.nm 31) .Add (.int 1), .ex (.call (.att (.nm 170) 173) [.nm 18, .tup [.str 19, .nm 31]])],
    .ret (.nm 170)]⟩
noncomputable def law_sc : Sc := [(174, .local), (152, .cell), (175, .local), (168, .local), (176, .local), (90, .local), (91, .local), (172, .local), (24, .local), (177, .local), (178, .local), (179, .local), (143, .globalImplicit), (158, .globalImplicit), (180, .globalImplicit), (181, .globalImplicit), (182, .globalImplicit), (183, .globalImplicit), (184, .globalImplicit), (185, .globalImplicit), (186, .globalImplicit), (187, .globalImplicit)]
noncomputable def law_rest : List (S Nat) := [
    .asg (.nm 168) (.call (.nm 180) [.nm 152]),
    .asg (.nm 176) (.call (.nm 181) [.nm 152]),
    .asg (.tup [.nm 90, .nm 91]) (.call (.nm 182) [.nm 152, .nm 168]),
    .asg (.nm 172) (.call (.nm 183) [.nm 184, .call (.nm 185) [.nm 175], .bin .Add (.lst [.tup [.str 116, .nm 90, .nm 91]]) (.nm 176), .int 5]),
    .asg (.nm 24) (.call (.nm 186) [.nm 172]),
    .asg (.nm 177) (.call (.nm 187) [.nm 172, .nm 24]),
    .ex (.call (.att (.nm 177) 188) [.nm 90, .nm 91]),
    .asg (.nm 178) (.call (.nm 187) [.nm 172, .nm 24]),
    .for 179 (.nm 168) [.ex (.call (.att (.nm 178) 188) [.sub (.nm 179) (.int 0), .sub (.nm 179) (.int 1)])],
    .ite (.bop .Or [.cmp .NotEq (.att (.nm 177) 25) (.att (.nm 178) 25), .cmp .NotEq (.att (.nm 177) 28) (.att (.nm 178) 28)]) [.ret (.bool false)] [],
    .ret (.bop .And [.cmp .Eq (.att (.nm 177) 9) (.att (.nm 178) 9), .cmp .Eq (.att (.nm 177) 27) (.att (.nm 178) 27)])]
noncomputable def law_tape : S Nat := .asg (.nm 152) (.lst [.sub (.nm 174) (.upto (.int 60)), .int 0, .int 0])
noncomputable def law_src : X Nat := .call (.nm 158) [.nm 152, .int 3]
noncomputable def law_elt : X Nat := .call (.nm 162) [.nm 152, .int 2]
noncomputable def globs : List (Nat × Int) := [(54, 0), (161, 12), (164, 14), (184, 24), (167, 25), (20, 4), (21, 5)]
noncomputable def callsF : List (Nat × Nat) := [(97, 0), (7, 1), (135, 2), (49, 3), (146, 29), (145, 30), (139, 33), (147, 37), (148, 38), (186, 39), (158, 40), (162, 41), (180, 42), (181, 43), (182, 44), (187, 45)]
noncomputable def callsC : List (Nat × Nat) := [(171, 0), (183, 1), (132, 2), (151, 3), (141, 4)]
noncomputable def callsB : List (Nat × Callee) := [(51, .len), (13, .rev), (12, .list), (185, .tuple), (138, .sorted), (26, .set), (143, .range)]
noncomputable def meths : List ((Nat × Nat) × Nat) := [((0, 188), 19), ((0, 94), 20), ((0, 96), 21), ((0, 98), 22), ((0, 105), 23), ((0, 101), 24), ((0, 103), 25), ((0, 99), 26), ((0, 108), 27), ((0, 100), 14), ((0, 73), 15), ((0, 75), 16), ((0, 79), 17), ((0, 84), 18), ((0, 173), 10), ((0, 47), 11), ((0, 57), 12), ((0, 63), 13), ((0, 42), 5), ((0, 65), 6), ((0, 41), 7), ((0, 88), 8), ((0, 44), 9), ((4, 133), 35), ((4, 14), 36)]
noncomputable def inits : List (Nat × Nat) := [(0, 4), (1, 28), (2, 31), (3, 32), (4, 34)]
noncomputable def attrL : List (Nat × Nat) := [(0, 23), (0, 24), (0, 25), (0, 9), (0, 27), (0, 28), (1, 111), (1, 61), (1, 112), (1, 29), (2, 120), (2, 35), (2, 40), (2, 122), (2, 123), (2, 124), (2, 29), (2, 125), (2, 126), (3, 33), (3, 127), (3, 128), (3, 129), (3, 130), (4, 33)]
noncomputable def cats : List ((Nat × Nat) × Nat) := [((142, 134), 189), ((142, 136), 190), ((113, 134), 149), ((113, 136), 191)]
noncomputable def fnL : List Fn := [F_variables, F_variables_of, F_occurrences, F_constant_cell, F_CodeState_init, F_CodeState_emit, F_CodeState_new_temporary, F_CodeState_is_void, F_CodeState_is_permanent, F_CodeState_place, F_Matcher_head_argument, F_Matcher_match, F_Matcher_match_arguments, F_Matcher_match_variable, F_Builder_build, F_Builder_wait_for_nested, F_Builder_take_nested, F_Builder_set_arguments, F_Builder_set_variable, F_InPlace_unify_goal, F_InPlace_unify_with_variable, F_InPlace_unify_variables, F_InPlace_introduce, F_InPlace_alias, F_InPlace_fresh_register, F_InPlace_settle, F_InPlace_register_of, F_InPlace_load_slot, F_KernelClause_init, F_goal_terms, F_goal_special, F_VarInfo_init, F_ClausePlan_init, F_chunk_numbers, F_Survey_init, F_Survey_meet, F_Survey_terms, F_kind_of, F_slot_order, F_classify, F__law_digit, F__law_term, F__law_equations, F__law_calls, F__law_joined, F__law_behind_head]
noncomputable def faL : List Nat := [28, 35, 42, 49, 63, 70, 77, 84, 91, 98, 119, 126, 133, 140, 159, 166, 173, 180, 187, 206, 213, 220, 227, 234, 241, 248, 255, 262, 281, 295, 302, 316, 337, 386, 400, 407, 414, 428, 435, 442, 449, 456, 463, 470, 475, 482]
noncomputable def caL : List Nat := [265, 284, 319, 375, 417]
noncomputable def nameL : List String := ["append", "pop", "insert", "extend", "get", "add", "discard", "variables_of", "term", "seen", "result", "todo", "list", "reversed", "terms", "v", "s", "counts", "part", "a", "CON", "INT", "self", "kernel", "plan", "code", "set", "local", "next_temporary", "count", "instruction", "number", "t", "infos", "k", "kind", "void", "perm", "info", "y", "slot", "is_void", "emit", "get_value", "place", "source", "get_variable", "match", "get_constant", "constant_cell", "waiting", "len", "node", "register", "F_DOT", "get_list", "get_structure", "match_arguments", "nested", "voids", "arg", "args", "unify_void", "match_variable", "temporary", "new_temporary", "unify_variable", "unify_constant", "unify_local_value", "unify_value", "work", "built", "ready", "wait_for_nested", "pieces", "take_nested", "target", "put_list", "put_structure", "set_arguments", "last", "at", "piece", "set_void", "set_variable", "set_value", "set_constant", "set_local_value", "is_permanent", "pairs", "left", "right", "one", "other", "unify_with_variable", "fail", "unify_variables", "variables", "introduce", "register_of", "build", "fresh_register", "put_constant", "settle", "j", "alias", "put_void", "old", "load_slot", "put_value", "put_unsafe_value", "functor", "goals", "goal", "call", "builtin", "unify", "level", "mark", "cutto", "var", "temp", "first", "unsafe", "last_goal", "first_chunk", "last_chunk", "chunks", "needs_env", "env_size", "live_after", "chunk", "VarInfo", "meet", "_arg", "occurrences", "_struct", "order", "sorted", "chunk_numbers", "survey", "Survey", "head", "range", "special", "goal_special", "goal_terms", "kind_of", "slot_order", "goal_arg", "live", "ClausePlan", "tape", "cell", "figure", "limit", "rest", "way", "_law_digit", "i", "deep", "F_MINUS1", "_law_term", "two", "F_PLUS", "made", "lap", "F_CALL2", "equations", "functor_", "maker", "InPlace", "clause_", "head_argument", "script", "heads", "calls", "once", "often", "pair", "_law_equations", "_law_calls", "_law_joined", "KernelClause", "F_CALL1", "tuple", "classify", "_law_behind_head", "unify_goal", "head_arg", "head_struct", "goal_struct"]
noncomputable def Tb : Tab where
  fn := fun i => fnL[i]?
  call := fun x => match callsF.lookup x with | some i => some (.fn i) | none => match callsC.lookup x with | some c => some (.cls c) | none => callsB.lookup x
  glob := fun x => globs.lookup x
  meth := fun c x => meths.lookup (c, x)
  init := fun c => inits.lookup c
  cat := fun i j => cats.lookup (i, j)
  attr := fun c x => attrL.contains (c, x)

/-! what the ledger says of the plain values -/
noncomputable abbrev ent (P : Params) (x : Str) (t : Nat) (v : Value) : DictEntry := ⟨PyData.keyHash P x, .str x t, v⟩
noncomputable abbrev tupOf (vs : List Value) : Obj := { cls := .type "tuple", data := .seq vs.toArray }
noncomputable abbrev Led := List (Addr × Obj)
inductive All2 {α β : Type} (R : α → β → Prop) : List α → List β → Prop
  | nil : All2 R [] []
  | cons {a : α} {b : β} {l : List α} {k : List β} : R a b → All2 R l k → All2 R (a :: l) (b :: k)
section
variable {α β : Type} {R S : α → β → Prop} {l l' : List α} {k k' : List β}
theorem All2.mono (h : All2 R l k) (hs : ∀ a b, R a b → S a b) : All2 S l k := by
  induction h with
  | nil => exact .nil
  | cons h _ ih => exact .cons (hs _ _ h) ih
theorem All2.length (h : All2 R l k) : l.length = k.length := by
  induction h with
  | nil => rfl
  | cons _ _ ih => simp [ih]
theorem All2.get (h : All2 R l k) {i : Nat} {a : α} (ha : l[i]? = some a) : ∃ b, k[i]? = some b ∧ R a b := by
  induction h generalizing i with
  | nil => simp at ha
  | cons h _ ih =>
    cases i with
    | zero => simp at ha; subst ha; exact ⟨_, rfl, h⟩
    | succ i => simp at ha; simpa using ih ha
theorem All2.getR (h : All2 R l k) {i : Nat} {b : β} (hb : k[i]? = some b) : ∃ a, l[i]? = some a ∧ R a b := by
  induction h generalizing i with
  | nil => simp at hb
  | cons h _ ih =>
    cases i with
    | zero => simp at hb; subst hb; exact ⟨_, rfl, h⟩
    | succ i => simp at hb; simpa using ih hb
theorem All2.append (h : All2 R l k) (h' : All2 R l' k') : All2 R (l ++ l') (k ++ k') := by
  induction h with
  | nil => exact h'
  | cons h _ ih => exact .cons h ih
theorem All2.one {a : α} {b : β} (h : R a b) : All2 R [a] [b] := .cons h .nil
theorem All2.reverse (h : All2 R l k) : All2 R l.reverse k.reverse := by
  induction h with
  | nil => exact .nil
  | cons h _ ih => rw [List.reverse_cons, List.reverse_cons]; exact ih.append (.one h)
theorem All2.take (h : All2 R l k) : ∀ n, All2 R (l.take n) (k.take n) := by
  induction h with
  | nil => intro n; cases n <;> exact .nil
  | cons h _ ih => intro n; cases n with
    | zero => exact .nil
    | succ n => exact .cons h (ih n)
theorem All2.drop (h : All2 R l k) : ∀ n, All2 R (l.drop n) (k.drop n) := by
  induction h with
  | nil => intro n; cases n <;> exact .nil
  | cons h t ih => intro n; cases n with
    | zero => exact .cons h t
    | succ n => exact ih n
theorem All2.set (h : All2 R l k) {a : α} {b : β} (r : R a b) : ∀ n, All2 R (l.set n a) (k.set n b) := by
  induction h with
  | nil => intro n; exact .nil
  | cons h t ih => intro n; cases n with
    | zero => exact .cons r t
    | succ n => exact .cons h (ih n)
theorem All2.snocR {b : β} (h : All2 R l (k ++ [b])) : ∃ l' a, l = l' ++ [a] ∧ All2 R l' k ∧ R a b := by
  have h2 := h.reverse
  rw [List.reverse_append, List.reverse_cons, List.reverse_nil, List.nil_append, List.singleton_append] at h2
  generalize hl : l.reverse = lr at h2
  cases h2 with
  | cons h3 h4 =>
    rename_i a lr'
    refine ⟨lr'.reverse, a, ?_, ?_, h3⟩
    · have := congrArg List.reverse hl
      rw [List.reverse_reverse, List.reverse_cons] at this
      exact this
    · have := h4.reverse
      rwa [List.reverse_reverse] at this
end
inductive VR (nf : Nat → Str) (N : Led) (φ : List Addr) : Value → AV → Prop
  | int (i : Int) (t : Nat) : VR nf N φ (.int i t) (.int i)
  | str (s : Nat) (t : Nat) : VR nf N φ (.str (nf s) t) (.str s)
  | bool (b : Bool) : VR nf N φ (.bool b) (.bool b)
  | none : VR nf N φ .none .none
  | tup {q : Addr} {vs : List Value} {ds : List AV} : (q, tupOf vs) ∈ N → All2 (VR nf N φ) vs ds → VR nf N φ (.ref q) (.tup ds)
  | obj {a : Addr} {i : Nat} : φ[i]? = some a → VR nf N φ (.ref a) (.obj i)
/-- what only its own loop turns -/
noncomputable def fixedC : Value → Bool
  | .type t => t == "tuple" || t == "cell" || t == "list_iterator" || t == "tuple_iterator" || t == "range" || t == "range_iterator" || t == "dict_keyiterator"
  | _ => false
noncomputable def solidC : Value → Bool
  | .type t => t == "tuple" || t == "cell"
  | _ => false
noncomputable def isCell : Data → Bool
  | .cell _ => true
  | _ => false
noncomputable def fixed (o : Obj) : Bool := fixedC o.cls || isCell o.data
noncomputable def solid (o : Obj) : Bool := solidC o.cls || isCell o.data
theorem solid_fixedC {c : Value} (h : solidC c = true) : fixedC c = true := by
  cases c <;> first | cases h | skip
  rename_i t
  unfold solidC at h
  unfold fixedC
  simp only [Bool.or_eq_true] at h ⊢
  rcases h with h | h
  · exact .inl (.inl (.inl (.inl (.inl (.inl h)))))
  · exact .inl (.inl (.inl (.inl (.inl (.inr h)))))
theorem solid_fixed {o : Obj} (h : solid o = true) : fixed o = true := by
  unfold solid at h
  unfold fixed
  rw [Bool.or_eq_true] at h ⊢
  exact h.imp solid_fixedC id
theorem fixed_list {a : Array Value} {n : Nat} : fixed (listOf a n) = false := by
  show (fixedC (.type "list") || false) = false
  rw [Bool.or_false]; decide
structure Ge0 (N : Led) (φ : List Addr) (N' : Led) (φ' : List Addr) : Prop where
  tup : ∀ q o, solid o = true → (q, o) ∈ N → (q, o) ∈ N'
  fi : ∀ (i : Nat) (a : Addr), φ[i]? = some a → φ'[i]? = some a
structure Ge (N : Led) (φ : List Addr) (N' : Led) (φ' : List Addr) : Prop extends Ge0 N φ N' φ' where
  it : ∀ q o, fixed o = true → (q, o) ∈ N → (q, o) ∈ N'
theorem Ge.of {N N' : Led} {φ φ' : List Addr} (h : ∀ q o, fixed o = true → (q, o) ∈ N → (q, o) ∈ N') (fi : ∀ (i : Nat) (a : Addr), φ[i]? = some a → φ'[i]? = some a) : Ge N φ N' φ' := ⟨⟨fun q o e => h q o (solid_fixed e), fi⟩, h⟩
theorem Ge.refl (N : Led) (φ : List Addr) : Ge N φ N φ := .of (fun _ _ _ h => h) fun _ _ h => h
theorem Ge.trans {N N' N'' : Led} {φ φ' φ'' : List Addr} (g : Ge N φ N' φ') (h : Ge N' φ' N'' φ'') : Ge N φ N'' φ'' := .of (fun q o e x => h.it q o e (g.it q o e x)) fun i a x => h.fi i a (g.fi i a x)
section
variable {nf : Nat → Str} {N N' : Led} {φ φ' ψ : List Addr}
theorem VR.mono0 {v : Value} {d : AV} (h : VR nf N φ v d) (g : Ge0 N φ N' φ') : VR nf N' φ' v d := by
  induction h using VR.rec (motive_2 := fun vs ds _ => All2 (VR nf N' φ') vs ds) with
  | int i t => exact .int i t
  | str s t => exact .str s t
  | bool b => exact .bool b
  | none => exact .none
  | tup h _ ih => exact .tup (g.tup _ _ rfl h) ih
  | obj h => exact .obj (g.fi _ _ h)
  | nil => exact .nil
  | cons _ _ ih1 ih2 => exact .cons ih1 ih2
theorem VR.mono {v : Value} {d : AV} (h : VR nf N φ v d) (g : Ge N φ N' φ') : VR nf N' φ' v d := h.mono0 g.toGe0
theorem VRs.mono0 {vs : List Value} {ds : List AV} (h : All2 (VR nf N φ) vs ds) (g : Ge0 N φ N' φ') : All2 (VR nf N' φ') vs ds := All2.mono h fun _ _ x => x.mono0 g
theorem VRs.mono {vs : List Value} {ds : List AV} (h : All2 (VR nf N φ) vs ds) (g : Ge N φ N' φ') : All2 (VR nf N' φ') vs ds := All2.mono h fun _ _ x => x.mono g
theorem VR.handed {v : Value} {d : AV} (h : VR nf N φ v d) : handedIn v = true := by cases h <;> rfl

noncomputable def setAll (μ : Addr) (o : Obj) (N : Led) : Led := N.map fun p => if p.1 = μ then (μ, o) else p
theorem setAll_ne {μ : Addr} {o : Obj} {p : Addr × Obj} (h : p ∈ N) (hn : p.1 ≠ μ) : p ∈ setAll μ o N := List.mem_map.mpr ⟨p, h, if_neg hn⟩
theorem setAll_self {μ : Addr} {o o' : Obj} (h : (μ, o) ∈ N) : (μ, o') ∈ setAll μ o' N := List.mem_map.mpr ⟨_, h, if_pos rfl⟩
theorem setAll_mem {μ : Addr} {o : Obj} {p : Addr × Obj} (h : p ∈ setAll μ o N) : p = (μ, o) ∨ (p ∈ N ∧ p.1 ≠ μ) := by
  obtain ⟨q, hq, e⟩ := List.mem_map.mp h
  by_cases hc : q.1 = μ
  · rw [if_pos hc] at e; exact .inl e.symm
  · rw [if_neg hc] at e; subst e; exact .inr ⟨hq, hc⟩
theorem setAll_keys {μ : Addr} {o : Obj} : (setAll μ o N).map (·.1) = N.map (·.1) := by
  unfold setAll
  rw [List.map_map]
  refine List.map_congr_left fun p _ => ?_
  simp only [Function.comp]
  split
  · next h => exact h.symm
  · rfl
theorem setAll_none {μ : Addr} {o : Obj} (h : ∀ p ∈ N, p.1 ≠ μ) : setAll μ o N = N := by
  unfold setAll
  conv => rhs; rw [← List.map_id N]
  exact List.map_congr_left fun p hp => if_neg (h p hp)
theorem upd_of {μ : Addr} {o o' : Obj} : ∀ {N : Led}, (N.map (·.1)).Nodup → (μ, o) ∈ N → Upd μ o o' N (setAll μ o' N)
  | [], _, h => nomatch h
  | p :: N, nd, h => by
    rw [List.map_cons, List.nodup_cons] at nd
    rcases List.mem_cons.mp h with rfl | h
    · have hn : ∀ q ∈ N, q.1 ≠ μ := fun q hq e => nd.1 (List.mem_map.mpr ⟨q, hq, e⟩)
      have e : setAll μ o' ((μ, o) :: N) = (μ, o') :: N := by
        show (if μ = μ then (μ, o') else (μ, o)) :: setAll μ o' N = _
        rw [if_pos rfl, setAll_none hn]
      rw [e]
      exact .head hn
    · have hp : p.1 ≠ μ := fun e => nd.1 (List.mem_map.mpr ⟨_, h, e.symm⟩)
      have e : setAll μ o' (p :: N) = p :: setAll μ o' N := by
        show (if p.1 = μ then (μ, o') else p) :: setAll μ o' N = _
        rw [if_neg hp]
      rw [e]
      exact .tail hp (upd_of nd.2 h)
theorem nd_eq {a : Addr} {o o' : Obj} : ∀ {N : Led}, (N.map (·.1)).Nodup → (a, o) ∈ N → (a, o') ∈ N → o = o'
  | [], _, h, _ => nomatch h
  | p :: N, nd, h, h' => by
    rw [List.map_cons, List.nodup_cons] at nd
    rcases List.mem_cons.mp h with e | h <;> rcases List.mem_cons.mp h' with e' | h'
    · subst e; exact (Prod.mk.inj e').2.symm
    · exact absurd (List.mem_map.mpr ⟨_, h', by rw [← e]⟩) nd.1
    · exact absurd (List.mem_map.mpr ⟨_, h, by rw [← e']⟩) nd.1
    · exact nd_eq nd.2 h h'
theorem news_setAll {h₀ h h' : Heap} {L μ : Addr} {o o' : Obj} (nw : News h₀ L h N) (hm : (μ, o) ∈ N) (hs : Heap.SameBut μ h h') (ho : h'.get? μ = some o') : News h₀ L h' (setAll μ o' N) := by
  intro p hp
  rcases setAll_mem hp with rfl | ⟨hp, hn⟩
  · exact ⟨ho, (nw _ hm).2⟩
  · exact ⟨(hs.2 _ hn).trans (nw p hp).1, (nw p hp).2⟩
end
noncomputable def card5 (f : Int → Bool) : Nat := ([0, 1, 2, 3, 4].filter f).length
section
variable (prog : Program) (w : World) (ca : Nat → Addr) (nf : Nat → Str) (ep : Addr → Nat)
noncomputable def ObjAt (N : Led) (φ : List Addr) (a μ : Addr) : AO → Prop
  | .list l => μ = a ∧ ∃ vs n, (a, listOf vs.toArray n) ∈ N ∧ All2 (VR nf N φ) vs l
  | .dict l lk => μ = a ∧ (a == sysModules) = false ∧ ∃ o kvs, (a, o) ∈ N ∧ o.IsDictOf (intKind prog w) kvs ∧ (lk = true → KdkAt (intKind prog w) o kvs (ep a)) ∧ All2 (fun p q => p.1 = q.1 ∧ VR nf N φ p.2 q.2) kvs l
  | .set f => μ = a ∧ (∃ o, (a, o) ∈ N ∧ o.IntSetOf f (card5 f)) ∧ ∀ k, f k = true → 0 ≤ k ∧ k < 5
  | .inst c l => ∃ es k, (a, instObj (ca c) μ) ∈ N ∧ (μ, dictOf es k) ∈ N ∧ All2 (fun e q => ∃ t v, e = ent w.params (nf q.1) t v ∧ VR nf N φ v q.2) es l
structure RR (N : Led) (φ ψ : List Addr) (H : AH) : Prop where
  nd : (N.map (·.1)).Nodup
  l1 : φ.length = H.length
  l2 : ψ.length = H.length
  ob : ∀ (i : Nat) (o : AO) (a μ : Addr), H[i]? = some o → φ[i]? = some a → ψ[i]? = some μ → ObjAt prog w ca nf ep N φ a μ o
  pd : ψ.Nodup
  ap : ∀ (i c : Nat) (l : List (Nat × AV)) (a : Addr), H[i]? = some (.inst c l) → φ[i]? = some a → a ∉ ψ
  tp : ∀ q o, fixed o = true → (q, o) ∈ N → q ∉ ψ
end
section
variable {prog : Program} {w : World} {ca : Nat → Addr} {nf : Nat → Str} {ep : Addr → Nat} {N N' : Led} {φ φ' ψ ψ' : List Addr} {H : AH}
theorem ObjAt.mem {a μ : Addr} {o : AO} (h : ObjAt prog w ca nf ep N φ a μ o) : (∃ x, (μ, x) ∈ N) ∧ ∃ x, (a, x) ∈ N := by
  cases o with
  | list l => obtain ⟨rfl, vs, n, hm, _⟩ := h; exact ⟨⟨_, hm⟩, _, hm⟩
  | dict l lk => obtain ⟨rfl, _, o, kvs, hm, _⟩ := h; exact ⟨⟨_, hm⟩, _, hm⟩
  | set f => obtain ⟨rfl, ⟨o, hm, _⟩, _⟩ := h; exact ⟨⟨_, hm⟩, _, hm⟩
  | inst c l => obtain ⟨es, k, h1, h2, _⟩ := h; exact ⟨⟨_, h2⟩, _, h1⟩
/-- an object's record stays where the ledger grows or another cell turns -/
theorem ObjAt.keep0 {a μ : Addr} {o : AO} (h : ObjAt prog w ca nf ep N φ a μ o) (g : Ge0 N φ N' φ') (hk : ∀ x, ((a, x) ∈ N → (a, x) ∈ N') ∧ ((μ, x) ∈ N → (μ, x) ∈ N')) : ObjAt prog w ca nf ep N' φ' a μ o := by
  cases o with
  | list l => obtain ⟨rfl, vs, n, hm, hv⟩ := h; exact ⟨rfl, vs, n, (hk _).1 hm, VRs.mono0 hv g⟩
  | dict l lk => obtain ⟨rfl, ns, o, kvs, hm, hd, hl, hv⟩ := h; exact ⟨rfl, ns, o, kvs, (hk _).1 hm, hd, hl, All2.mono hv fun _ _ x => ⟨x.1, x.2.mono0 g⟩⟩
  | set f => obtain ⟨rfl, ⟨o, hm, hs⟩, hf⟩ := h; exact ⟨rfl, ⟨o, (hk _).1 hm, hs⟩, hf⟩
  | inst c l => obtain ⟨es, k, h1, h2, hv⟩ := h; exact ⟨es, k, (hk _).1 h1, (hk _).2 h2, All2.mono hv fun _ _ ⟨t, v, e, x⟩ => ⟨t, v, e, x.mono0 g⟩⟩
theorem ObjAt.keep {a μ : Addr} {o : AO} (h : ObjAt prog w ca nf ep N φ a μ o) (g : Ge N φ N' φ') (hk : ∀ x, ((a, x) ∈ N → (a, x) ∈ N') ∧ ((μ, x) ∈ N → (μ, x) ∈ N')) : ObjAt prog w ca nf ep N' φ' a μ o := h.keep0 g.toGe0 hk
theorem lt_of_some {α : Type} {l : List α} {i : Nat} {a : α} (h : l[i]? = some a) : i < l.length := (List.getElem?_eq_some_iff.mp h).1
theorem some_of_lt {α : Type} {l : List α} {i : Nat} (h : i < l.length) : ∃ a, l[i]? = some a := ⟨_, List.getElem?_eq_getElem h⟩
theorem mem_of_some {α : Type} {l : List α} {i : Nat} {a : α} (h : l[i]? = some a) : a ∈ l := List.mem_of_getElem? h
theorem RR.at {i : Nat} {o : AO} (R : RR prog w ca nf ep N φ ψ H) (h : H[i]? = some o) : ∃ a μ, φ[i]? = some a ∧ ψ[i]? = some μ ∧ ObjAt prog w ca nf ep N φ a μ o := by
  obtain ⟨a, ha⟩ := some_of_lt (l := φ) (i := i) (R.l1 ▸ lt_of_some h)
  obtain ⟨μ, hμ⟩ := some_of_lt (l := ψ) (i := i) (R.l2 ▸ lt_of_some h)
  exact ⟨a, μ, ha, hμ, R.ob i o a μ h ha hμ⟩
theorem RR.psi {μ : Addr} (R : RR prog w ca nf ep N φ ψ H) (h : μ ∈ ψ) : ∃ x, (μ, x) ∈ N := by
  obtain ⟨i, hi, rfl⟩ := List.mem_iff_getElem.mp h
  obtain ⟨o, ho⟩ := some_of_lt (l := H) (i := i) (R.l2 ▸ hi)
  obtain ⟨a, ha⟩ := some_of_lt (l := φ) (i := i) (by rw [R.l1, ← R.l2]; exact hi)
  exact (R.ob i o a _ ho ha (List.getElem?_eq_getElem hi)).mem.1
theorem RR.phi {a : Addr} (R : RR prog w ca nf ep N φ ψ H) (h : a ∈ φ) : ∃ x, (a, x) ∈ N := by
  obtain ⟨i, hi, rfl⟩ := List.mem_iff_getElem.mp h
  obtain ⟨o, ho⟩ := some_of_lt (l := H) (i := i) (R.l1 ▸ hi)
  obtain ⟨μ, hμ⟩ := some_of_lt (l := ψ) (i := i) (by rw [R.l2, ← R.l1]; exact hi)
  exact (R.ob i o _ μ ho (List.getElem?_eq_getElem hi) hμ).mem.2
/-! eliminators in passing style -/
@[elab_as_elim] theorem VR.intE {v : Value} {i : Int} (h : VR nf N φ v (.int i)) {P : Value → Prop} (k : ∀ t, P (.int i t)) : P v := by cases h; exact k _
@[elab_as_elim] theorem VR.objE {v : Value} {i : Nat} (h : VR nf N φ v (.obj i)) {P : Value → Prop} (k : ∀ a, φ[i]? = some a → P (.ref a)) : P v := by cases h; exact k _ ‹_›
@[elab_as_elim] theorem VR.tupE {v : Value} {ds : List AV} (h : VR nf N φ v (.tup ds)) {P : Value → Prop} (k : ∀ q vs, (q, tupOf vs) ∈ N → All2 (VR nf N φ) vs ds → P (.ref q)) : P v := by cases h; exact k _ _ ‹_› ‹_›
@[elab_as_elim] theorem All2.oneE {α β : Type} {R : α → β → Prop} {l : List α} {b : β} (h : All2 R l [b]) {P : List α → Prop} (k : ∀ a, R a b → P [a]) : P l := by
  cases h with
  | cons h r => cases r; exact k _ h
@[elab_as_elim] theorem All2.twoE {α β : Type} {R : α → β → Prop} {l : List α} {b c : β} (h : All2 R l [b, c]) {P : List α → Prop} (k : ∀ a a', R a b → R a' c → P [a, a']) : P l := by
  cases h with
  | cons h r => cases r with
    | cons h' r => cases r; exact k _ _ h h'
@[elab_as_elim] theorem VR.strE {v : Value} {i : Nat} (h : VR nf N φ v (.str i)) {P : Value → Prop} (k : ∀ t, P (.str (nf i) t)) : P v := by cases h; exact k _
theorem RR.dictE {prog : Program} {w : World} {ca : Nat → Addr} {ep : Addr → Nat} {ψ : List Addr} {H : AH} (R : RR prog w ca nf ep N φ ψ H) {i : Nat} {aa : Addr} {l : List (Int × AV)} {lk : Bool} (ha : φ[i]? = some aa) (hl : H[i]? = some (.dict l lk)) {P : Prop}
    (k : ψ[i]? = some aa → (aa == sysModules) = false → ∀ o kvs, (aa, o) ∈ N → o.IsDictOf (intKind prog w) kvs → (lk = true → KdkAt (intKind prog w) o kvs (ep aa)) → All2 (fun p q => p.1 = q.1 ∧ VR nf N φ p.2 q.2) kvs l → P) : P := by
  obtain ⟨a', μ, ha', hμ, rfl, ns, o, kvs, hm, hd, hlk, hkv⟩ := R.at hl
  rw [ha] at ha'; cases ha'
  exact k hμ ns o kvs hm hd hlk hkv
theorem RR.setE {prog : Program} {w : World} {ca : Nat → Addr} {ep : Addr → Nat} {ψ : List Addr} {H : AH} (R : RR prog w ca nf ep N φ ψ H) {i : Nat} {aa : Addr} {f : Int → Bool} (ha : φ[i]? = some aa) (hl : H[i]? = some (.set f)) {P : Prop}
    (k : ψ[i]? = some aa → ∀ o, (aa, o) ∈ N → o.IntSetOf f (card5 f) → (∀ k, f k = true → 0 ≤ k ∧ k < 5) → P) : P := by
  obtain ⟨a', μ, ha', hμ, rfl, ⟨o, hm, hs⟩, hf⟩ := R.at hl
  rw [ha] at ha'; cases ha'
  exact k hμ o hm hs hf
theorem RR.instE {prog : Program} {w : World} {ca : Nat → Addr} {ep : Addr → Nat} {ψ : List Addr} {H : AH} (R : RR prog w ca nf ep N φ ψ H) {i c : Nat} {aa : Addr} {l : List (Nat × AV)} (ha : φ[i]? = some aa) (hl : H[i]? = some (.inst c l)) {P : Prop}
    (k : ∀ μ, ψ[i]? = some μ → ∀ es n, (aa, instObj (ca c) μ) ∈ N → (μ, dictOf es n) ∈ N → All2 (fun e q => ∃ t v, e = ent w.params (nf q.1) t v ∧ VR nf N φ v q.2) es l → P) : P := by
  obtain ⟨a', μ, ha', hμ, es, n, h1, h2, h3⟩ := R.at hl
  rw [ha] at ha'; cases ha'
  exact k μ hμ es n h1 h2 h3
theorem RR.listE {prog : Program} {w : World} {ca : Nat → Addr} {ep : Addr → Nat} {ψ : List Addr} {H : AH} (R : RR prog w ca nf ep N φ ψ H) {o : Nat} {aa : Addr} {l : List AV} (ha : φ[o]? = some aa) (hl : H[o]? = some (.list l)) {P : Prop} (k : ψ[o]? = some aa → ∀ vs n, (aa, listOf vs.toArray n) ∈ N → All2 (VR nf N φ) vs l → P) : P := by
  obtain ⟨a', μ, ha', hμ, rfl, vs, n, hm, hvs⟩ := R.at hl
  rw [ha] at ha'; cases ha'
  exact k hμ vs n hm hvs
theorem get_inj {α : Type} {l : List α} (nd : l.Nodup) {i j : Nat} {a : α} (hi : l[i]? = some a) (hj : l[j]? = some a) : i = j :=
  (List.getElem?_inj (lt_of_some hi) nd).mp (hi.trans hj.symm)
/-- one object turns -/
theorem RR.upd {i : Nat} {o O : AO} {a μ : Addr} {o' : Obj} (R : RR prog w ca nf ep N φ ψ H) (hi : H[i]? = some o) (ha : φ[i]? = some a) (hμ : ψ[i]? = some μ) (hc : fixed o' = false)
    (hk : ∀ c l, O = .inst c l → ∃ l', o = .inst c l') (hO : Ge N φ (setAll μ o' N) φ → ObjAt prog w ca nf ep (setAll μ o' N) φ a μ O) : RR prog w ca nf ep (setAll μ o' N) φ ψ (H.set i O) ∧ Ge N φ (setAll μ o' N) φ := by
  have hμψ : μ ∈ ψ := mem_of_some hμ
  have g : Ge N φ (setAll μ o' N) φ := .of (fun q o hf h => setAll_ne h fun e => R.tp q o hf h (show q ∈ ψ from (show q = μ from e) ▸ hμψ)) fun _ _ h => h
  refine ⟨⟨by rw [setAll_keys]; exact R.nd, by rw [List.length_set]; exact R.l1, by rw [List.length_set]; exact R.l2, ?_, R.pd, ?_, ?_⟩, g⟩
  · intro j o1 a1 μ1 hj ha1 hμ1
    by_cases hij : j = i
    · subst hij
      rw [List.getElem?_set_self (lt_of_some hi)] at hj
      cases hj
      rw [ha] at ha1; cases ha1
      rw [hμ] at hμ1; cases hμ1
      exact hO g
    · rw [List.getElem?_set_ne (Ne.symm hij)] at hj
      have z := R.ob j o1 a1 μ1 hj ha1 hμ1
      have n1 : μ1 ≠ μ := fun e => hij (get_inj R.pd (e ▸ hμ1) hμ)
      have n2 : a1 ≠ μ := by
        cases o1 with
        | list l => exact fun e => n1 (z.1.trans e)
        | dict l lk => exact fun e => n1 (z.1.trans e)
        | set f => exact fun e => n1 (z.1.trans e)
        | inst c l => exact fun e => R.ap j c l a1 hj ha1 (e ▸ hμψ)
      exact z.keep g fun x => ⟨fun h => setAll_ne h n2, fun h => setAll_ne h n1⟩
  · intro j c l a1 hj ha1
    by_cases hij : j = i
    · subst hij
      rw [List.getElem?_set_self (lt_of_some hi)] at hj
      cases hj
      obtain ⟨l', rfl⟩ := hk c l rfl
      exact R.ap j c l' a1 hi ha1
    · rw [List.getElem?_set_ne (Ne.symm hij)] at hj
      exact R.ap j c l a1 hj ha1
  · intro q o1 hf h
    rcases setAll_mem h with e | ⟨h, _⟩
    · rw [(Prod.mk.inj e).2, hc] at hf; cases hf
    · exact R.tp q o1 hf h
theorem Ge.push {p : Addr × Obj} {l : List Addr} : Ge N φ (p :: N) (φ ++ l) := .of (fun _ _ _ h => .tail _ h) fun i a h => by rw [List.getElem?_append_left (lt_of_some h)]; exact h
theorem Ge.push1 {p : Addr × Obj} : Ge N φ (p :: N) φ := .of (fun _ _ _ h => .tail _ h) fun _ _ h => h
theorem RR.fix {q : Addr} {o : Obj} (R : RR prog w ca nf ep N φ ψ H) (hq : ∀ p ∈ N, p.1 ≠ q) : RR prog w ca nf ep ((q, o) :: N) φ ψ H := by
  refine ⟨?_, R.l1, R.l2, fun i o a μ h h1 h2 => (R.ob i o a μ h h1 h2).keep Ge.push1 fun _ => ⟨fun h => .tail _ h, fun h => .tail _ h⟩, R.pd, R.ap, ?_⟩
  · rw [List.map_cons, List.nodup_cons]
    exact ⟨fun h => by obtain ⟨p, hp, e⟩ := List.mem_map.mp h; exact hq p hp e, R.nd⟩
  · intro q' o' hf h hψ
    rcases List.mem_cons.mp h with e | h
    · obtain ⟨x, hx⟩ := R.psi hψ
      exact hq _ hx (Prod.mk.inj e).1
    · exact R.tp q' o' hf h hψ
theorem RR.tuple {q : Addr} {vs : List Value} (R : RR prog w ca nf ep N φ ψ H) (hq : ∀ p ∈ N, p.1 ≠ q) : RR prog w ca nf ep ((q, tupOf vs) :: N) φ ψ H := R.fix hq
/-- a loop's own cell turns -/
theorem RR.turn {I : Addr} {io o' : Obj} (R : RR prog w ca nf ep N φ ψ H) (hm : (I, io) ∈ N) (hf : fixed io = true) (ht : solid io = false) : RR prog w ca nf ep (setAll I o' N) φ ψ H ∧ Ge0 N φ (setAll I o' N) φ := by
  have hI : I ∉ ψ := R.tp I io hf hm
  have g : Ge0 N φ (setAll I o' N) φ := ⟨fun q o hs h => setAll_ne h fun e => (by rw [nd_eq R.nd hm ((show q = I from e) ▸ h), hs] at ht; cases ht), fun _ _ h => h⟩
  refine ⟨⟨by rw [setAll_keys]; exact R.nd, R.l1, R.l2, ?_, R.pd, R.ap, ?_⟩, g⟩
  · intro j o1 a1 μ1 hj ha1 hμ1
    have z := R.ob j o1 a1 μ1 hj ha1 hμ1
    have n1 : μ1 ≠ I := fun e => hI (e ▸ mem_of_some hμ1)
    have n2 : a1 ≠ I := by
      cases o1 with
      | list l => exact fun e => n1 (z.1.trans e)
      | dict l lk => exact fun e => n1 (z.1.trans e)
      | set f => exact fun e => n1 (z.1.trans e)
      | inst c l =>
        obtain ⟨es, k, h1, _⟩ := z
        intro e
        rw [nd_eq R.nd hm (e ▸ h1)] at hf
        cases hf
    exact z.keep0 g fun x => ⟨fun h => setAll_ne h n2, fun h => setAll_ne h n1⟩
  · intro q o1 hf1 h
    rcases setAll_mem h with e | ⟨h, _⟩
    · rw [(Prod.mk.inj e).1]; exact hI
    · exact R.tp q o1 hf1 h
theorem get_snoc {α : Type} {l : List α} {a b : α} {i : Nat} (h : (l ++ [a])[i]? = some b) : (i = l.length ∧ b = a) ∨ l[i]? = some b := by
  by_cases hi : i < l.length
  · rw [List.getElem?_append_left hi] at h; exact .inr h
  · rw [List.getElem?_append_right (by (first | lia | omega))] at h
    have : i - l.length = 0 := by
      have := lt_of_some h
      simp at this; (first | lia | omega)
    rw [this] at h
    exact .inl ⟨by (first | lia | omega), (Option.some.inj h).symm⟩
theorem nodup_snoc {α : Type} {l : List α} {a : α} (h : l.Nodup) (ha : a ∉ l) : (l ++ [a]).Nodup := by
  rw [List.nodup_append]
  refine ⟨h, by simp, fun x hx y hy => ?_⟩
  rw [List.mem_singleton.mp hy]
  exact fun e => ha (e ▸ hx)
theorem RR.one {q : Addr} {o : Obj} {O : AO} (R : RR prog w ca nf ep N φ ψ H) (hq : ∀ p ∈ N, p.1 ≠ q) (hc : fixed o = false) (hk : ∀ c l, O ≠ .inst c l)
    (hO : Ge N φ ((q, o) :: N) (φ ++ [q]) → ObjAt prog w ca nf ep ((q, o) :: N) (φ ++ [q]) q q O) : RR prog w ca nf ep ((q, o) :: N) (φ ++ [q]) (ψ ++ [q]) (H ++ [O]) := by
  have hqψ : q ∉ ψ := fun h => by obtain ⟨x, hx⟩ := R.psi h; exact hq _ hx rfl
  have hqφ : q ∉ φ := fun h => by obtain ⟨x, hx⟩ := R.phi h; exact hq _ hx rfl
  refine ⟨?_, by simp [R.l1], by simp [R.l2], ?_, nodup_snoc R.pd hqψ, ?_, ?_⟩
  · rw [List.map_cons, List.nodup_cons]
    exact ⟨fun h => by obtain ⟨p, hp, e⟩ := List.mem_map.mp h; exact hq p hp e, R.nd⟩
  · intro i o1 a μ h1 h2 h3
    rcases get_snoc h1 with ⟨e, rfl⟩ | h1
    · subst e
      rw [← R.l1] at h2
      rw [← R.l2] at h3
      simp at h2 h3
      subst h2; subst h3
      exact hO Ge.push
    · have l := lt_of_some h1
      rw [List.getElem?_append_left (by rw [R.l1]; exact l)] at h2
      rw [List.getElem?_append_left (by rw [R.l2]; exact l)] at h3
      exact (R.ob i o1 a μ h1 h2 h3).keep Ge.push fun _ => ⟨fun h => .tail _ h, fun h => .tail _ h⟩
  · intro i c l a h1 h2 h3
    rcases get_snoc h1 with ⟨e, e'⟩ | h1
    · exact hk c l e'.symm
    · have ll := lt_of_some h1
      rw [List.getElem?_append_left (by rw [R.l1]; exact ll)] at h2
      rcases List.mem_append.mp h3 with h3 | h3
      · exact R.ap i c l a h1 h2 h3
      · rw [List.mem_singleton.mp h3] at h2; exact hqφ (mem_of_some h2)
  · intro q' o' hf h hψ
    rcases List.mem_cons.mp h with e | h
    · rw [(Prod.mk.inj e).2, hc] at hf; cases hf
    rcases List.mem_append.mp hψ with hψ | hψ
    · exact R.tp q' o' hf h hψ
    · exact hq _ h (List.mem_singleton.mp hψ)
theorem RR.inst {x dx : Addr} {c : Nat} (R : RR prog w ca nf ep N φ ψ H) (hx : ∀ p ∈ N, p.1 ≠ x) (hd : ∀ p ∈ N, p.1 ≠ dx) (hn : x ≠ dx) :
    RR prog w ca nf ep ((x, instObj (ca c) dx) :: (dx, dictOf [] 0) :: N) (φ ++ [x]) (ψ ++ [dx]) (H ++ [.inst c []]) ∧ Ge N φ ((x, instObj (ca c) dx) :: (dx, dictOf [] 0) :: N) (φ ++ [x]) := by
  have hdψ : dx ∉ ψ := fun h => by obtain ⟨y, hy⟩ := R.psi h; exact hd _ hy rfl
  have hxψ : x ∉ ψ := fun h => by obtain ⟨y, hy⟩ := R.psi h; exact hx _ hy rfl
  have hdφ : dx ∉ φ := fun h => by obtain ⟨y, hy⟩ := R.phi h; exact hd _ hy rfl
  have g : Ge N φ ((x, instObj (ca c) dx) :: (dx, dictOf [] 0) :: N) (φ ++ [x]) := .of (fun _ _ _ h => .tail _ (.tail _ h)) fun i a h => by rw [List.getElem?_append_left (lt_of_some h)]; exact h
  refine ⟨⟨?_, by simp [R.l1], by simp [R.l2], ?_, nodup_snoc R.pd hdψ, ?_, ?_⟩, g⟩
  · rw [List.map_cons, List.nodup_cons, List.map_cons, List.nodup_cons]
    refine ⟨fun h => ?_, fun h => ?_, R.nd⟩
    · rcases List.mem_cons.mp h with e | h
      · exact hn e
      · obtain ⟨p, hp, e⟩ := List.mem_map.mp h; exact hx p hp e
    · obtain ⟨p, hp, e⟩ := List.mem_map.mp h; exact hd p hp e
  · intro i o1 a μ h1 h2 h3
    rcases get_snoc h1 with ⟨e, rfl⟩ | h1
    · subst e
      rw [← R.l1] at h2
      rw [← R.l2] at h3
      simp at h2 h3
      subst h2; subst h3
      exact ⟨[], 0, .head _, .tail _ (.head _), .nil⟩
    · have l := lt_of_some h1
      rw [List.getElem?_append_left (by rw [R.l1]; exact l)] at h2
      rw [List.getElem?_append_left (by rw [R.l2]; exact l)] at h3
      exact (R.ob i o1 a μ h1 h2 h3).keep g fun _ => ⟨fun h => .tail _ (.tail _ h), fun h => .tail _ (.tail _ h)⟩
  · intro i c' l a h1 h2 h3
    rcases get_snoc h1 with ⟨e, e'⟩ | h1
    · subst e
      rw [← R.l1] at h2
      simp at h2
      subst h2
      rcases List.mem_append.mp h3 with h3 | h3
      · exact hxψ h3
      · exact hn (List.mem_singleton.mp h3)
    · have ll := lt_of_some h1
      rw [List.getElem?_append_left (by rw [R.l1]; exact ll)] at h2
      rcases List.mem_append.mp h3 with h3 | h3
      · exact R.ap i c' l a h1 h2 h3
      · rw [List.mem_singleton.mp h3] at h2; exact hdφ (mem_of_some h2)
  · intro q' o' hf h hψ
    rcases List.mem_cons.mp h with e | h
    · rw [(Prod.mk.inj e).2] at hf; cases hf
    rcases List.mem_cons.mp h with e | h
    · rw [(Prod.mk.inj e).2] at hf; revert hf; decide
    rcases List.mem_append.mp hψ with hψ | hψ
    · exact R.tp q' o' hf h hψ
    · exact hd _ h (List.mem_singleton.mp hψ)
end

/-! from the text without places back to the text -/
section
variable {f : Nat → Str} {k : Nat} {e : Expr}
/-- what a text looks like, by what is left of it without places -/
noncomputable def Shape (k : Nat) (e : Expr) : X Str → Prop
  | .nm x => ∃ p, e = .Name x p
  | .int i => ∃ j p, e = .Constant (.int i) j p
  | .str s => ∃ j p, e = .Constant (.str s) j p
  | .bool b => ∃ j p, e = .Constant (.bool b) j p
  | .tup l => ∃ es j p, e = .Tuple es j p ∧ es.map (er k) = l
  | .lst l => ∃ es p, e = .List es p ∧ es.map (er k) = l
  | .dict => ∃ p, e = .Dict [] [] p
  | .att o a => ∃ e' p, e = .Attribute e' a p ∧ er k e' = o
  | .sub o i => ∃ e' i' p, e = .Subscript e' i' p ∧ er k e' = o ∧ er k i' = i
  | .upto o => ∃ e' p, e = .Slice none (some e') none p ∧ er k e' = o
  | .frm o => ∃ e' p, e = .Slice (some e') none none p ∧ er k e' = o
  | .cmp op a b => ∃ a' b' p, e = .Compare a' [op] [b'] p ∧ er k a' = a ∧ er k b' = b
  | .bop op l => ∃ es p, e = .BoolOp op es p ∧ es.map (er k) = l
  | .not o => ∃ e' p, e = .UnaryOp .Not e' p ∧ er k e' = o
  | .neg o => ∃ e' p, e = .UnaryOp .USub e' p ∧ er k e' = o
  | .bin op a b => ∃ a' b' p, e = .BinOp a' op b' p ∧ er k a' = a ∧ er k b' = b
  | .call g l => ∃ g' es p, e = .Call g' es [] p ∧ er k g' = g ∧ es.map (er k) = l ∧ lineOk g' p = true
  | _ => True
theorem er_shape (k : Nat) (e : Expr) : Shape k e (er (k + 1) e) := by
  cases e with
  | Name x p => exact ⟨_, rfl⟩
  | Constant c j p => cases c <;> first | trivial | exact ⟨_, _, rfl⟩
  | Tuple l j p => exact ⟨_, _, _, rfl, rfl⟩
  | List l p => exact ⟨_, _, rfl, rfl⟩
  | Dict a b p => cases a with
    | nil => cases b with
      | nil => exact ⟨_, rfl⟩
      | cons _ _ => trivial
    | cons _ _ => cases b <;> trivial
  | Attribute e a p => exact ⟨_, _, rfl, rfl⟩
  | Subscript e i p => exact ⟨_, _, _, rfl, rfl, rfl⟩
  | Slice a b c p => cases c with
    | some _ => trivial
    | none => cases a with
      | none => cases b with
        | none => trivial
        | some _ => exact ⟨_, _, rfl, rfl⟩
      | some _ => cases b with
        | none => exact ⟨_, _, rfl, rfl⟩
        | some _ => trivial
  | Compare a ops bs p => cases ops with
    | nil => trivial
    | cons op more => cases more with
      | cons _ _ => trivial
      | nil => cases bs with
        | nil => trivial
        | cons b more => cases more with
          | cons _ _ => trivial
          | nil => exact ⟨_, _, _, rfl, rfl, rfl⟩
  | BoolOp op l p => exact ⟨_, _, rfl, rfl⟩
  | UnaryOp u a p => cases u <;> first | trivial | exact ⟨_, _, rfl, rfl⟩
  | BinOp a op b p => exact ⟨_, _, _, rfl, rfl, rfl⟩
  | Call f l kw p => cases kw with
    | nil =>
      show Shape k _ (if lineOk f p = true then .call (er k f) (l.map (er k)) else .bad)
      split
      · next h => exact ⟨_, _, _, rfl, rfl, rfl, h⟩
      · trivial
    | cons _ _ => trivial
  | _ => trivial
/-- the same for statements -/
noncomputable def ShapeS (k : Nat) (e : Stmt) : S Str → Prop
  | .col x i z => ∃ t' e' p, e = .Assign [t'] e' p ∧ colOf t' e' = some (x, i, z)
  | .ex x => ∃ e' p, e = .Expr e' p ∧ er k e' = x
  | .asg t x => ∃ t' e' p, e = .Assign [t'] e' p ∧ er k t' = t ∧ er k e' = x
  | .aug t op x => ∃ t' e' p, e = .AugAssign t' op e' p ∧ er k t' = t ∧ er k e' = x
  | .ite c a b => ∃ c' a' b' p, e = .If c' a' b' p ∧ er k c' = c ∧ a'.map (erS k) = a ∧ b'.map (erS k) = b
  | .whl c b => ∃ c' b' p, e = .While c' b' [] p ∧ er k c' = c ∧ b'.map (erS k) = b
  | .for x c b => ∃ q c' b' p, e = .For (.Name x q) c' b' [] p ∧ er k c' = c ∧ b'.map (erS k) = b
  | .ret x => ∃ e' p, e = .Return (some e') p ∧ er k e' = x
  | .ret0 => ∃ p, e = .Return none p
  | .cont => ∃ p, e = .Continue p
  | .bad => True
theorem er_nm {k : Nat} {e : Expr} {x : Str} (h : er k e = .nm x) : ∃ p, e = .Name x p := by
  cases k with
  | zero => cases h
  | succ k => have := er_shape k e; rw [h] at this; exact this
theorem erS_shape (k : Nat) (e : Stmt) : ShapeS k e (erS (k + 1) e) := by
  cases e with
  | Expr e p => exact ⟨_, _, rfl, rfl⟩
  | Assign ts e p => cases ts with
    | nil => trivial
    | cons t more => cases more with
      | nil =>
        show ShapeS k _ (match colOf t e with | some (x, i, z) => .col x i z | none => .asg (er k t) (er k e))
        cases h : colOf t e with
        | none => exact ⟨_, _, _, rfl, rfl, rfl⟩
        | some q => exact ⟨_, _, _, rfl, h⟩
      | cons _ _ => trivial
  | AugAssign t op e p => exact ⟨_, _, _, rfl, rfl, rfl⟩
  | If c a b p => exact ⟨_, _, _, _, rfl, rfl, rfl, rfl⟩
  | While c b o p => cases o with
    | nil => exact ⟨_, _, _, rfl, rfl, rfl⟩
    | cons _ _ => trivial
  | For t e b o p => cases o with
    | cons _ _ => trivial
    | nil =>
      show ShapeS k _ (match er k t with | .nm x => S.for x (er k e) (b.map (erS k)) | _ => .bad)
      cases h : er k t with
      | nm x => obtain ⟨q, rfl⟩ := er_nm h; exact ⟨_, _, _, _, rfl, rfl, rfl⟩
      | _ => trivial
  | Return e p => cases e with
    | none => exact ⟨_, rfl⟩
    | some e => exact ⟨_, _, rfl, rfl⟩
  | Continue p => exact ⟨_, rfl⟩
  | _ => trivial
theorem shape {x : X Nat} (h : er k e = X.put f k x) : ∃ k', k = k' + 1 ∧ Shape k' e (X.put f (k' + 1) x) := by
  cases k with
  | zero => cases h
  | succ k => exact ⟨k, rfl, h ▸ er_shape k e⟩
theorem shapeS {s : Stmt} {x : S Nat} (h : erS k s = S.put f k x) : ∃ k', k = k' + 1 ∧ ShapeS k' s (S.put f (k' + 1) x) := by
  cases k with
  | zero => cases h
  | succ k => exact ⟨k, rfl, h ▸ erS_shape k s⟩
theorem er_star {l : List (X Nat)} {e : Expr} {es : List Expr} (h : (e :: es).map (er k) = l.map (X.put f k)) : ∃ x r, l = x :: r ∧ er k e = X.put f k x ∧ es.map (er k) = r.map (X.put f k) := by
  cases l with
  | nil => cases h
  | cons x r => injection h with h1 h2; exact ⟨x, r, rfl, h1, h2⟩
/-- no star among the arguments -/
theorem noStar {x : X Nat} {es : List Expr} {env : Env} (h : er k e = X.put f k x) (hx : ∀ k, X.put f k x ≠ .bad) : starEach (e :: es) env = (false, eval e env) :: starEach es env := by
  cases e with
  | Starred e p => exact absurd h.symm (by cases k <;> exact hx _)
  | _ => rfl
theorem put_bad (x : X Nat) : ∀ k, X.put f k x ≠ .bad := by
  intro k
  cases k with
  | zero => exact fun h => nomatch h
  | succ k => cases x <;> exact fun h => nomatch h
/-- what sort of text it is -/
noncomputable def tagX {ν : Type} : X ν → Nat
  | .bop _ _ => 1 | .not _ => 2 | .cmp _ _ _ => 3 | .upto _ => 4 | .frm _ => 5 | .tup _ => 6 | _ => 0
noncomputable def plainN : Nat → Bool
  | 1 => false | 2 => false | 3 => false | _ => true
noncomputable def slN : Nat → Bool
  | 4 => false | 5 => false | _ => true
noncomputable def tupN : Nat → Bool
  | 6 => false | _ => true
noncomputable def plainT (x : X Nat) : Bool := plainN (tagX x)
noncomputable def notSl (x : X Nat) : Bool := slN (tagX x)
noncomputable def notT (x : X Nat) : Bool := tupN (tagX x)
theorem tag_er {x : X Nat} (h : er (k + 1) e = X.put f (k + 1) x) : tagX (er (k + 1) e) = tagX x := (congrArg tagX h).trans (by cases x <;> rfl)
theorem ff_tt {P : Prop} (h : false = true) : P := nomatch h
theorem slice_no {x : X Nat} (h : er k e = X.put f k x) (hn : notSl x = true) : ∀ a b c p, e ≠ .Slice a b c p := by
  rintro a b c p rfl
  cases k with
  | zero => exact put_bad x 0 h.symm
  | succ k =>
    have ht : slN (tagX (er (k + 1) (.Slice a b c p))) = true := (congrArg slN (tag_er h)).trans hn
    cases c with
    | some _ => exact put_bad x _ h.symm
    | none => cases a with
      | none => cases b with
        | none => exact put_bad x _ h.symm
        | some _ => exact ff_tt ht
      | some _ => cases b with
        | none => exact ff_tt ht
        | some _ => exact put_bad x _ h.symm
theorem noStars {env : Env} : ∀ {l : List (X Nat)} {es : List Expr}, es.map (er k) = l.map (X.put f k) → ∀ pos, ((backTo pos (starEach es env)).any fun x => x.1) = false
  | l, [], _, _ => rfl
  | l, e :: es, h, pos => by
    obtain ⟨x, r, rfl, h1, h2⟩ := er_star h
    rw [noStar h1 (put_bad x)]
    simpa [backTo] using noStars h2 pos
end

/-! where a walk stands -/
structure Wd where
  prog : Program
  w : World
  K : Frag
  V : Program
  loose : List Str
  mean : ExcName → Option Value
  mg : Str → Option Value
  mb : Str → Option Value
  fa : Nat → Addr
  ca : Nat → Addr
  nf : Nat → Str
structure Gd where
  dp : Nat
  un : Nat
  gd : Option (List Code)
  cn : Str
  cs : Scope
  L : Addr
  a : Addr
  ccd : Value
  outer : List Env
  A₀ : Around
  base : Heap
  h₀ : Heap
  ep : Addr → Nat
  cl : List (Str × Addr)
noncomputable abbrev Gd.A (G : Gd) : Around := ktrTop G.dp G.un G.gd G.cn G.cs G.L G.a G.ccd G.cl G.outer
noncomputable abbrev Gd.env (G : Gd) : Env := envX G.cn G.cs G.L G.a G.ccd G.cl
structure GOk (W : Wd) (G : Gd) (sc : Sc) (d : Nat) : Prop where
  B : Below G.A₀ G.base G.outer G.h₀
  X : W.K.In G.h₀
  T : Top W.V W.loose W.mean W.mg W.mb G.h₀
  hk : G.cs.kind = .function
  ks : ∀ x, G.cs.names.lookup (W.nf x) = sc.lookup x
  hd : G.dp + d < recursionLimit
  hu : G.un + 8 * d + 80 < cLine
/-- a name of the frame stands for a value: by its locals, or by a cell -/
noncomputable def VarIs (nf : Nat → Str) (cs : Scope) (cl : List (Str × Addr)) (m : Str → Option Value) (N : Led) (x : Nat) (v : Value) : Prop :=
  if cs.names.lookup (nf x) = some .cell then ∃ c o, cl.lookup (nf x) = some c ∧ (c, o) ∈ N ∧ solid o = true ∧ o.data = .cell (some v) else m (nf x) = some v
noncomputable def LR (nf : Nat → Str) (cs : Scope) (cl : List (Str × Addr)) (m : Str → Option Value) (N : Led) (φ : List Addr) (ρ : Loc) : Prop := ∀ x d, lookN x ρ = some d → ∃ v, VarIs nf cs cl m N x v ∧ VR nf N φ v d
section
variable {nf : Nat → Str} {cs : Scope} {cl : List (Str × Addr)} {m : Str → Option Value} {N N' : Led} {φ φ' : List Addr} {ρ : Loc}
theorem VarIs.mono0 {x : Nat} {v : Value} (h : VarIs nf cs cl m N x v) (g : Ge0 N φ N' φ') : VarIs nf cs cl m N' x v := by
  unfold VarIs at h ⊢
  split
  · rename_i hc
    rw [if_pos hc] at h
    obtain ⟨c, o, h1, h2, h3, h4⟩ := h
    exact ⟨c, o, h1, g.tup _ _ h3 h2, h3, h4⟩
  · rename_i hc
    rw [if_neg hc] at h
    exact h
theorem LR.mono0 (l : LR nf cs cl m N φ ρ) (g : Ge0 N φ N' φ') : LR nf cs cl m N' φ' ρ := fun x d h => by
  obtain ⟨v, hv, r⟩ := l x d h
  exact ⟨v, hv.mono0 g, r.mono0 g⟩
theorem LR.mono (l : LR nf cs cl m N φ ρ) (g : Ge N φ N' φ') : LR nf cs cl m N' φ' ρ := l.mono0 g.toGe0
theorem VarIs.local {x : Nat} {v : Value} (h : VarIs nf cs cl m N x v) (hc : cs.names.lookup (nf x) = some .local) : m (nf x) = some v := by
  unfold VarIs at h
  rw [hc, if_neg (by decide)] at h
  exact h
end
theorem lookN_set (x : Nat) (v : AV) (y : Nat) : ∀ ρ : Loc, lookN y (setL x v ρ) = if x = y then some v else lookN y ρ
  | [] => by
    show (if x = y then some v else none) = _
    rfl
  | (z, u) :: r => by
    unfold setL
    by_cases hz : x = z
    · subst hz
      rw [if_pos rfl]
      show (if x = y then some v else lookN y r) = if x = y then some v else (if x = y then some u else lookN y r)
      split <;> rfl
    · rw [if_neg hz]
      show (if z = y then some u else lookN y (setL x v r)) = if x = y then some v else (if z = y then some u else lookN y r)
      rw [lookN_set x v y r]
      by_cases hy : z = y
      · subst hy; rw [if_pos rfl, if_neg hz, if_pos rfl]
      · rw [if_neg hy, if_neg hy]
theorem LR.set {nf : Nat → Str} {cs : Scope} {cl : List (Str × Addr)} (inj : ∀ x y, nf x = nf y → x = y) {m : Str → Option Value} {N : Led} {φ : List Addr} {ρ : Loc} {x : Nat} {v : Value} {d : AV} (l : LR nf cs cl m N φ ρ) (hc : cs.names.lookup (nf x) = some .local) (r : VR nf N φ v d) :
    LR nf cs cl (fun y => if y = nf x then some v else m y) N φ (setL x d ρ) := fun y e h => by
  rw [lookN_set] at h
  by_cases hy : x = y
  · subst hy; rw [if_pos rfl] at h; cases h
    refine ⟨v, ?_, r⟩
    unfold VarIs
    rw [hc, if_neg (by decide)]
    exact if_pos rfl
  · rw [if_neg hy] at h
    obtain ⟨u, hu, q⟩ := l y e h
    refine ⟨u, ?_, q⟩
    unfold VarIs at hu ⊢
    split
    · rename_i hcc
      rw [if_pos hcc] at hu
      exact hu
    · rename_i hcc
      rw [if_neg hcc] at hu
      show (if nf y = nf x then _ else _) = _; rw [if_neg fun e => hy (inj _ _ e).symm]; exact hu
noncomputable abbrev up (s : Shared) (h : Heap) (tk : Nat) : Shared := { s with heap := h, toks := tk }
structure At (W : Wd) (G : Gd) (m : Str → Option Value) (h : Heap) (N : Led) (φ ψ : List Addr) (H : AH) (ρ : Loc) : Prop where
  F : Fr G.h₀ G.L h m
  nw : News G.h₀ G.L h N
  R : RR W.prog W.w W.ca W.nf G.ep N φ ψ H
  L : LR W.nf G.cs G.cl m N φ ρ
noncomputable def KV (W : Wd) (G : Gd) (m : Str → Option Value) (N : Led) (φ : List Addr) (ρ : Loc) (s : Shared) (r : AV) (H' : AH) (Q : Value → Shared → Prop) : Prop :=
  ∀ v h tk N' φ' ψ', At W G m h N' φ' ψ' H' ρ → Ge N φ N' φ' → VR W.nf N' φ' v r → Q v (up s h tk)
noncomputable def EvOk (W : Wd) (G : Gd) (t : Sem Value) (ρ : Loc) (H : AH) (r : AV) (H' : AH) : Prop :=
  ∀ m s N φ ψ Q E, At W G m s.heap N φ ψ H ρ → (∀ v h tk N' φ' ψ', At W G m h N' φ' ψ' H' ρ → Ge N φ N' φ' → VR W.nf N' φ' v r → Q v (up s h tk)) → wpAny (model W.prog W.w) G.A t Q E s
noncomputable def EvsOk (W : Wd) (G : Gd) (t : Sem (List Value)) (ρ : Loc) (H : AH) (r : List AV) (H' : AH) : Prop :=
  ∀ m s N φ ψ Q E, At W G m s.heap N φ ψ H ρ → (∀ v h tk N' φ' ψ', At W G m h N' φ' ψ' H' ρ → Ge N φ N' φ' → All2 (VR W.nf N' φ') v r → Q v (up s h tk)) → wpAny (model W.prog W.w) G.A t Q E s
noncomputable def TrOk (W : Wd) (G : Gd) (t : Sem Bool) (ρ : Loc) (H : AH) (r : Bool) (H' : AH) : Prop :=
  ∀ m s N φ ψ Q E, At W G m s.heap N φ ψ H ρ → (∀ h tk N' φ' ψ', At W G m h N' φ' ψ' H' ρ → Ge N φ N' φ' → Q r (up s h tk)) → wpAny (model W.prog W.w) G.A t Q E s
inductive FlR (nf : Nat → Str) (N : Led) (φ : List Addr) : Flow → Fl → Prop
  | next : FlR nf N φ .next .next
  | cont : FlR nf N φ .cont .cont
  | ret {v : Value} {d : AV} : VR nf N φ v d → FlR nf N φ (.ret v) (.ret d)
noncomputable def ExOk (W : Wd) (G : Gd) (t : Sem Flow) (ρ : Loc) (H : AH) (r : Fl) (ρ' : Loc) (H' : AH) : Prop :=
  ∀ m s N φ ψ Q E, At W G m s.heap N φ ψ H ρ → (∀ f m' h tk N' φ' ψ', At W G m' h N' φ' ψ' H' ρ' → Ge N φ N' φ' → FlR W.nf N' φ' f r → Q f (up s h tk)) → wpAny (model W.prog W.w) G.A t Q E s
section
variable {W : Wd} {G : Gd} {sc : Sc} {d : Nat} {ρ : Loc} {H : AH}
theorem At.fresh {m : Str → Option Value} {h : Heap} {N : Led} {φ ψ : List Addr} (a : At W G m h N φ ψ H ρ) : ∀ p ∈ N, p.1 ≠ h.objs.size := fun p hp => Nat.ne_of_lt (Heap.lt_size (a.nw p hp).1)
/-- a new tuple -/
theorem At.tuple {m : Str → Option Value} {s : Shared} {N : Led} {φ ψ : List Addr} {vs : List Value} {ds : List AV} {Q : Value → Shared → Prop} {E : Value → Shared → Prop} (a : At W G m s.heap N φ ψ H ρ) (hv : All2 (VR W.nf N φ) vs ds) (hl : ds.length ≤ 1000000)
    (h : ∀ v h tk N' φ' ψ', At W G m h N' φ' ψ' H ρ → Ge N φ N' φ' → VR W.nf N' φ' v (.tup ds) → Q v (up s h tk)) : wpAny (model W.prog W.w) G.A (newTuple vs) Q E s := by
  have hl' := hv.length
  refine wpAny_newObj_type (h _ _ _ ((s.heap.objs.size, tupOf vs) :: N) φ ψ ⟨a.F.push _, a.nw.push a.F _, a.R.tuple a.fresh, a.L.mono Ge.push1⟩ Ge.push1 (.tup (.head _) (VRs.mono hv Ge.push1))) ?_
  show vs.toArray.size ≤ sizeLine
  rw [List.size_toArray, sizeLine_eq]; (first | lia | omega)
theorem At.list {m : Str → Option Value} {s : Shared} {N : Led} {φ ψ : List Addr} {vs : List Value} {ds : List AV} {Q : Value → Shared → Prop} {E : Value → Shared → Prop} (a : At W G m s.heap N φ ψ H ρ) (hv : All2 (VR W.nf N φ) vs ds) (hl : ds.length ≤ 1000000)
    (h : ∀ v h tk N' φ' ψ', At W G m h N' φ' ψ' (H ++ [.list ds]) ρ → Ge N φ N' φ' → VR W.nf N' φ' v (.obj H.length) → Q v (up s h tk)) : wpAny (model W.prog W.w) G.A (newList vs) Q E s := by
  have hl' := hv.length
  refine wpAny_newObj_type (h _ _ _ ((s.heap.objs.size, listOf vs.toArray 0) :: N) (φ ++ [s.heap.objs.size]) (ψ ++ [s.heap.objs.size]) ⟨a.F.push _, a.nw.push a.F _, a.R.one a.fresh ?_ ?_ ?_, a.L.mono Ge.push⟩ Ge.push (.obj ?_)) ?_
  · exact fixed_list
  · intro c l e; cases e
  · intro g; exact ⟨rfl, vs, 0, .head _, VRs.mono hv g⟩
  · rw [List.getElem?_append_right (by rw [a.R.l1]; exact Nat.le_refl _), a.R.l1, Nat.sub_self]; rfl
  · show vs.toArray.size ≤ sizeLine
    rw [List.size_toArray, sizeLine_eq]; (first | lia | omega)
structure Lk (W : Wd) : Prop where
  inj : ∀ x y, W.nf x = W.nf y → x = y
  dbg : ∀ x, (W.nf x == Str.ofString "__debug__") = false
  glob : ∀ x i, Tb.glob x = some i → ∃ t, nsIn W.K mainGlobals (W.nf x) = some (some (.int i t))
/-! expressions -/
theorem ok_nm (lk : Lk W) (g : GOk W G sc d) {x : Nat} {p : Pos} {r : AV} (hs : sc.lookup x = some .local) (hx : lookN x ρ = some r) : EvOk W G (eval (.Name (W.nf x) p) G.env) ρ H r H := by
  intro m s N φ ψ Q E a h
  obtain ⟨v, hv, hr⟩ := a.L x r hx
  exact nameX_L a.F (hv.local ((g.ks x).trans hs)) (h v s.heap s.toks N φ ψ a (Ge.refl _ _) hr) g.hk ((g.ks x).trans hs) (lk.dbg x)
theorem ok_cell (lk : Lk W) (g : GOk W G sc d) {x : Nat} {p : Pos} {r : AV} (hs : sc.lookup x = some .cell) (hx : lookN x ρ = some r) : EvOk W G (eval (.Name (W.nf x) p) G.env) ρ H r H := by
  intro m s N φ ψ Q E a h
  obtain ⟨v, hv, hr⟩ := a.L x r hx
  unfold VarIs at hv
  have hc : G.cs.names.lookup (W.nf x) = some .cell := (g.ks x).trans hs
  rw [if_pos hc] at hv
  obtain ⟨c, o, h1, h2, _, h4⟩ := hv
  exact nameX_C a.nw h1 h2 h4 (h v s.heap s.toks N φ ψ a (Ge.refl _ _) hr) g.hk hc (lk.dbg x)
theorem ok_glob (lk : Lk W) (g : GOk W G sc d) {x : Nat} {p : Pos} {i : Int} (hs : sc.lookup x = some .globalImplicit) (hx : Tb.glob x = some i) : EvOk W G (eval (.Name (W.nf x) p) G.env) ρ H (.int i) H := by
  intro m s N φ ψ Q E a h
  obtain ⟨t, ht⟩ := lk.glob x i hx
  exact nameX_K a.F g.X (topRead_of g.T) ht (h _ s.heap s.toks N φ ψ a (Ge.refl _ _) (.int i t)) g.hk ((g.ks x).trans hs) (lk.dbg x)
theorem ok_int {i : Int} {j : Nat} {p : Pos} : EvOk W G (eval (.Constant (.int i) j p) G.env) ρ H (.int i) H := by
  intro m s N φ ψ Q E a h
  exact wpAny_Constant_int (h _ s.heap _ N φ ψ a (Ge.refl _ _) (.int i _))
theorem ok_str {i j : Nat} {p : Pos} : EvOk W G (eval (.Constant (.str (W.nf i)) j p) G.env) ρ H (.str i) H := by
  intro m s N φ ψ Q E a h
  exact Calls.Constant_str (h _ s.heap _ N φ ψ a (Ge.refl _ _) (.str i _))
theorem ok_bool {b : Bool} {j : Nat} {p : Pos} : EvOk W G (eval (.Constant (.bool b) j p) G.env) ρ H (.bool b) H := by
  intro m s N φ ψ Q E a h
  exact wpAny_Constant_bool (h _ s.heap s.toks N φ ψ a (Ge.refl _ _) (.bool b))
theorem ok_tup {es : List Expr} {j : Nat} {p : Pos} {r : List AV} {H' : AH} (hl : r.length ≤ 1000000) (ih : EvsOk W G (spliced (backTo p (starEach es G.env))) ρ H r H') : EvOk W G (eval (.Tuple es j p) G.env) ρ H (.tup r) H' := by
  intro m s N φ ψ Q E a h
  refine Tuple_ (ih m s N φ ψ _ E a fun vs h1 tk N1 φ1 ψ1 a1 g1 v1 => ?_)
  exact a1.tuple v1 hl fun v h2 tk2 N2 φ2 ψ2 a2 g2 v2 => h v h2 tk2 N2 φ2 ψ2 a2 (g1.trans g2) v2
theorem ok_nil {p : Pos} : EvsOk W G (spliced (backTo p (starEach [] G.env))) ρ H [] H := by
  intro m s N φ ψ Q E a h
  exact args_nil (h [] s.heap s.toks N φ ψ a (Ge.refl _ _) .nil)
theorem ok_cons {p : Pos} {k : Nat} {e : Expr} {es : List Expr} {x : X Nat} {r : AV} {rs : List AV} {H1 H2 : AH} (hx : er k e = X.put W.nf k x) (ih : EvOk W G (eval e G.env) ρ H r H1) (ihs : EvsOk W G (spliced (backTo p (starEach es G.env))) ρ H1 rs H2) :
    EvsOk W G (spliced (backTo p (starEach (e :: es) G.env))) ρ H (r :: rs) H2 := by
  intro m s N φ ψ Q E a h
  refine args_cons (ih m s N φ ψ _ E a fun v h1 tk N1 φ1 ψ1 a1 g1 v1 => ?_) (noStar hx (put_bad x))
  exact ihs m _ N1 φ1 ψ1 _ E a1 fun vs h2 tk2 N2 φ2 ψ2 a2 g2 v2 => h (v :: vs) h2 tk2 N2 φ2 ψ2 a2 (g1.trans g2) (.cons (v1.mono g2) v2)
end

noncomputable abbrev EntR (P : Params) (nf : Nat → Str) (N : Led) (φ : List Addr) (e : DictEntry) (q : Nat × AV) : Prop := ∃ t v, e = ent P (nf q.1) t v ∧ VR nf N φ v q.2
theorem getL_some {P : Params} {nf : Nat → Str} {N : Led} {φ : List Addr} {x : Nat} {d : AV} : ∀ {es : List DictEntry} {l : List (Nat × AV)}, All2 (EntR P nf N φ) es l → (∀ y, nf y = nf x → y = x) → lookN x l = some d →
    ∃ v, getL (nf x) es = some (some v) ∧ VR nf N φ v d
  | _, _, .nil, _, h => nomatch h
  | e :: es, (y, u) :: l, .cons ⟨t, v, he, hv⟩ r, inj, h => by
    subst he
    unfold getL
    rw [List.find?_cons]
    have hk : (ent P (nf y) t v).key.isStr (nf x) = (nf y == nf x) := rfl
    rw [show (ent P (nf (y, u).1) t v).key.isStr (nf x) = (nf y == nf x) from rfl]
    by_cases hy : y = x
    · subst hy
      have h' : (if y = y then some u else lookN y l) = some d := h
      rw [if_pos rfl] at h'
      cases h'
      exact ⟨v, by rw [beq_self_eq_true], hv⟩
    · have h' : (if y = x then some u else lookN x l) = some d := h
      rw [if_neg hy] at h'
      have hb : (nf y == nf x) = false := by simpa using fun e => hy (inj y e)
      rw [hb]
      obtain ⟨v', e', r'⟩ := getL_some r inj h'
      refine ⟨v', ?_, r'⟩
      unfold getL at e'
      revert e'
      cases hf : es.find? (·.key.isStr (nf x)) with
      | some e => exact id
      | none =>
        intro e'
        dsimp only at e'
        split at e' <;> cases e'
theorem getL_none {P : Params} {nf : Nat → Str} {N : Led} {φ : List Addr} {x : Nat} : ∀ {es : List DictEntry} {l : List (Nat × AV)}, All2 (EntR P nf N φ) es l → (∀ y, nf y = nf x → y = x) → lookN x l = none →
    es.find? (·.key.isStr (nf x)) = none ∧ es.any (·.refKey) = false
  | _, _, .nil, _, _ => ⟨rfl, rfl⟩
  | e :: es, (y, u) :: l, .cons ⟨t, v, he, _⟩ r, inj, h => by
    subst he
    have h' : (if y = x then some u else lookN x l) = none := h
    by_cases hy : y = x
    · rw [if_pos hy] at h'; cases h'
    · rw [if_neg hy] at h'
      have hb : (nf y == nf x) = false := by simpa using fun e => hy (inj y e)
      obtain ⟨e1, e2⟩ := getL_none r inj h'
      refine ⟨?_, ?_⟩
      · rw [List.find?_cons]
        show (match nf y == nf x with | true => _ | false => es.find? (·.key.isStr (nf x))) = none
        rw [hb]; exact e1
      · rw [List.any_cons, e2]; rfl
theorem entR_keys {P : Params} {nf : Nat → Str} {N : Led} {φ : List Addr} {es : List DictEntry} {l : List (Nat × AV)} (h : All2 (EntR P nf N φ) es l) : es.any (·.refKey) = false := by
  induction h with
  | nil => rfl
  | cons h _ ih => obtain ⟨t, v, rfl, _⟩ := h; rw [List.any_cons, ih]; rfl
theorem getL_is {P : Params} {nf : Nat → Str} {N : Led} {φ : List Addr} {x : Nat} {es : List DictEntry} {l : List (Nat × AV)} (h : All2 (EntR P nf N φ) es l) : (getL (nf x) es).isSome = true := by
  unfold getL
  split
  · rfl
  · rw [entR_keys h]; rfl
theorem putL_set {P : Params} {nf : Nat → Str} {N : Led} {φ : List Addr} {x : Nat} {d : AV} {v : Value} {t : Nat} (hv : VR nf N φ v d) (inj : ∀ y, nf y = nf x → y = x) : ∀ {es : List DictEntry} {l : List (Nat × AV)}, All2 (EntR P nf N φ) es l →
    All2 (EntR P nf N φ) (putL (nf x) (PyData.keyHash P (nf x)) (.str (nf x) t) v es) (setL x d l)
  | _, _, .nil => .cons ⟨t, v, rfl, hv⟩ .nil
  | e :: es, (y, u) :: l, .cons ⟨t', v', he, hu⟩ r => by
    subst he
    unfold putL setL
    show All2 _ (if (nf y == nf x) = true then _ else _) _
    by_cases hy : x = y
    · subst hy
      rw [beq_self_eq_true, if_pos rfl, if_pos rfl]
      exact .cons ⟨t', v, rfl, hv⟩ r
    · have hb : (nf y == nf x) = false := by simpa using fun e => hy (inj y e).symm
      rw [hb, if_neg (by decide), if_neg hy]
      exact .cons ⟨t', v', rfl, hu⟩ (putL_set hv inj r)
theorem setL_len (x : Nat) (v : AV) : ∀ l : List (Nat × AV), (setL x v l).length ≤ l.length + 1
  | [] => Nat.le_refl _
  | (y, u) :: l => by
    unfold setL
    split
    · simp
    · have := setL_len x v l; simp only [List.length_cons]; (first | lia | omega)
/-- what is asked of the text's classes -/
structure LkC (W : Wd) : Prop where
  get : ∀ c x, Tb.attr c x = true → plainGet W.K (W.ca c) (W.nf x) = true ∧ hasDictIn W.K (W.ca c) = true ∧ findIn W.K (.ref (W.ca c)) (W.nf x) = some none ∧
    findIn W.K (.ref (W.ca c)) (Str.ofString "__setattr__") = some (some (.builtin "object.__setattr__")) ∧ plainOver W.K (W.ca c) = true ∧ takerIn W.K (W.ca c) (W.nf x) = some none
theorem apart_of {prog : Program} {w : World} {ca : Nat → Addr} {nf : Nat → Str} {ep : Addr → Nat} {N : Led} {φ ψ : List Addr} {H : AH} (R : RR prog w ca nf ep N φ ψ H) {i c : Nat} {l : List (Nat × AV)} {a μ : Addr} (hi : H[i]? = some (.inst c l)) (ha : φ[i]? = some a) (hμ : ψ[i]? = some μ) : a ≠ μ := by
  intro e
  subst e
  exact R.ap i c l _ hi ha (mem_of_some hμ)
theorem attr_eq {k : Nat} {f : Nat → Str} {e : Expr} {o : X Nat} {x : Str} {env : Env} {p : Pos} (h : er k e = X.put f k o) (ho : o.plainB = true) : attributeBase e x env (eval e env) = eval e env := by
  obtain ⟨k', hk, sh⟩ := shape h
  clear h
  subst hk
  cases o <;> first | cases ho | skip
  · obtain ⟨p, rfl⟩ := sh; rfl
  · obtain ⟨e', p, rfl, _⟩ := sh; rfl
  · obtain ⟨e', i', p, rfl, _⟩ := sh; rfl
section
variable {W : Wd} {G : Gd} {sc : Sc} {d : Nat} {ρ : Loc} {H : AH}
/-- an attribute read -/
theorem At.attr (lk : Lk W) (lc : LkC W) (g : GOk W G sc d) {m : Str → Option Value} {s : Shared} {N : Led} {φ ψ : List Addr} {a : Value} {o r : AV} {x : Nat} {b : Bool} {Q E : Value → Shared → Prop} (t : At W G m s.heap N φ ψ H ρ) (ho : VR W.nf N φ a o) (hg : getAt Tb H o x = some r)
    (h : ∀ v h tk N' φ' ψ', At W G m h N' φ' ψ' H ρ → Ge N φ N' φ' → VR W.nf N' φ' v r → Q v (up s h tk)) : wpAny (model W.prog W.w) G.A (getAttr a (W.nf x) b) Q E s := by
  unfold getAt at hg
  cases ho with
  | obj hi =>
    rename_i a i
    dsimp only at hg
    split at hg
    · rename_i c l hl
      split at hg
      · rename_i hc
        obtain ⟨a', μ, ha, hμ, es, k, m1, m2, hes⟩ := t.R.at hl
        rw [hi] at ha; cases ha
        obtain ⟨v, e, hv⟩ := getL_some hes (fun y e => lk.inj y x e) hg
        obtain ⟨c1, c2, c3, _⟩ := lc.get c x hc
        exact get_own t.F g.X (InstAt.of_news t.nw m1 m2) c1 c2 c3 rfl e hv.handed (h v s.heap _ N φ ψ t (Ge.refl _ _) hv)
      · cases hg
    · cases hg
  | int i t => cases hg
  | str i t => cases hg
  | bool b => cases hg
  | none => cases hg
  | tup _ _ => cases hg
/-- an attribute stored -/
theorem At.setAttr (lk : Lk W) (lc : LkC W) (g : GOk W G sc d) {m : Str → Option Value} {s : Shared} {N : Led} {φ ψ : List Addr} {a u : Value} {o r : AV} {x : Nat} {H' : AH} {Q : Unit → Shared → Prop} {E : Value → Shared → Prop} (t : At W G m s.heap N φ ψ H ρ) (ho : VR W.nf N φ a o) (hu : VR W.nf N φ u r) (hg : Mine.setAt Tb H o x r = some H')
    (h : ∀ h tk N' φ' ψ', At W G m h N' φ' ψ' H' ρ → Ge N φ N' φ' → Q () (up s h tk)) : wpAny (model W.prog W.w) G.A (PySem.setAttr a (W.nf x) u) Q E s := by
  unfold Mine.setAt at hg
  cases ho with
  | obj hi =>
    rename_i a i
    dsimp only at hg
    split at hg
    · rename_i c l hl
      split at hg
      · rename_i hc
        cases hg
        obtain ⟨a', μ, ha, hμ, es, k, m1, m2, hes⟩ := t.R.at hl
        have hi2 := hi
        rw [hi] at ha; cases ha
        obtain ⟨c1, c2, c3, c4, c5, c6⟩ := lc.get c x hc.1
        have hel : es.length = l.length := hes.length
        have hlen := setL_len x r l
        have hput := putL_set (t := s.toks + 1) hu (fun y e => lk.inj y x e) hes
        have hpl := hput.length
        refine set_dict t.F g.X t.nw (InstAt.of_news t.nw m1 m2) rfl c4 c5 c6 c2 (getL_is hes) rfl (upd_of t.R.nd m2) (by rw [hpl]; (first | lia | omega)) fun h' F' N' => ?_
        obtain ⟨R', ge⟩ := t.R.upd (O := .inst c (setL x r l)) (o' := dictOf (putL (W.nf x) (PyData.keyHash W.w.params (W.nf x)) (.str (W.nf x) (s.toks + 1)) u es) (putN (W.nf x) es k)) hl hi2 hμ (by show (fixedC (.type "dict") || false) = false; rw [Bool.or_false]; decide) (fun c' l' e => by cases e; exact ⟨l, rfl⟩) (fun ge =>
          ⟨_, _, setAll_ne m1 (apart_of t.R hl hi2 hμ), setAll_self m2, All2.mono hput fun _ _ ⟨t, v, e, q⟩ => ⟨t, v, e, q.mono ge⟩⟩)
        exact h h' _ _ φ ψ ⟨F', N', R', t.L.mono ge⟩ ge
      · cases hg
    · cases hg
  | int i t => cases hg
  | str i t => cases hg
  | bool b => cases hg
  | none => cases hg
  | tup _ _ => cases hg
theorem ok_att (lk : Lk W) (lc : LkC W) (g : GOk W G sc d) {k : Nat} {e : Expr} {x : Nat} {p : Pos} {y : X Nat} {o r : AV} {H1 : AH} (hy : er k e = X.put W.nf k y) (hb : y.plainB = true) (ih : EvOk W G (eval e G.env) ρ H o H1) (hg : getAt Tb H1 o x = some r) : EvOk W G (eval (.Attribute e (W.nf x) p) G.env) ρ H r H1 := by
  intro m s N φ ψ Q E a h
  refine Attribute_any_ (ih m s N φ ψ _ E a fun v h1 tk N1 φ1 ψ1 a1 g1 v1 => ?_) (by show (attributeBase e (W.nf x) G.env (eval e G.env) >>= _) = _; rw [attr_eq (p := p) hy hb])
  exact At.attr lk lc g a1 v1 hg fun v h2 tk2 N2 φ2 ψ2 a2 g2 v2 => h v h2 tk2 N2 φ2 ψ2 a2 (g1.trans g2) v2
end

theorem card5_le (f : Int → Bool) : card5 f ≤ 5 := List.length_filter_le _ _
theorem cover_le {α : Type} [DecidableEq α] {R : Int → α → Prop} (inj : ∀ a b e, R a e → R b e → a = b) : ∀ (ks : List Int) (l : List α), ks.Nodup → (∀ k ∈ ks, ∃ e ∈ l, R k e) → ks.length ≤ l.length
  | [], _, _, _ => Nat.zero_le _
  | k :: ks, l, hn, hc => by
    obtain ⟨e, he, hr⟩ := hc k (.head _)
    have hn' := List.nodup_cons.mp hn
    have ih := cover_le inj ks (l.erase e) hn'.2 fun k' hk' => by
      obtain ⟨e', he', hr'⟩ := hc k' (.tail _ hk')
      have : e' ≠ e := fun q => by subst q; exact hn'.1 (inj k k' _ hr hr' ▸ hk')
      exact ⟨e', (List.mem_erase_of_ne this).mpr he', hr'⟩
    have := List.length_erase_of_mem he
    have : 0 < l.length := List.length_pos_of_mem he
    simp only [List.length_cons]
    (first | lia | omega)
section
variable {prog : Program} {w : World} {A : Around} {E : Value → Shared → Prop} {s : Shared} {a : Addr} {S : Int → Bool} {k : Int} {t : Nat}
theorem setFind_idx {o : Obj} {es : Array (Int × Value)} {ep : Nat} {tb : SetTable} {Q : Option Nat → Shared → Prop} (ho : s.heap.get? a = some o) (hd : o.data = .set es ep tb) (hf : tb.fits es.size = true)
    (hel : ElemsOf (intKind prog w) es.toList) (hb : es.size < scanBound) (h : Q (es.toList.findIdx? fun e => (intKind prog w).is k e.2) s) :
    wpAny (model prog w) A (setFind a (.int k t) ((intKind prog w).hash k)) Q E s := by
  unfold setFind setFindIn
  refine wpAny_bind (wpAny_setState_of ho hd hf ?_)
  dsimp only
  rw [byScan_of rfl hb hel]
  simp only [↓reduceIte]
  refine wpAny_bind (wpAny_rule ?_)
  refine wpAny_bind (wpAny_setScan_of (knd := intKind prog w) (intKind_is _ _ _ _) ho hd hf hel ?_)
  cases hr : List.findIdx? (fun e => (intKind prog w).is k e.2) es.toList with
  | none => rw [hr] at h; exact wpAny_pure h
  | some j => rw [hr] at h; dsimp only; rw [Nat.zero_add]; exact wpAny_pure h
theorem findIdx_isSome {es : List (Int × Value)} (hm : ∀ k, S k = true ↔ ∃ e ∈ es, (intKind prog w).is k e.2 = true) (k : Int) : (es.findIdx? fun e => (intKind prog w).is k e.2).isSome = S k := by
  cases hr : List.findIdx? (fun e => (intKind prog w).is k e.2) es with
  | none =>
    cases hk : S k with
    | false => rfl
    | true => obtain ⟨e, he, hp⟩ := (hm k).mp hk; have := List.findIdx?_eq_none_iff.mp hr e he; rw [hp] at this; exact Bool.noConfusion this
  | some i =>
    obtain ⟨hi, hpi, _⟩ := List.findIdx?_eq_some_iff_getElem.mp hr
    exact ((hm k).mpr ⟨_, List.getElem_mem hi, hpi⟩).symm
theorem ints_shape {es : List (Int × Value)} (hel : ElemsOf (intKind prog w) es) {e : Int × Value} (he : e ∈ es) : ∃ k t, e = ((intKind prog w).hash k, .int k t) := by
  obtain ⟨⟨k, hk, hh⟩, _⟩ := hel e he
  obtain ⟨t, ht⟩ := Value.isInt_shape (show Value.isInt k e.2 = true from hk)
  exact ⟨k, t, Prod.ext hh ht⟩
theorem walk_ints {o o2 : Obj} {b : Addr} {es es2 : Array (Int × Value)} {ep ep2 : Nat} {tb tb2 : SetTable} {Q : List (Int × Value) → Shared → Prop} (ho : s.heap.get? a = some o) (hd : o.data = .set es ep tb) (hf : tb.fits es.size = true) (hel : ElemsOf (intKind prog w) es.toList)
    (ho2 : s.heap.get? b = some o2) (hd2 : o2.data = .set es2 ep2 tb2) (hf2 : tb2.fits es2.size = true) (hel2 : ElemsOf (intKind prog w) es2.toList) (h : Q es.toList s) : wpAny (model prog w) A (Builtin.Frozenset.walkUnseen a b) Q E s := by
  unfold Builtin.Frozenset.walkUnseen
  refine wpAny_bind (wpAny_setEntries_of ho hd hf ?_)
  refine wpAny_bind (wpAny_setEntries_of ho2 hd2 hf2 ?_)
  refine wpAny_bind ?_
  refine wpAny_forIn_list _ (fun rest q s' => s' = s ∧ q = (none, ()) ∧ ∀ e ∈ rest, ∃ k t, e = ((intKind prog w).hash k, .int k t)) _ ?_ ?_ _ _ ⟨rfl, rfl, fun e he => ?_⟩
  · rintro x rest q s' ⟨rfl, rfl, hr⟩
    obtain ⟨k, t, rfl⟩ := hr x (.head _)
    refine wpAny_bind (wpAny_pure ?_)
    show wpAny _ _ (if (!true) = true then _ else _) _ _ _
    rw [if_neg (by decide)]
    exact wpAny_pure ⟨rfl, rfl, fun e he => hr e (.tail _ he)⟩
  · rintro q s' ⟨rfl, rfl, _⟩
    exact wpAny_pure h
  · rcases List.mem_append.mp he with he | he
    · exact ints_shape hel he
    · exact ints_shape hel2 he
theorem entry_set_eq' : entryFor table "set.__eq__" = some Builtin.«frozenset.__eq__» :=
  entryFor_alias (id' := "frozenset.__eq__") (by kernel_rfl) rfl (by decide +kernel) (by kernel_rfl)
theorem found5 {f : Int → Bool} {es : List (Int × Value)} (hm : ∀ k, f k = true ↔ ∃ e ∈ es, (intKind prog w).is k e.2 = true) (hk : f k = true) : ∃ i, (es.findIdx? fun e => (intKind prog w).is k e.2) = some i :=
  Option.isSome_iff_exists.mp ((findIdx_isSome hm k).trans hk)
theorem subset5 {o o2 : Obj} {b : Addr} {f : Int → Bool} {id : String} {Q : Bool → Shared → Prop} (ho : s.heap.get? a = some o) (hs : o.IntSetOf f (card5 f)) (ho2 : s.heap.get? b = some o2) (hs2 : o2.IntSetOf f (card5 f))
    (h : Q true s) : wpAny (model prog w) A (Builtin.Frozenset.subsetOf id a b) Q E s := by
  obtain ⟨hex, es, ep, tb, hd, hel, hm, hn, hf⟩ := hs prog w
  obtain ⟨hex2, es2, ep2, tb2, hd2, hel2, hm2, hn2, hf2⟩ := hs2 prog w
  have hb : es2.size < scanBound := Nat.lt_of_le_of_lt (Nat.le_trans (Nat.le_of_eq hn2) (card5_le f)) (by decide)
  unfold Builtin.Frozenset.subsetOf Builtin.Frozenset.sizeOf
  refine wpAny_bind (wpAny_bind (wpAny_setEntries_of ho hd hf (wpAny_pure ?_)))
  refine wpAny_bind (wpAny_bind (wpAny_setEntries_of ho2 hd2 hf2 (wpAny_pure ?_)))
  rw [if_neg (by rw [hn, hn2]; exact Nat.lt_irrefl _)]
  refine wpAny_bind (wpAny_setEpoch_of ho hd hf ?_)
  refine wpAny_bind (walk_ints ho hd hf hel ho2 hd2 hf2 hel2 ?_)
  refine wpAny_bind ?_
  refine wpAny_forIn_list _ (fun rest q s' => s' = s ∧ q = (none, ()) ∧ (∀ e ∈ rest, e ∈ es.toList)) _ ?_ ?_ _ _ ⟨rfl, rfl, fun e he => he⟩
  · rintro x rest q s' ⟨rfl, rfl, hr⟩
    obtain ⟨k, t, rfl⟩ := ints_shape hel (hr x (.head _))
    refine wpAny_bind (wpAny_holding ?_)
    refine setFind_idx ho2 hd2 hf2 hel2 hb ?_
    obtain ⟨i, hq⟩ := found5 hm2 ((hm k).mpr ⟨_, hr _ (.head _), intKind_is _ _ _ _⟩)
    rw [hq]
    show wpAny _ _ (if false = true then _ else _) _ _ _
    rw [if_neg (by decide)]
    unfold Builtin.Frozenset.unchanged
    refine wpAny_bind (wpAny_bind (wpAny_setEpoch_of ho hd hf ?_))
    rw [if_neg (by simp)]
    exact wpAny_pure (wpAny_pure ⟨rfl, rfl, fun e he => hr e (.tail _ he)⟩)
  · rintro q s' ⟨rfl, rfl, _⟩
    exact wpAny_pure h
theorem eq_set_set {b : Addr} {o o2 : Obj} {f : Int → Bool} {Q : Value → Shared → Prop} (ho : s.heap.get? a = some o) (hs : o.IntSetOf f (card5 f)) (ho2 : s.heap.get? b = some o2) (hs2 : o2.IntSetOf f (card5 f))
    (hu : A.units < cLine) (h : Q (.bool true) s) : wpAny (model prog w) A (compareOp .Eq (.ref a) (.ref b)) Q E s := by
  obtain ⟨hex, es, ep, tb, hd, hel, hm, hn, hf⟩ := hs prog w
  obtain ⟨hex2, es2, ep2, tb2, hd2, hel2, hm2, hn2, hf2⟩ := hs2 prog w
  have hT : s.TypeIs (.ref a) "set" := ⟨o, ho, hex.1⟩
  have hT2 : s.TypeIs (.ref b) "set" := ⟨o2, ho2, hex2.1⟩
  refine wpAny_richCompare_same_room (op := .Eq) hT hT2 PySem.F.slot_set_eq (wpAny_call_entry PySem.F.slot_set_eq hT entry_set_eq' ?_ (PySem.F.args_set_eq_2 _ _)) hu
  unfold Builtin.«frozenset.__eq__»
  wp_delta
  refine wpAny_bind (wpAny_pure ?_)
  refine wpAny_bind ?_
  unfold Builtin.Frozenset.isAnySet
  refine wpAny_bind (wpAny_isInstance hT2 PySem.F.sub_set_set ?_)
  refine wpAny_pure ?_
  rw [if_neg (by decide)]
  unfold Builtin.Frozenset.addrOf Builtin.Frozenset.sizeOf
  refine wpAny_bind (wpAny_pure ?_)
  refine wpAny_bind (wpAny_pure ?_)
  refine wpAny_bind (wpAny_bind (wpAny_setEntries_of ho hd hf (wpAny_pure ?_)))
  refine wpAny_bind (wpAny_bind (wpAny_setEntries_of ho2 hd2 hf2 (wpAny_pure ?_)))
  dsimp only
  have hc : es.size = es2.size := hn.trans hn2.symm
  rw [if_neg (by simpa using hc)]
  refine wpAny_bind (wpAny_bind (wpAny_bind (wpAny_isInstance hT PySem.F.sub_set_frozenset ?_)))
  refine wpAny_pure ?_
  rw [if_neg (by decide)]
  refine subset5 ho hs ho2 hs2 ?_
  exact wpAny_pure ⟨_, rfl, by simp, h⟩
end

/-! items, comparisons, arithmetic -/
mutual
noncomputable def AV.dat (nf : Nat → Str) : AV → Dat
  | .int i => .int i
  | .str s => .str (nf s)
  | .bool b => .bool b
  | .none => .none
  | .tup l => .tuple (dats nf l)
  | .obj _ => .none
noncomputable def dats (nf : Nat → Str) : List AV → List Dat
  | [] => []
  | a :: l => a.dat nf :: dats nf l
end
mutual
theorem AV.flat_ok {nf : Nat → Str} (ok : ∀ x, PyData.strOk (nf x) = true) : ∀ (n : Nat) (a : AV), a.flatN n = true → kqdOk n (a.dat nf) = true
  | n, .int i, _ => by unfold AV.dat; cases n <;> rfl
  | n, .str i, _ => by unfold AV.dat; cases n <;> exact ok i
  | n, .none, _ => by unfold AV.dat; cases n <;> rfl
  | 0, .tup _, h => by simp [AV.flatN] at h
  | n + 1, .tup l, h => by
    unfold AV.flatN at h
    unfold AV.dat kqdOk
    rw [List.all_eq_true]
    exact flats_ok ok n l h
  | n, .obj _, h => by cases n <;> simp [AV.flatN] at h
  | n, .bool _, h => by cases n <;> simp [AV.flatN] at h
theorem flats_ok {nf : Nat → Str} (ok : ∀ x, PyData.strOk (nf x) = true) : ∀ (n : Nat) (l : List AV), flatsN n l = true → ∀ d ∈ dats nf l, kqdOk n d = true
  | _, [], _ => fun d h => by simp [dats] at h
  | n, a :: l, h => fun d hd => by
    unfold flatsN at h
    rw [Bool.and_eq_true] at h
    unfold dats at hd
    rcases List.mem_cons.mp hd with rfl | hd
    · exact AV.flat_ok ok n a h.1
    · exact flats_ok ok n l h.2 d hd
end
mutual
theorem VR.datIn {nf : Nat → Str} {N : Led} {φ : List Addr} : ∀ (n : Nat) (a : AV) (v : Value), a.flatN n = true → VR nf N φ v a → DatIn N v (a.dat nf)
  | n, .int i, v, _, h => by cases h; exact .int _ _
  | n, .str i, v, _, h => by cases h; exact .str _ _
  | n, .none, v, _, h => by cases h; exact .none
  | n, .bool _, v, h1, _ => by cases n <;> simp [AV.flatN] at h1
  | n, .obj _, v, h1, _ => by cases n <;> simp [AV.flatN] at h1
  | 0, .tup l, v, h1, _ => by simp [AV.flatN] at h1
  | n + 1, .tup l, v, h1, h => by
    unfold AV.flatN at h1
    cases h with
    | tup hm hv => exact .tuple hm (VRs.datIn n l _ h1 hv)
theorem VRs.datIn {nf : Nat → Str} {N : Led} {φ : List Addr} : ∀ (n : Nat) (l : List AV) (vs : List Value), flatsN n l = true → All2 (VR nf N φ) vs l → DatAll N vs (dats nf l)
  | _, [], _, _, h => by cases h; exact .nil
  | n, a :: l, _, h1, h => by
    unfold flatsN at h1
    rw [Bool.and_eq_true] at h1
    cases h with
    | cons hv r => exact .cons (VR.datIn n a _ h1.1 hv) (VRs.datIn n l _ h1.2 r)
end
theorem dats_ints {nf : Nat → Str} : ∀ l : List Int, dats nf (l.map AV.int) = l.map Dat.int ∧ flatsN 8 (l.map AV.int) = true
  | [] => ⟨rfl, rfl⟩
  | a :: l => ⟨congrArg (Dat.int a :: ·) (dats_ints (nf := nf) l).1, (dats_ints (nf := nf) l).2⟩
theorem notSlice {k : Nat} {f : Nat → Str} {e : Expr} {x : X Nat} {o i : Value} (h : er k e = X.put f k x) (hn : notSl x = true) : subscripted e false o i = operate [o, i] (getItem o i) := by
  cases e with
  | Slice a b c p => exact absurd rfl (slice_no h hn _ _ _ _)
  | _ => rfl
theorem valueAt_look {nf : Nat → Str} {N : Led} {φ : List Addr} {k : Int} : ∀ {kvs : List (Int × Value)} {l : List (Int × AV)}, All2 (fun p q => p.1 = q.1 ∧ VR nf N φ p.2 q.2) kvs l →
    (lookI k l = none ∧ valueAt kvs k = none) ∨ ∃ v d, lookI k l = some d ∧ valueAt kvs k = some v ∧ VR nf N φ v d
  | _, _, .nil => .inl ⟨rfl, rfl⟩
  | (j, v) :: kvs, (j', d) :: l, .cons ⟨e, hv⟩ r => by
    have e : j = j' := e
    subst e
    unfold valueAt
    rw [List.find?_cons]
    by_cases hj : j = k
    · subst hj
      exact .inr ⟨v, d, if_pos rfl, by simp, hv⟩
    · have hl : lookI k ((j, d) :: l) = lookI k l := if_neg hj
      rw [hl, show decide (j = k) = false from decide_eq_false hj]
      have := valueAt_look (k := k) r
      unfold valueAt at this
      exact this
section
variable {W : Wd} {G : Gd} {sc : Sc} {d : Nat} {ρ : Loc} {H : AH}
theorem itemAt_some {l : List AV} {i : Int} {r : AV} (h : itemAt l i = some r) : (0 ≤ i ∧ i < 1000000) ∧ l[i.toNat]? = some r := by
  unfold itemAt at h
  by_cases hb : 0 ≤ i ∧ i < 1000000
  · rw [if_pos hb] at h; exact ⟨hb, h⟩
  · rw [if_neg hb] at h; cases h
theorem seqIdx {i : Int} {n : Nat} (h0 : 0 ≤ i) (hn : i.toNat < n) : seqIndex? i n = some i.toNat := by
  unfold seqIndex?
  rw [if_neg (Int.not_lt.mpr h0)]
  exact if_pos (by rw [Bool.and_eq_true, decide_eq_true_eq, decide_eq_true_eq]; exact ⟨h0, by (first | lia | omega)⟩)
theorem At.itemT {m : Str → Option Value} {s : Shared} {N : Led} {φ ψ : List Addr} {v i : Value} {l : List AV} {j : Int} {r : AV} {value slice : Expr} {Q E : Value → Shared → Prop} (t : At W G m s.heap N φ ψ H ρ) (hv : VR W.nf N φ v (.tup l)) (hi : VR W.nf N φ i (.int j)) (hg : itemAt l j = some r)
    (hs : subscripted slice false v i = operate [v, i] (getItem v i)) (h : ∀ v, VR W.nf N φ v r → Q v s) : wpAny (model W.prog W.w) G.A (subscriptTail value slice v i) Q E s := by
  revert hs
  refine hv.tupE fun q vs hm hvs => hi.intE fun tk hs => ?_
  obtain ⟨hb, hr⟩ := itemAt_some hg
  obtain ⟨u, hu, ru⟩ := hvs.getR hr
  have hlt := lt_of_some hu
  exact item_tupleT (l := vs) (j := j.toNat) ⟨_, (t.nw _ hm).1, rfl, 0, rfl⟩ (by (first | lia | omega)) (by (first | lia | omega)) (seqIdx hb.1 hlt) hu (h u ru) hs
theorem At.itemL {m : Str → Option Value} {s : Shared} {N : Led} {φ ψ : List Addr} {v i : Value} {o : Nat} {l : List AV} {j : Int} {r : AV} {value slice : Expr} {Q E : Value → Shared → Prop} (t : At W G m s.heap N φ ψ H ρ) (hv : VR W.nf N φ v (.obj o)) (hl : H[o]? = some (.list l)) (hi : VR W.nf N φ i (.int j)) (hg : itemAt l j = some r)
    (hs : subscripted slice false v i = operate [v, i] (getItem v i)) (h : ∀ v, VR W.nf N φ v r → Q v s) : wpAny (model W.prog W.w) G.A (subscriptTail value slice v i) Q E s := by
  revert hs
  refine hv.objE fun a ha => hi.intE fun tk hs => t.R.listE ha hl fun hμ vs n hm hvs => ?_
  obtain ⟨hb, hr⟩ := itemAt_some hg
  obtain ⟨u, hu, ru⟩ := hvs.getR hr
  have hL : s.heap.IsList a vs.toArray := ⟨_, (t.nw _ hm).1, rfl, n, rfl⟩
  exact kba_turn (value' := .Name (Str.ofString "_") ⟨0, 0, 0, 0⟩) (fun _ => rfl) (subscriptTail_builtin hL.typeIs slot_list_getitem.lookup (wpAny_getItem_list hL hb.1 (by (first | lia | omega)) (by rw [List.getElem?_toArray]; exact hu) (h u ru)) hs (fun _ => rfl))
theorem At.itemD {m : Str → Option Value} {s : Shared} {N : Led} {φ ψ : List Addr} {v i : Value} {o : Nat} {l : List (Int × AV)} {lk : Bool} {j : Int} {r : AV} {value slice : Expr} {Q E : Value → Shared → Prop} (t : At W G m s.heap N φ ψ H ρ) (hv : VR W.nf N φ v (.obj o)) (hl : H[o]? = some (.dict l lk)) (hi : VR W.nf N φ i (.int j)) (hg : lookI j l = some r)
    (hs : subscripted slice false v i = operate [v, i] (getItem v i)) (h : ∀ v tk, VR W.nf N φ v r → Q v (up s s.heap tk)) : wpAny (model W.prog W.w) G.A (subscriptTail value slice v i) Q E s := by
  revert hs
  refine hv.objE fun a ha => hi.intE fun tk hs => t.R.dictE ha hl fun hμ ns o kvs hm hd hlk hkv => ?_
  rcases valueAt_look (k := j) hkv with ⟨e, _⟩ | ⟨v, d, e1, e2, hvd⟩
  · rw [e] at hg; cases hg
  · rw [e1] at hg; cases hg
    exact kba_turn (value' := .Name (Str.ofString "_") ⟨0, 0, 0, 0⟩) (fun _ => rfl) (kda_item (knd := intKind _ _) t.nw hm hd (intKind_is _ _ _ _) e2 (h v _ hvd) hs (fun _ => rfl))
theorem item_cases {o j r : AV} {P : Prop} (h : Mine.item H o j = some r) (k1 : ∀ l i, o = .tup l → j = .int i → itemAt l i = some r → P) (k2 : ∀ q l i, o = .obj q → j = .int i → H[q]? = some (.list l) → itemAt l i = some r → P) (k3 : ∀ q l lk i, o = .obj q → j = .int i → H[q]? = some (.dict l lk) → lookI i l = some r → P) : P := by
  cases o with
  | tup l => cases j with
    | int i => exact k1 _ _ rfl rfl h
    | _ => cases h
  | obj q => cases j with
    | int i =>
      cases hq : H[q]? with
      | none => unfold Mine.item at h; dsimp only at h; rw [hq] at h; cases h
      | some x =>
        unfold Mine.item at h; dsimp only at h; rw [hq] at h
        cases x with
        | list l => exact k2 _ _ _ rfl rfl hq h
        | dict l lk => exact k3 _ _ _ _ rfl rfl hq h
        | _ => cases h
    | _ => cases h
  | _ => cases h
theorem At.item {m : Str → Option Value} {s : Shared} {N : Led} {φ ψ : List Addr} {v i : Value} {o j r : AV} {value slice : Expr} {Q E : Value → Shared → Prop} (t : At W G m s.heap N φ ψ H ρ) (hv : VR W.nf N φ v o) (hi : VR W.nf N φ i j) (hg : Mine.item H o j = some r)
    (hs : subscripted slice false v i = operate [v, i] (getItem v i))
    (h : ∀ v h tk N' φ' ψ', At W G m h N' φ' ψ' H ρ → Ge N φ N' φ' → VR W.nf N' φ' v r → Q v (up s h tk)) : wpAny (model W.prog W.w) G.A (subscriptTail value slice v i) Q E s :=
  item_cases hg (fun l i e1 e2 hg => t.itemT (e1 ▸ hv) (e2 ▸ hi) hg hs fun v r => h v s.heap s.toks N φ ψ t (Ge.refl _ _) r)
    (fun q l i e1 e2 hl hg => t.itemL (e1 ▸ hv) hl (e2 ▸ hi) hg hs fun v r => h v s.heap s.toks N φ ψ t (Ge.refl _ _) r)
    (fun q l lk i e1 e2 hl hg => t.itemD (e1 ▸ hv) hl (e2 ▸ hi) hg hs fun v tk r => h v s.heap tk N φ ψ t (Ge.refl _ _) r)
theorem At.cmpInt {m : Str → Option Value} {s : Shared} {N : Led} {φ ψ : List Addr} {i j : Int} {u v : Tok} {op : CmpOp} {c : Bool} {Q E : Value → Shared → Prop} (t : At W G m s.heap N φ ψ H ρ) (hg : Mine.cmpInt op i j = some c)
    (h : ∀ tk, Q (.bool c) (up s s.heap tk)) : wpAny (model W.prog W.w) G.A (compareOp op (.int i u) (.int j v)) Q E s := by
  have k : ∀ b : Bool, b = c → Q (.bool b) s := fun b e => e ▸ h s.toks
  cases op <;> first | cases hg | skip
  · exact eq_int (k _ rfl)
  · exact ne_int (k _ rfl)
  · exact lt_int (k _ rfl)
  · exact le_int (k _ rfl)
  · exact gt_int (k _ rfl)
  · exact ge_int (k _ rfl)
/-- what is asked of the numbers of the strs -/
structure LkS (W : Wd) : Prop where
  ok : ∀ x, PyData.strOk (W.nf x) = true
  cat : ∀ i j k, Tb.cat i j = some k → W.nf i ++ W.nf j = W.nf k ∧ (W.nf i).length + (W.nf j).length ≤ sizeLine
theorem ite_some {α : Type} {a : Prop} [Decidable a] {v r : α} {P : Prop} (h : (if a then some v else none) = some r) (k : a → v = r → P) : P := by
  by_cases hc : a
  · rw [if_pos hc] at h; exact k hc (Option.some.inj h)
  · rw [if_neg hc] at h; cases h
theorem small_div {i j : Int} (hb : 0 < j ∧ j ≤ 100000000000000000000) : Builtin.divisionGoesByPylong i j = false := PyProof.noPylong_of_log2 (by
  have : j.natAbs < 2 ^ 67 := by (first | lia | omega)
  have := (Nat.log2_lt (by (first | lia | omega))).mpr this
  (first | lia | omega))
theorem pow_int_small' {A : Around} {s : Shared} {i j : Int} {t1 t2 : Tok} {Q E : Value → Shared → Prop} (hb : i = 10 ∧ j = 20) (k : ∀ t tk, Q (.int 100000000000000000000 t) (up s s.heap tk)) : wpAny (model W.prog W.w) A (binaryOp .Pow (.int i t1) (.int j t2)) Q E s := by
  rw [hb.1, hb.2]
  exact pow_int_small (by decide) (by decide) (by decide) (by rw [show (10 : Int) ^ Int.toNat 20 = 100000000000000000000 from by decide]; exact k _ _)
theorem At.binInt {m : Str → Option Value} {s : Shared} {N : Led} {φ ψ : List Addr} {i j : Int} {r : AV} {u v : Tok} {op : Operator} {Q E : Value → Shared → Prop} (t : At W G m s.heap N φ ψ H ρ) (hg : Mine.binInt op i j = some r)
    (h : ∀ v tk, VR W.nf N φ v r → Q v (up s s.heap tk)) : wpAny (model W.prog W.w) G.A (binaryOp op (.int i u) (.int j v)) Q E s := by
  have k : ∀ (i : Int) (t1 tk : Nat), AV.int i = r → Q (.int i t1) (up s s.heap tk) := fun i t1 tk e => h _ tk (e ▸ .int i t1)
  cases op <;> first | (cases hg; done) | skip
  · exact add_int (k _ _ _ (Option.some.inj hg))
  · exact sub_int (k _ _ _ (Option.some.inj hg))
  · refine ite_some hg fun hb e => mod_int' (Int.ne_of_gt hb.1) (k _ _ _ e)
  · refine ite_some hg fun hb e => pow_int_small' hb fun t tk => k _ t tk e
  · refine ite_some hg fun hb e => floordiv_int (Int.ne_of_gt hb.1) (k _ _ _ e) (.inl (small_div hb))
theorem binOp_cases {T : Tab} {op : Operator} {a b r : AV} {P : Prop} (h : Mine.binOp T op a b = some r) (k1 : ∀ i j, a = .int i → b = .int j → Mine.binInt op i j = some r → P) (k2 : ∀ i j x, op = .Add → a = .str i → b = .str j → T.cat i j = some x → AV.str x = r → P) : P := by
  cases a with
  | int i => cases b with
    | int j => exact k1 _ _ rfl rfl h
    | _ => cases h
  | str i => cases b with
    | str j =>
      cases op with
      | Add => obtain ⟨x, hx, e⟩ := Option.map_eq_some_iff.mp h; exact k2 _ _ _ rfl rfl rfl hx e
      | _ => cases h
    | _ => cases h
  | _ => cases h
theorem At.binOp (ls : LkS W) {m : Str → Option Value} {s : Shared} {N : Led} {φ ψ : List Addr} {u v : Value} {a b r : AV} {op : Operator} {Q E : Value → Shared → Prop} (t : At W G m s.heap N φ ψ H ρ) (hu : VR W.nf N φ u a) (hv : VR W.nf N φ v b) (hg : Mine.binOp Tb op a b = some r)
    (h : ∀ v h tk N' φ' ψ', At W G m h N' φ' ψ' H ρ → Ge N φ N' φ' → VR W.nf N' φ' v r → Q v (up s h tk)) : wpAny (model W.prog W.w) G.A (binaryOp op u v) Q E s := by
  have k : ∀ v tk, VR W.nf N φ v r → Q v (up s s.heap tk) := fun v tk r => h v s.heap tk N φ ψ t (Ge.refl _ _) r
  refine binOp_cases hg (fun i j e1 e2 hg => ?_) fun i j x e0 e1 e2 hx e => ?_
  · have hu : VR W.nf N φ u (.int i) := e1 ▸ hu
    have hv : VR W.nf N φ v (.int j) := e2 ▸ hv
    exact hu.intE fun t1 => hv.intE fun t2 => t.binInt hg k
  · rw [e0]
    have hu : VR W.nf N φ u (.str i) := e1 ▸ hu
    have hv : VR W.nf N φ v (.str j) := e2 ▸ hv
    refine hu.strE fun t1 => hv.strE fun t2 => ?_
    obtain ⟨e1, e2⟩ := ls.cat _ _ _ hx
    refine add_str (fun t' tk => ?_) e2
    rw [e1]
    exact k _ tk (e ▸ .str x t')
theorem At.iop {m : Str → Option Value} {s : Shared} {N : Led} {φ ψ : List Addr} {u v : Value} {a b r : AV} {op : Operator} {Q E : Value → Shared → Prop} (t : At W G m s.heap N φ ψ H ρ) (hu : VR W.nf N φ u a) (hv : VR W.nf N φ v b) (hg : Mine.augOp op a b = some r)
    (h : ∀ v h tk N' φ' ψ', At W G m h N' φ' ψ' H ρ → Ge N φ N' φ' → VR W.nf N' φ' v r → Q v (up s h tk)) : wpAny (model W.prog W.w) G.A (inplaceOp op u v) Q E s := by
  have k : ∀ (i : Int) (t1 tk : Nat), AV.int i = r → Q (.int i t1) (up s s.heap tk) := fun i t1 tk e => h _ s.heap tk N φ ψ t (Ge.refl _ _) (e ▸ .int i t1)
  cases a with
  | int i => cases b with
    | int j =>
      refine hu.intE fun t1 => hv.intE fun t2 => ?_
      cases op <;> first | (cases hg; done) | skip
      · exact iadd_int (k _ _ _ (Option.some.inj hg))
      · exact isub_int (k _ _ _ (Option.some.inj hg))
    | _ => cases hg
  | _ => cases hg
theorem card5_scan (f : Int → Bool) : card5 f < scanBound := Nat.lt_of_le_of_lt (card5_le f) (by decide)
theorem strb_eq {f : Nat → Str} (inj : ∀ x y, f x = f y → x = y) (i j : Nat) : (f i == f j) = decide (i = j) := by
  by_cases hij : i = j
  · subst hij; rw [beq_self_eq_true, decide_eq_true rfl]
  · rw [decide_eq_false hij]; exact beq_eq_false_iff_ne.mpr fun e => hij (inj _ _ e)
section
variable {m : Str → Option Value} {s : Shared} {N : Led} {φ ψ : List Addr} {u v : Value} {Q E : Value → Shared → Prop}
theorem At.set {i a : Nat} {f : Int → Bool} {h : Heap} (t : At W G m h N φ ψ H ρ) (hf : H[i]? = some (.set f)) (ha : φ[i]? = some a) : ∃ o, (a, o) ∈ N ∧ h.SetOf (intKind W.prog W.w) a f (card5 f) :=
  t.R.setE ha hf fun _ o hm hs _ => ⟨o, hm, (hs _ _).setOf (t.nw _ hm).1 (card5_scan f)⟩
theorem At.c_inS {i : Int} {o : Nat} {f : Int → Bool} (t : At W G m s.heap N φ ψ H ρ) (hu : VR W.nf N φ u (.int i)) (hv : VR W.nf N φ v (.obj o)) (hf : H[o]? = some (.set f)) (k : ∀ tk, Q (.bool (f i)) (up s s.heap tk)) : wpAny (model W.prog W.w) G.A (compareOp .In u v) Q E s :=
  hu.intE fun _ => hv.objE fun a ha => by
    obtain ⟨o, hm, hS⟩ := t.set hf ha
    exact wpAny_inSet_of (intKind_is _ _ _ _) rfl hS (k _)
theorem At.c_ninS {i : Int} {o : Nat} {f : Int → Bool} (t : At W G m s.heap N φ ψ H ρ) (hu : VR W.nf N φ u (.int i)) (hv : VR W.nf N φ v (.obj o)) (hf : H[o]? = some (.set f)) (k : ∀ tk, Q (.bool (!f i)) (up s s.heap tk)) : wpAny (model W.prog W.w) G.A (compareOp .NotIn u v) Q E s :=
  hu.intE fun _ => hv.objE fun a ha => by
    obtain ⟨o, hm, hS⟩ := t.set hf ha
    exact wpAny_notInSet_of (intKind_is _ _ _ _) rfl hS (k _)
theorem valueAt_isSome {nf : Nat → Str} {k : Int} {kvs : List (Int × Value)} {l : List (Int × AV)} (h : All2 (fun p q => p.1 = q.1 ∧ VR nf N φ p.2 q.2) kvs l) : (valueAt kvs k).isSome = (lookI k l).isSome := by
  rcases valueAt_look (k := k) h with ⟨e1, e2⟩ | ⟨v, d, e1, e2, _⟩ <;> rw [e1, e2] <;> rfl
theorem At.c_inD {i : Int} {o : Nat} {l : List (Int × AV)} {b : Bool} (t : At W G m s.heap N φ ψ H ρ) (hu : VR W.nf N φ u (.int i)) (hv : VR W.nf N φ v (.obj o)) (hf : H[o]? = some (.dict l b)) (k : ∀ tk, Q (.bool (lookI i l).isSome) (up s s.heap tk)) : wpAny (model W.prog W.w) G.A (compareOp .In u v) Q E s :=
  hu.intE fun _ => hv.objE fun a ha => t.R.dictE ha hf fun _ ns o kvs hm hd _ hkv => kda_in (knd := intKind _ _) t.nw hm hd ns (intKind_is _ _ _ _) _ (valueAt_isSome hkv) (k _)
theorem At.c_ninD {i : Int} {o : Nat} {l : List (Int × AV)} {b : Bool} (t : At W G m s.heap N φ ψ H ρ) (hu : VR W.nf N φ u (.int i)) (hv : VR W.nf N φ v (.obj o)) (hf : H[o]? = some (.dict l b)) (k : ∀ tk, Q (.bool (!(lookI i l).isSome)) (up s s.heap tk)) : wpAny (model W.prog W.w) G.A (compareOp .NotIn u v) Q E s :=
  hu.intE fun _ => hv.objE fun a ha => t.R.dictE ha hf fun _ ns o kvs hm hd _ hkv => kdg_notin (knd := intKind _ _) t.nw hm hd ns (intKind_is _ _ _ _) _ (valueAt_isSome hkv) (k _)
theorem un64 (g : GOk W G sc d) : G.A.units + 64 < cLine := by have := g.hu; show G.un + 64 < cLine; (first | lia | omega)
open Classical in
theorem At.c_inL (ls : LkS W) (g : GOk W G sc d) {i : Int} {o : Nat} {l : List Int} (t : At W G m s.heap N φ ψ H ρ) (hu : VR W.nf N φ u (.int i)) (hv : VR W.nf N φ v (.obj o)) (hf : H[o]? = some (.list (l.map AV.int))) (k : ∀ tk, Q (.bool (decide (i ∈ l))) (up s s.heap tk)) : wpAny (model W.prog W.w) G.A (compareOp .In u v) Q E s :=
  hu.intE fun _ => hv.objE fun a ha => t.R.listE ha hf fun _ vs n hm hvs => by
    obtain ⟨e1, e2⟩ := dats_ints (nf := W.nf) l
    refine kqd_isIn t.nw hm rfl rfl (VRs.datIn 8 _ vs e2 hvs) (fun _ h => h) (DatIn.int (news := N) _ _) (fun _ h => h) (flats_ok ls.ok 8 _ e2) (by rfl) (un64 g) ?_
    rw [e1, show decide (Dat.int i ∈ l.map Dat.int) = decide (i ∈ l) from decide_eq_decide.mpr (by simp)]
    exact k _
open Classical in
theorem At.c_lne (ls : LkS W) (g : GOk W G sc d) {o q : Nat} {l : List AV} (t : At W G m s.heap N φ ψ H ρ) (hu : VR W.nf N φ u (.obj o)) (hv : VR W.nf N φ v (.obj q)) (hf : H[o]? = some (.list l)) (hf2 : H[q]? = some (.list l)) (hl : flatsN 8 l = true) (k : ∀ tk, Q (.bool false) (up s s.heap tk)) : wpAny (model W.prog W.w) G.A (compareOp .NotEq u v) Q E s :=
  hu.objE fun a ha => hv.objE fun b hb => t.R.listE ha hf fun _ vs n hm hvs => t.R.listE hb hf2 fun _ vs2 n2 hm2 hvs2 => by
    refine kqd_ne t.nw hm rfl rfl (VRs.datIn 8 l vs hl hvs) (fun _ h => h) hm2 rfl rfl (VRs.datIn 8 l vs2 hl hvs2) (fun _ h => h) (flats_ok ls.ok 8 l hl) (flats_ok ls.ok 8 l hl) (un64 g) ?_
    rw [decide_eq_true rfl]
    exact k _
theorem At.c_seq (g : GOk W G sc d) {o q : Nat} {f : Int → Bool} (t : At W G m s.heap N φ ψ H ρ) (hu : VR W.nf N φ u (.obj o)) (hv : VR W.nf N φ v (.obj q)) (hf : H[o]? = some (.set f)) (hf2 : H[q]? = some (.set f)) (k : ∀ tk, Q (.bool true) (up s s.heap tk)) : wpAny (model W.prog W.w) G.A (compareOp .Eq u v) Q E s :=
  hu.objE fun a ha => hv.objE fun b hb => t.R.setE ha hf fun _ o hm hs hd => t.R.setE hb hf2 fun _ o2 hm2 hs2 hd2 => eq_set_set (t.nw _ hm).1 hs (t.nw _ hm2).1 hs2 (Nat.lt_of_le_of_lt (Nat.le_add_right _ _) (un64 g)) (k _)
theorem cne_dat {nf : Nat → Str} {q : Nat} {n : Int} (hu : VR nf N φ u (.tup [.str q, .int n])) : DatIn N u (.tuple [.str (nf q), .int n]) :=
  hu.tupE fun _ _ hm hvs => hvs.twoE (P := fun vs => (_, tupOf vs) ∈ N → DatIn N _ _) (fun _ _ h1 h2 hm => .tuple hm (.cons (h1.strE fun _ => .str _ _) (.cons (h2.intE fun _ => .int _ _) .nil))) hm
theorem At.c_cne (lk : Lk W) (ls : LkS W) (g : GOk W G sc d) {q q' : Nat} {n n' : Int} (t : At W G m s.heap N φ ψ H ρ) (hu : VR W.nf N φ u (.tup [.str q, .int n])) (hv : VR W.nf N φ v (.tup [.str q', .int n'])) (k : ∀ tk, Q (.bool (!(decide (q = q') && decide (n = n')))) (up s s.heap tk)) : wpAny (model W.prog W.w) G.A (compareOp .NotEq u v) Q E s := by
  have ok : ∀ (q : Nat) (n : Int), kqdOk 8 (.tuple [.str (W.nf q), .int n]) = true := fun q n => by
    show (PyData.strOk (W.nf q) && (true && true)) = true
    rw [ls.ok]; rfl
  obtain ⟨as, ra⟩ := kqd_in t.nw 8 (cne_dat hu) (ok q n)
  obtain ⟨bs, rb⟩ := kqd_in t.nw 8 (cne_dat hv) (ok q' n')
  have la := kqd_lay 8 _ (ok q n)
  have lb := kqd_lay 8 _ (ok q' n')
  have e : PyData.eqv (kqdP (.tuple [.str (W.nf q), .int n])) (kqdP (.tuple [.str (W.nf q'), .int n'])) = (decide (q = q') && decide (n = n')) := by
    refine Bool.eq_iff_iff.mpr ((kqd_eqv 8 _ _ 8 (ok q n) (ok q' n')).trans ⟨fun e => ?_, fun e => ?_⟩)
    · injection e with e
      injection e with e1 e2
      injection e1 with e1
      injection e2 with e2
      injection e2 with e2
      rw [lk.inj _ _ e1, e2, decide_eq_true rfl, decide_eq_true rfl]; rfl
    · rw [Bool.and_eq_true, decide_eq_true_eq, decide_eq_true_eq] at e
      rw [e.1, e.2]
  refine ne_dataH ra rb ?_ ?_ (un64 g) (by rw [e]; exact k _)
  · unfold SeqAt.shaped; rw [la.1, Bool.true_and]; exact decide_eq_true (Nat.le_trans la.2 (by decide))
  · unfold SeqAt.shaped; rw [lb.1, Bool.true_and]; exact decide_eq_true (Nat.le_trans lb.2 (by decide))
end
theorem At.cmp (lk : Lk W) (ls : LkS W) (g : GOk W G sc d) {m : Str → Option Value} {s : Shared} {N : Led} {φ ψ : List Addr} {u v : Value} {a b : AV} {c : Bool} {op : CmpOp} {Q E : Value → Shared → Prop} (t : At W G m s.heap N φ ψ H ρ) (hu : VR W.nf N φ u a) (hv : VR W.nf N φ v b) (hg : CmpIs H op a b c)
    (h : ∀ v h tk N' φ' ψ', At W G m h N' φ' ψ' H ρ → Ge N φ N' φ' → VR W.nf N' φ' v (.bool c) → Q v (up s h tk)) : wpAny (model W.prog W.w) G.A (compareOp op u v) Q E s := by
  have k : ∀ tk, Q (.bool c) (up s s.heap tk) := fun tk => h _ s.heap tk N φ ψ t (Ge.refl _ _) (.bool c)
  clear h
  cases hg with
  | int hg => exact hu.intE fun _ => hv.intE fun _ => t.cmpInt hg k
  | seq i j => exact hu.strE fun _ => hv.strE fun _ => eq_str (by rw [strb_eq lk.inj i j]; exact k _)
  | sne i j => exact hu.strE fun _ => hv.strE fun _ => ne_str (by rw [bne, strb_eq lk.inj i j]; exact k _)
  | cne => exact t.c_cne lk ls g hu hv k
  | inS hf => exact t.c_inS hu hv hf k
  | ninS hf => exact t.c_ninS hu hv hf k
  | inD hf => exact t.c_inD hu hv hf k
  | ninD hf => exact t.c_ninD hu hv hf k
  | inL hf => exact t.c_inL ls g hu hv hf k
  | lne h1 h2 hf => exact t.c_lne ls g hu hv h1 h2 hf k
  | seqq h1 h2 => exact t.c_seq g hu hv h1 h2 k
end

/-! truth, statements, calls -/
section
variable {W : Wd} {G : Gd} {sc : Sc} {d : Nat} {ρ : Loc} {H : AH}
theorem At.truth {m : Str → Option Value} {s : Shared} {N : Led} {φ ψ : List Addr} {v : Value} {a : AV} {b : Bool} {Q : Bool → Shared → Prop} {E : Value → Shared → Prop} (t : At W G m s.heap N φ ψ H ρ) (hv : VR W.nf N φ v a) (hg : Mine.truth H a = some b)
    (h : ∀ h tk N' φ' ψ', At W G m h N' φ' ψ' H ρ → Ge N φ N' φ' → Q b (up s h tk)) : wpAny (model W.prog W.w) G.A (truthy v) Q E s := by
  cases hv with
  | bool b' => cases hg; exact wpAny_truthy_bool (h s.heap s.toks N φ ψ t (Ge.refl _ _))
  | obj ha =>
    rename_i a i
    unfold Mine.truth at hg
    dsimp only at hg
    split at hg
    · rename_i l hl
      split at hg
      · rename_i hz
        cases hg
        refine t.R.listE ha hl fun hμ vs n hm hvs => ?_
        have hL : s.heap.IsList a vs.toArray := ⟨_, (t.nw _ hm).1, rfl, n, rfl⟩
        have hl2 := hvs.length
        have e : (!vs.toArray.isEmpty) = !l.isEmpty := by
          cases hvs <;> rfl
        exact wpAny_truthy_list (Q := Q) (E := E) hL (by rw [List.size_toArray]; (first | lia | omega)) (by rw [e]; exact h s.heap _ N φ ψ t (Ge.refl _ _))
      · cases hg
    · cases hg
  | _ => cases hg
theorem er_cmp (k : Nat) (a : Expr) (ops : List CmpOp) (bs : List Expr) (p : Pos) : er (k + 1) (.Compare a ops bs p) = .bad ∨ ∃ op b, er (k + 1) (.Compare a ops bs p) = .cmp op (er k a) b := by
  cases ops with
  | nil => exact .inl rfl
  | cons op more => cases more with
    | cons _ _ => exact .inl rfl
    | nil => cases bs with
      | nil => exact .inl rfl
      | cons b more => cases more with
        | cons _ _ => exact .inl rfl
        | nil => exact .inr ⟨_, _, rfl⟩
theorem truePlain {k : Nat} {f : Nat → Str} {e : Expr} {x : X Nat} {env : Env} {whole : Sem Value} (h : er k e = X.put f k x) (hp : plainT x = true) :
    PySem.isTrue e env whole = (do let v ← whole; standAt e.pos; holding [v] (truthy v)) := by
  cases k with
  | zero => exact absurd h.symm (put_bad x 0)
  | succ k =>
    have ht : plainN (tagX (er (k + 1) e)) = true := (congrArg plainN (tag_er h)).trans hp
    cases e with
    | BoolOp op l p => exact ff_tt ht
    | IfExp a b c p => exact absurd h.symm (put_bad x _)
    | UnaryOp u a p => cases u with
      | Not => exact ff_tt ht
      | _ => rfl
    | Compare a ops bs p =>
      rcases er_cmp k a ops bs p with e | ⟨op, b, e⟩
      · exact absurd (h.symm.trans e) (put_bad x _)
      · rw [e] at ht
        exact ff_tt ht
    | _ => rfl
theorem tr_plain {k : Nat} {e : Expr} {x : X Nat} {r : AV} {b : Bool} {H1 : AH} (hx : er k e = X.put W.nf k x) (hp : plainT x = true) (ih : EvOk W G (eval e G.env) ρ H r H1) (hg : Mine.truth H1 r = some b) :
    TrOk W G (PySem.isTrue e G.env (eval e G.env)) ρ H b H1 := by
  intro m s N φ ψ Q E a h
  exact isTrue_plain (ih m s N φ ψ _ E a fun v h1 tk N1 φ1 ψ1 a1 g1 v1 => a1.truth v1 hg fun h2 tk2 N2 φ2 ψ2 a2 g2 => h h2 tk2 N2 φ2 ψ2 a2 (g1.trans g2)) (truePlain hx hp)
theorem noMarks {k : Nat} {f : Nat → Str} {e : Expr} {x : X Nat} {op : CmpOp} (h : er k e = X.put f k x) : behindInMarks op e = false := by
  cases e with
  | Set l j p => cases k with
    | zero => exact absurd h.symm (put_bad x 0)
    | succ k => exact absurd h.symm (put_bad x _)
  | _ => rfl
theorem tr_cmp (lk : Lk W) (ls : LkS W) (g : GOk W G sc d) {k : Nat} {l r : Expr} {y : X Nat} {p : Pos} {op : CmpOp} {u v : AV} {b : Bool} {H1 H2 : AH} {whole : Sem Value} (hy : er k r = X.put W.nf k y) (i1 : EvOk W G (eval l G.env) ρ H u H1) (i2 : EvOk W G (eval r G.env) ρ H1 v H2) (hg : CmpIs H2 op u v b) :
    TrOk W G (PySem.isTrue (.Compare l [op] [r] p) G.env whole) ρ H b H2 := by
  intro m s N φ ψ Q E a h
  refine wpAny_isTrue_Compare1 (i1 m s N φ ψ _ E a fun u' h1 tk N1 φ1 ψ1 a1 g1 v1 => i2 m _ N1 φ1 ψ1 _ E a1 fun v' h2 tk2 N2 φ2 ψ2 a2 g2 v2 => ?_) (noMarks hy)
  exact a2.cmp lk ls g (v1.mono g2) v2 hg fun w' h3 tk3 N3 φ3 ψ3 a3 g3 v3 => a3.truth v3 rfl fun h4 tk4 N4 φ4 ψ4 a4 g4 => h h4 tk4 N4 φ4 ψ4 a4 (((g1.trans g2).trans g3).trans g4)
theorem ok_cmp (lk : Lk W) (ls : LkS W) (g : GOk W G sc d) {k : Nat} {l r : Expr} {y : X Nat} {p : Pos} {op : CmpOp} {u v : AV} {b : Bool} {H1 H2 : AH} (hy : er k r = X.put W.nf k y) (i1 : EvOk W G (eval l G.env) ρ H u H1) (i2 : EvOk W G (eval r G.env) ρ H1 v H2) (hg : CmpIs H2 op u v b) :
    EvOk W G (eval (.Compare l [op] [r] p) G.env) ρ H (.bool b) H2 := by
  intro m s N φ ψ Q E a h
  refine wpAny_Compare1 (i1 m s N φ ψ _ E a fun u' h1 tk N1 φ1 ψ1 a1 g1 v1 => i2 m _ N1 φ1 ψ1 _ E a1 fun v' h2 tk2 N2 φ2 ψ2 a2 g2 v2 => ?_) (noMarks hy)
  exact a2.cmp lk ls g (v1.mono g2) v2 hg fun w' h3 tk3 N3 φ3 ψ3 a3 g3 v3 => h w' h3 tk3 N3 φ3 ψ3 a3 ((g1.trans g2).trans g3) v3
theorem ok_sub {k : Nat} {e i : Expr} {x : X Nat} {p : Pos} {o j r : AV} {H1 H2 : AH} (hx : er k i = X.put W.nf k x) (hn : notSl x = true) (i1 : EvOk W G (eval e G.env) ρ H o H1) (i2 : EvOk W G (eval i G.env) ρ H1 j H2) (hg : Mine.item H2 o j = some r) :
    EvOk W G (eval (.Subscript e i p) G.env) ρ H r H2 := by
  intro m s N φ ψ Q E a h
  refine Subscript_ (i1 m s N φ ψ _ E a fun u' h1 tk N1 φ1 ψ1 a1 g1 v1 => i2 m _ N1 φ1 ψ1 _ E a1 fun v' h2 tk2 N2 φ2 ψ2 a2 g2 v2 => ?_)
  exact a2.item (v1.mono g2) v2 hg (notSlice hx hn) fun w' h3 tk3 N3 φ3 ψ3 a3 g3 v3 => h w' h3 tk3 N3 φ3 ψ3 a3 ((g1.trans g2).trans g3) v3
theorem ok_bin (ls : LkS W) {l r : Expr} {p : Pos} {op : Operator} {u v b : AV} {H1 H2 : AH} (i1 : EvOk W G (eval l G.env) ρ H u H1) (i2 : EvOk W G (eval r G.env) ρ H1 v H2) (hg : Mine.binOp Tb op u v = some b) :
    EvOk W G (eval (.BinOp l op r p) G.env) ρ H b H2 := by
  intro m s N φ ψ Q E a h
  refine wpAny_BinOp (i1 m s N φ ψ _ E a fun u' h1 tk N1 φ1 ψ1 a1 g1 v1 => i2 m _ N1 φ1 ψ1 _ E a1 fun v' h2 tk2 N2 φ2 ψ2 a2 g2 v2 => ?_)
  exact a2.binOp ls (v1.mono g2) v2 hg fun w' h3 tk3 N3 φ3 ψ3 a3 g3 v3 => h w' h3 tk3 N3 φ3 ψ3 a3 ((g1.trans g2).trans g3) v3
theorem ok_neg {i : Int} {j : Nat} {p q : Pos} : EvOk W G (eval (.UnaryOp .USub (.Constant (.int i) j q) p) G.env) ρ H (.int (-i)) H := by
  intro m s N φ ψ Q E a h
  exact UnaryOp_ (wpAny_Constant_int (neg_int (h _ s.heap _ N φ ψ a (Ge.refl _ _) (.int _ _))))
/-! statements -/
theorem noSwap {k : Nat} {f : Nat → Str} {e : Expr} {x : X Nat} {t : Option Expr} {n : Nat} {env : Env} (h : er k e = X.put f k x) : swapsWith e t n env = pure false := by
  have hb := put_bad (f := f) x
  cases k with
  | zero => exact absurd h.symm (hb 0)
  | succ k => cases e <;> first | rfl | exact absurd h.symm (hb _)
theorem st_ex (hk : G.cs.kind = .function) {k : Nat} {e : Expr} {x : X Nat} {p : Pos} {r : AV} {H1 : AH} (hx : er k e = X.put W.nf k x) (ih : EvOk W G (eval e G.env) ρ H r H1) : ExOk W G (exec (.Expr e p) G.env) ρ H .next ρ H1 := by
  intro m s N φ ψ Q E a h
  refine wpAny_Expr_any (ih m s N φ ψ _ E a fun v h1 tk N1 φ1 ψ1 a1 g1 v1 => h .next m h1 tk N1 φ1 ψ1 a1 g1 .next) ?_ (noSwap hx)
  unfold interactive; rw [show G.env.scope.kind = .function from hk]; rfl
theorem st_asg (lk : Lk W) (g : GOk W G sc d) {k : Nat} {e : Expr} {x : Nat} {y : X Nat} {p q : Pos} {r : AV} {H1 : AH} (hy : er k e = X.put W.nf k y) (hs : sc.lookup x = some .local) (ih : EvOk W G (eval e G.env) ρ H r H1) :
    ExOk W G (exec (.Assign [.Name (W.nf x) q] e p) G.env) ρ H .next (setL x r ρ) H1 := by
  intro m s N φ ψ Q E a h
  refine wpAny_Assign_Name (ih m s N φ ψ _ E a fun v h1 tk N1 φ1 ψ1 a1 g1 v1 => ?_) (noSwap hy)
  exact storeX_L a1.F a1.nw (fun h' F' N' => h .next _ h' _ N1 φ1 ψ1 ⟨F', N', a1.R, a1.L.set lk.inj ((g.ks x).trans hs) v1⟩ g1 .next) g.hk ((g.ks x).trans hs)
theorem st_ret {e : Expr} {p : Pos} {r : AV} {H1 : AH} (ih : EvOk W G (eval e G.env) ρ H r H1) : ExOk W G (exec (.Return (some e) p) G.env) ρ H (.ret r) ρ H1 := by
  intro m s N φ ψ Q E a h
  exact wpAny_Return_some (ih m s N φ ψ _ E a fun v h1 tk N1 φ1 ψ1 a1 g1 v1 => h (.ret v) m h1 tk N1 φ1 ψ1 a1 g1 (.ret v1))
theorem st_ret0 {p : Pos} : ExOk W G (exec (.Return none p) G.env) ρ H (.ret .none) ρ H := by
  intro m s N φ ψ Q E a h
  exact wpAny_Return_none (h (.ret .none) m s.heap s.toks N φ ψ a (Ge.refl _ _) (.ret .none))
theorem st_cont {p : Pos} : ExOk W G (exec (.Continue p) G.env) ρ H .cont ρ H := by
  intro m s N φ ψ Q E a h
  exact wpAny_Continue (h .cont m s.heap s.toks N φ ψ a (Ge.refl _ _) .cont)
theorem st_ite {c : Expr} {x y : List Stmt} {p : Pos} {b : Bool} {fl : Fl} {ρ2 : Loc} {H1 H2 : AH} (ih : TrOk W G (PySem.isTrue c G.env (eval c G.env)) ρ H b H1) (ih2 : ExOk W G (execs (if b = true then x else y) G.env) ρ H1 fl ρ2 H2) :
    ExOk W G (exec (.If c x y p) G.env) ρ H fl ρ2 H2 := by
  intro m s N φ ψ Q E a h
  refine wpAny_If (ih m s N φ ψ _ E a fun h1 tk N1 φ1 ψ1 a1 g1 => ?_)
  have z := ih2 m (up s h1 tk) N1 φ1 ψ1 Q E a1 fun f m' h2 tk2 N2 φ2 ψ2 a2 g2 r => h f m' h2 tk2 N2 φ2 ψ2 a2 (g1.trans g2) r
  cases b <;> exact z
theorem sts_nil : ExOk W G (execs [] G.env) ρ H .next ρ H := by
  intro m s N φ ψ Q E a h
  exact wpAny_execs_nil (h .next m s.heap s.toks N φ ψ a (Ge.refl _ _) .next)
theorem sts_next {e : Stmt} {l : List Stmt} {fl : Fl} {ρ1 ρ2 : Loc} {H1 H2 : AH} (ih : ExOk W G (exec e G.env) ρ H .next ρ1 H1) (ih2 : ExOk W G (execs l G.env) ρ1 H1 fl ρ2 H2) : ExOk W G (execs (e :: l) G.env) ρ H fl ρ2 H2 := by
  intro m s N φ ψ Q E a h
  refine wpAny_execs_cons (ih m s N φ ψ _ E a fun f m1 h1 tk N1 φ1 ψ1 a1 g1 r => ?_)
  cases r
  exact ih2 m1 (up s h1 tk) N1 φ1 ψ1 Q E a1 fun f m' h2 tk2 N2 φ2 ψ2 a2 g2 r => h f m' h2 tk2 N2 φ2 ψ2 a2 (g1.trans g2) r
theorem sts_stop {e : Stmt} {l : List Stmt} {fl : Fl} {ρ1 : Loc} {H1 : AH} (hf : fl ≠ .next) (ih : ExOk W G (exec e G.env) ρ H fl ρ1 H1) : ExOk W G (execs (e :: l) G.env) ρ H fl ρ1 H1 := by
  intro m s N φ ψ Q E a h
  refine wpAny_execs_cons (ih m s N φ ψ _ E a fun f m1 h1 tk N1 φ1 ψ1 a1 g1 r => ?_)
  have := h f m1 h1 tk N1 φ1 ψ1 a1 g1 r
  cases r with
  | next => exact absurd rfl hf
  | cont => exact this
  | ret _ => exact this
/-- a function of the text, as the ledger of the text's top has it -/
structure FnAt (K : Frag) (nf : Nat → Str) (a : Addr) (f : Fn) : Prop where
  ex : ∃ name qual params body scope dV kV doc pm an cdv ct oc od osl, K.lookup a = some ⟨oc, od, .func (fnOf name qual params body scope dV kV doc pm an cdv ct), osl⟩ ∧ codeIn K cdv qual = true ∧
    (∃ k, body.map (erS k) = f.body.map (S.put nf k)) ∧ (∀ x, scope.names.lookup (nf x) = f.sc.lookup x) ∧ scope.kind = .function ∧ scope.isCoroutine = false ∧ scope.isGenerator = false ∧ (∀ x ∈ scope.names, x.2 ≠ .cell) ∧
    ∀ (vs : List Value) s, vs.length = f.ps.length → BindsTo s (fnOf name qual params body scope dV kV doc pm an cdv ct) ⟨vs, []⟩ ((f.ps.map nf).zip vs)
  nd : f.ps.Nodup
  lo : ∀ x ∈ f.ps, f.sc.lookup x = some .local
/-- what the ledger does not name stays as it was, and off the ledger -/
noncomputable def Kept (h : Heap) (N : Led) (h' : Heap) (N' : Led) : Prop := ∀ b o, h.get? b = some o → (∀ p ∈ N, p.1 ≠ b) → h'.get? b = some o ∧ ∀ p ∈ N', p.1 ≠ b
noncomputable def CallOk (W : Wd) (G : Gd) (i : Nat) (vs : List AV) (H : AH) (r : AV) (H' : AH) : Prop :=
  ∀ m s N φ ψ ρ us (R : Result → Shared → Prop), At W G m s.heap N φ ψ H ρ → All2 (VR W.nf N φ) us vs → (∀ v h tk N' φ' ψ', At W G m h N' φ' ψ' H' ρ → Ge N φ N' φ' → VR W.nf N' φ' v r → Kept s.heap N h N' → R (.ok (.ret v)) (up s h tk)) →
    codeAny (model W.prog W.w) G.A (.call (.ref (W.fa i)) ⟨us, []⟩) R s
theorem zip_map_lookup {nf : Nat → Str} (inj : ∀ x y, nf x = nf y → x = y) {N : Led} {φ : List Addr} : ∀ {ps : List Nat} {us : List Value} {vs : List AV} (x : Nat) (d : AV), All2 (VR nf N φ) us vs → lookN x (ps.zip vs) = some d →
    ∃ v, ((ps.map nf).zip us).lookup (nf x) = some v ∧ VR nf N φ v d
  | [], _, _, _, _, _, h => by simp [lookN] at h
  | p :: ps, _, _, _, _, .nil, h => by simp [lookN] at h
  | p :: ps, u :: us, v :: vs, x, d, .cons hu r, h => by
    have h' : (if p = x then some v else lookN x (ps.zip vs)) = some d := h
    show ∃ v, ((nf p, u) :: (ps.map nf).zip us).lookup (nf x) = some v ∧ _
    rw [List.lookup_cons]
    by_cases hp : p = x
    · subst hp
      rw [if_pos rfl] at h'; cases h'
      exact ⟨u, by rw [beq_self_eq_true], hu⟩
    · rw [if_neg hp] at h'
      obtain ⟨v', e, r'⟩ := zip_map_lookup inj x d r h'
      have hb : (nf x == nf p) = false := by simpa using fun e => hp (inj _ _ e).symm
      exact ⟨v', by rw [hb]; exact e, r'⟩
theorem zip_mem {x : Nat} : ∀ {ps : List Nat} {vs : List AV}, lookN x (ps.zip vs) ≠ none → x ∈ ps
  | [], _, h => by simp [lookN] at h
  | _ :: _, [], h => by simp [lookN] at h
  | p :: ps, v :: vs, h => by
    have h' : (if p = x then some v else lookN x (ps.zip vs)) ≠ none := h
    by_cases hp : p = x
    · exact hp ▸ .head _
    · rw [if_neg hp] at h'; exact .tail _ (zip_mem h')
theorem lookup_reverse {β : Type} : ∀ {l : List (Str × β)}, (l.map (·.1)).Nodup → ∀ x, l.reverse.lookup x = l.lookup x
  | [], _, _ => rfl
  | (k, v) :: l, nd, x => by
    rw [List.map_cons, List.nodup_cons] at nd
    rw [List.reverse_cons, List.lookup_append, lookup_reverse nd.2 x, List.lookup_cons, List.lookup_cons]
    by_cases hx : (x == k) = true
    · rw [hx]
      have : l.lookup x = none := by
        rw [List.lookup_eq_none_iff]
        intro p hp
        have e := LawfulBEq.eq_of_beq hx
        subst e
        simpa using fun e => nd.1 (List.mem_map.mpr ⟨p, hp, e.symm⟩)
      rw [this]
      rfl
    · have hx' : (x == k) = false := by simpa using hx
      rw [hx']
      cases l.lookup x <;> rfl
section
variable {prog : Program} {w : World} {A₀ A : Around} {s : Shared} {base h₀ : Heap} {L : Addr} {m mg mb : Str → Option Value} {news : List (Addr × Obj)} {K : Frag} {p : Program} {loose : List Str} {mean : ExcName → Option Value} {env : Env} {outer : List Env} {R : Result → Shared → Prop} {name qual : Str} {params : Arguments} {body : List Stmt} {scope : Scope} {dV kV doc pm cdv ct oc : Value} {an od : Option Addr} {osl : Array (Option Value)} {f : Addr} {args : Args} {binds : List (Str × Value)}
/-- a call of a function, told with what it hides -/
theorem code_hide (B : Below A₀ base outer h₀) (F : Fr h₀ L s.heap m) (X₀ : K.In h₀) (N : News h₀ L s.heap news) (T : Top p loose mean mg mb h₀) (hA : A.frames = some (env :: outer)) (hf : env.frame = some L) (hke : env.scope.kind = .function)
    (ho : K.lookup f = some ⟨oc, od, .func (fnOf name qual params body scope dV kV doc pm an cdv ct), osl⟩) (hcd : codeIn K cdv qual = true) (hroom : A.depth < recursionLimit)
    (hbind : BindsTo s (fnOf name qual params body scope dV kV doc pm an cdv ct) args binds) (hloc : ∀ y ∈ binds, scope.names.lookup y.1 = some .local)
    (h : ∀ h₁, Fr (hideAll s.heap (news.map (·.1))) s.heap.objs.size h₁ (fun y => binds.reverse.lookup y) → News (hideAll s.heap (news.map (·.1))) s.heap.objs.size h₁ news → Below A base (env :: outer) (hideAll s.heap (news.map (·.1))) → K.In (hideAll s.heap (news.map (·.1))) → Top p loose mean mg mb (hideAll s.heap (news.map (·.1))) →
      wpAny (model prog w) (A.deeper (envOf qual scope s.heap.objs.size f cdv)) (execs body (envOf qual scope s.heap.objs.size f cdv))
        (fun fl s' => LeaveK h₀ L m (hideAll s.heap (news.map (·.1))) R (match fl with | .ret v => v | _ => .none) s')
        (fun e s' => wpAny (model prog w) (A.deeper (envOf qual scope s.heap.objs.size f cdv)) (leaving (envOf qual scope s.heap.objs.size f cdv) e) (fun _ s'' => R (.error e) s'') (fun e' s'' => R (.error e') s'') s')
        { s with heap := h₁, toks := s.toks + binds.length })
    (hco : scope.isCoroutine = false) (hgen : scope.isGenerator = false) (hk : scope.kind = .function)
    (hcell : ∀ x ∈ scope.names, x.2 ≠ .cell) : codeAny (model prog w) A (.call (.ref f) args) R s := by
  obtain ⟨_, BG, st, lv⟩ := groundX (R := R) B F N hA hf hke
  refine codeAny_call_def (fd := fnOf name qual params body scope dV kV doc pm an cdv ct) (body := body) (binds := binds) hroom ((X₀.keeps F.keep) _ _ ho) rfl (T.nolimit.keeps F.keep) (codeRec_of (X₀.keeps F.keep) hcd) rfl hbind hcell hloc (fun h₁ hns hk₁ => ?_) hco hgen hk
  exact wpAny_mono (h h₁ ⟨hns, fun b o e => hk₁ b o (of_hideAll _ e), Nat.le_of_eq (hideAll_size _ _)⟩
    (fun p hp => ⟨hk₁ _ _ (N p hp).1, Nat.ne_of_lt (Heap.lt_size (N p hp).1), hideAll_none _ (List.mem_map_of_mem hp)⟩) BG (X₀.keeps st) (T.keeps st)) (fun fl s' hl => lv _ _ hl) fun _ _ y => y
end
theorem ok_call (lk : Lk W) (g : GOk W G sc (d + 1)) {i : Nat} {f : Fn} (fn : FnAt W.K W.nf (W.fa i) f) {vs : List AV} {H' : AH} {r : AV} {fl : Fl} {ρ' : Loc} (hl : f.ps.length = vs.length) (hr : (match fl with | .ret v => some v | .next => some AV.none | .cont => none) = some r)
    (ih : ∀ (G' : Gd) (body : List Stmt), GOk W G' f.sc d → (∃ k, body.map (erS k) = f.body.map (S.put W.nf k)) → ExOk W G' (execs body G'.env) (f.ps.zip vs) H fl ρ' H') : CallOk W G i vs H r H' := by
  intro m s N φ ψ ρ us R a hus h
  obtain ⟨⟨name, qual, params, body, scope, dV, kV, doc, pm, an, cdv, ct, oc, od, osl, ho, hcd, hb, hsc, hk, hco, hge, hcell, hbind⟩, nd, lo⟩ := fn
  have hul : us.length = f.ps.length := by rw [hus.length, hl]
  have hkeys : (((f.ps.map W.nf).zip us).map (·.1)) = f.ps.map W.nf := by rw [List.map_fst_zip]; simp [hul]
  have hnd : (((f.ps.map W.nf).zip us).map (·.1)).Nodup := by
    rw [hkeys]
    exact List.Pairwise.map W.nf (fun x y hn e => hn (lk.inj x y e)) nd
  refine code_hide g.B a.F g.X a.nw g.T rfl rfl g.hk ho hcd (Nat.lt_of_le_of_lt (Nat.le_add_right _ _) g.hd) (hbind us s hul) ?_ ?_ hco hge hk hcell
  · intro y hy
    have : y.1 ∈ f.ps.map W.nf := by rw [← hkeys]; exact List.mem_map.mpr ⟨y, hy, rfl⟩
    obtain ⟨x, hx, e⟩ := List.mem_map.mp this
    rw [← e, hsc]
    exact lo x hx
  · intro h₁ F' N' B' X' T'
    have hid : ∀ b o, s.heap.get? b = some o → (∀ p ∈ N, p.1 ≠ b) → (hideAll s.heap (N.map (·.1))).get? b = some o := fun b o e hn => hideAll_get _ e fun hm => by
      obtain ⟨p, hp, rfl⟩ := List.mem_map.mp hm
      exact hn p hp rfl
    generalize hideAll s.heap (N.map (·.1)) = g' at F' N' B' X' T' hid ⊢
    generalize s.heap.objs.size = L' at F' N' ⊢
    have g2 : GOk W ⟨G.dp + 1, G.un + 3, G.gd, qual, scope, L', W.fa i, cdv, G.env :: G.outer, G.A, G.base, g', G.ep, []⟩ f.sc d := ⟨B', X', T', hk, hsc, by have := g.hd; show G.dp + 1 + d < _; (first | lia | omega), by have := g.hu; show G.un + 3 + 8 * d + 80 < _; (first | lia | omega)⟩
    refine ih ⟨G.dp + 1, G.un + 3, G.gd, qual, scope, L', W.fa i, cdv, G.env :: G.outer, G.A, G.base, g', G.ep, []⟩ body g2 hb _ _ N φ ψ _ _ ⟨F', N', a.R, ?_⟩ ?_
    · intro x d hx
      obtain ⟨v, hv, rv⟩ := zip_map_lookup lk.inj x d hus hx
      have hmem : x ∈ f.ps := by
        have : lookN x (f.ps.zip vs) ≠ none := by rw [hx]; exact fun e => by cases e
        exact zip_mem this
      refine ⟨v, ?_, rv⟩
      unfold VarIs
      have hc : scope.names.lookup (W.nf x) = some .local := (hsc x).trans (lo x hmem)
      rw [show (_ : Scope).names.lookup (W.nf x) = some .local from hc, if_neg (by decide)]
      show List.lookup _ _ = _; rw [lookup_reverse hnd]; exact hv
    · intro fl' m' h2 tk N2 φ2 ψ2 a2 g2' rf
      refine leaveK_ a2.F a2.nw fun F3 N3 => ?_
      have at3 : At W G m h2 N2 φ2 ψ2 H' ρ := ⟨F3, N3, a2.R, a.L.mono g2'⟩
      have kp : Kept s.heap N h2 N2 := fun b o e hn => ⟨a2.F.keep _ _ (hid b o e hn), fun p hp q => by have := (a2.nw p hp).2.2; rw [q] at this; exact absurd ((hid b o e hn).symm.trans this) (fun e => by cases e)⟩
      cases rf with
      | next => cases hr; exact h .none h2 tk N2 φ2 ψ2 at3 g2' .none kp
      | cont => cases hr
      | ret rv => cases hr; exact h _ h2 tk N2 φ2 ψ2 at3 g2' rv kp
end

/-! stores, loops -/
theorem stored_set {nf : Nat → Str} {N : Led} {φ : List Addr} {k : Int} {v : Value} {d : AV} (hv : VR nf N φ v d) {kvs : List (Int × Value)} {l : List (Int × AV)} (h : All2 (fun p q => p.1 = q.1 ∧ VR nf N φ p.2 q.2) kvs l) (nd : (kvs.map (·.1)).Nodup) :
    All2 (fun p q => p.1 = q.1 ∧ VR nf N φ p.2 q.2) (stored kvs k v) (setD k d l) := by
  have key : ∀ {kvs : List (Int × Value)} {l : List (Int × AV)}, All2 (fun p q => p.1 = q.1 ∧ VR nf N φ p.2 q.2) kvs l → (kvs.map (·.1)).Nodup →
      ((kvs.any fun kv => decide (kv.1 = k)) = true → All2 (fun p q => p.1 = q.1 ∧ VR nf N φ p.2 q.2) (kvs.map fun kv => if kv.1 = k then (kv.1, v) else kv) (setD k d l)) ∧
      ((kvs.any fun kv => decide (kv.1 = k)) = false → All2 (fun p q => p.1 = q.1 ∧ VR nf N φ p.2 q.2) (kvs ++ [(k, v)]) (setD k d l)) := by
    intro kvs l h
    induction h with
    | nil => intro _; exact ⟨fun h => (by cases h), fun _ => .cons ⟨rfl, hv⟩ .nil⟩
    | @cons a b kvs l ha r ih =>
      intro nd
      obtain ⟨j, u⟩ := a
      obtain ⟨j', e⟩ := b
      have ej : j = j' := ha.1
      subst ej
      rw [List.map_cons, List.nodup_cons] at nd
      have ih := ih nd.2
      unfold setD
      by_cases hj : j = k
      · subst hj
        refine ⟨fun _ => ?_, fun h => ?_⟩
        · rw [if_pos rfl, List.map_cons, if_pos rfl]
          refine .cons ⟨rfl, hv⟩ ?_
          have e : (kvs.map fun kv => if kv.1 = j then (kv.1, v) else kv) = kvs := by
            conv => rhs; rw [← List.map_id kvs]
            exact List.map_congr_left fun p hp => if_neg fun e => nd.1 (List.mem_map.mpr ⟨p, hp, e⟩)
          rw [e]; exact r
        · rw [List.any_cons, decide_eq_true (by rfl)] at h; cases h
      · rw [List.any_cons, decide_eq_false hj, Bool.false_or, if_neg hj]
        refine ⟨fun h => ?_, fun h => ?_⟩
        · rw [List.map_cons, if_neg hj]; exact .cons ha (ih.1 h)
        · exact .cons ha (ih.2 h)
  unfold stored
  have := key h nd
  split
  · next c => exact this.1 c
  · next c => exact this.2 (Bool.eq_false_iff.mpr c)
theorem updF_of {μ : Addr} {o : Obj} : ∀ {N : Led}, (N.map (·.1)).Nodup → (μ, o) ∈ N → UpdF μ o N (fun o' => setAll μ o' N)
  | [], _, h => nomatch h
  | p :: N, nd, h => by
    rw [List.map_cons, List.nodup_cons] at nd
    rcases List.mem_cons.mp h with rfl | h
    · have hn : ∀ q ∈ N, q.1 ≠ μ := fun q hq e => nd.1 (List.mem_map.mpr ⟨q, hq, e⟩)
      have e : (fun o' => setAll μ o' ((μ, o) :: N)) = fun o' => (μ, o') :: N := by
        funext o'
        show (if μ = μ then (μ, o') else (μ, o)) :: setAll μ o' N = _
        rw [if_pos rfl, setAll_none hn]
      rw [e]; exact .head hn
    · have hp : p.1 ≠ μ := fun e => nd.1 (List.mem_map.mpr ⟨_, h, e.symm⟩)
      have e : (fun o' => setAll μ o' (p :: N)) = fun o' => p :: setAll μ o' N := by
        funext o'
        show (if p.1 = μ then (μ, o') else p) :: setAll μ o' N = _
        rw [if_neg hp]
      rw [e]; exact .tail hp (updF_of nd.2 h)
section
variable {W : Wd} {G : Gd} {sc : Sc} {d : Nat} {ρ : Loc} {H : AH}
theorem dict_cls {prog : Program} {w : World} {o : Obj} {kvs : List (Int × Value)} (h : o.IsDictOf (intKind prog w) kvs) : fixed o = false := by
  obtain ⟨es, ep, hx, hd, _⟩ := h
  unfold fixed
  rw [hx.1, hd]; show (_ || false) = false; rw [Bool.or_false]; decide
theorem set_cls {o : Obj} {f : Int → Bool} {n : Nat} (prog : Program) (w : World) (h : o.IntSetOf f n) : fixed o = false := by
  obtain ⟨hex, es, ep, t, hd, _⟩ := h prog w
  unfold fixed
  rw [hex.1, hd]; show (_ || false) = false; rw [Bool.or_false]; decide
/-- an item stored -/
theorem At.storeL {m : Str → Option Value} {s : Shared} {N : Led} {φ ψ : List Addr} {v i u : Value} {o : Nat} {j : Int} {r : AV} {l : List AV} {Q : Unit → Shared → Prop} {E : Value → Shared → Prop} (t : At W G m s.heap N φ ψ H ρ) (hv : VR W.nf N φ v (.obj o)) (hi : VR W.nf N φ i (.int j)) (hu : VR W.nf N φ u r) (hl : H[o]? = some (.list l)) (hb : 0 ≤ j ∧ j < l.length ∧ l.length ≤ 1000000)
    (h : ∀ h N', At W G m h N' φ ψ (H.set o (.list (l.set j.toNat r))) ρ → Ge N φ N' φ → Q () (up s h s.toks)) : wpAny (model W.prog W.w) G.A (setItem v i u) Q E s :=
  hv.objE fun a ha => hi.intE fun tk => t.R.listE ha hl fun hμ vs n hm hvs => by
    have hlen := hvs.length
    have z := t.nw _ hm
    refine ki_setAt z.1 hb.1 (by (first | lia | omega)) (by rw [List.size_toArray]; (first | lia | omega)) ?_
    have q := PySem.IsL.update z.1 (fun x : Array Value => x.setIfInBounds j.toNat u)
    rw [if_pos (by simp), show vs.toArray.setIfInBounds j.toNat u = (vs.set j.toNat u).toArray from List.setIfInBounds_toArray _ _ _] at q
    obtain ⟨R', ge⟩ := t.R.upd (O := .list (l.set j.toNat r)) (o' := listOf (vs.set j.toNat u).toArray n) hl ha hμ fixed_list (fun _ _ e => nomatch e) (fun ge => ⟨rfl, _, _, setAll_self hm, (VRs.mono hvs ge).set (hu.mono ge) _⟩)
    have hs := Heap.SameBut.update s.heap a (Obj.mapSeq fun x => x.setIfInBounds j.toNat u)
    exact h _ _ ⟨t.F.change hs z.2.1 z.2.2, news_setAll t.nw hm hs q, R', t.L.mono ge⟩ ge
theorem At.storeD {m : Str → Option Value} {s : Shared} {N : Led} {φ ψ : List Addr} {v i u : Value} {o : Nat} {j : Int} {r : AV} {l : List (Int × AV)} {Q : Unit → Shared → Prop} {E : Value → Shared → Prop} (t : At W G m s.heap N φ ψ H ρ) (hv : VR W.nf N φ v (.obj o)) (hi : VR W.nf N φ i (.int j)) (hu : VR W.nf N φ u r) (hl : H[o]? = some (.dict l false)) (hb : l.length ≤ 1000000)
    (h : ∀ h tk N', At W G m h N' φ ψ (H.set o (.dict (setD j r l) false)) ρ → Ge N φ N' φ → Q () (up s h tk)) : wpAny (model W.prog W.w) G.A (setItem v i u) Q E s :=
  hv.objE fun a ha => hi.intE fun tk => t.R.dictE ha hl fun hμ ns o kvs hm hd hlk hkv => by
    have hlen := hkv.length
    refine kda_set (knd := intKind _ _) t.F t.nw (updF_of t.R.nd hm) hd (intKind_is _ _ _ _) (by rw [sizeLine_eq]; (first | lia | omega)) fun h' o' F' N' hd' => ?_
    have hnd : (kvs.map (·.1)).Nodup := by obtain ⟨_, _, _, _, _, _, z⟩ := hd; exact z
    obtain ⟨R', ge⟩ := t.R.upd (O := .dict (setD j r l) false) (o' := o') hl ha hμ (dict_cls hd') (fun _ _ e => nomatch e) (fun ge => ⟨rfl, ns, _, _, setAll_self hm, hd', (fun e => nomatch e), All2.mono (stored_set hu hkv hnd) fun _ _ x => ⟨x.1, x.2.mono ge⟩⟩)
    exact h _ _ _ ⟨F', N', R', t.L.mono ge⟩ ge
theorem storeItem_cases {o j r : AV} {H' : AH} {P : Prop} (h : Mine.storeItem H o j r = some H') (k1 : ∀ q i l, o = .obj q → j = .int i → H[q]? = some (.list l) → (0 ≤ i ∧ i < l.length ∧ l.length ≤ 1000000) → H.set q (.list (l.set i.toNat r)) = H' → P) (k2 : ∀ q i l, o = .obj q → j = .int i → H[q]? = some (.dict l false) → l.length ≤ 1000000 → H.set q (.dict (setD i r l) false) = H' → P) : P := by
  cases o with
  | obj q => cases j with
    | int i =>
      unfold Mine.storeItem at h
      dsimp only at h
      cases hq : H[q]? with
      | none => rw [hq] at h; cases h
      | some x =>
        rw [hq] at h
        cases x with
        | list l => exact ite_some h fun hb e => k1 _ _ _ rfl rfl hq hb e
        | dict l lk => cases lk with
          | false => exact ite_some h fun hb e => k2 _ _ _ rfl rfl hq hb e
          | true => cases h
        | _ => cases h
    | _ => cases h
  | _ => cases h
theorem At.storeItem {m : Str → Option Value} {s : Shared} {N : Led} {φ ψ : List Addr} {v i u : Value} {o j r : AV} {H' : AH} {Q : Unit → Shared → Prop} {E : Value → Shared → Prop} (t : At W G m s.heap N φ ψ H ρ) (hv : VR W.nf N φ v o) (hi : VR W.nf N φ i j) (hu : VR W.nf N φ u r) (hg : Mine.storeItem H o j r = some H')
    (h : ∀ h tk N' φ' ψ', At W G m h N' φ' ψ' H' ρ → Ge N φ N' φ' → Q () (up s h tk)) : wpAny (model W.prog W.w) G.A (setItem v i u) Q E s :=
  storeItem_cases hg (fun q i l e1 e2 hl hb e => t.storeL (e1 ▸ hv) (e2 ▸ hi) hu hl hb fun h' N' a => h h' s.toks N' φ ψ (e ▸ a))
    fun q i l e1 e2 hl hb e => t.storeD (e1 ▸ hv) (e2 ▸ hi) hu hl hb fun h' tk N' a => h h' tk N' φ ψ (e ▸ a)
theorem st_att (lk : Lk W) (lc : LkC W) (g : GOk W G sc d) {k : Nat} {e o : Expr} {x : Nat} {y : X Nat} {p q : Pos} {r u : AV} {H1 H2 H3 : AH} (hy : er k e = X.put W.nf k y) (i1 : EvOk W G (eval e G.env) ρ H r H1) (i2 : EvOk W G (eval o G.env) ρ H1 u H2) (hg : Mine.setAt Tb H2 u x r = some H3) :
    ExOk W G (exec (.Assign [.Attribute o (W.nf x) q] e p) G.env) ρ H .next ρ H3 := by
  intro m s N φ ψ Q E a h
  refine plainObj_wpAny_Assign_Attribute (i1 m s N φ ψ _ E a fun v h1 tk N1 φ1 ψ1 a1 g1 v1 => i2 m _ N1 φ1 ψ1 _ E a1 fun v' h2 tk2 N2 φ2 ψ2 a2 g2 v2 => ?_) (noSwap hy)
  exact At.setAttr lk lc g a2 v2 (v1.mono g2) hg fun h3 tk3 N3 φ3 ψ3 a3 g3 => h .next m h3 tk3 N3 φ3 ψ3 a3 ((g1.trans g2).trans g3) .next
theorem st_sub {k : Nat} {e o i : Expr} {y : X Nat} {p q : Pos} {r u j : AV} {H1 H2 H3 H4 : AH} (hy : er k e = X.put W.nf k y) (i1 : EvOk W G (eval e G.env) ρ H r H1) (i2 : EvOk W G (eval o G.env) ρ H1 u H2) (i3 : EvOk W G (eval i G.env) ρ H2 j H3) (hg : Mine.storeItem H3 u j r = some H4) :
    ExOk W G (exec (.Assign [.Subscript o i q] e p) G.env) ρ H .next ρ H4 := by
  intro m s N φ ψ Q E a h
  refine wpAny_Assign_Subscript (i1 m s N φ ψ _ E a fun v h1 tk N1 φ1 ψ1 a1 g1 v1 => i2 m _ N1 φ1 ψ1 _ E a1 fun v' h2 tk2 N2 φ2 ψ2 a2 g2 v2 => i3 m _ N2 φ2 ψ2 _ E a2 fun v'' h3 tk3 N3 φ3 ψ3 a3 g3 v3 => ?_) (noSwap hy)
  exact a3.storeItem (v2.mono g3) v3 ((v1.mono g2).mono g3) hg fun h4 tk4 N4 φ4 ψ4 a4 g4 => h .next m h4 tk4 N4 φ4 ψ4 a4 (((g1.trans g2).trans g3).trans g4) .next
theorem LR.set2 {nf : Nat → Str} {cs : Scope} {cl : List (Str × Addr)} (inj : ∀ x y, nf x = nf y → x = y) {m : Str → Option Value} {N : Led} {φ : List Addr} {ρ : Loc} {x y : Nat} {u v : Value} {a b : AV} (l : LR nf cs cl m N φ ρ) (hn : x ≠ y) (hcx : cs.names.lookup (nf x) = some .local) (hcy : cs.names.lookup (nf y) = some .local) (hu : VR nf N φ u a) (hv : VR nf N φ v b) :
    LR nf cs cl (fun z => if z = nf x then some u else (fun z => if z = nf y then some v else m z) z) N φ (setL y b (setL x a ρ)) := fun z e h => by
  have q := ((l.set inj hcx hu).set inj hcy hv) z e h
  obtain ⟨w, hw, r⟩ := q
  refine ⟨w, ?_, r⟩
  unfold VarIs at hw ⊢
  split
  · rename_i hc
    rw [if_pos hc] at hw
    exact hw
  · rename_i hc
    rw [if_neg hc] at hw
    rw [← hw]
    show (if nf z = nf x then some u else if nf z = nf y then some v else m (nf z)) = if nf z = nf y then some v else if nf z = nf x then some u else m (nf z)
    by_cases h1 : nf z = nf x
    · rw [if_pos h1, if_pos h1, if_neg fun h2 => hn (inj _ _ (h1.symm.trans h2))]
    · rw [if_neg h1, if_neg h1]
theorem st_tup (lk : Lk W) (g : GOk W G sc d) {k : Nat} {e : Expr} {x x' : Nat} {y : X Nat} {p q q1 q2 : Pos} {j : Nat} {u v : AV} {H1 : AH} (hy : er k e = X.put W.nf k y) (hs : sc.lookup x = some .local) (hs' : sc.lookup x' = some .local) (he : swappedStores [.Tuple [.Name (W.nf x) q1, .Name (W.nf x') q2] j q] e G.env = pure none)
    (ih : EvOk W G (eval e G.env) ρ H (.tup [u, v]) H1) :
    ExOk W G (exec (.Assign [.Tuple [.Name (W.nf x) q1, .Name (W.nf x') q2] j q] e p) G.env) ρ H .next (setL x' v (setL x u ρ)) H1 := by
  intro m s N φ ψ Q E a h
  refine Assign_Tuple (ih m s N φ ψ _ E a fun w' h1 tk N1 φ1 ψ1 a1 g1 v1 => ?_) (by unfold swapsWithSole; exact noSwap hy) he
  cases v1 with
  | tup hm hvs =>
    cases hvs with
    | cons hu r =>
      cases r with
      | cons hv r =>
        cases r
        rename_i q0 u' v'
        refine unpackN_ a1.F a1.nw ⟨_, (a1.nw _ hm).1, rfl, 0, rfl⟩ rfl rfl rfl fun h2 F2 N2 => ?_
        refine wpAny_bind (wpAny_holding (wpAny_assign_Name (storeX_L F2 N2 (fun h3 F3 N3 => ?_) g.hk ((g.ks x).trans hs))))
        refine wpAny_bind (wpAny_holding (wpAny_assign_Name (storeX_L F3 N3 (fun h4 F4 N4 => ?_) g.hk ((g.ks x').trans hs'))))
        exact wpAny_pure (h .next _ h4 _ N1 φ1 ψ1 ⟨F4, N4, a1.R, (a1.L.set lk.inj ((g.ks x).trans hs) hu).set lk.inj ((g.ks x').trans hs') hv⟩ g1 .next)
theorem st_aug (lk : Lk W) (ls : LkS W) (g : GOk W G sc d) {e : Expr} {x : Nat} {p q : Pos} {op : Operator} {u r v : AV} {H1 : AH} (hs : sc.lookup x = some .local) (hx : lookN x ρ = some u) (ih : EvOk W G (eval e G.env) ρ H r H1) (hg : Mine.augOp op u r = some v) :
    ExOk W G (exec (.AugAssign (.Name (W.nf x) q) op e p) G.env) ρ H .next (setL x v ρ) H1 := by
  intro m s N φ ψ Q E a h
  obtain ⟨u', hu', ru⟩ := a.L x u hx
  refine wpAny_AugAssign_Name ?_
  refine wpAny_loadName_local (env := G.env) g.hk ((g.ks x).trans hs) a.F.ns (hu'.local ((g.ks x).trans hs)) ?_
  refine ih m s N φ ψ _ E a fun w' h1 tk N1 φ1 ψ1 a1 g1 v1 => ?_
  refine a1.iop (ru.mono g1) v1 hg fun w2 h2 tk2 N2 φ2 ψ2 a2 g2 v2 => ?_
  exact storeX_L a2.F a2.nw (fun h' F' N' => h .next _ h' _ N2 φ2 ψ2 ⟨F', N', a2.R, a2.L.set lk.inj ((g.ks x).trans hs) v2⟩ (g1.trans g2) .next) g.hk ((g.ks x).trans hs)
theorem st_augAtt (lk : Lk W) (lc : LkC W) (ls : LkS W) (g : GOk W G sc d) {e o : Expr} {x : Nat} {p q : Pos} {op : Operator} {y u r v : AV} {H1 H2 H3 : AH} (i1 : EvOk W G (eval o G.env) ρ H y H1) (h0 : getAt Tb H1 y x = some u) (i2 : EvOk W G (eval e G.env) ρ H1 r H2)
    (hg : Mine.augOp op u r = some v) (h3 : Mine.setAt Tb H2 y x v = some H3) : ExOk W G (exec (.AugAssign (.Attribute o (W.nf x) q) op e p) G.env) ρ H .next ρ H3 := by
  intro m s N φ ψ Q E a h
  refine wpAny_AugAssign_AttributeAny (i1 m s N φ ψ _ E a fun w1 h1 tk N1 φ1 ψ1 a1 g1 v1 => ?_)
  refine At.attr lk lc g a1 v1 h0 fun w2 h2 tk2 N2 φ2 ψ2 a2 g2 v2 => ?_
  refine i2 m _ N2 φ2 ψ2 _ E a2 fun w3 h3' tk3 N3 φ3 ψ3 a3 g3 v3 => ?_
  refine a3.iop (v2.mono g3) v3 hg fun w4 h4 tk4 N4 φ4 ψ4 a4 g4 v4 => ?_
  exact At.setAttr lk lc g a4 (((v1.mono g2).mono g3).mono g4) v4 h3 fun h5 tk5 N5 φ5 ψ5 a5 g5 => h .next m h5 tk5 N5 φ5 ψ5 a5 ((((g1.trans g2).trans g3).trans g4).trans g5) .next
theorem st_whl {c : Expr} {b : List Stmt} {p : Pos} {fl : Fl} {ρ2 : Loc} {H2 : AH}
    (ih : ∀ (m : Str → Option Value) (s : Shared) N φ ψ (Q : Flow → Shared → Prop), At W G m s.heap N φ ψ H ρ → (∀ f m' h tk N' φ' ψ', At W G m' h N' φ' ψ' H2 ρ2 → Ge N φ N' φ' → FlR W.nf N' φ' f fl → Q f (up s h tk)) → WhlRest W.prog W.w G.A (fun _ _ => False) G.env c b [] Q 0 s) :
    ExOk W G (exec (.While c b [] p) G.env) ρ H fl ρ2 H2 := by
  intro m s N φ ψ Q E a h
  exact wpAny_noRaise (whl_start 0 (ih m s N φ ψ Q a h))
end

/-! calls in an expression -/
structure LkF (W : Wd) : Prop where
  fn : ∀ i f, Tb.fn i = some f → FnAt W.K W.nf (W.fa i) f ∧ keepIn W.K (.ref (W.fa i)) = true ∧ isFn W.K (.ref (W.fa i)) = true
  call : ∀ x i, Tb.call x = some (.fn i) → nsIn W.K mainGlobals (W.nf x) = some (some (.ref (W.fa i)))
  meth : ∀ c x i, Tb.meth c x = some i → plainGet W.K (W.ca c) (W.nf x) = true ∧ findIn W.K (.ref (W.ca c)) (W.nf x) = some (some (.ref (W.fa i)))
  bm : W.nf 0 = Str.ofString "append" ∧ W.nf 1 = Str.ofString "pop" ∧ W.nf 2 = Str.ofString "insert" ∧ W.nf 3 = Str.ofString "extend" ∧ W.nf 4 = Str.ofString "get" ∧ W.nf 5 = Str.ofString "add" ∧ W.nf 6 = Str.ofString "discard"
section
variable {W : Wd} {G : Gd} {sc : Sc} {d : Nat} {ρ : Loc} {H : AH}
/-- arguments, and then what is done with them -/
theorem with_args {k : Nat} {p : Pos} {es : List Expr} {l : List (X Nat)} {i : Nat} {f : Fn} (lf : LkF W) (g : GOk W G sc d) (hf : Tb.fn i = some f) (hl : es.map (er k) = l.map (X.put W.nf k)) {vs : List AV} {H1 H2 : AH} {r : AV} (first : List Value) (fd : List AV) (h0 : es = [] → vs = [] ∧ H1 = H)
    (ih : EvsOk W G (spliced (backTo p (starEach es G.env))) ρ H vs H1) (ic : CallOk W G i (fd ++ vs) H1 r H2) : ∀ m s N φ ψ (Q E : Value → Shared → Prop), At W G m s.heap N φ ψ H ρ → All2 (VR W.nf N φ) first fd →
      (∀ v h tk N' φ' ψ', At W G m h N' φ' ψ' H2 ρ → Ge N φ N' φ' → VR W.nf N' φ' v r → Q v (up s h tk)) → wpAny (model W.prog W.w) G.A (callWith p (.ref (W.fa i)) first (backTo p (starEach es G.env)) []) Q E s := by
  intro m s N φ ψ Q E a hfd h
  obtain ⟨_, kp, _⟩ := lf.fn i f hf
  have run : ∀ vs' h1 tk N1 φ1 ψ1, At W G m h1 N1 φ1 ψ1 H1 ρ → Ge N φ N1 φ1 → All2 (VR W.nf N1 φ1) vs' vs → wpAny (model W.prog W.w) G.A (call (.ref (W.fa i)) (first ++ vs')) Q E (up s h1 tk) := fun vs' h1 tk N1 φ1 ψ1 a1 g1 v1 =>
    wpAny_call (ic m (up s h1 tk) N1 φ1 ψ1 ρ (first ++ vs') _ a1 ((VRs.mono hfd g1).append v1) fun v h2 tk2 N2 φ2 ψ2 a2 g2 v2 _ => h v h2 tk2 N2 φ2 ψ2 a2 (g1.trans g2) v2)
  cases es with
  | nil =>
    refine callWith_K0 (g.X.keeps a.F.keep) kp ?_
    obtain ⟨rfl, rfl⟩ := h0 rfl
    exact run [] s.heap s.toks N φ ψ a (Ge.refl _ _) .nil
  | cons e es =>
    obtain ⟨x, r', rfl, h1, h2⟩ := er_star hl
    refine callWith_K g.X kp (ih m s N φ ψ _ E a fun vs' h1 tk N1 φ1 ψ1 a1 g1 v1 => ⟨g.X.keeps a1.F.keep, run vs' h1 tk N1 φ1 ψ1 a1 g1 v1⟩) (noStar h1 (put_bad x)) (noStars h2 p)
theorem ok_fn (lk : Lk W) (lf : LkF W) (g : GOk W G sc d) {k : Nat} {p q : Pos} {x : Nat} {es : List Expr} {l : List (X Nat)} {i : Nat} {f : Fn} (hs : sc.lookup x = some .globalImplicit) (hc : Tb.call x = some (.fn i)) (hf : Tb.fn i = some f) (hl : es.map (er k) = l.map (X.put W.nf k)) {vs : List AV} {H1 H2 : AH} {r : AV} (h0 : es = [] → vs = [] ∧ H1 = H)
    (ih : EvsOk W G (spliced (backTo p (starEach es G.env))) ρ H vs H1) (ic : CallOk W G i vs H1 r H2) : EvOk W G (eval (.Call (.Name (W.nf x) q) es [] p) G.env) ρ H r H2 := by
  intro m s N φ ψ Q E a h
  refine Call_ ?_
  refine nameX_K a.F g.X (topRead_of g.T) (lf.call x i hc) ?_ g.hk ((g.ks x).trans hs) (lk.dbg x)
  exact with_args lf g hf hl [] [] h0 ih ic m s N φ ψ Q E a .nil h
theorem meth_eq {o : Expr} {name : Str} {apos pos : Pos} {args : List Expr} {env : Env} (ho : attributeBase o name env (eval o env) = eval o env) (hf : ((backTo pos (starEach args env)).any fun x => x.1) = false) (hn : args.length < 30) (hp : (apos.endLine == pos.line) = true) :
    eval (.Call (.Attribute o name apos) args [] pos) env = (do
      let ov ← eval o env
      standAt apos.atName
      let (f, first) ← holding [ov] (getMethod ov name (do return (← importBound o env).getD true))
      callWith pos f first (backTo pos (starEach args env)) []) := by
  show (attributeBase o name env (eval o env) >>= fun ov => do
    standAt apos.atName
    methodCall o name apos pos env ov (args.length + ([] : List Keyword).length) (backTo pos (starEach args env)) (backToKw pos (keywordEach [] env))) = _
  rw [ho]
  have hm : methodCallForm (args.length + ([] : List Keyword).length) (backTo pos (starEach args env)) (backToKw pos (keywordEach [] env)) = true := by
    unfold methodCallForm
    have h1 : (backTo pos (starEach args env)).all (fun x => !x.1) = true := by
      rw [List.all_eq_true]
      intro x hx
      have := List.any_eq_false.mp hf x hx
      simpa using this
    rw [h1]
    show (true && true && decide (args.length + 0 + 0 < 30)) = true
    rw [decide_eq_true (by (first | lia | omega))]; rfl
  unfold methodCall calleeOf methodCallPos
  rw [hm, hp]
  rfl
/-- a method of an object's class -/
theorem ok_meth (lk : Lk W) (lf : LkF W) (g : GOk W G sc d) {k k' : Nat} {p q : Pos} {x : Nat} {o : Expr} {y : X Nat} {es : List Expr} {l : List (X Nat)} {i c a0 : Nat} {f : Fn} {al : List (Nat × AV)} (hy : er k' o = X.put W.nf k' y) (hb : y.plainB = true) (hn : es.length < 20) (hq : (q.endLine == p.line) = true)
    (hl : es.map (er k) = l.map (X.put W.nf k)) {vs : List AV} {H1 H2 H3 : AH} {r : AV} (i1 : EvOk W G (eval o G.env) ρ H (.obj a0) H1) (ho : H1[a0]? = some (.inst c al)) (hal : lookN x al = none) (hm : Tb.meth c x = some i) (hf : Tb.fn i = some f) (h0 : es = [] → vs = [] ∧ H2 = H1)
    (ih : EvsOk W G (spliced (backTo p (starEach es G.env))) ρ H1 vs H2) (ic : CallOk W G i (.obj a0 :: vs) H2 r H3) : EvOk W G (eval (.Call (.Attribute o (W.nf x) q) es [] p) G.env) ρ H r H3 := by
  intro m s N φ ψ Q E a h
  refine MethodCall_ (i1 m s N φ ψ _ E a fun v h1 tk N1 φ1 ψ1 a1 g1 v1 => ?_) (meth_eq (attr_eq (p := q) hy hb) (noStars hl p) (by (first | lia | omega)) hq)
  cases v1 with
  | obj ha =>
    obtain ⟨a', μ, ha', hμ, ents, kk, m1, m2, hes⟩ := a1.R.at ho
    rw [ha] at ha'; cases ha'
    obtain ⟨e1, e2⟩ := getL_none hes (fun y e => lk.inj y x e) hal
    obtain ⟨p1, p2⟩ := lf.meth c x i hm
    refine method_inst a1.F g.X (InstAt.of_news a1.nw m1 m2) p1 p2 (lf.fn i f hf).2.2 ?_ ?_
    · unfold getL; rw [e1, e2]; rfl
    · exact with_args lf g hf hl [_] [.obj a0] h0 ih ic m (up s h1 tk) N1 φ1 ψ1 Q E a1 (.one (.obj ha)) fun v h2 tk2 N2 φ2 ψ2 a2 g2 v2 => h v h2 tk2 N2 φ2 ψ2 a2 (g1.trans g2) v2
/-! built-in methods -/
theorem with_bargs {k : Nat} {p : Pos} {es : List Expr} {l : List (X Nat)} {id : String} (hl : es.map (er k) = l.map (X.put W.nf k)) {vs : List AV} {H1 : AH} (first : List Value) (h0 : es = [] → vs = [] ∧ H1 = H)
    (ih : EvsOk W G (spliced (backTo p (starEach es G.env))) ρ H vs H1) : ∀ m s N φ ψ (Q E : Value → Shared → Prop), At W G m s.heap N φ ψ H ρ →
      (∀ us h tk N' φ' ψ', At W G m h N' φ' ψ' H1 ρ → Ge N φ N' φ' → All2 (VR W.nf N' φ') us vs → wpAny (model W.prog W.w) G.A (call (.builtin id) (first ++ us)) Q E (up s h tk)) →
      wpAny (model W.prog W.w) G.A (callWith p (.builtin id) first (backTo p (starEach es G.env)) []) Q E s := by
  intro m s N φ ψ Q E a h
  cases es with
  | nil =>
    obtain ⟨rfl, rfl⟩ := h0 rfl
    refine callWith_method0 ?_
    have := h [] s.heap s.toks N φ ψ a (Ge.refl _ _) .nil
    rw [List.append_nil] at this
    exact this
  | cons e es =>
    obtain ⟨x, r', rfl, h1, h2⟩ := er_star hl
    exact callWith_method1 (ih m s N φ ψ _ E a h) (noStar h1 (put_bad x)) (noStars h2 p)
noncomputable def bmKind : Bm → String
  | .append => "list" | .pop => "list" | .insert => "list" | .extend => "list" | .get => "dict" | .add => "set" | .discard => "set"
noncomputable def bmId : Bm → String
  | .append => "list.append" | .pop => "list.pop" | .insert => "list.insert" | .extend => "list.extend" | .get => "dict.get" | .add => "set.add" | .discard => "set.discard"
noncomputable def bmNum : Bm → Nat
  | .append => 0 | .pop => 1 | .insert => 2 | .extend => 3 | .get => 4 | .add => 5 | .discard => 6
theorem bmOf_num {x : Nat} {b : Bm} (h : bmOf x = some b) : x = bmNum b := by
  unfold bmOf at h
  split at h <;> first | (cases h; rfl) | cases h
theorem At.bmL {m : Str → Option Value} {s : Shared} {N : Led} {φ ψ : List Addr} {a i : Nat} {l : List AV} {id : String} {name : Str} {pl : Sem Bool} {Q : Value × List Value → Shared → Prop} {E : Value → Shared → Prop} (t : At W G m s.heap N φ ψ H ρ) (ho : H[i]? = some (.list l)) (ha : φ[i]? = some a) (slot : Slot "list" name id) (hty : typeOf (.builtin id) = pure (.type "method_descriptor"))
    (h : Q (.builtin id, [.ref a]) s) : wpAny (model W.prog W.w) G.A (getMethod (.ref a) name pl) Q E s :=
  t.R.listE ha ho fun _ vs n hm _ => getMethod_builtin ⟨_, (t.nw _ hm).1, rfl⟩ F.plainAttrs_list slot hty (fun a e => by cases e; exact ⟨_, (t.nw _ hm).1, rfl⟩) h
/-- the object is of the kind that has the method -/
theorem At.bm (lf : LkF W) {m : Str → Option Value} {s : Shared} {N : Led} {φ ψ : List Addr} {a i x : Nat} {o : AO} {b : Bm} {pl : Sem Bool} {Q : Value × List Value → Shared → Prop} {E : Value → Shared → Prop} (t : At W G m s.heap N φ ψ H ρ) (ho : H[i]? = some o) (ha : φ[i]? = some a) (hx : bmOf x = some b) (hk : bmHas b o = true)
    (h : Q (.builtin (bmId b), [.ref a]) s) : wpAny (model W.prog W.w) G.A (getMethod (.ref a) (W.nf x) pl) Q E s := by
  obtain ⟨b0, b1, b2, b3, b4, b5, b6⟩ := lf.bm
  rw [bmOf_num hx]
  clear hx
  cases b with
  | append => cases o with
    | list l => exact t.bmL ho ha (b0 ▸ F.slot_list_append) F.type_list_append h
    | _ => cases hk
  | pop => cases o with
    | list l => exact t.bmL ho ha (b1 ▸ F.slot_list_pop) F.type_list_pop h
    | _ => cases hk
  | insert => cases o with
    | list l => exact t.bmL ho ha (b2 ▸ F.slot_list_insert) F.type_list_insert h
    | _ => cases hk
  | extend => cases o with
    | list l => exact t.bmL ho ha (b3 ▸ F.slot_list_extend) F.type_list_extend h
    | _ => cases hk
  | get => cases o with
    | dict l lk => exact t.R.dictE ha ho fun _ ns o kvs hm hd _ _ => b4 ▸ kdg_method t.nw hm hd h
    | _ => cases hk
  | add => cases o with
    | set f => obtain ⟨o', hm, hS⟩ := t.set ho ha; exact b5 ▸ getMethod_set_add hS h
    | _ => cases hk
  | discard => cases o with
    | set f => obtain ⟨o', hm, hS⟩ := t.set ho ha; exact b6 ▸ getMethod_builtin hS.typeIs F.plainAttrs_set F.slot_set_discard F.type_set_discard hS.noDict h
    | _ => cases hk
end

/-! what the built-in methods do -/
theorem five {k : Int} (h : 0 ≤ k ∧ k < 5) : k = 0 ∨ k = 1 ∨ k = 2 ∨ k = 3 ∨ k = 4 := by (first | lia | omega)
noncomputable def upd (f : Int → Bool) (k : Int) : Int → Bool := fun y => f y || decide (y = k)
noncomputable def del (f : Int → Bool) (k : Int) : Int → Bool := fun y => f y && !decide (y = k)
noncomputable def cnt : List Bool → Nat
  | [] => 0
  | b :: l => bif b then cnt l + 1 else cnt l
theorem cnt_eq (f : Int → Bool) : ∀ l : List Int, (l.filter f).length = cnt (l.map f)
  | [] => rfl
  | a :: l => by
    rw [List.filter_cons, List.map_cons]
    unfold cnt
    cases f a with
    | true => exact congrArg (· + 1) (cnt_eq f l)
    | false => exact cnt_eq f l
theorem tab_upd : ∀ b0 b1 b2 b3 b4 : Bool, ∀ i : Fin 5, cnt [b0 || decide (0 = i), b1 || decide (1 = i), b2 || decide (2 = i), b3 || decide (3 = i), b4 || decide (4 = i)] = if [b0, b1, b2, b3, b4][i] = true then cnt [b0, b1, b2, b3, b4] else cnt [b0, b1, b2, b3, b4] + 1 := by decide
theorem tab_del : ∀ b0 b1 b2 b3 b4 : Bool, ∀ i : Fin 5, cnt [b0 && !decide (0 = i), b1 && !decide (1 = i), b2 && !decide (2 = i), b3 && !decide (3 = i), b4 && !decide (4 = i)] = if [b0, b1, b2, b3, b4][i] = true then cnt [b0, b1, b2, b3, b4] - 1 else cnt [b0, b1, b2, b3, b4] := by decide
theorem card5_upd {f : Int → Bool} {k : Int} (h : 0 ≤ k ∧ k < 5) : card5 (upd f k) = if f k = true then card5 f else card5 f + 1 := by
  unfold card5
  rw [cnt_eq, cnt_eq]
  rcases five h with rfl | rfl | rfl | rfl | rfl
  · exact tab_upd (f 0) (f 1) (f 2) (f 3) (f 4) 0
  · exact tab_upd (f 0) (f 1) (f 2) (f 3) (f 4) 1
  · exact tab_upd (f 0) (f 1) (f 2) (f 3) (f 4) 2
  · exact tab_upd (f 0) (f 1) (f 2) (f 3) (f 4) 3
  · exact tab_upd (f 0) (f 1) (f 2) (f 3) (f 4) 4
theorem card5_del {f : Int → Bool} {k : Int} (h : 0 ≤ k ∧ k < 5) : card5 (del f k) = if f k = true then card5 f - 1 else card5 f := by
  unfold card5
  rw [cnt_eq, cnt_eq]
  rcases five h with rfl | rfl | rfl | rfl | rfl
  · exact tab_del (f 0) (f 1) (f 2) (f 3) (f 4) 0
  · exact tab_del (f 0) (f 1) (f 2) (f 3) (f 4) 1
  · exact tab_del (f 0) (f 1) (f 2) (f 3) (f 4) 2
  · exact tab_del (f 0) (f 1) (f 2) (f 3) (f 4) 3
  · exact tab_del (f 0) (f 1) (f 2) (f 3) (f 4) 4
section
variable {prog : Program} {w : World} {A : Around} {E : Value → Shared → Prop} {s : Shared} {a : Addr} {S : Int → Bool} {k : Int} {t : Nat}
theorem nodup5 {es : List (Int × Value)} (hel : ElemsOf (intKind prog w) es) (hm : ∀ k, S k = true ↔ ∃ e ∈ es, (intKind prog w).is k e.2 = true) (hc : es.length = card5 S) {i : Nat} (hi : i < es.length) {k : Int} (hk : (intKind prog w).is k (es[i]).2 = true) :
    ∀ e ∈ es.eraseIdx i, (intKind prog w).is k e.2 = false := by
  intro e he
  cases hq : (intKind prog w).is k e.2 with
  | false => rfl
  | true =>
    exfalso
    have := cover_le (R := fun k (e : Int × Value) => (intKind prog w).is k e.2 = true) (fun a b e h1 h2 => (intKind prog w).inj e.2 a b h1 h2) ([0, 1, 2, 3, 4].filter S) (es.eraseIdx i) (List.Sublist.nodup List.filter_sublist (by decide)) (fun j hj => by
      have hS := (List.mem_filter.mp hj).2
      obtain ⟨e', he', hj'⟩ := (hm j).mp hS
      obtain ⟨n, hn, rfl⟩ := List.mem_iff_getElem.mp he'
      by_cases hni : n = i
      · subst hni
        have : j = k := (intKind prog w).inj _ _ _ hj' hk
        subst this
        exact ⟨e, he, hq⟩
      · exact ⟨es[n], List.mem_eraseIdx_iff_getElem.mpr ⟨n, hn, hni, rfl⟩, hj'⟩)
    have h2 := List.length_eraseIdx_of_lt hi
    unfold card5 at hc
    (first | lia | omega)

theorem eraseAt_toList {α : Type} (xs : Array α) (i : Nat) : (SetTable.eraseAt xs i).toList = xs.toList.eraseIdx i := by
  unfold SetTable.eraseAt
  rw [List.eraseIdx_eq_take_drop_succ]
  simp [List.extract_eq_take_drop, List.take_of_length_le]
theorem drop_fits {tb : SetTable} {n i : Nat} (h : tb.fits n = true) (hi : i < n) : (tb.drop i).fits (n - 1) = true := by
  simp only [SetTable.fits, Bool.and_eq_true, beq_iff_eq, decide_eq_true_eq] at h
  unfold SetTable.fill at h
  obtain ⟨j, hj⟩ : ∃ j, tb.place[i]? = some j := ⟨_, Array.getElem?_eq_getElem (by (first | lia | omega))⟩
  have e : tb.drop i = { tb with place := SetTable.eraseAt tb.place i, dummies := SetTable.insertAt tb.dummies (SetTable.below tb.dummies j) j } := by
    unfold SetTable.drop
    rw [hj]
  have h1 : (SetTable.eraseAt tb.place i).size = n - 1 := by rw [← Array.length_toList, eraseAt_toList, List.length_eraseIdx_of_lt (by simp; (first | lia | omega))]; simp; (first | lia | omega)
  have h2 : (SetTable.insertAt tb.dummies (SetTable.below tb.dummies j) j).size = tb.dummies.size + 1 := by
    rw [← Array.length_toList, (SetTable.insertAt_perm _ _ _).length_eq]; simp
  rw [e]
  simp only [SetTable.fits, Bool.and_eq_true, beq_iff_eq, decide_eq_true_eq]
  unfold SetTable.fill
  simp only [h1, h2]
  exact ⟨trivial, by (first | lia | omega)⟩

theorem call_set_discard {o : Obj} {Q : Value → Shared → Prop} (ho : s.heap.get? a = some o) (hs : o.IntSetOf S (card5 S)) (h5 : 0 ≤ k ∧ k < 5)
    (h : ∀ h' o', Heap.SameBut a s.heap h' → h'.get? a = some o' → o'.IntSetOf (del S k) (card5 (del S k)) → Q .none { s with heap := h', toks := s.toks + 1 }) :
    wpAny (model prog w) A (call (.builtin "set.discard") [.ref a, .int k t]) Q E s := by
  obtain ⟨hex, es, ep, tb, hd, hel, hm, hn, hf⟩ := hs prog w
  have hb : es.size < scanBound := by have := card5_le S; have : scanBound = 4096 := rfl; (first | lia | omega)
  refine wpAny_call_entry F.slot_set_discard ⟨o, ho, hex.1⟩ F.entry_set_discard ?_ (F.args_set_discard_2 _ _)
  unfold Builtin.«set.discard» Builtin.Frozenset.oneOther
  simp only [List.isEmpty_nil, bind_assoc]
  unfold Builtin.Frozenset.addrOf Builtin.Frozenset.withSetAsKey setDiscard
  refine wpAny_bind (wpAny_pure ?_)
  try dsimp only
  refine wpAny_bind (wpAny_pure ?_)
  try dsimp only
  refine wpAny_bind (wpAny_tryCatch ?_)
  refine wpAny_holding ?_
  refine wpAny_bind ((intKind prog w).pyHash (intKind_is _ _ _ _) ?_)
  unfold setDiscardHashed
  refine wpAny_bind (setFind_idx (s := { s with toks := s.toks + 1 }) ho hd hf hel hb ?_)
  cases hr : List.findIdx? (fun e => (intKind prog w).is k e.2) es.toList with
  | none =>
    dsimp only
    refine wpAny_pure ?_
    show wpAny _ _ (ret Value.none) _ _ _
    have hSk : S k = false := by
      cases hk : S k with
      | false => rfl
      | true => obtain ⟨e, he, hp⟩ := (hm k).mp hk; have := List.findIdx?_eq_none_iff.mp hr e he; rw [hp] at this; exact Bool.noConfusion this
    have e : del S k = S := by
      funext y
      unfold del
      by_cases hy : y = k
      · subst hy; simp [hSk]
      · simp [hy]
    have := h s.heap o (Heap.SameBut.refl a s.heap) ho (by rw [e]; exact hs)
    exact wpAny_pure ⟨_, rfl, this⟩
  | some i =>
    dsimp only
    obtain ⟨hi, hpi, _⟩ := List.findIdx?_eq_some_iff_getElem.mp hr
    have hSk : S k = true := (hm k).mpr ⟨_, List.getElem_mem hi, hpi⟩
    refine wpAny_bind (wpAny_setState_of (s := { s with toks := s.toks + 1 }) ho hd hf ?_)
    dsimp only
    have hil : i < es.size := by simpa using hi
    have hsz : (SetTable.eraseAt es i).size = es.size - 1 := by rw [← Array.length_toList, eraseAt_toList, List.length_eraseIdx_of_lt hi]; simp
    have hnd := nodup5 hel hm (by simpa using hn) hi hpi
    have hl : ∀ e, e ∈ (SetTable.eraseAt es i).toList → e ∈ es.toList := fun e he => by rw [eraseAt_toList] at he; exact List.mem_of_mem_eraseIdx he
    have hel' : ElemsOf (intKind prog w) (SetTable.eraseAt es i).toList := fun e he => hel e (hl e he)
    have hm' : ∀ y, del S k y = true ↔ ∃ e ∈ (SetTable.eraseAt es i).toList, (intKind prog w).is y e.2 = true := by
      intro y
      unfold del
      rw [Bool.and_eq_true, hm y, eraseAt_toList]
      constructor
      · rintro ⟨⟨e, he, hp⟩, hy⟩
        obtain ⟨n, hn', rfl⟩ := List.mem_iff_getElem.mp he
        have hni : n ≠ i := fun q => by
          subst q
          have : y = k := (intKind prog w).inj _ _ _ hp hpi
          simp [this] at hy
        exact ⟨_, List.mem_eraseIdx_iff_getElem.mpr ⟨n, hn', hni, rfl⟩, hp⟩
      · rintro ⟨e, he, hp⟩
        refine ⟨⟨e, List.mem_of_mem_eraseIdx he, hp⟩, ?_⟩
        have : y ≠ k := fun q => by subst q; rw [hnd e he] at hp; cases hp
        simp [this]
    have hb' : (SetTable.eraseAt es i).size < scanBound := by (first | lia | omega)
    refine wpAny_bind (wpAny_storeSet_of (s := { s with toks := s.toks + 1 }) ho hd ?_ (fits_of_scanBound hb'))
    have hfd : (tb.drop i).fits (SetTable.eraseAt es i).size = true := by rw [hsz]; exact drop_fits hf hil
    obtain ⟨hg, hS'⟩ := SetOf_store (knd := intKind prog w) ho hex hd hel' hm' hb' hfd
    obtain ⟨o', ho', hso⟩ := hS'.objOf
    refine wpAny_bind (wpAny_point (wpAny_pure ?_))
    show wpAny _ _ (ret Value.none) _ _ _
    refine wpAny_pure ⟨_, rfl, h _ o' (Heap.SameBut.update _ a _) ho' ?_⟩
    have : (SetTable.eraseAt es i).size = card5 (del S k) := by rw [card5_del h5, if_pos hSk, hsz, hn]
    rw [← this]
    exact hso.intSetOf
end
section
variable {W : Wd} {G : Gd} {sc : Sc} {d : Nat} {ρ : Loc} {H : AH}
theorem At.append {m : Str → Option Value} {s : Shared} {N : Led} {φ ψ : List Addr} {a i : Nat} {l : List AV} {u : Value} {r : AV} {Q E : Value → Shared → Prop} (t : At W G m s.heap N φ ψ H ρ) (ho : H[i]? = some (.list l)) (ha : φ[i]? = some a) (hz : l.length < 1000000) (hu : VR W.nf N φ u r)
    (h : ∀ v h tk N' φ' ψ', At W G m h N' φ' ψ' (H.set i (.list (l ++ [r]))) ρ → Ge N φ N' φ' → VR W.nf N' φ' v .none → Q v (up s h tk)) : wpAny (model W.prog W.w) G.A (call (.builtin "list.append") [.ref a, u]) Q E s := by
  refine t.R.listE ha ho fun hμ vs n hm hvs => ?_
  have hl := hvs.length
  have z := t.nw _ hm
  refine append_at (hsz := by rw [List.size_toArray, sizeLine_eq]; (first | lia | omega)) z.1 fun h' hs ho' => ?_
  simp only [List.push_toArray] at ho'
  obtain ⟨R', ge⟩ := t.R.upd (O := .list (l ++ [r])) (o' := listOf (vs ++ [u]).toArray (n + 1)) ho ha hμ fixed_list (fun _ _ e => by cases e) (fun ge => ⟨rfl, _, _, setAll_self hm, (VRs.mono hvs ge).append (.one (hu.mono ge))⟩)
  exact h .none h' _ _ φ ψ ⟨t.F.change hs z.2.1 z.2.2, news_setAll t.nw hm hs ho', R', t.L.mono ge⟩ ge .none
theorem At.pop {m : Str → Option Value} {s : Shared} {N : Led} {φ ψ : List Addr} {a i : Nat} {l : List AV} {r : AV} {Q E : Value → Shared → Prop} (t : At W G m s.heap N φ ψ H ρ) (ho : H[i]? = some (.list (l ++ [r]))) (ha : φ[i]? = some a) (hz : (l ++ [r]).length ≤ 1000000)
    (h : ∀ v h tk N' φ' ψ', At W G m h N' φ' ψ' (H.set i (.list l)) ρ → Ge N φ N' φ' → VR W.nf N' φ' v r → Q v (up s h tk)) : wpAny (model W.prog W.w) G.A (call (.builtin "list.pop") [.ref a]) Q E s := by
  refine t.R.listE ha ho fun hμ us n hm hus => ?_
  have hl := hus.length
  obtain ⟨its, v, rfl, hits, hv⟩ := hus.snocR
  have z := t.nw _ hm
  have hk : (its ++ [v]).toArray.size - 1 = its.length := by rw [List.size_toArray, List.length_append]; rfl
  have hy : (its ++ [v]).toArray[(its ++ [v]).toArray.size - 1]? = some v := by rw [hk]; simp
  have he : (its ++ [v]).toArray.eraseIdxIfInBounds ((its ++ [v]).toArray.size - 1) = its.toArray := by rw [hk, kl_erase, List.append_nil]
  have hs := Heap.SameBut.update s.heap a (Obj.mapSeq fun xs => xs.eraseIdxIfInBounds ((its ++ [v]).toArray.size - 1))
  have q := PySem.IsL.update z.1 (fun xs : Array Value => xs.eraseIdxIfInBounds ((its ++ [v]).toArray.size - 1))
  rw [he, if_neg (by simp)] at q
  obtain ⟨R', ge⟩ := t.R.upd (O := .list l) (o' := listOf its.toArray (n + 1)) ho ha hμ fixed_list (fun _ _ e => by cases e) (fun ge => ⟨rfl, _, _, setAll_self hm, VRs.mono hits ge⟩)
  exact call_meets PySem.F.slot_list_pop ⟨_, z.1, rfl⟩ PySem.F.entry_list_pop (PySem.F.args_list_pop_1 _) (PySem.MeetsSeq.list_pop_last a _ n v hy (by rw [List.size_toArray, sizeLine_eq]; (first | lia | omega))) ⟨z.1, h v _ s.toks _ φ ψ ⟨t.F.change hs z.2.1 z.2.2, news_setAll t.nw hm hs q, R', t.L.mono ge⟩ ge (hv.mono ge)⟩
theorem At.get {m : Str → Option Value} {s : Shared} {N : Led} {φ ψ : List Addr} {a i : Nat} {l : List (Int × AV)} {lk : Bool} {k : Int} {tk : Nat} {u : Value} {r : AV} {Q E : Value → Shared → Prop} (t : At W G m s.heap N φ ψ H ρ) (ho : H[i]? = some (.dict l lk)) (ha : φ[i]? = some a) (hu : VR W.nf N φ u r)
    (h : ∀ v h tk N' φ' ψ', At W G m h N' φ' ψ' H ρ → Ge N φ N' φ' → VR W.nf N' φ' v ((lookI k l).getD r) → Q v (up s h tk)) : wpAny (model W.prog W.w) G.A (call (.builtin "dict.get") [.ref a, .int k tk, u]) Q E s := by
  obtain ⟨a', μ, ha', hμ, rfl, ns, o, kvs, hm, hd, hlk, hkv⟩ := t.R.at ho
  rw [ha] at ha'; cases ha'
  refine kdg_get2 (knd := intKind _ _) t.nw hm hd ns (intKind_is _ _ _ _) _ rfl (h _ s.heap _ N φ ψ t (Ge.refl _ _) ?_)
  rcases valueAt_look hkv with ⟨e1, e2⟩ | ⟨v, d, e1, e2, hv⟩
  · rw [e1, e2]; exact hu
  · rw [e1, e2]; exact hv
theorem At.sadd {m : Str → Option Value} {s : Shared} {N : Led} {φ ψ : List Addr} {a i : Nat} {f : Int → Bool} {k : Int} {tk : Nat} {Q E : Value → Shared → Prop} (t : At W G m s.heap N φ ψ H ρ) (ho : H[i]? = some (.set f)) (ha : φ[i]? = some a) (h5 : 0 ≤ k ∧ k < 5)
    (h : ∀ v h tk N' φ' ψ', At W G m h N' φ' ψ' (H.set i (.set fun y => f y || decide (y = k))) ρ → Ge N φ N' φ' → VR W.nf N' φ' v .none → Q v (up s h tk)) : wpAny (model W.prog W.w) G.A (call (.builtin "set.add") [.ref a, .int k tk]) Q E s := by
  obtain ⟨a', μ, ha', hμ, rfl, ⟨o, hm, hso⟩, hf⟩ := t.R.at ho
  rw [ha] at ha'; cases ha'
  have z := t.nw _ hm
  have hS := (hso W.prog W.w).setOf z.1 (by have := card5_le f; have : scanBound = 4096 := rfl; (first | lia | omega))
  refine call_set_add (intKind_is _ _ _ _) rfl hS (by have := card5_le f; have : scanBound = 4096 := rfl; (first | lia | omega)) fun h' hsb hS' => ?_
  obtain ⟨o', ho', hso'⟩ := hS'.objOf
  have e : card5 (upd f k) = if f k = true then card5 f else card5 f + 1 := card5_upd h5
  have hi : o'.IntSetOf (fun y => f y || decide (y = k)) (card5 fun y => f y || decide (y = k)) := by
    show o'.IntSetOf (upd f k) (card5 (upd f k))
    rw [e]; exact hso'.intSetOf
  obtain ⟨R', ge⟩ := t.R.upd (O := .set fun y => f y || decide (y = k)) (o' := o') ho ha hμ (set_cls W.prog W.w hi) (fun _ _ e => by cases e) (fun ge => ⟨rfl, ⟨_, setAll_self hm, hi⟩, fun y hy => by
    rcases Bool.or_eq_true_iff.mp hy with q | q
    · exact hf y q
    · rw [of_decide_eq_true q]; exact h5⟩)
  exact h .none h' _ _ φ ψ ⟨t.F.change hsb z.2.1 z.2.2, news_setAll t.nw hm hsb ho', R', t.L.mono ge⟩ ge .none
theorem At.sdis {m : Str → Option Value} {s : Shared} {N : Led} {φ ψ : List Addr} {a i : Nat} {f : Int → Bool} {k : Int} {tk : Nat} {Q E : Value → Shared → Prop} (t : At W G m s.heap N φ ψ H ρ) (ho : H[i]? = some (.set f)) (ha : φ[i]? = some a) (h5 : 0 ≤ k ∧ k < 5)
    (h : ∀ v h tk N' φ' ψ', At W G m h N' φ' ψ' (H.set i (.set fun y => f y && !decide (y = k))) ρ → Ge N φ N' φ' → VR W.nf N' φ' v .none → Q v (up s h tk)) : wpAny (model W.prog W.w) G.A (call (.builtin "set.discard") [.ref a, .int k tk]) Q E s := by
  obtain ⟨a', μ, ha', hμ, rfl, ⟨o, hm, hso⟩, hf⟩ := t.R.at ho
  rw [ha] at ha'; cases ha'
  have z := t.nw _ hm
  refine call_set_discard z.1 hso h5 fun h' o' hsb ho' hi => ?_
  obtain ⟨R', ge⟩ := t.R.upd (O := .set fun y => f y && !decide (y = k)) (o' := o') ho ha hμ (set_cls W.prog W.w hi) (fun _ _ e => by cases e) (fun ge => ⟨rfl, ⟨_, setAll_self hm, hi⟩, fun y hy => hf y (Bool.and_eq_true_iff.mp hy).1⟩)
  exact h .none h' _ _ φ ψ ⟨t.F.change hsb z.2.1 z.2.2, news_setAll t.nw hm hsb ho', R', t.L.mono ge⟩ ge .none
theorem At.insert {m : Str → Option Value} {s : Shared} {N : Led} {φ ψ : List Addr} {a i : Nat} {l : List AV} {k : Int} {tk : Nat} {u : Value} {r : AV} {Q E : Value → Shared → Prop} (t : At W G m s.heap N φ ψ H ρ) (ho : H[i]? = some (.list l)) (ha : φ[i]? = some a) (hz : l.length < 1000000) (h0 : 0 ≤ k) (h1 : k ≤ l.length) (hu : VR W.nf N φ u r)
    (h : ∀ v h tk N' φ' ψ', At W G m h N' φ' ψ' (H.set i (.list (l.take k.toNat ++ r :: l.drop k.toNat))) ρ → Ge N φ N' φ' → VR W.nf N' φ' v .none → Q v (up s h tk)) : wpAny (model W.prog W.w) G.A (call (.builtin "list.insert") [.ref a, .int k tk, u]) Q E s := by
  refine t.R.listE ha ho fun hμ vs n hm hvs => ?_
  have hl := hvs.length
  have e : kl_ins vs.toArray.toList k u = vs.take k.toNat ++ u :: vs.drop k.toNat := by
    have hm : min k.toNat vs.toArray.toList.length = k.toNat := by
      show min k.toNat vs.length = k.toNat
      (first | lia | omega)
    unfold kl_ins
    rw [if_neg (by (first | lia | omega)), hm]
  refine kl_insert t.F t.nw ?_ e (upd_of t.R.nd hm) (by rw [sizeLine_eq]; show vs.length ≤ _; (first | lia | omega)) fun h' F' N' => ?_
  · unfold Builtin.List.listFitsIndex
    simp only [Bool.and_eq_true, decide_eq_true_eq]
    (first | lia | omega)
  · obtain ⟨R', ge⟩ := t.R.upd (O := .list (l.take k.toNat ++ r :: l.drop k.toNat)) (o' := listOf (vs.take k.toNat ++ u :: vs.drop k.toNat).toArray (n + 1)) ho ha hμ fixed_list (fun _ _ e => by cases e) (fun ge => ⟨rfl, _, _, setAll_self hm, ((VRs.mono hvs ge).take _).append (.cons (hu.mono ge) ((VRs.mono hvs ge).drop _))⟩)
    exact h .none h' _ _ φ ψ ⟨F', N', R', t.L.mono ge⟩ ge .none
/-- any of them -/
@[elab_as_elim] theorem All2.nilE {α β : Type} {R : α → β → Prop} {l : List α} (h : All2 R l []) {P : List α → Prop} (k : P []) : P l := by cases h; exact k
theorem At.run {m : Str → Option Value} {s : Shared} {N : Led} {φ ψ : List Addr} {a i : Nat} {b : Bm} {us : List Value} {vs : List AV} {r : AV} {H' : AH} {Q E : Value → Shared → Prop} (t : At W G m s.heap N φ ψ H ρ) (ha : φ[i]? = some a) (hu : All2 (VR W.nf N φ) us vs) (hg : BmRun b i vs H r H')
    (h : KV W G m N φ ρ s r H' Q) : wpAny (model W.prog W.w) G.A (call (.builtin (bmId b)) ([.ref a] ++ us)) Q E s := by
  cases hg with
  | append ho hl => exact hu.oneE fun v h1 => t.append ho ha hl h1 h
  | pop ho hl => exact hu.nilE (t.pop ho ha hl h)
  | insert ho hb => exact hu.twoE fun v w h1 h2 => h1.intE fun tk => t.insert ho ha hb.2.2 hb.1 hb.2.1 h2 h
  | get ho => exact hu.twoE fun v w h1 h2 => h1.intE fun tk => t.get ho ha h2 h
  | add ho hk => exact hu.oneE fun v h1 => h1.intE fun tk => t.sadd ho ha hk h
  | discard ho hk => exact hu.oneE fun v h1 => h1.intE fun tk => t.sdis ho ha hk h
end

/-! built-in functions, displays, new instances -/
structure LkB (W : Wd) : Prop where
  len : ∀ x, Tb.call x = some .len → nsIn W.K mainGlobals (W.nf x) = some none ∧ bootBuiltins (W.nf x) = some (.builtin "len") ∧ W.nf x ≠ Str.ofString "__name__"
  tuple : ∀ x, Tb.call x = some .tuple → nsIn W.K mainGlobals (W.nf x) = some none ∧ bootBuiltins (W.nf x) = some (.type "tuple") ∧ W.nf x ≠ Str.ofString "__name__"
  list : ∀ x, Tb.call x = some .list → nsIn W.K mainGlobals (W.nf x) = some none ∧ bootBuiltins (W.nf x) = some (.type "list") ∧ W.nf x ≠ Str.ofString "__name__"
  set : ∀ x, Tb.call x = some .set → nsIn W.K mainGlobals (W.nf x) = some none ∧ bootBuiltins (W.nf x) = some (.type "set") ∧ W.nf x ≠ Str.ofString "__name__"
  cls : ∀ x c, Tb.call x = some (.cls c) → nsIn W.K mainGlobals (W.nf x) = some (some (.ref (W.ca c))) ∧ keepIn W.K (.ref (W.ca c)) = true ∧ makesIn W.K (W.ca c) = true
  init : ∀ c i, Tb.init c = some i → findIn W.K (.ref (W.ca c)) (Str.ofString "__init__") = some (some (.ref (W.fa i)))
section
variable {W : Wd} {G : Gd} {sc : Sc} {d : Nat} {ρ : Loc} {H : AH}
theorem ok_bmeth (lf : LkF W) {k k' : Nat} {p q : Pos} {x : Nat} {o : Expr} {y : X Nat} {es : List Expr} {l : List (X Nat)} {a0 : Nat} {b : Bm} {ob : AO} (hy : er k' o = X.put W.nf k' y) (hb : y.plainB = true) (hn : es.length < 20) (hq : (q.endLine == p.line) = true)
    (hl : es.map (er k) = l.map (X.put W.nf k)) {vs : List AV} {H1 H2 H3 : AH} {r : AV} (i1 : EvOk W G (eval o G.env) ρ H (.obj a0) H1) (ho : H1[a0]? = some ob) (hx : bmOf x = some b) (hk : bmHas b ob = true) (h0 : es = [] → vs = [] ∧ H2 = H1)
    (ih : EvsOk W G (spliced (backTo p (starEach es G.env))) ρ H1 vs H2) (hr : BmRun b a0 vs H2 r H3) : EvOk W G (eval (.Call (.Attribute o (W.nf x) q) es [] p) G.env) ρ H r H3 := by
  intro m s N φ ψ Q E a h
  refine MethodCall_ (i1 m s N φ ψ _ E a fun v h1 tk N1 φ1 ψ1 a1 g1 v1 => ?_) (meth_eq (attr_eq (p := q) hy hb) (noStars hl p) (by (first | lia | omega)) hq)
  cases v1 with
  | obj ha =>
    refine a1.bm lf ho ha hx hk ?_
    exact with_bargs hl [_] h0 ih m (up s h1 tk) N1 φ1 ψ1 Q E a1 fun us h2 tk2 N2 φ2 ψ2 a2 g2 v2 => a2.run (g2.fi _ _ ha) v2 hr fun v h3 tk3 N3 φ3 ψ3 a3 g3 v3 => h v h3 tk3 N3 φ3 ψ3 a3 ((g1.trans g2).trans g3) v3
theorem ok_lst {es : List Expr} {p : Pos} {r : List AV} {H' : AH} (hl : r.length ≤ 1000000) (ih : EvsOk W G (spliced (backTo p (starEach es G.env))) ρ H r H') : EvOk W G (eval (.List es p) G.env) ρ H (.obj H'.length) (H' ++ [.list r]) := by
  intro m s N φ ψ Q E a h
  refine List_ (ih m s N φ ψ _ E a fun vs h1 tk N1 φ1 ψ1 a1 g1 v1 => ?_)
  exact a1.list v1 hl fun v h2 tk2 N2 φ2 ψ2 a2 g2 v2 => h v h2 tk2 N2 φ2 ψ2 a2 (g1.trans g2) v2
/-- a new object of one cell -/
theorem At.cell {m : Str → Option Value} {h : Heap} {N : Led} {φ ψ : List Addr} {q : Addr} {o : Obj} {O : AO} {h' : Heap} (t : At W G m h N φ ψ H ρ) (F' : Fr G.h₀ G.L h' m) (N' : News G.h₀ G.L h' ((q, o) :: N)) (hq : ∀ p ∈ N, p.1 ≠ q) (hc : fixed o = false) (hk : ∀ c l, O ≠ .inst c l)
    (hO : Ge N φ ((q, o) :: N) (φ ++ [q]) → ObjAt W.prog W.w W.ca W.nf G.ep ((q, o) :: N) (φ ++ [q]) q q O) : At W G m h' ((q, o) :: N) (φ ++ [q]) (ψ ++ [q]) (H ++ [O]) ρ ∧ Ge N φ ((q, o) :: N) (φ ++ [q]) ∧ VR W.nf ((q, o) :: N) (φ ++ [q]) (.ref q) (.obj H.length) :=
  ⟨⟨F', N', t.R.one hq hc hk hO, t.L.mono Ge.push⟩, Ge.push, .obj (by rw [List.getElem?_append_right (by rw [t.R.l1]; exact Nat.le_refl _), t.R.l1, Nat.sub_self]; rfl)⟩
theorem ok_dict (g : GOk W G sc d) {p : Pos} : EvOk W G (eval (.Dict [] [] p) G.env) ρ H (.obj H.length) (H ++ [.dict [] false]) := by
  intro m s N φ ψ Q E a h
  refine newDict_K a.F a.nw g.T.nolimit fun q h' o F' N' lt ns hs fs hi fi => ?_
  obtain ⟨a', g', v'⟩ := a.cell (O := .dict [] false) F' N' (fun p hp => Nat.ne_of_lt (lt p hp)) (dict_cls hi) (fun _ _ e => by cases e) (fun _ => ⟨rfl, ns, o, [], .head _, hi, (fun e => by cases e), .nil⟩)
  exact h _ h' _ _ _ _ a' g' v'
theorem ok_set (lk : Lk W) (lb : LkB W) (g : GOk W G sc d) {p q : Pos} {x : Nat} (hs : sc.lookup x = some .globalImplicit) (hc : Tb.call x = some .set) : EvOk W G (eval (.Call (.Name (W.nf x) q) [] [] p) G.env) ρ H (.obj H.length) (H ++ [.set fun _ => false]) := by
  intro m s N φ ψ Q E a h
  obtain ⟨b1, b2, b3⟩ := lb.set x hc
  refine Call_ ?_
  refine nameX_B a.F g.X (topRead_of g.T) b1 b2 b3 ?_ g.hk ((g.ks x).trans hs) (lk.dbg x)
  refine callWith_type0 (newSet_N a.F a.nw fun h' led F' N' => ?_)
  have hi := intSetOf_fresh led
  obtain ⟨a', g', v'⟩ := a.cell (O := .set fun _ => false) F' N' a.fresh (set_cls W.prog W.w hi) (fun _ _ e => by cases e) (fun _ => ⟨rfl, ⟨_, .head _, hi⟩, fun _ e => by cases e⟩)
  exact h _ h' _ _ _ _ a' g' v'
/-- what a sequence is -/
inductive SeqIs (H : AH) : AV → List AV → Prop
  | tup (l : List AV) : SeqIs H (.tup l) l
  | list {o : Nat} {l : List AV} (h : H[o]? = some (.list l)) : SeqIs H (.obj o) l
theorem seqOf_is {H : AH} {u : AV} {l : List AV} (h : seqOf H u = some l) : SeqIs H u l := by
  cases u with
  | tup l => cases h; exact .tup l
  | obj o =>
    delta seqOf at h
    dsimp only at h
    generalize hx : H[o]? = x at h
    cases x with
    | none => cases h
    | some x => cases x <;> first | (cases h; done) | (cases h; exact .list hx)
  | _ => cases h
theorem seqOf_list {H : AH} {o : Nat} {l : List AV} (h : seqOf H (.obj o) = some l) : H[o]? = some (.list l) := by
  cases seqOf_is h with
  | list h => exact h
theorem ok_len (lk : Lk W) (lb : LkB W) (g : GOk W G sc d) {k : Nat} {p q : Pos} {x : Nat} {e : Expr} {y : X Nat} {u : AV} {l : List AV} {H1 : AH} (hs : sc.lookup x = some .globalImplicit) (hc : Tb.call x = some .len) (hy : [e].map (er k) = [y].map (X.put W.nf k)) (hz : l.length ≤ 1000000)
    (ih : EvsOk W G (spliced (backTo p (starEach [e] G.env))) ρ H [u] H1) (hu : seqOf H1 u = some l) : EvOk W G (eval (.Call (.Name (W.nf x) q) [e] [] p) G.env) ρ H (.int l.length) H1 := by
  intro m s N φ ψ Q E a h
  obtain ⟨b1, b2, b3⟩ := lb.len x hc
  refine Call_ ?_
  refine nameX_B a.F g.X (topRead_of g.T) b1 b2 b3 ?_ g.hk ((g.ks x).trans hs) (lk.dbg x)
  refine with_bargs hy [] (fun e => by cases e) ih m s N φ ψ Q E a fun us h1 tk N1 φ1 ψ1 a1 g1 v1 => ?_
  refine v1.oneE (P := fun us => wpAny (model W.prog W.w) G.A (call (.builtin "len") ([] ++ us)) Q E (up s h1 tk)) fun v hv => ?_
  cases seqOf_is hu with
  | tup l =>
    refine hv.tupE (P := fun v => wpAny (model W.prog W.w) G.A (call (.builtin "len") ([] ++ [v])) Q E (up s h1 tk)) fun q vs hm hvs => ?_
    have hl := hvs.length
    refine len_tuple ⟨_, (a1.nw _ hm).1, rfl, 0, rfl⟩ (by rw [List.size_toArray]; (first | lia | omega)) ?_
    rw [List.size_toArray, hl]
    exact h _ h1 _ _ _ _ a1 g1 (.int _ _)
  | list hl' =>
    refine hv.objE (P := fun v => wpAny (model W.prog W.w) G.A (call (.builtin "len") ([] ++ [v])) Q E (up s h1 tk)) fun aa ha => a1.R.listE ha hl' fun _ vs n hm hvs => ?_
    have hl := hvs.length
    refine len_list ⟨_, (a1.nw _ hm).1, rfl, n, rfl⟩ (by rw [List.size_toArray]; (first | lia | omega)) ?_
    rw [List.size_toArray, hl]
    exact h _ h1 _ _ _ _ a1 g1 (.int _ _)
theorem ok_tupleOf (lk : Lk W) (lb : LkB W) (g : GOk W G sc d) {k : Nat} {p q : Pos} {x : Nat} {e : Expr} {y : X Nat} {i : Nat} {l : List AV} {H1 : AH} (hs : sc.lookup x = some .globalImplicit) (hc : Tb.call x = some .tuple) (hy : er k e = X.put W.nf k y) (hz : l.length ≤ 10000)
    (ih : EvsOk W G (spliced (backTo p (starEach [e] G.env))) ρ H [.obj i] H1) (hu : seqOf H1 (.obj i) = some l) : EvOk W G (eval (.Call (.Name (W.nf x) q) [e] [] p) G.env) ρ H (.tup l) H1 := by
  intro m s N φ ψ Q E a h
  obtain ⟨b1, b2, b3⟩ := lb.tuple x hc
  refine Call_ ?_
  refine nameX_B a.F g.X (topRead_of g.T) b1 b2 b3 ?_ g.hk ((g.ks x).trans hs) (lk.dbg x)
  refine PyProof.Rows.callWith_type1 (ih m s N φ ψ _ E a fun us h1 tk N1 φ1 ψ1 a1 g1 v1 => ?_) (noStar hy (put_bad y)) rfl
  refine v1.oneE fun v hv => ?_
  refine hv.objE fun aa ha => ?_
  refine a1.R.listE ha (seqOf_list hu) fun _ vs n hm hvs => ?_
  have hl := hvs.length
  refine kde_tupleOf (zs := vs) a1.F a1.nw ⟨_, (a1.nw _ hm).1, rfl, n, rfl⟩ (by rw [List.size_toArray]; (first | lia | omega)) rfl fun D h' F' N' lt => ?_
  exact h _ h' _ _ φ1 ψ1 ⟨F', N', a1.R.tuple (fun p hp => Nat.ne_of_lt (lt p hp)), a1.L.mono Ge.push1⟩ (g1.trans Ge.push1) (.tup (.head _) (VRs.mono hvs Ge.push1))
theorem ok_listOf (lk : Lk W) (lb : LkB W) (g : GOk W G sc d) {k : Nat} {p q : Pos} {x : Nat} {e : Expr} {y : X Nat} {l : List AV} {H1 : AH} (hs : sc.lookup x = some .globalImplicit) (hc : Tb.call x = some .list) (hy : er k e = X.put W.nf k y) (hz : l.length ≤ 10000)
    (ih : EvsOk W G (spliced (backTo p (starEach [e] G.env))) ρ H [.tup l] H1) : EvOk W G (eval (.Call (.Name (W.nf x) q) [e] [] p) G.env) ρ H (.obj H1.length) (H1 ++ [.list l]) := by
  intro m s N φ ψ Q E a h
  obtain ⟨b1, b2, b3⟩ := lb.list x hc
  refine Call_ ?_
  refine nameX_B a.F g.X (topRead_of g.T) b1 b2 b3 ?_ g.hk ((g.ks x).trans hs) (lk.dbg x)
  refine PyProof.Rows.callWith_type1 (ih m s N φ ψ _ E a fun us h1 tk N1 φ1 ψ1 a1 g1 v1 => ?_) (noStar hy (put_bad y)) rfl
  refine v1.oneE fun v hv => ?_
  refine hv.tupE fun q0 vs hm hvs => ?_
  have hl := hvs.length
  refine kup_listOfT (zs := vs) (its2 := vs.toArray) (n2 := 0) a1.F a1.nw hm rfl (fun D c h' F' N' lt => ?_) (by rw [sizeLine_eq]; show vs.length ≤ _; (first | lia | omega))
  obtain ⟨a', g', v'⟩ := a1.cell (O := .list l) F' N' (fun p hp => Nat.ne_of_lt (lt p hp)) fixed_list (fun _ _ e => by cases e) (fun ge => ⟨rfl, vs, c, .head _, VRs.mono hvs ge⟩)
  exact h _ h' _ _ _ _ a' (g1.trans g') v'
theorem ok_cat {l r : Expr} {p : Pos} {i j : Nat} {u v : List AV} {H1 H2 : AH} (i1 : EvOk W G (eval l G.env) ρ H (.obj i) H1) (i2 : EvOk W G (eval r G.env) ρ H1 (.obj j) H2) (hu : H2[i]? = some (.list u)) (hv : H2[j]? = some (.list v)) (hz : u.length + v.length ≤ 1000000) :
    EvOk W G (eval (.BinOp l .Add r p) G.env) ρ H (.obj H2.length) (H2 ++ [.list (u ++ v)]) := by
  intro m s N φ ψ Q E a h
  refine wpAny_BinOp (i1 m s N φ ψ _ E a fun u' h1 tk N1 φ1 ψ1 a1 g1 v1 => i2 m _ N1 φ1 ψ1 _ E a1 fun v' h2 tk2 N2 φ2 ψ2 a2 g2 v2 => ?_)
  refine v2.objE fun ab hb => ?_
  refine (v1.mono g2).objE fun aa ha => ?_
  refine a2.R.listE ha hu fun _ us n hm hus => ?_
  refine a2.R.listE hb hv fun _ vs n' hm' hvs => ?_
  have e1 := hus.length
  have e2 := hvs.length
  refine add_arrays a2.F a2.nw ⟨_, (a2.nw _ hm).1, rfl, n, rfl⟩ ⟨_, (a2.nw _ hm').1, rfl, n', rfl⟩ (fun h' F' N' => ?_) (by rw [List.size_toArray, List.size_toArray, sizeLine_eq]; (first | lia | omega))
  obtain ⟨a', g', v'⟩ := a2.cell (O := .list (u ++ v)) F' N' a2.fresh fixed_list (fun _ _ e => by cases e) (fun ge => ⟨rfl, us ++ vs, 0, .head _, VRs.mono (hus.append hvs) ge⟩)
  exact h _ h' _ _ _ _ a' ((g1.trans g2).trans g') v'
end

/-! new instances, loops -/
section
variable {W : Wd} {G : Gd} {sc : Sc} {d : Nat} {ρ : Loc} {H : AH}
theorem ok_new (lk : Lk W) (lf : LkF W) (lb : LkB W) (g : GOk W G sc (d + 1)) {k : Nat} {p q : Pos} {x c i : Nat} {f : Fn} {es : List Expr} {l : List (X Nat)} (hs : sc.lookup x = some .globalImplicit) (hc : Tb.call x = some (.cls c)) (hi : Tb.init c = some i) (hf : Tb.fn i = some f)
    (hl : es.map (er k) = l.map (X.put W.nf k)) {vs : List AV} {H1 H2 : AH} (h0 : es = [] → vs = [] ∧ H1 = H)
    (ih : EvsOk W G (spliced (backTo p (starEach es G.env))) ρ H vs H1) (ic : ∀ G', GOk W G' sc d → CallOk W G' i (.obj H1.length :: vs) (H1 ++ [.inst c []]) .none H2) : EvOk W G (eval (.Call (.Name (W.nf x) q) es [] p) G.env) ρ H (.obj H1.length) H2 := by
  intro m s N φ ψ Q E a h
  obtain ⟨b1, b2, b3⟩ := lb.cls x c hc
  refine Call_ ?_
  refine nameX_K a.F g.X (topRead_of g.T) b1 ?_ g.hk ((g.ks x).trans hs) (lk.dbg x)
  have run : ∀ us h1 tk N1 φ1 ψ1, At W G m h1 N1 φ1 ψ1 H1 ρ → Ge N φ N1 φ1 → All2 (VR W.nf N1 φ1) us vs → wpAny (model W.prog W.w) G.A (call (.ref (W.ca c)) ([] ++ us)) Q E (up s h1 tk) := fun us h1 tk N1 φ1 ψ1 a1 g1 v1 => by
    refine call_cls a1.F g.X a1.nw b3 (lb.init c i hi) (lf.fn i f hf).2.2 fun x' dx h' F' N' l1 l2 => ?_
    obtain ⟨R', ge⟩ := a1.R.inst (c := c) (x := x') (dx := dx) (fun p hp => Nat.ne_of_lt (Nat.lt_trans (l1 p hp) l2)) (fun p hp => Nat.ne_of_lt (l1 p hp)) (Nat.ne_of_gt l2)
    have at' : At W G m h' _ _ _ (H1 ++ [.inst c []]) ρ := ⟨F', N', R', a1.L.mono ge⟩
    have hx : (φ1 ++ [x'])[H1.length]? = some x' := by rw [List.getElem?_append_right (by rw [a1.R.l1]; exact Nat.le_refl _), a1.R.l1, Nat.sub_self]; rfl
    have e : G.A.under (.builtin "type.__call__" ⟨.ref (W.ca c) :: ([] ++ us), []⟩) = Gd.A ⟨G.dp + 1, G.un + 1, G.gd, G.cn, G.cs, G.L, G.a, G.ccd, G.outer, G.A₀, G.base, G.h₀, G.ep, G.cl⟩ := rfl
    rw [e]
    refine ic ⟨G.dp + 1, G.un + 1, G.gd, G.cn, G.cs, G.L, G.a, G.ccd, G.outer, G.A₀, G.base, G.h₀, G.ep, G.cl⟩ ⟨g.B, g.X, g.T, g.hk, g.ks, ?_, ?_⟩ m (up s h' tk) _ _ _ ρ (.ref x' :: us) _ ⟨F', N', R', a1.L.mono ge⟩ (.cons (.obj hx) (VRs.mono v1 ge)) ?_
    · have := g.hd; show G.dp + 1 + d < _; (first | lia | omega)
    · have := g.hu; show G.un + 1 + 8 * d + 80 < _; (first | lia | omega)
    · intro v h2 tk2 N2 φ2 ψ2 a2 g2 v2 _
      cases v2
      exact ⟨rfl, h _ h2 tk2 N2 φ2 ψ2 ⟨a2.F, a2.nw, a2.R, a2.L⟩ (g1.trans (ge.trans g2)) (.obj (g2.fi _ _ hx))⟩
  cases es with
  | nil =>
    refine callWith_K0 (g.X.keeps a.F.keep) b2 ?_
    obtain ⟨rfl, rfl⟩ := h0 rfl
    exact run [] s.heap s.toks N φ ψ a (Ge.refl _ _) .nil
  | cons e es =>
    obtain ⟨x, r', rfl, h1, h2⟩ := er_star hl
    refine callWith_K g.X b2 (ih m s N φ ψ _ E a fun vs' h1 tk N1 φ1 ψ1 a1 g1 v1 => ⟨g.X.keeps a1.F.keep, run vs' h1 tk N1 φ1 ψ1 a1 g1 v1⟩) (noStar h1 (put_bad x)) (noStars h2 p)
/-- while -/
theorem whl_stop {c : Expr} {b : List Stmt} {H1 : AH} (ih : TrOk W G (PySem.isTrue c G.env (eval c G.env)) ρ H false H1) (m : Str → Option Value) (s : Shared) (N : Led) (φ ψ : List Addr) (Q : Flow → Shared → Prop) (a : At W G m s.heap N φ ψ H ρ)
    (h : ∀ f m' h tk N' φ' ψ', At W G m' h N' φ' ψ' H1 ρ → Ge N φ N' φ' → FlR W.nf N' φ' f .next → Q f (up s h tk)) : WhlRest W.prog W.w G.A (fun _ _ => False) G.env c b [] Q 0 s := by
  refine whl_turn (k := 0) (fun _ _ h => h.elim) ?_
  refine ih m s N φ ψ _ _ a fun h1 tk N1 φ1 ψ1 a1 g1 => WhlIf.no rfl ?_
  exact wpAny_execs_nil (h .next m h1 tk N1 φ1 ψ1 a1 g1 .next)
end

/-! loops -/
section
variable {W : Wd} {G : Gd} {sc : Sc} {d : Nat} {ρ : Loc} {H : AH}
noncomputable def WhOk (W : Wd) (G : Gd) (c : Expr) (b : List Stmt) (ρ : Loc) (H : AH) (fl : Fl) (ρ' : Loc) (H' : AH) : Prop :=
  ∀ (m : Str → Option Value) (s : Shared) (N : Led) (φ ψ : List Addr) (Q : Flow → Shared → Prop), At W G m s.heap N φ ψ H ρ → (∀ f m' h tk N' φ' ψ', At W G m' h N' φ' ψ' H' ρ' → Ge N φ N' φ' → FlR W.nf N' φ' f fl → Q f (up s h tk)) → WhlRest W.prog W.w G.A (fun _ _ => False) G.env c b [] Q 0 s
theorem whl_go {c : Expr} {b : List Stmt} {H1 H2 H3 : AH} {ρ1 ρ2 : Loc} {f1 fl : Fl} (ih : TrOk W G (PySem.isTrue c G.env (eval c G.env)) ρ H true H1) (ib : ExOk W G (execs b G.env) ρ H1 f1 ρ1 H2)
    (on : match f1 with | .ret v => fl = .ret v ∧ ρ2 = ρ1 ∧ H3 = H2 | _ => WhOk W G c b ρ1 H2 fl ρ2 H3) : WhOk W G c b ρ H fl ρ2 H3 := by
  intro m s N φ ψ Q a h
  refine whl_turn (k := 0) (fun _ _ h => h.elim) ?_
  refine ih m s N φ ψ _ _ a fun h1 tk N1 φ1 ψ1 a1 g1 => WhlIf.yes rfl ?_
  refine ib m _ N1 φ1 ψ1 _ _ a1 fun f m2 h2 tk2 N2 φ2 ψ2 a2 g2 rf => ?_
  cases rf with
  | next => exact on m2 (up s h2 tk2) N2 φ2 ψ2 Q a2 fun f m3 h3 tk3 N3 φ3 ψ3 a3 g3 r3 => h f m3 h3 tk3 N3 φ3 ψ3 a3 ((g1.trans g2).trans g3) r3
  | cont => exact on m2 (up s h2 tk2) N2 φ2 ψ2 Q a2 fun f m3 h3 tk3 N3 φ3 ψ3 a3 g3 r3 => h f m3 h3 tk3 N3 φ3 ψ3 a3 ((g1.trans g2).trans g3) r3
  | ret rv =>
    obtain ⟨rfl, rfl, rfl⟩ := on
    exact h _ m2 h2 tk2 N2 φ2 ψ2 a2 (g1.trans g2) (.ret rv)
/-- what an iterator's cell holds -/
noncomputable def ItAt (G : Gd) (nf : Nat → Str) (N : Led) (φ : List Addr) (i : Nat) (io : Obj) : Src → Prop
  | .tup l => ∃ t vs, io.cls = .type "tuple_iterator" ∧ io.data = .fields #[.ref t, .int i 0] ∧ (t, tupOf vs) ∈ N ∧ All2 (VR nf N φ) vs l
  | .lst o => ∃ t, io.cls = .type "list_iterator" ∧ io.data = .fields #[.ref t, .int i 0] ∧ φ[o]? = some t
  | .rng n => i ≤ n ∧ io = { cls := .type "range_iterator", dict := none, data := .fields #[rawInt i, rawInt ((n : Int) - i), rawInt 1], slots := #[] }
  | .keys o n => ∃ t, KdkIter io t i n (G.ep t) ∧ φ[o]? = some t
theorem ItAt.mono0 {nf : Nat → Str} {N N' : Led} {φ φ' : List Addr} {i : Nat} {io : Obj} {q : Src} (h : ItAt G nf N φ i io q) (g : Ge0 N φ N' φ') : ItAt G nf N' φ' i io q := by
  cases q with
  | tup l => obtain ⟨t, vs, h1, h2, h3, h4⟩ := h; exact ⟨t, vs, h1, h2, g.tup _ _ rfl h3, VRs.mono0 h4 g⟩
  | lst o => obtain ⟨t, h1, h2, h3⟩ := h; exact ⟨t, h1, h2, g.fi _ _ h3⟩
  | rng n => exact h
  | keys o n => obtain ⟨t, h1, h3⟩ := h; exact ⟨t, h1, g.fi _ _ h3⟩
theorem ItAt.cls {nf : Nat → Str} {N : Led} {φ : List Addr} {i : Nat} {io : Obj} {q : Src} (h : ItAt G nf N φ i io q) : fixed io = true ∧ solid io = false := by
  cases q with
  | tup l => obtain ⟨t, vs, h1, h2, _⟩ := h; unfold fixed solid; rw [h1, h2]; exact ⟨by show (_ || false) = true; decide, by show (_ || false) = false; decide⟩
  | lst o => obtain ⟨t, h1, h2, _⟩ := h; unfold fixed solid; rw [h1, h2]; exact ⟨by show (_ || false) = true; decide, by show (_ || false) = false; decide⟩
  | rng n => obtain ⟨_, rfl⟩ := h; exact ⟨by show (fixedC (.type "range_iterator") || false) = true; decide, by show (solidC (.type "range_iterator") || false) = false; decide⟩
  | keys o n => obtain ⟨t, h1, _⟩ := h; unfold fixed solid; rw [h1.1, h1.2]; exact ⟨by show (_ || false) = true; decide, by show (_ || false) = false; decide⟩
noncomputable def YesK (W : Wd) (G : Gd) (s : Shared) (N : Led) (φ : List Addr) (i : Nat) (I : Addr) (q : Src) (r : Option AV) (Q : Option Value → Shared → Prop) : Prop :=
  ∀ e v h tk io', r = some e → Heap.SameBut I s.heap h → h.get? I = some io' → ItAt G W.nf N φ (i + 1) io' q → VR W.nf N φ v e → Q (some v) (up s h tk)
noncomputable def NoK (s : Shared) (I : Addr) (r : Option AV) (Q : Option Value → Shared → Prop) : Prop := ∀ h tk, r = none → Heap.ExtBut I s.heap h → Q none (up s h tk)
/-- the next item -/
theorem At.next {m : Str → Option Value} {s : Shared} {N : Led} {φ ψ : List Addr} {q : Src} {i : Nat} {I : Addr} {io : Obj} {r : Option AV} {Q : Option Value → Shared → Prop} {E : Value → Shared → Prop} (a : At W G m s.heap N φ ψ H ρ) (hm : (I, io) ∈ N) (hit : ItAt G W.nf N φ i io q) (hn : nextOf H q i = some r)
    (yes : YesK W G s N φ i I q r Q) (no : NoK s I r Q) : wpAny (model W.prog W.w) G.A (pyNext (.ref I)) Q E s := by
  have hio := (a.nw _ hm).1
  cases q with
  | tup l =>
    obtain ⟨t, vs, h1, h2, h3, h4⟩ := hit
    cases hn
    have ht : s.heap.IsTuple t vs.toArray := ⟨_, (a.nw _ h3).1, rfl, 0, rfl⟩
    cases hv : vs[i]? with
    | some v =>
      obtain ⟨e, he, hr⟩ := h4.get hv
      refine wpAny_pyNext_tuple_item (x := v) ⟨io, hio, h1, h2⟩ ht (by simp [hv]) fun h' ⟨io', q1, q2, q3⟩ hs => ?_
      exact yes e v h' s.toks io' he hs q1 ⟨t, vs, q2, q3, h3, h4⟩ hr
    | none =>
      refine wpAny_pyNext_tuple_end rfl ⟨io, hio, h1, h2⟩ ht (by simp [hv]) fun h' hs => ?_
      refine no h' s.toks ?_ hs
      rw [List.getElem?_eq_none_iff] at hv ⊢
      rw [← h4.length]; exact hv
  | lst o =>
    obtain ⟨t, h1, h2, h3⟩ := hit
    unfold nextOf at hn
    dsimp only at hn
    split at hn
    · rename_i l hl
      cases hn
      refine a.R.listE h3 hl fun hμ vs n hmm hvs => ?_
      have ht : s.heap.IsList t vs.toArray := ⟨_, (a.nw _ hmm).1, rfl, n, rfl⟩
      cases hv : vs[i]? with
      | some v =>
        obtain ⟨e, he, hr⟩ := hvs.get hv
        refine wpAny_pyNext_list_item (x := v) ⟨io, hio, h1, h2⟩ ht (by simp [hv]) fun h' ⟨io', q1, q2, q3⟩ hs => ?_
        exact yes e v h' s.toks io' he hs q1 ⟨t, q2, q3, h3⟩ hr
      | none =>
        refine wpAny_pyNext_list_end rfl ⟨io, hio, h1, h2⟩ ht (by simp [hv]) fun h' hs => ?_
        refine no h' s.toks ?_ hs
        rw [List.getElem?_eq_none_iff] at hv ⊢
        rw [← hvs.length]; exact hv
    · cases hn
  | rng n =>
    obtain ⟨h1, rfl⟩ := hit
    unfold nextOf at hn
    dsimp only at hn
    split at hn
    · rename_i hlt
      cases hn
      refine wpAny_pyNext_range_item (x := (i : Int)) (left := (n : Int) - i) (step := 1) hio (by (first | lia | omega)) fun h' q hs => ?_
      refine yes _ _ h' _ _ rfl hs q ⟨hlt, ?_⟩ (.int _ _)
      have e1 : (i : Int) + 1 = ((i + 1 : Nat) : Int) := by (first | lia | omega)
      have e2 : (n : Int) - i - 1 = (n : Int) - ((i + 1 : Nat) : Int) := by (first | lia | omega)
      rw [e1, e2]
    · cases hn
      exact wpAny_pyNext_range_end rfl hio (by (first | lia | omega)) fun h' hs => no h' s.toks rfl hs
  | keys o n =>
    obtain ⟨t, h1, h3⟩ := hit
    unfold nextOf at hn
    dsimp only at hn
    split at hn
    · rename_i l hl
      split at hn
      · rename_i hln
        cases hn
        obtain ⟨a', μ, ha', hμ, rfl, ns, od, kvs, hmm, hd, hlk, hkv⟩ := a.R.at hl
        rw [h3] at ha'; cases ha'
        have hk := hlk rfl
        have ht := hk.dictAt (a.nw _ hmm).1
        have hlen : kvs.length = n := by rw [hkv.length]; exact hln
        subst hlen
        cases hv : kvs[i]? with
        | some kv =>
          obtain ⟨e, he, hr⟩ := hkv.get hv
          refine wpAny_pyNext_dict_item (h1.at hio) ht (k := kv.1) hv fun key h' hkey ⟨io', q1, q2, q3⟩ hs => ?_
          obtain ⟨tk, rfl⟩ := Value.isInt_shape hkey
          refine yes (.int e.1) _ h' s.toks io' (by rw [he]; rfl) hs q1 ⟨t, ⟨q2, q3⟩, h3⟩ ?_
          rw [← hr.1]; exact .int _ _
        | none =>
          refine wpAny_pyNext_dict_end rfl (h1.at hio) ht hv fun h' hs => ?_
          refine no h' s.toks ?_ hs
          rw [List.getElem?_eq_none_iff] at hv
          rw [List.getElem?_eq_none (by rw [← hkv.length]; exact hv)]; rfl
      · cases hn
    · cases hn
end

section
variable {prog : Program} {w : World} {ca : Nat → Addr} {nf : Nat → Str} {ep ep' : Addr → Nat} {N N' : Led} {φ ψ : List Addr} {H : AH}
/-- a fixed cell leaves the ledger -/
theorem RR.drop {I : Addr} {io : Obj} (R : RR prog w ca nf ep N φ ψ H) (hm : (I, io) ∈ N) (hf : fixed io = true) (ht : solid io = false) : RR prog w ca nf ep (N.filter fun p => p.1 ≠ I) φ ψ H ∧ Ge0 N φ (N.filter fun p => p.1 ≠ I) φ := by
  have hI : I ∉ ψ := R.tp I io hf hm
  have keep : ∀ p ∈ N, p.1 ≠ I → p ∈ N.filter fun p => p.1 ≠ I := fun p hp hn => List.mem_filter.mpr ⟨hp, by simpa using hn⟩
  have g : Ge0 N φ (N.filter fun p => p.1 ≠ I) φ := ⟨fun q o hs h => keep _ h fun e => (by rw [nd_eq R.nd hm ((show q = I from e) ▸ h), hs] at ht; cases ht), fun _ _ h => h⟩
  refine ⟨⟨?_, R.l1, R.l2, ?_, R.pd, R.ap, fun q o hf h => R.tp q o hf (List.mem_filter.mp h).1⟩, g⟩
  · exact List.Nodup.sublist (List.Sublist.map _ List.filter_sublist) R.nd
  · intro j o1 a1 μ1 hj ha1 hμ1
    have z := R.ob j o1 a1 μ1 hj ha1 hμ1
    have n1 : μ1 ≠ I := fun e => hI (e ▸ mem_of_some hμ1)
    have n2 : a1 ≠ I := by
      cases o1 with
      | list l => exact fun e => n1 (z.1.trans e)
      | dict l lk => exact fun e => n1 (z.1.trans e)
      | set f => exact fun e => n1 (z.1.trans e)
      | inst c l =>
        obtain ⟨es, k, h1, _⟩ := z
        intro e
        rw [nd_eq R.nd hm (e ▸ h1)] at hf
        cases hf
    exact z.keep0 g fun x => ⟨fun h => keep _ h n2, fun h => keep _ h n1⟩
/-- a dict is locked or let go -/
theorem RR.lock {o : Nat} {l : List (Int × AV)} {lk lk' : Bool} {a : Addr} (R : RR prog w ca nf ep N φ ψ H) (ho : H[o]? = some (.dict l lk)) (ha : φ[o]? = some a) (he : ∀ b, b ≠ a → ep' b = ep b)
    (hl : lk' = true → ∀ od kvs, (a, od) ∈ N → od.IsDictOf (intKind prog w) kvs → KdkAt (intKind prog w) od kvs (ep' a)) : RR prog w ca nf ep' N φ ψ (H.set o (.dict l lk')) := by
  obtain ⟨a', μ, ha', hμ, rfl, _⟩ := R.at ho
  rw [ha] at ha'; cases ha'
  refine ⟨R.nd, by rw [List.length_set]; exact R.l1, by rw [List.length_set]; exact R.l2, ?_, R.pd, ?_, R.tp⟩
  · intro j o1 a1 μ1 hj ha1 hμ1
    by_cases hij : j = o
    · subst hij
      rw [List.getElem?_set_self (lt_of_some ho)] at hj
      cases hj
      rw [ha] at ha1; cases ha1
      obtain ⟨e, ns, od, kvs, hm, hd, _, hv⟩ := R.ob _ _ _ _ ho ha hμ1
      exact ⟨e, ns, od, kvs, hm, hd, fun e => hl e od kvs hm hd, hv⟩
    · rw [List.getElem?_set_ne (Ne.symm hij)] at hj
      have z := R.ob j o1 a1 μ1 hj ha1 hμ1
      cases o1 with
      | list l => exact z
      | set f => exact z
      | inst c l => exact z
      | dict l1 lk1 =>
        obtain ⟨e, ns, od, kvs, hm, hd, hlk, hv⟩ := z
        refine ⟨e, ns, od, kvs, hm, hd, fun q => ?_, hv⟩
        rw [he a1 fun e2 => hij (get_inj R.pd (i := j) (j := o) (e ▸ hμ1) (e2 ▸ hμ))]
        exact hlk q
  · intro j c l1 a1 hj ha1
    by_cases hij : j = o
    · subst hij
      rw [List.getElem?_set_self (lt_of_some ho)] at hj
      cases hj
    · rw [List.getElem?_set_ne (Ne.symm hij)] at hj
      exact R.ap j c l1 a1 hj ha1
end
section
variable {W : Wd} {G : Gd} {sc : Sc} {d : Nat} {ρ : Loc} {H : AH}
noncomputable abbrev Gd.re (G : Gd) (ep : Addr → Nat) : Gd := { G with ep := ep }
theorem GOk.re (g : GOk W G sc d) (ep : Addr → Nat) : GOk W (G.re ep) sc d := ⟨g.B, g.X, g.T, g.hk, g.ks, g.hd, g.hu⟩
theorem Ge.less {N0 N N' : Led} {φ0 φ : List Addr} {I : Addr} (g : Ge N0 φ0 N φ) (hI : ∀ p ∈ N0, p.1 ≠ I) (h : ∀ p ∈ N, p.1 ≠ I → p ∈ N') : Ge N0 φ0 N' φ := .of (fun q o hf hm => h _ (g.it q o hf hm) (hI _ hm)) g.fi
/-- what stands for the items -/
noncomputable def SrcV (nf : Nat → Str) (N : Led) (φ : List Addr) (H : AH) (h : Heap) (v : Value) : Src → Prop
  | .tup l => VR nf N φ v (.tup l)
  | .lst o => VR nf N φ v (.obj o) ∧ ∃ l, H[o]? = some (.list l)
  | .rng n => ∃ r t u t', v = .ref r ∧ IsRange h r 0 (n : Int) 1 t u t' ∧ n ≤ 1000000
  | .keys o n => VR nf N φ v (.obj o) ∧ ∃ l lk, H[o]? = some (.dict l lk) ∧ l.length = n
noncomputable def SrcOk (W : Wd) (G : Gd) (t : Sem Value) (ρ : Loc) (H : AH) (q : Src) (H' : AH) : Prop :=
  ∀ m s N φ ψ Q E, At W G m s.heap N φ ψ H ρ → (∀ v h tk N' φ' ψ', At W G m h N' φ' ψ' H' ρ → Ge N φ N' φ' → SrcV W.nf N' φ' H' h v q → Q v (up s h tk)) → wpAny (model W.prog W.w) G.A t Q E s
theorem src_ev {t : Sem Value} {r : AV} {H1 : AH} {q : Src} (ih : EvOk W G t ρ H r H1) (hq : srcAt H1 r = some q) : SrcOk W G t ρ H q H1 := by
  intro m s N φ ψ Q E a h
  refine ih m s N φ ψ Q E a fun v h1 tk N1 φ1 ψ1 a1 g1 v1 => h v h1 tk N1 φ1 ψ1 a1 g1 ?_
  unfold srcAt at hq
  cases v1 with
  | tup hm hv => cases hq; exact .tup hm hv
  | obj ha =>
    dsimp only at hq
    split at hq
    · rename_i l hl; cases hq; exact ⟨.obj ha, l, hl⟩
    · rename_i l lk hl; cases hq; exact ⟨.obj ha, l, lk, hl, rfl⟩
    · cases hq
  | _ => cases hq
/-- what the loop gets -/
noncomputable def IterK (W : Wd) (G : Gd) (m : Str → Option Value) (s : Shared) (N : Led) (φ ψ : List Addr) (H1 : AH) (ρ : Loc) (q : Src) (Q : Value → Shared → Prop) : Prop :=
  ∀ ep io h', At W (G.re ep) m h' ((s.heap.objs.size, io) :: N) φ ψ H1 ρ → ItAt (G.re ep) W.nf ((s.heap.objs.size, io) :: N) φ 0 io q → (∀ p ∈ N, p.1 ≠ s.heap.objs.size) →
      (∀ m' h2 N2 φ2 ψ2 ρ2 H2 H3, At W (G.re ep) m' h2 N2 φ2 ψ2 H2 ρ2 → (∀ (i : Nat) (b : Addr), φ[i]? = some b → φ2[i]? = some b) → unlock q H2 = some H3 → At W G m' h2 N2 φ2 ψ2 H3 ρ2) → Q (.ref s.heap.objs.size) (up s h' s.toks)
/-- an iterator is made -/
theorem At.iter {m : Str → Option Value} {s : Shared} {N : Led} {φ ψ : List Addr} {v : Value} {q : Src} {H1 : AH} {Q : Value → Shared → Prop} {E : Value → Shared → Prop} (a : At W G m s.heap N φ ψ H ρ) (hv : SrcV W.nf N φ H s.heap v q) (hl : lock q H = some H1)
    (h : IterK W G m s N φ ψ H1 ρ q Q) :
    wpAny (model W.prog W.w) G.A (pyIter v) Q E s := by
  have ltn : ∀ p ∈ N, p.1 ≠ s.heap.objs.size := fun p hp => Nat.ne_of_lt (Heap.lt_size (a.nw p hp).1)
  have mk : ∀ io : Obj, io.isFreed = false → At W G m (s.heap.push io) ((s.heap.objs.size, io) :: N) φ ψ H ρ := fun io hf => ⟨a.F.push _, News.push a.F a.nw _ hf, a.R.fix ltn, a.L.mono Ge.push1⟩
  have back : ∀ m' h2 N2 φ2 ψ2 ρ2 H2, At W (G.re G.ep) m' h2 N2 φ2 ψ2 H2 ρ2 → At W G m' h2 N2 φ2 ψ2 H2 ρ2 := fun _ _ _ _ _ _ _ a => ⟨a.F, a.nw, a.R, a.L⟩
  cases q with
  | tup l =>
    cases hl
    cases hv with
    | tup hm hv =>
      refine wpAny_pyIter_tuple ⟨_, (a.nw _ hm).1, rfl, 0, rfl⟩ ?_
      refine h G.ep _ _ (mk _ rfl) ⟨_, _, rfl, rfl, .tail _ hm, VRs.mono hv Ge.push1⟩ ltn fun _ _ _ _ _ _ _ _ a _ e => ?_
      cases e; exact back _ _ _ _ _ _ _ a
  | lst o =>
    cases hl
    obtain ⟨hv, l, hl⟩ := hv
    cases hv with
    | obj ha =>
      refine a.R.listE ha hl fun hμ vs n hm hvs => ?_
      refine wpAny_pyIter_list ⟨_, (a.nw _ hm).1, rfl, n, rfl⟩ ?_
      refine h G.ep _ _ (mk _ rfl) ⟨_, rfl, rfl, ha⟩ ltn fun _ _ _ _ _ _ _ _ a _ e => ?_
      cases e; exact back _ _ _ _ _ _ _ a
  | rng n =>
    cases hl
    obtain ⟨r, t, u, t', rfl, hr, hn⟩ := hv
    have hs : Builtin.Range.rangeSize 0 (n : Int) 1 = (n : Int) := by
      rw [rangeSize_one]
      split <;> (first | lia | omega)
    refine wpAny_pyIter_range hr ?_ ?_
    · unfold Builtin.Range.small
      rw [hs]
      unfold Builtin.Range.rangeFitsLong
      simp
      (first | lia | omega)
    · rw [hs]
      refine h G.ep _ _ (mk _ rfl) ⟨Nat.zero_le _, ?_⟩ ltn fun _ _ _ _ _ _ _ _ a _ e => ?_
      · simp
      · cases e; exact back _ _ _ _ _ _ _ a
  | keys o n =>
    obtain ⟨hv, l, lk, hl1, hln⟩ := hv
    unfold Mine.lock at hl
    dsimp only at hl
    rw [hl1] at hl
    cases lk with
    | true => cases hl
    | false =>
      cases hl
      cases hv with
      | obj ha =>
        rename_i ad
        obtain ⟨a', μ, ha', hμ, rfl, ns, od, kvs, hm, hd, _, hkv⟩ := a.R.at hl1
        rw [ha] at ha'; cases ha'
        obtain ⟨ep0, hk⟩ := KdkAt.of hd
        have hlen : kvs.length = n := by rw [hkv.length]; exact hln
        refine wpAny_pyIter_dict ns (hk.dictAt (a.nw _ hm).1) ?_
        have R' : RR W.prog W.w W.ca W.nf (fun b => if b = ad then ep0 else G.ep b) ((s.heap.objs.size, (⟨.type "dict_keyiterator", none, .fields #[.ref ad, .int 0 0, .int kvs.length 0, .int ep0 0], #[]⟩ : Obj)) :: N) φ ψ (H.set o (.dict l true)) := by
          refine (a.R.fix (q := s.heap.objs.size) ltn).lock (ep' := fun b => if b = ad then ep0 else G.ep b) hl1 ha (fun b hb => if_neg hb) fun _ od2 kvs2 hm2 hd2 => ?_
          have e : od = od2 := nd_eq a.R.nd hm (by
            rcases List.mem_cons.mp hm2 with e | e
            · exact absurd (Prod.mk.inj e).1 (ltn _ hm)
            · exact e)
          subst e
          obtain ⟨ep1, hk1⟩ := KdkAt.of hd2
          obtain ⟨es, x1, x2, _⟩ := id hk
          obtain ⟨es1, y1, y2, _⟩ := id hk1
          rw [x2] at y2
          cases y2
          rw [if_pos rfl]
          exact hk1
        refine h (fun b => if b = ad then ep0 else G.ep b) _ _ ⟨a.F.push _, News.push a.F a.nw _, R', a.L.mono Ge.push1⟩ ⟨ad, ⟨rfl, ?_⟩, ha⟩ ltn fun m' h2 N2 φ2 ψ2 ρ2 H2 H3 a2 hφ e => ?_
        · show Data.fields #[Value.ref ad, .int 0 0, .int kvs.length 0, .int ep0 0] = Data.fields #[Value.ref ad, .int ((0 : Nat) : Int) 0, .int (n : Int) 0, .int (((if ad = ad then ep0 else G.ep ad) : Nat) : Int) 0]
          rw [if_pos rfl, hlen]; rfl
        · unfold unlock at e
          dsimp only at e
          split at e
          · rename_i l2 hl2
            cases e
            exact ⟨a2.F, a2.nw, a2.R.lock hl2 (hφ _ _ ha) (fun b hb => (if_neg hb).symm) (fun e => by cases e), a2.L⟩
          · cases e
end

section
variable {W : Wd} {G : Gd} {sc : Sc} {d : Nat} {ρ : Loc} {H : AH}
theorem noFold {k : Nat} {f : Nat → Str} {e : Expr} {y : X Nat} {env : Env} (h : er k e = X.put f k y) (v : Value) : foldedSetIterable e env v = pure v := by
  have hb := put_bad (f := f) y
  cases k with
  | zero => exact absurd h.symm (hb 0)
  | succ k => cases e <;> first | rfl | exact absurd h.symm (hb _)
/-- a list of statements, wherever it stands -/
noncomputable def BodyOk (W : Wd) (sc : Sc) (d : Nat) (B : List (S Nat)) (ρ : Loc) (H : AH) (fl : Fl) (ρ' : Loc) (H' : AH) : Prop :=
  ∀ G k b, GOk W G sc d → b.map (erS k) = B.map (S.put W.nf k) → ExOk W G (execs b G.env) ρ H fl ρ' H'
/-- the turns of a for, at most n -/
inductive ForOk (W : Wd) (sc : Sc) (d : Nat) (B : List (S Nat)) (x : Nat) (q : Src) : Nat → Loc → AH → Nat → Fl → Loc → AH → Prop
  | stop {n : Nat} {ρ : Loc} {H : AH} {i : Nat} (hn : nextOf H q i = some none) : ForOk W sc d B x q (n + 1) ρ H i .next ρ H
  | turn {n : Nat} {ρ ρ1 ρ2 : Loc} {H H1 H2 : AH} {i : Nat} {v : AV} {f fl : Fl} (hn : nextOf H q i = some (some v)) (hb : BodyOk W sc d B (setL x v ρ) H f ρ1 H1) (hf : ∀ r, f ≠ .ret r) (hr : ForOk W sc d B x q n ρ1 H1 (i + 1) fl ρ2 H2) : ForOk W sc d B x q (n + 1) ρ H i fl ρ2 H2
  | ret {n : Nat} {ρ ρ1 : Loc} {H H1 : AH} {i : Nat} {v r : AV} (hn : nextOf H q i = some (some v)) (hb : BodyOk W sc d B (setL x v ρ) H (.ret r) ρ1 H1) : ForOk W sc d B x q (n + 1) ρ H i (.ret r) ρ1 H1
/-- what holds ahead of each turn -/
inductive ForI (W : Wd) (G : Gd) (sc : Sc) (d : Nat) (B : List (S Nat)) (x : Nat) (q : Src) (I : Addr) (N1 : Led) (φ1 : List Addr) (s : Shared) (K : Fl → Loc → AH → Prop) (k : Nat) : Shared → Prop
  | mk {h2 : Heap} {tk : Nat} {m' : Str → Option Value} {N2 : Led} {φ2 ψ2 : List Addr} {ρ' ρ2 : Loc} {H' H3 : AH} {i : Nat} {io' : Obj} {fl : Fl} (a : At W G m' h2 N2 φ2 ψ2 H' ρ') (hm : (I, io') ∈ N2) (hit : ItAt G W.nf N2 φ2 i io' q) (g : Ge N1 φ1 N2 φ2) (hr : ForOk W sc d B x q k ρ' H' i fl ρ2 H3) (hK : K fl ρ2 H3) : ForI W G sc d B x q I N1 φ1 s K k (up s h2 tk)
section
variable {x : Nat} {b : List Stmt} {B : List (S Nat)} {q : Src} {I : Addr} {N1 : Led} {φ1 : List Addr} {s : Shared} {h2 : Heap} {tk : Nat} {m' : Str → Option Value} {N2 : Led} {φ2 ψ2 : List Addr} {i : Nat} {io' : Obj} {E : Value → Shared → Prop} {Q : Option Value → Shared → Prop}
/-- no item is left -/
theorem for_stop (a : At W G m' h2 N2 φ2 ψ2 H ρ) (hm : (I, io') ∈ N2) (hit : ItAt G W.nf N2 φ2 i io' q) (g2 : Ge N1 φ1 N2 φ2) (ltn : ∀ p ∈ N1, p.1 ≠ I) (hn : nextOf H q i = some none)
    (h : ∀ h3 tk3 N3, At W G m' h3 N3 φ2 ψ2 H ρ → Ge N1 φ1 N3 φ2 → Q none (up s h3 tk3)) : wpAny (model W.prog W.w) G.A (pyNext (.ref I)) Q E (up s h2 tk) := by
  obtain ⟨hfx, hnt⟩ := hit.cls
  refine At.next a hm hit hn (fun e v h3 tk3 io3 he hsb hio3 hit3 hv => nomatch he) fun h3 tk3 he hx => ?_
  obtain ⟨R3, g3⟩ := a.R.drop hm hfx hnt
  have h0 := (a.nw _ hm).2.2
  exact h h3 tk3 _ ⟨⟨a.F.ns.at' fun o e => hx _ o (Ne.symm (a.nw _ hm).2.1) e, fun b o e => hx b o (by rintro rfl; rw [h0] at e; cases e) (a.F.keep b o e), a.F.above⟩, fun p hp => by
    obtain ⟨hp, hne⟩ := List.mem_filter.mp hp
    have hne : p.1 ≠ I := of_decide_eq_true hne
    exact ⟨hx _ _ hne (a.nw p hp).1, (a.nw p hp).2⟩, R3, a.L.mono0 g3⟩ (g2.less ltn fun p hp hne => List.mem_filter.mpr ⟨hp, decide_eq_true hne⟩)
/-- an item is drawn -/
theorem for_turn (a : At W G m' h2 N2 φ2 ψ2 H ρ) (hm : (I, io') ∈ N2) (hit : ItAt G W.nf N2 φ2 i io' q) (g2 : Ge N1 φ1 N2 φ2) (ltn : ∀ p ∈ N1, p.1 ≠ I) {e : AV} (hn : nextOf H q i = some (some e))
    (h : ∀ v h3 tk3 N3 io3, At W G m' h3 N3 φ2 ψ2 H ρ → (I, io3) ∈ N3 → ItAt G W.nf N3 φ2 (i + 1) io3 q → Ge N1 φ1 N3 φ2 → VR W.nf N3 φ2 v e → Q (some v) (up s h3 tk3)) : wpAny (model W.prog W.w) G.A (pyNext (.ref I)) Q E (up s h2 tk) := by
  obtain ⟨hfx, hnt⟩ := hit.cls
  refine At.next a hm hit hn (fun e v h3 tk3 io3 he hsb hio3 hit3 hv => ?_) fun h3 tk3 he hx => nomatch he
  cases he
  obtain ⟨R3, g3⟩ := a.R.turn (o' := io3) hm hfx hnt
  exact h v h3 tk3 _ io3 ⟨a.F.change hsb (a.nw _ hm).2.1 (a.nw _ hm).2.2, news_setAll a.nw hm hsb hio3, R3, a.L.mono0 g3⟩ (setAll_self hm) (hit3.mono0 g3) (g2.less ltn fun p hp hne => setAll_ne hp hne) (hv.mono0 g3)
/-- the turns -/
theorem for_loop (lk : Lk W) (g : GOk W G sc d) {px : Pos} {n kb : Nat} {R : Result → Shared → Prop} {K : Fl → Loc → AH → Prop} (hs : sc.lookup x = some .local) (hb : b.map (erS kb) = B.map (S.put W.nf kb)) (ltn : ∀ p ∈ N1, p.1 ≠ I) (hI : ForI W G sc d B x q I N1 φ1 s K n (up s h2 tk))
    (hK : ∀ fl ρ' H', K fl ρ' H' → ∀ m' h3 tk3 N3 φ3 ψ3 fv, At W G m' h3 N3 φ3 ψ3 H' ρ' → Ge N1 φ1 N3 φ3 → FlR W.nf N3 φ3 fv fl → R (.ok fv) (up s h3 tk3)) : codeAny (model W.prog W.w) G.A (.forLoop (.Name (W.nf x) px) (.ref I) b [] G.env) R (up s h2 tk) := by
  refine codeAny_forLoop (ForI W G sc d B x q I N1 φ1 s K) ?_ n hI
  rintro k s' ⟨a, hm, hit, g2, hr, hk⟩
  cases hr with
  | stop hn => exact for_stop a hm hit g2 ltn hn fun h3 tk3 N3 a3 g3 => wpAny_execs_nil (hK _ _ _ hk _ h3 tk3 N3 _ _ .next a3 g3 .next)
  | turn hn hex hf hr =>
    refine for_turn a hm hit g2 ltn hn fun v h3 tk3 N3 io3 a3 hm3 hit3 g3 hv => ?_
    refine wpAny_assign_Name (storeX_L (s := up s h3 tk3) a3.F a3.nw (fun h4 F4 N4 => ?_) g.hk ((g.ks x).trans hs))
    refine hex G kb b g hb _ (up s h4 (tk3 + 1)) _ _ _ _ _ ⟨F4, N4, a3.R, a3.L.set lk.inj ((g.ks x).trans hs) hv⟩ fun f m5 h5 tk5 N5 φ5 ψ5 a5 g5 rf => ?_
    have on := fun (_ : Unit) => (⟨_, Nat.lt_succ_self _, ⟨a5, g5.it _ _ hit3.cls.1 hm3, hit3.mono0 g5.toGe0, g3.trans g5, hr, hk⟩⟩ : ∃ m, m < _ + 1 ∧ ForI W G sc d B x q I N1 φ1 s K m (up s h5 tk5))
    cases rf with
    | next => exact on ()
    | cont => exact on ()
    | ret rv => exact absurd rfl (hf _)
  | ret hn hex =>
    refine for_turn a hm hit g2 ltn hn fun v h3 tk3 N3 io3 a3 hm3 hit3 g3 hv => ?_
    refine wpAny_assign_Name (storeX_L (s := up s h3 tk3) a3.F a3.nw (fun h4 F4 N4 => ?_) g.hk ((g.ks x).trans hs))
    refine hex G kb b g hb _ (up s h4 (tk3 + 1)) _ _ _ _ _ ⟨F4, N4, a3.R, a3.L.set lk.inj ((g.ks x).trans hs) hv⟩ fun f m5 h5 tk5 N5 φ5 ψ5 a5 g5 rf => ?_
    cases rf with
    | ret rv => exact hK _ _ _ hk m5 h5 tk5 N5 φ5 ψ5 _ a5 (g3.trans g5) (.ret rv)
end
theorem st_for (lk : Lk W) (g : GOk W G sc d) {x : Nat} {e : Expr} {b : List Stmt} {B : List (S Nat)} {p px : Pos} {q : Src} {H1 H2 H3 H4 : AH} {n kb : Nat} {fl : Fl} {ρ2 : Loc} (hs : sc.lookup x = some .local) (hsrc : SrcOk W G (eval e G.env) ρ H q H1) (hfold : ∀ v, foldedSetIterable e G.env v = pure v) (hl : lock q H1 = some H2)
    (hb : b.map (erS kb) = B.map (S.put W.nf kb)) (hrun : ForOk W sc d B x q n ρ H2 0 fl ρ2 H3) (hu : unlock q H3 = some H4) : ExOk W G (exec (.For (.Name (W.nf x) px) e b [] p) G.env) ρ H fl ρ2 H4 := by
  intro m s N φ ψ Q E a h
  refine wpAny_noRaise ?_
  refine wpAny_For (hsrc m s N φ ψ _ _ a fun v h1 tk1 N1 φ1 ψ1 a1 g1 v1 => ?_) hfold
  refine a1.iter v1 hl fun ep io h' a2 hit ltn back => ?_
  refine for_loop (G := G.re ep) (K := fun f r H => f = fl ∧ r = ρ2 ∧ H = H3) lk (g.re ep) hs hb ltn (.mk a2 (.head _) hit Ge.push1 hrun ⟨rfl, rfl, rfl⟩) ?_
  rintro f r H ⟨rfl, rfl, rfl⟩ m' h3 tk3 N3 φ3 ψ3 fv a3 g3 rf
  exact h fv m' h3 tk3 N3 φ3 ψ3 (back _ _ _ _ _ _ _ _ a3 g3.fi hu) (g1.trans g3) rf
end

section
variable {W : Wd} {G : Gd} {sc : Sc} {d : Nat} {ρ : Loc} {H : AH}
/-! not, and, or -/
theorem tr_not {e : Expr} {p : Pos} {whole : Sem Value} {b : Bool} {H1 : AH} (ih : TrOk W G (PySem.isTrue e G.env (eval e G.env)) ρ H b H1) : TrOk W G (PySem.isTrue (.UnaryOp .Not e p) G.env whole) ρ H (!b) H1 := by
  intro m s N φ ψ Q E a h
  exact isTrue_not (ih m s N φ ψ _ E a fun h1 tk N1 φ1 ψ1 a1 g1 => h h1 tk N1 φ1 ψ1 a1 g1)
noncomputable def opOf (a : Bool) : BoolOp := if a = true then .And else .Or
theorem tr_one {e : Expr} {a : Bool} {p : Pos} {whole : Sem Value} {b : Bool} {H1 : AH} (ih : TrOk W G (PySem.isTrue e G.env (eval e G.env)) ρ H b H1) : TrOk W G (PySem.isTrue (.BoolOp (opOf a) [e] p) G.env whole) ρ H b H1 := by
  intro m s N φ ψ Q E t h
  cases a with
  | true =>
    refine isTrue_and (ih m s N φ ψ _ E t fun h1 tk N1 φ1 ψ1 a1 g1 => ?_)
    cases b with
    | true => rw [if_pos rfl]; exact isTrue_and_nil (h h1 tk N1 φ1 ψ1 a1 g1)
    | false => rw [if_neg (by decide)]; exact h h1 tk N1 φ1 ψ1 a1 g1
  | false =>
    refine isTrue_or (ih m s N φ ψ _ E t fun h1 tk N1 φ1 ψ1 a1 g1 => ?_)
    cases b with
    | true => rw [if_pos rfl]; exact h h1 tk N1 φ1 ψ1 a1 g1
    | false => rw [if_neg (by decide)]; exact isTrue_or_nil (h h1 tk N1 φ1 ψ1 a1 g1)
theorem tr_go {e : Expr} {es : List Expr} {a b : Bool} {p : Pos} {whole : Sem Value} {H1 H2 : AH} (ih : TrOk W G (PySem.isTrue e G.env (eval e G.env)) ρ H a H1) (ih2 : ∀ whole, TrOk W G (PySem.isTrue (.BoolOp (opOf a) es p) G.env whole) ρ H1 b H2) : TrOk W G (PySem.isTrue (.BoolOp (opOf a) (e :: es) p) G.env whole) ρ H b H2 := by
  intro m s N φ ψ Q E t h
  cases a with
  | true =>
    refine isTrue_and (ih m s N φ ψ _ E t fun h1 tk N1 φ1 ψ1 a1 g1 => ?_)
    rw [if_pos rfl]
    exact ih2 _ m _ N1 φ1 ψ1 _ E a1 fun h2 tk2 N2 φ2 ψ2 a2 g2 => h h2 tk2 N2 φ2 ψ2 a2 (g1.trans g2)
  | false =>
    refine isTrue_or (ih m s N φ ψ _ E t fun h1 tk N1 φ1 ψ1 a1 g1 => ?_)
    rw [if_neg (by decide)]
    exact ih2 _ m _ N1 φ1 ψ1 _ E a1 fun h2 tk2 N2 φ2 ψ2 a2 g2 => h h2 tk2 N2 φ2 ψ2 a2 (g1.trans g2)
theorem tr_end {e : Expr} {es : List Expr} {a b : Bool} {p : Pos} {whole : Sem Value} {H1 : AH} (hab : b = !a) (ih : TrOk W G (PySem.isTrue e G.env (eval e G.env)) ρ H b H1) : TrOk W G (PySem.isTrue (.BoolOp (opOf a) (e :: es) p) G.env whole) ρ H b H1 := by
  intro m s N φ ψ Q E t h
  subst hab
  cases a with
  | true =>
    refine isTrue_and (ih m s N φ ψ _ E t fun h1 tk N1 φ1 ψ1 a1 g1 => ?_)
    rw [if_neg (by decide)]
    exact h h1 tk N1 φ1 ψ1 a1 g1
  | false =>
    refine isTrue_or (ih m s N φ ψ _ E t fun h1 tk N1 φ1 ψ1 a1 g1 => ?_)
    rw [if_pos (by decide)]
    exact h h1 tk N1 φ1 ψ1 a1 g1
/-- a and b, as a value -/
theorem ok_and {e1 e2 : Expr} {p : Pos} {b : Bool} {r : AV} {H1 H2 : AH} (i1 : EvOk W G (eval e1 G.env) ρ H (.bool b) H1) (i2 : if b = true then EvOk W G (eval e2 G.env) ρ H1 r H2 else r = .bool false ∧ H2 = H1) : EvOk W G (eval (.BoolOp .And [e1, e2] p) G.env) ρ H r H2 := by
  intro m s N φ ψ Q E t h
  refine BoolOp_and (i1 m s N φ ψ _ E t fun v h1 tk N1 φ1 ψ1 a1 g1 v1 => ?_)
  cases v1
  refine wpAny_truthy_bool ?_
  cases b with
  | true =>
    rw [if_pos rfl]
    rw [if_pos rfl] at i2
    exact BoolOp_one (i2 m _ N1 φ1 ψ1 _ E a1 fun v h2 tk2 N2 φ2 ψ2 a2 g2 v2 => h v h2 tk2 N2 φ2 ψ2 a2 (g1.trans g2) v2)
  | false =>
    rw [if_neg (by decide)]
    rw [if_neg (by decide)] at i2
    obtain ⟨rfl, rfl⟩ := i2
    exact h _ h1 tk N1 φ1 ψ1 a1 g1 (.bool false)
/-- range -/
theorem src_rng (lk : Lk W) (g : GOk W G sc d) {k : Nat} {p q : Pos} {x : Nat} {e : Expr} {y : X Nat} {i : Int} {H1 : AH} (hs : sc.lookup x = some .globalImplicit) (hc : nsIn W.K mainGlobals (W.nf x) = some none ∧ bootBuiltins (W.nf x) = some (.type "range") ∧ W.nf x ≠ Str.ofString "__name__") (hy : er k e = X.put W.nf k y)
    (hi : 0 ≤ i ∧ i ≤ 1000000) (ih : EvsOk W G (spliced (backTo p (starEach [e] G.env))) ρ H [.int i] H1) : SrcOk W G (eval (.Call (.Name (W.nf x) q) [e] [] p) G.env) ρ H (.rng i.toNat) H1 := by
  intro m s N φ ψ Q E a h
  obtain ⟨b1, b2, b3⟩ := hc
  refine Call_ ?_
  refine nameX_B a.F g.X (topRead_of g.T) b1 b2 b3 ?_ g.hk ((g.ks x).trans hs) (lk.dbg x)
  refine PyProof.Rows.callWith_type1 (ih m s N φ ψ _ E a fun us h1 tk N1 φ1 ψ1 a1 g1 v1 => ?_) (noStar hy (put_bad y)) rfl
  cases v1 with
  | cons hv r =>
    cases r
    cases hv with
    | int _ t =>
      refine call_range_1 ?_
      have ltn : ∀ p ∈ N1, p.1 ≠ h1.objs.size := fun p hp => Nat.ne_of_lt (Heap.lt_size (a1.nw p hp).1)
      refine h _ _ _ _ φ1 ψ1 ⟨a1.F.push _, News.push a1.F a1.nw _, a1.R.fix ltn, a1.L.mono Ge.push1⟩ (g1.trans Ge.push1) ⟨_, tk, t, tk + 1, rfl, by rw [show ((i.toNat : Nat) : Int) = i by (first | lia | omega)]; exact IsRange.new h1 0 i 1 tk t (tk + 1), by (first | lia | omega)⟩
/-- a[i] op= e -/
theorem st_augSub (ls : LkS W) {k : Nat} {e o i : Expr} {y : X Nat} {q p : Pos} {op : Operator} {a0 j u r v : AV} {H1 H2 H3 H4 : AH} (hy : er k i = X.put W.nf k y) (hn : notSl y = true) (i1 : EvOk W G (eval o G.env) ρ H a0 H1) (i2 : EvOk W G (eval i G.env) ρ H1 j H2) (hl : ∃ o n l, a0 = .obj o ∧ j = .int n ∧ H2[o]? = some (.list l) ∧ itemAt l n = some u)
    (i3 : EvOk W G (eval e G.env) ρ H2 r H3) (hg : Mine.augOp op u r = some v) (hst : Mine.storeItem H3 a0 j v = some H4) : ExOk W G (exec (.AugAssign (.Subscript o i q) op e p) G.env) ρ H .next ρ H4 := by
  intro m s N φ ψ Q E a h
  refine wpAny_AugAssign_SubscriptAny (i1 m s N φ ψ _ E a fun w1 h1 tk1 N1 φ1 ψ1 a1 g1 v1 => i2 m _ N1 φ1 ψ1 _ E a1 fun w2 h2 tk2 N2 φ2 ψ2 a2 g2 v2 => ?_) ?_
  · obtain ⟨o', n, l, rfl, rfl, hl, hu⟩ := hl
    obtain ⟨hb, hr⟩ := itemAt_some hu
    refine (v1.mono g2).objE fun a ha => v2.intE fun t => a2.R.listE ha hl fun hμ vs nn hm hvs => ?_
    obtain ⟨x, hx, rx⟩ := hvs.getR hr
    have hL : h2.IsList _ vs.toArray := ⟨_, (a2.nw _ hm).1, rfl, nn, rfl⟩
    refine wpAny_getItem_list hL hb.1 (by (first | lia | omega)) (by rw [List.getElem?_toArray]; exact hx) ?_
    refine i3 m _ N2 φ2 ψ2 _ E a2 fun w3 h3 tk3 N3 φ3 ψ3 a3 g3 v3 => ?_
    refine a3.iop (rx.mono g3) v3 hg fun w4 h4 tk4 N4 φ4 ψ4 a4 g4 v4 => ?_
    refine a4.storeItem (.obj (g4.fi _ _ (g3.fi _ _ ha))) (.int _ t) v4 hst fun h5 tk5 N5 φ5 ψ5 a5 g5 => ?_
    exact h .next m h5 tk5 N5 φ5 ψ5 a5 ((((g1.trans g2).trans g3).trans g4).trans g5) .next
  · intro ov iv new
    cases i with
    | Slice a b c p => exact absurd rfl (slice_no hy hn _ _ _ _)
    | _ => rfl
/-- a swap's stores -/
theorem swap_cases {env : Env} {x y u v : Str} {p1 p2 p3 p4 p5 p6 : Pos} {j j' : Nat} (hn : x ≠ y) (hu : (u == Str.ofString "__debug__") = false) : swappedStores [.Tuple [.Name x p1, .Name y p2] j p3] (.Tuple [.Name u p4, .Name v p5] j' p6) env = pure none ∨ swappedStores [.Tuple [.Name x p1, .Name y p2] j p3] (.Tuple [.Name u p4, .Name v p5] j' p6) env = pure (some [x, y]) := by
  have e1 : ([Expr.Name u p4, Expr.Name v p5].any fun | .Starred .. => true | _ => false) = false := rfl
  have e2 : [Expr.Name u p4, Expr.Name v p5].all (foldedForSure 8) = false := rfl
  have e3 : [Expr.Name u p4, Expr.Name v p5].all (constantsAlone 8) = false := by
    show ((u == Str.ofString "__debug__") && _) = false
    rw [hu]; rfl
  have hyx : (y == x) = false := by
    rw [Bool.eq_false_iff]
    exact fun e => hn (LawfulBEq.eq_of_beq e).symm
  have hxy : [x, y].eraseDups = [x, y] := by
    simp [List.eraseDups, List.eraseDupsBy, List.eraseDupsBy.loop, hyx]
  have hx1 : [x].eraseDups = [x] := rfl
  have ep : ∀ (x : Str) (p : Pos), (Expr.Name x p).pos = p := fun _ _ => rfl
  unfold swappedStores
  simp only [e1, e2, e3]
  by_cases hb : (env.blockKind != .function) = true
  · left; simp [hb]
  · simp only [Bool.not_eq_true] at hb
    by_cases h1 : env.kindOf x = some NameKind.local
    · by_cases h2 : env.kindOf y = some NameKind.local ∧ p2.line = p1.line
      · right
        simp [hb, h1, h2, hxy, List.filterMap_cons, ep]
      · left
        simp [hb, h1, h2, List.filterMap_cons, ep]
    · left
      by_cases h2 : env.kindOf y = some NameKind.local ∧ p2.line = p1.line
      · simp [hb, h1, h2, List.filterMap_cons, ep]
      · simp [hb, h1, h2, List.filterMap_cons, ep]
theorem st_swap (lk : Lk W) (g : GOk W G sc d) {x y x' y' : Nat} {p q q1 q2 q3 q4 q5 : Pos} {j j' : Nat} {u v : AV} {H1 : AH} (hn : x ≠ y) (hs : sc.lookup x = some .local) (hs' : sc.lookup y = some .local)
    (ih : EvOk W G (eval (.Tuple [.Name (W.nf x') q3, .Name (W.nf y') q4] j' q5) G.env) ρ H (.tup [u, v]) H1) :
    ExOk W G (exec (.Assign [.Tuple [.Name (W.nf x) q1, .Name (W.nf y) q2] j q] (.Tuple [.Name (W.nf x') q3, .Name (W.nf y') q4] j' q5) p) G.env) ρ H .next (setL y v (setL x u ρ)) H1 := by
  rcases swap_cases (env := G.env) (x := W.nf x) (y := W.nf y) (u := W.nf x') (v := W.nf y') (p1 := q1) (p2 := q2) (p3 := q) (p4 := q3) (p5 := q4) (p6 := q5) (j := j) (j' := j') (fun e => hn (lk.inj _ _ e)) (lk.dbg x') with he | he
  · exact st_tup (k := 2) (y := .tup [.nm x', .nm y']) lk g rfl hs hs' he ih
  · intro m s N φ ψ Q E a h
    refine Assign_Tuple_swapped (ih m s N φ ψ _ E a fun w' h1 tk N1 φ1 ψ1 a1 g1 v1 => ?_) rfl he
    cases v1 with
    | tup hm hvs =>
      cases hvs with
      | cons hu r =>
        cases r with
        | cons hv r =>
          cases r
          rename_i q0 u' v'
          refine unpackItemsN_ a1.F a1.nw ⟨_, (a1.nw _ hm).1, rfl, 0, rfl⟩ rfl rfl fun h2 F2 N2 => ?_
          refine wpAny_assignInOrder_more (bindName_ (storeX_L F2 N2 (fun h3 F3 N3 => ?_) g.hk ((g.ks y).trans hs')))
          refine wpAny_assignInOrder_more (bindName_ (storeX_L F3 N3 (fun h4 F4 N4 => ?_) g.hk ((g.ks x).trans hs)))
          exact wpAny_assignInOrder_none (h .next _ h4 _ N1 φ1 ψ1 ⟨F4, N4, a1.R, a1.L.set2 lk.inj hn ((g.ks x).trans hs) ((g.ks y).trans hs') hu hv⟩ g1 .next)
end

section
variable {W : Wd} {G : Gd} {sc : Sc} {d : Nat} {ρ : Loc} {H : AH}
structure LkT (W : Wd) : Prop where
  range : ∀ x, Tb.call x = some .range → nsIn W.K mainGlobals (W.nf x) = some none ∧ bootBuiltins (W.nf x) = some (.type "range") ∧ W.nf x ≠ Str.ofString "__name__"
  rev : ∀ x, Tb.call x = some .rev → nsIn W.K mainGlobals (W.nf x) = some none ∧ bootBuiltins (W.nf x) = some (.type "reversed") ∧ W.nf x ≠ Str.ofString "__name__"
  sorted : ∀ x, Tb.call x = some .sorted → nsIn W.K mainGlobals (W.nf x) = some none ∧ bootBuiltins (W.nf x) = some (.builtin "sorted") ∧ W.nf x ≠ Str.ofString "__name__"
/-! slices -/
theorem pick_up (items : Array Value) (b : Nat) : slicePick items none (some (b : Int)) none = (items.toList.take b).toArray := by
  by_cases hb : b ≤ items.size
  · exact slicePick_upto items b hb
  · have e : slicePick items none (some (b : Int)) none = slicePick items none (some (items.size : Int)) none := by
      have e : sliceBounds none (some (b : Int)) none items.size = sliceBounds none (some (items.size : Int)) none items.size := by
        simp only [sliceBounds, Option.getD_none]
        have h1 : ¬ ((b : Int) < 0) := by (first | lia | omega)
        have h2 : ¬ ((items.size : Int) < 0) := by (first | lia | omega)
        simp only [h1, h2, if_false, show (1 : Int) > 0 by decide, if_true]
        congr 2
        (first | lia | omega)
      unfold slicePick
      rw [e]
    rw [e, slicePick_upto items items.size (Nat.le_refl _), List.take_of_length_le (by simp), List.take_of_length_le (by simp; (first | lia | omega))]
theorem pick_fr (items : Array Value) (b : Nat) : slicePick items (some (b : Int)) none none = (items.toList.drop b).toArray := by
  by_cases hb : b ≤ items.size
  · exact slicePick_from items b hb
  · have e : slicePick items (some (b : Int)) none none = slicePick items (some (items.size : Int)) none none := by
      have e : sliceBounds (some (b : Int)) none none items.size = sliceBounds (some (items.size : Int)) none none items.size := by
        simp only [sliceBounds, Option.getD_none]
        have h1 : ¬ ((b : Int) < 0) := by (first | lia | omega)
        have h2 : ¬ ((items.size : Int) < 0) := by (first | lia | omega)
        simp only [h1, h2, if_false, show (1 : Int) > 0 by decide, if_true]
        congr 1
        (first | lia | omega)
      unfold slicePick
      rw [e]
    rw [e, slicePick_from items items.size (Nat.le_refl _), List.drop_of_length_le (by simp), List.drop_of_length_le (by simp; (first | lia | omega))]
theorem At.slice {m : Str → Option Value} {s : Shared} {N : Led} {φ ψ : List Addr} {value : Expr} {e1 e2 : Option Expr} {q : Pos} {o : Nat} {aa : Addr} {l k : List AV} {vl vu : Value} {lo hi : Option Int} {Q E : Value → Shared → Prop} (a : At W G m s.heap N φ ψ H ρ) (ha : φ[o]? = some aa) (hl : H[o]? = some (.list l)) (hz : l.length ≤ 1000000) (pl : IsPart vl lo) (pu : IsPart vu hi)
    (hk : ∀ vs, All2 (VR W.nf N φ) vs l → ∃ us : List Value, slicePick vs.toArray lo hi none = us.toArray ∧ All2 (VR W.nf N φ) us k)
    (h : ∀ v h tk N' φ' ψ', At W G m h N' φ' ψ' (H ++ [.list k]) ρ → Ge N φ N' φ' → VR W.nf N' φ' v (.obj H.length) → Q v (up s h tk)) :
    wpAny (model W.prog W.w) G.A (subscriptTail value (.Slice e1 e2 none q) (.ref aa) (.ref s.heap.objs.size)) Q E { s with heap := s.heap.push { cls := .type "slice", data := .fields #[vl, vu, .none] } } := by
  refine a.R.listE ha hl fun hμ vs n hm hvs => ?_
  obtain ⟨us, e, hus⟩ := hk vs hvs
  have hlen := hvs.length
  refine kba_turn (value' := .Name (Str.ofString "_") ⟨0, 0, 0, 0⟩) (fun _ => rfl) (slice_list a.F a.nw ⟨_, (a.nw _ hm).1, rfl, n, rfl⟩ pl pu (fun h' F' N' => ?_) rfl (fun _ => rfl) (by rw [List.size_toArray, sizeLine_eq]; (first | lia | omega)))
  rw [e] at N'
  obtain ⟨a2, g2, v2⟩ := a.cell (O := .list k) F' N' (fun p hp => Nat.ne_of_lt (Nat.lt_succ_of_lt (Heap.lt_size (a.nw p hp).1))) fixed_list (fun _ _ e => by cases e) (fun ge => ⟨rfl, us, 0, .head _, VRs.mono hus ge⟩)
  exact h _ h' s.toks _ _ _ a2 g2 v2
theorem ok_upto {e i : Expr} {p q : Pos} {o : Nat} {j : Int} {l : List AV} {H1 H2 : AH} (i1 : EvOk W G (eval e G.env) ρ H (.obj o) H1) (i2 : EvOk W G (eval i G.env) ρ H1 (.int j) H2) (hl : H2[o]? = some (.list l)) (hj : 0 ≤ j ∧ j < 1000000 ∧ l.length ≤ 1000000) :
    EvOk W G (eval (.Subscript e (.Slice none (some i) none q) p) G.env) ρ H (.obj H2.length) (H2 ++ [.list (l.take j.toNat)]) := by
  intro m s N φ ψ Q E a h
  refine Subscript_ (i1 m s N φ ψ _ E a fun v h1 tk N1 φ1 ψ1 a1 g1 v1 => ?_)
  refine wpAny_Slice (wpAny_pure (i2 m _ N1 φ1 ψ1 _ E a1 fun u h2 tk2 N2 φ2 ψ2 a2 g2 v2 => wpAny_pure ?_))
  refine (v1.mono g2).objE fun aa ha => ?_
  refine v2.intE fun t => ?_
  refine a2.slice (s := up s h2 tk2) ha hl hj.2.2 .none (.int j t) (fun vs hvs => ⟨vs.take j.toNat, ?_, hvs.take _⟩) fun v h3 tk3 N3 φ3 ψ3 a3 g3 v3 => h v h3 tk3 N3 φ3 ψ3 a3 ((g1.trans g2).trans g3) v3
  have q := pick_up vs.toArray j.toNat
  rw [Int.toNat_of_nonneg hj.1] at q
  exact q
theorem ok_frm {e i : Expr} {p q : Pos} {o : Nat} {j : Int} {l : List AV} {H1 H2 : AH} (i1 : EvOk W G (eval e G.env) ρ H (.obj o) H1) (i2 : EvOk W G (eval i G.env) ρ H1 (.int j) H2) (hl : H2[o]? = some (.list l)) (hj : 0 ≤ j ∧ j < 1000000 ∧ l.length ≤ 1000000) :
    EvOk W G (eval (.Subscript e (.Slice (some i) none none q) p) G.env) ρ H (.obj H2.length) (H2 ++ [.list (l.drop j.toNat)]) := by
  intro m s N φ ψ Q E a h
  refine Subscript_ (i1 m s N φ ψ _ E a fun v h1 tk N1 φ1 ψ1 a1 g1 v1 => ?_)
  refine wpAny_Slice (i2 m _ N1 φ1 ψ1 _ E a1 fun u h2 tk2 N2 φ2 ψ2 a2 g2 v2 => wpAny_pure (wpAny_pure ?_))
  refine (v1.mono g2).objE fun aa ha => ?_
  refine v2.intE fun t => ?_
  refine a2.slice (s := up s h2 tk2) ha hl hj.2.2 (.int j t) .none (fun vs hvs => ⟨vs.drop j.toNat, ?_, hvs.drop _⟩) fun v h3 tk3 N3 φ3 ψ3 a3 g3 v3 => h v h3 tk3 N3 φ3 ψ3 a3 ((g1.trans g2).trans g3) v3
  have q := pick_fr vs.toArray j.toNat
  rw [Int.toNat_of_nonneg hj.1] at q
  exact q
theorem collect_src {prog : Program} {w : World} {A : Around} {E : Value → Shared → Prop} {s : Shared} {T : String} {r dd : Addr} {n : Nat} {P : Nat → Value → Prop} {OK : Heap → Prop} {Q : List Value → Shared → Prop} (K : KdlSrc prog w T r dd n P OK) (hh : A.handled = none) (hok : OK s.heap) (hn : n ≤ sizeLine)
    (h : ∀ h' tk (acc : Array Value), (∀ b o, s.heap.get? b = some o → h'.get? b = some o) → acc.size = n → (∀ j v, acc[j]? = some v → P j v) → Q acc.toList { s with heap := h', toks := tk }) : wpAny (model prog w) A (collect (.ref r)) Q E s := by
  unfold collect
  refine wpAny_bind (wpAny_runValue (codeAny_builtin entry_proto_collect' ?_))
  show wpAny _ _ (do again (.builtin "list.__iadd__" ⟨[← newList [], .ref r], []⟩)) _ _ s
  refine wpAny_bind (wpAny_newList (wpAny_pure ⟨Code.quiet_builtin _ (by decide +kernel), codeAny_builtin entry_list_iadd' ?_⟩))
  show wpAny _ _ (Builtin.List.listExtendWith (.ref s.heap.objs.size) (.ref r) (.ref s.heap.objs.size)) _ _ { s with heap := s.heap.push (seqObj "list" #[] 0) }
  obtain ⟨t1, t2⟩ := K.there _ hok
  rw [Around.under_plainId (by decide +kernel) _]
  refine kdl_extend (R := fun r s' => match r with
    | .ok (.ret v) => wpAny (model prog w) A (match v with
      | .ref a => do
        let o ← load a
        match o.data with
        | .seq xs _ => pure xs.toList
        | _ => unsupported "internal:collect"
      | _ => unsupported "internal:collect") Q E s'
    | .ok _ => False
    | .error e => E e s') (s := { s with heap := s.heap.push (seqObj "list" #[] 0) }) K hh (K.keep _ _ hok fun b _ o e => Heap.get?_push_of_some _ e) _ (Nat.ne_of_gt t1) (Nat.ne_of_gt t2) _ 0 (Heap.get?_push_size _ rfl) (fun h' tk acc' c' hk hS hacc => ?_) hn
  show wpAny (model prog w) A (do
      let o ← load s.heap.objs.size
      match o.data with
      | .seq xs _ => pure xs.toList
      | _ => unsupported "internal:collect") Q E { s with heap := h', toks := tk }
  refine wpAny_bind (wpAny_load hS ?_)
  show wpAny _ _ (pure acc'.toList) Q E _
  exact wpAny_pure (h h' tk acc' (fun b o e => hk b o (Nat.ne_of_lt (Heap.lt_size e)) (Heap.get?_push_of_some _ e)) hacc.1 hacc.2)
theorem ins_perm (k : Int) : ∀ l, (ins k l).Perm (k :: l)
  | [] => List.Perm.refl _
  | j :: r => by
    unfold ins
    split
    · exact List.Perm.refl _
    · exact (List.Perm.cons j (ins_perm k r)).trans (List.Perm.swap k j r)
theorem insSort_perm : ∀ l, (insSort l).Perm l
  | [] => List.Perm.refl _
  | a :: l => (ins_perm a _).trans (List.Perm.cons a (insSort_perm l))
theorem ins_sorted (k : Int) : ∀ l : List Int, l.Pairwise (· ≤ ·) → (ins k l).Pairwise (· ≤ ·)
  | [], _ => by simp [ins]
  | j :: r, h => by
    rw [List.pairwise_cons] at h
    unfold ins
    split
    · rename_i hk
      rw [List.pairwise_cons, List.pairwise_cons]
      exact ⟨fun x hx => by
        rcases List.mem_cons.mp hx with rfl | hx
        · exact hk
        · exact Int.le_trans hk (h.1 x hx), h⟩
    · rename_i hk
      rw [List.pairwise_cons]
      refine ⟨fun x hx => ?_, ins_sorted k r h.2⟩
      rcases List.mem_cons.mp ((ins_perm k r).mem_iff.mp hx) with rfl | hx
      · (first | lia | omega)
      · exact h.1 x hx
theorem insSort_sorted : ∀ l : List Int, (insSort l).Pairwise (· ≤ ·)
  | [] => List.Pairwise.nil
  | a :: l => ins_sorted a _ (insSort_sorted l)
theorem ints_vr {nf : Nat → Str} {N : Led} {φ : List Addr} : ∀ {vs : List Value} {ns : List Int}, IntsAre vs ns → All2 (VR nf N φ) vs (ns.map .int)
  | _, _, .nil => .nil
  | _, _, .cons n t h => .cons (.int n t) (ints_vr h)
theorem keys_eq {nf : Nat → Str} {N : Led} {φ : List Addr} : ∀ {kvs : List (Int × Value)} {l : List (Int × AV)}, All2 (fun p q => p.1 = q.1 ∧ VR nf N φ p.2 q.2) kvs l → kvs.map (·.1) = l.map (·.1)
  | _, _, .nil => rfl
  | _, _, .cons h r => by rw [List.map_cons, List.map_cons, h.1, keys_eq r]
/-- the call itself -/
theorem call_sorted_dict {prog : Program} {w : World} {A : Around} {E : Value → Shared → Prop} {s : Shared} {dd : Addr} {kvs : List (Int × Value)} {ep : Nat} {Q : Value → Shared → Prop} (hh : A.handled = none) (lo : (dd == sysModules) = false) (hm : s.heap.DictAt (intKind prog w) dd kvs ep) (h64 : kvs.length < 64)
    (h : ∀ (D : Addr) h' tk (out : Array Value) (ns' : List Int) e, (∀ b o, s.heap.get? b = some o → h'.get? b = some o) → (∀ b o, s.heap.get? b = some o → b ≠ D) → h'.get? D = some (seqObj "list" out e) → IntsAre out.toList ns' → ns'.Perm (kvs.map (·.1)) → ns'.Pairwise (· ≤ ·) → Q (.ref D) { s with heap := h', toks := tk }) :
    wpAny (model prog w) A (call (.builtin "sorted") [.ref dd]) Q E s := by
  refine Calls.call_function_entry kind_sorted plain_sorted entry_sorted (args_sorted1 _) ?_
  unfold Builtin.«sorted»
  refine wpAny_bind (m := checkCount "sorted" 1 1 _) (wpAny_pure ?_)
  refine wpAny_bind (collect_src (kdl_dict lo) hh hm (by rw [sizeLine_eq]; (first | lia | omega)) fun h1 tk acc hk hsz hP => ?_)
  have hI : IntsAre acc.toList (kvs.map (·.1)) := by
    have key : ∀ (vs : List Value) (kvs : List (Int × Value)), vs.length = kvs.length → (∀ (j : Nat) (v : Value), vs[j]? = some v → ∃ k x, kvs[j]? = some (k, x) ∧ (intKind prog w).is k v = true) → IntsAre vs (kvs.map (·.1)) := by
      intro vs
      induction vs with
      | nil => intro kvs hl _; cases kvs with
        | nil => exact .nil
        | cons _ _ => cases hl
      | cons v vs ih =>
        intro kvs hl hP
        cases kvs with
        | nil => cases hl
        | cons kv kvs =>
          obtain ⟨k, x, e1, e2⟩ := hP 0 v rfl
          cases e1
          obtain ⟨t, rfl⟩ := Value.isInt_shape e2
          exact .cons k t (ih kvs (Nat.succ.inj hl) fun j v e => hP (j + 1) v e)
    exact key _ _ (by rw [Array.length_toList]; exact hsz) fun j v e => hP j v (by rw [← Array.getElem?_toList]; exact e)
  refine wpAny_bind (wpAny_newList ?_)
  have hoL : (h1.push (seqObj "list" acc.toList.toArray 0)).get? h1.objs.size = some (seqObj "list" acc.toList.toArray 0) := Heap.get?_push_size _ rfl
  show wpAny _ _ _ _ _ { s with heap := h1.push (seqObj "list" acc.toList.toArray 0), toks := tk }
  refine wpAny_bind (wpAny_holding (wpAny_call_entry slot_list_sort ⟨_, hoL, rfl⟩ entry_list_sort (list_sort_tree hoL hI (by rw [Array.length_toList, hsz]; exact h64) fun out ns' a1 a2 a3 => ⟨_, rfl, ?_⟩) (args_list_sort _)))
  obtain ⟨e, he⟩ := sortedHeap_at (vs := acc.toList) (out := out) hoL
  have hle : ∀ b o, s.heap.get? b = some o → b ≠ h1.objs.size := fun b o e => Nat.ne_of_lt (Heap.lt_size (hk b o e))
  exact wpAny_pure ⟨_, rfl, h _ _ _ out ns' e (fun b o eb => by
    have := Heap.lt_size (hk b o eb)
    rw [sortedHeap_old (Nat.ne_of_lt this) (by rw [size_push']; exact Nat.lt_succ_of_lt this)]
    exact Heap.get?_push_of_some _ (hk b o eb)) hle he a1 a2 a3⟩
/-- sorted(dict) -/
theorem ok_sorted (lk : Lk W) (lt : LkT W) (g : GOk W G sc d) {k : Nat} {p q : Pos} {x : Nat} {e : Expr} {y : X Nat} {o : Nat} {l : List (Int × AV)} {b : Bool} {H1 : AH} (hs : sc.lookup x = some .globalImplicit) (hc : Tb.call x = some .sorted) (hy : er k e = X.put W.nf k y) (ih : EvsOk W G (spliced (backTo p (starEach [e] G.env))) ρ H [.obj o] H1) (hl : H1[o]? = some (.dict l b)) (hz : l.length < 64) :
    EvOk W G (eval (.Call (.Name (W.nf x) q) [e] [] p) G.env) ρ H (.obj H1.length) (H1 ++ [.list ((insSort (l.map (·.1))).map .int)]) := by
  intro m s N φ ψ Q E a h
  obtain ⟨b1, b2, b3⟩ := lt.sorted x hc
  refine Call_ ?_
  refine nameX_B a.F g.X (topRead_of g.T) b1 b2 b3 ?_ g.hk ((g.ks x).trans hs) (lk.dbg x)
  refine with_bargs (k := k) (l := [y]) (by simp [hy]) [] (fun e => by cases e) ih m s N φ ψ Q E a fun us h1 tk N1 φ1 ψ1 a1 g1 v1 => ?_
  cases v1 with
  | cons hv r =>
    cases r
    cases hv with
    | @obj aa _ ha =>
      obtain ⟨a', μ, ha', hμ, rfl, ns, od, kvs, hm, hd, _, hkv⟩ := a1.R.at hl
      rw [ha] at ha'; cases ha'
      obtain ⟨ep, hka⟩ := KdkAt.of hd
      have hlen := hkv.length
      refine call_sorted_dict rfl ns (hka.dictAt (a1.nw _ hm).1) (by (first | lia | omega)) fun D h2 tk2 out ns' e keep fresh hget hI hp hs => ?_
      have hks : kvs.map (·.1) = l.map (·.1) := keys_eq hkv
      rw [hks] at hp
      have hns : ns' = insSort (l.map (·.1)) := lks_uniq (hp.trans (insSort_perm _).symm) hs (insSort_sorted _)
      subst hns
      obtain ⟨oL, x1, x2, hoL, x3⟩ := id a1.F.ns
      have F' : Fr G.h₀ G.L h2 m := a1.F.kept keep
      have N' : News G.h₀ G.L h2 ((D, listOf out.toList.toArray e) :: N1) := by
        intro p hp
        rcases List.mem_cons.mp hp with rfl | hp
        · refine ⟨by rw [Array.toArray_toList]; exact hget, (fresh _ _ hoL).symm, ?_⟩
          cases e0 : G.h₀.get? D with
          | none => rfl
          | some o' => exact absurd rfl (fresh _ _ (a1.F.keep _ _ e0))
        · exact ⟨keep _ _ (a1.nw p hp).1, (a1.nw p hp).2⟩
      obtain ⟨a2, g2, v2⟩ := a1.cell (O := .list ((insSort (l.map (·.1))).map .int)) F' N' (fun p hp => fresh _ _ (a1.nw p hp).1) fixed_list (fun _ _ e => by cases e) (fun ge => ⟨rfl, out.toList, e, .head _, ints_vr hI⟩)
      exact h _ h2 tk2 _ _ _ a2 (g1.trans g2) v2
theorem exName_some {e : Expr} {a : Str × Pos} (h : exName e = some a) : e = .Name a.1 a.2 := sub_some (P := fun (a : Str × Pos) => e = .Name a.1 a.2) (o := exNameD e) h
theorem exSub_some {e : Expr} {a : Expr × Expr} (h : exSub e = some a) : ∃ p, e = .Subscript a.1 a.2 p := sub_some (P := fun (a : Expr × Expr) => ∃ p, e = .Subscript a.1 a.2 p) (o := exSubD e) h
theorem exLc_some {e : Expr} {a : Expr × List Comprehension × Scope × Pos} (h : exLc e = some a) : e = .ListComp a.1 a.2.1 a.2.2.1 a.2.2.2 := sub_some (P := fun (a : Expr × List Comprehension × Scope × Pos) => e = .ListComp a.1 a.2.1 a.2.2.1 a.2.2.2) (o := exLcD e) h
theorem exInt_some {e : Expr} {i : Int} (h : exInt e = some i) : ∃ j p, e = .Constant (.int i) j p := sub_some (P := fun (i : Int) => ∃ j p, e = .Constant (.int i) j p) (o := exIntD e) h
theorem one_some {α : Type} {l : List α} {a : α} (h : one? l = some a) : l = [a] := by
  cases l with
  | nil => cases h
  | cons b r => cases r with
    | nil => cases h; rfl
    | cons _ _ => cases h
/-- what colOf tells -/
inductive ColIs (x z : Str) (i : Int) : Expr → Expr → Prop
  | mk {p p1 p2 p3 p4 p5 q : Pos} {y : Str} {j : Nat} {scope : Scope} (h1 : p.line = q.line) (h2 : scope.kind = .function) (h3 : scope.names = [(Str.ofString ".0", .local), (y, .local)]) (h4 : y ≠ Str.ofString ".0") (h5 : x ≠ y) (h6 : x ≠ Str.ofString ".0") (h7 : (y == Str.ofString "__debug__") = false) :
    ColIs x z i (.Name x p) (.ListComp (.Subscript (.Name y p1) (.Constant (.int i) j p2) p3) [⟨.Name y p4, .Name z p5, [], 0⟩] scope q)
theorem ColIs.of {t e : Expr} {i : Int} {tx y y' z : Str × Pos} {L : Expr × List Comprehension × Scope × Pos} {s : Expr × Expr} {g : Comprehension} (e1 : exName t = some tx) (e2 : exLc e = some L) (e3 : exSub L.1 = some s) (e4 : exName s.1 = some y) (e5 : exInt s.2 = some i) (e6 : one? L.2.1 = some g) (e7 : exName g.target = some y') (e8 : exName g.iter = some z)
    (hc : (y.1 = y'.1 ∧ g.ifs.isEmpty = true ∧ g.is_async = 0) ∧ tx.2.line = L.2.2.2.line ∧ L.2.2.1.kind = .function ∧ L.2.2.1.names = [(Str.ofString ".0", .local), (y.1, .local)] ∧ y.1 ≠ Str.ofString ".0" ∧ tx.1 ≠ y.1 ∧ tx.1 ≠ Str.ofString ".0" ∧ (y.1 == Str.ofString "__debug__") = false) : ColIs tx.1 z.1 i t e := by
  have hg : g = ⟨.Name y.1 y'.2, .Name z.1 z.2, [], 0⟩ := by
    have hy := hc.1.1
    have h3 := hc.1.2.1
    have h4 := hc.1.2.2
    clear hc
    cases g with
    | mk gt gi gf ga => rw [show gt = .Name y'.1 y'.2 from exName_some e7, show gi = .Name z.1 z.2 from exName_some e8, show gf = [] from List.isEmpty_iff.mp h3, show ga = 0 from h4, hy]
  obtain ⟨p3, h3⟩ := exSub_some e3
  obtain ⟨j, p2, h5⟩ := exInt_some e5
  rw [exName_some e1, exLc_some e2, h3, exName_some e4, h5, one_some e6, hg]
  exact .mk hc.2.1 hc.2.2.1 hc.2.2.2.1 hc.2.2.2.2.1 hc.2.2.2.2.2.1 hc.2.2.2.2.2.2.1 hc.2.2.2.2.2.2.2
theorem bind_elim {α β : Type} {o : Option α} {f : α → Option β} {b : β} {P : Prop} (h : o.bind f = some b) (k : ∀ a, o = some a → f a = some b → P) : P := by
  cases o with
  | none => cases h
  | some a => exact k a rfl h
theorem if_elim {c : Prop} [Decidable c] {β : Type} {a b : β} {P : Prop} (h : (if c then some a else none) = some b) (k : c → a = b → P) : P := by
  by_cases hc : c
  · rw [if_pos hc] at h; exact k hc (Option.some.inj h)
  · rw [if_neg hc] at h; cases h
theorem colOf_some {t e : Expr} {v : Str × Int × Str} (h : colOf t e = some v) : ColIs v.1 v.2.2 v.2.1 t e :=
  bind_elim h fun _ h1 h => bind_elim h fun _ h2 h => bind_elim h fun _ h3 h => bind_elim h fun _ h4 h => bind_elim h fun _ h5 h => bind_elim h fun _ h6 h => bind_elim h fun _ h7 h => bind_elim h fun _ h8 h => if_elim h fun hc hv => hv ▸ ColIs.of h1 h2 h3 h4 h5 h6 h7 h8 hc
theorem colRun_at {n : Nat} : ∀ {l k : List AV} {j : Nat} {d : AV}, colRun n l = some k → l[j]? = some d → ∃ ds e, d = .tup ds ∧ ds[n]? = some e ∧ k[j]? = some e
  | [], _, _, _, _, hj => by cases hj
  | a :: l, k, j, d, h, hj => by
    unfold colRun at h
    cases a with
    | tup ds =>
      dsimp only at h
      obtain ⟨e, e1, h⟩ := Option.bind_eq_some_iff.mp h
      obtain ⟨k', e2, h⟩ := Option.map_eq_some_iff.mp h
      cases h
      cases j with
      | zero => cases hj; exact ⟨ds, e, rfl, e1, rfl⟩
      | succ j => exact colRun_at (l := l) (k := k') (j := j) e2 hj
    | _ => cases h
theorem colRun_len {n : Nat} : ∀ {l k : List AV}, colRun n l = some k → k.length = l.length
  | [], _, h => by cases h; rfl
  | a :: l, k, h => by
    unfold colRun at h
    cases a with
    | tup ds =>
      dsimp only at h
      obtain ⟨e, e1, h⟩ := Option.bind_eq_some_iff.mp h
      obtain ⟨k', e2, h⟩ := Option.map_eq_some_iff.mp h
      cases h
      rw [List.length_cons, List.length_cons, colRun_len e2]
    | _ => cases h
theorem tupOf_inj {us us' : List Value} (h : tupOf us = tupOf us') : us = us' := by
  have h := congrArg Obj.data h
  injection h with h
  simpa using congrArg Array.toList h
theorem off1_mem {D : Addr} : ∀ {l : List (Addr × Obj)}, LCg.Off1 D l → ∀ p ∈ l, p.1 ≠ D
  | [], _, _, h => nomatch h
  | _ :: _, x, p, h => by
    rcases List.mem_cons.mp h with rfl | h
    · exact x.1
    · exact off1_mem x.2 p h
/-- a comprehension's end: the new list goes to a local -/
theorem At.colEnd (lk : Lk W) (g : GOk W G sc d) {m : Str → Option Value} {s : Shared} {N : Led} {φ ψ : List Addr} {x : Nat} {ys : List Value} {k : List AV} {Q : Flow → Shared → Prop} (hs : sc.lookup x = some .local) (R : RR W.prog W.w W.ca W.nf G.ep N φ ψ H) (L : LR W.nf G.cs G.cl m N φ ρ) (hys : All2 (VR W.nf N φ) ys k)
    (h : ∀ m' h tk N' φ' ψ', At W G m' h N' φ' ψ' (H ++ [.list k]) (setL x (.obj H.length) ρ) → Ge N φ N' φ' → Q .next (up s h tk)) : LCg.FinA G.h₀ G.L m s (W.nf x) Q ys N := fun D h' tk F' N' off => by
  have R' := R.one (q := D) (o := LCg.lst ys) (O := .list k) (off1_mem off) fixed_list (fun _ _ e => by cases e) (fun ge => ⟨rfl, ys, ys.length, .head _, VRs.mono hys ge⟩)
  have hv : VR W.nf ((D, LCg.lst ys) :: N) (φ ++ [D]) (.ref D) (.obj H.length) := .obj (by rw [List.getElem?_append_right (by rw [R.l1]; exact Nat.le_refl _), R.l1, Nat.sub_self]; rfl)
  exact h _ h' tk _ _ _ ⟨F', N', R', (L.mono Ge.push).set lk.inj ((g.ks x).trans hs) hv⟩ Ge.push
/-- the turns of [y[i] for y in z] -/
theorem col_rest {m : Str → Option Value} {s : Shared} {N : Led} {φ : List Addr} {y : Str} {scope : Scope} {i : Int} {j : Nat} {p1 p2 p3 : Pos} {vs : List Value} {l k : List AV} {Fin : List Value → List (Addr × Obj) → Prop} {aa : Addr} {its : Array Value} (hit : its = vs.toArray) (hkd : scope.kind = .function) (hyl : scope.names.lookup y = some .local) (hyd : (y == Str.ofString "__debug__") = false)
    (hi : 0 ≤ i ∧ i < 10) (hk : colRun i.toNat l = some k) (hvs : All2 (VR W.nf N φ) vs l) (hS : LCg.SrcAt G.h₀ aa its N) (hfin : ∀ ys, All2 (VR W.nf N φ) ys k → Fin ys N) :
    ∀ (n c : Nat) (ys : List Value), n + c = vs.length → All2 (VR W.nf N φ) ys (k.take c) → LCg.CompRest W.prog W.w G.A G.h₀ G.L m G.env (.Subscript (.Name y p1) (.Constant (.int i) j p2) p3) y scope [] s (LCg.SrcAt G.h₀ aa its) (fun i v => its[i]? = some v) Fin n c ys N := by
  intro n
  induction n with
  | zero =>
    intro c ys hc hys
    refine LCg.CompRest.zero (hfin ys ?_)
    rwa [List.take_of_length_le (by rw [colRun_len hk, ← hvs.length]; (first | lia | omega))] at hys
  | succ n ih =>
    intro c ys hc hys
    refine LCg.CompRest.succ fun v I oI C oC D m₂ h tk E' hP hNs hm2 F N' off hne => ?_
    have nw : News G.h₀ G.L h N := fun p hp => N' p (.tail _ (.tail _ (.tail _ hp)))
    have hv : vs[c]? = some v := by rw [hit] at hP; simpa using hP
    obtain ⟨dv, hd, hrv⟩ := hvs.get hv
    obtain ⟨ds, e, rfl, he, hke⟩ := colRun_at hk hd
    cases hrv with
    | tup hm hv' =>
      rename_i q us
      obtain ⟨u, hu, hru⟩ := hv'.getR he
      refine Subscript_ (wpAny_Name (wpAny_loadName_local (env := compEnvC scope [] C G.env) hkd (lookup_relabel_local hyl) (hNs.ns (N' _ (.tail _ (.head _))).1) hm2 (wpAny_Constant_int ?_)) hyd)
      have hlu := lt_of_some hu
      refine item_tupleT (l := us) (j := i.toNat) ⟨_, (nw _ hm).1, rfl, 0, rfl⟩ (by (first | lia | omega)) (by (first | lia | omega)) ?_ hu ⟨h, _, N, rfl, F, N', off, hS, ih (c + 1) (ys ++ [u]) (by (first | lia | omega)) ?_⟩ rfl
      · unfold seqIndex?
        simp only [show ¬ i < 0 by (first | lia | omega), if_false]
        rw [if_pos (by simp only [Bool.and_eq_true, decide_eq_true_eq]; (first | lia | omega))]
      · rw [List.take_add_one, hke]
        exact hys.append (.one hru)
/-- x = [y[i] for y in z] -/
theorem st_col (lk : Lk W) (g : GOk W G sc d) {x z : Nat} {i : Int} {t e : Expr} {p : Pos} {o : Nat} {l k : List AV} (hcol : colOf t e = some (W.nf x, i, W.nf z)) (hs : sc.lookup x = some .local) (hs' : sc.lookup z = some .local) (hz : lookN z ρ = some (.obj o)) (hl : H[o]? = some (.list l)) (hi : 0 ≤ i ∧ i < 10 ∧ l.length ≤ 10000) (hk : colRun i.toNat l = some k) :
    ExOk W G (exec (.Assign [t] e p) G.env) ρ H .next (setL x (.obj H.length) ρ) (H ++ [.list k]) := by
  intro m s N φ ψ Q E a h
  cases colOf_some hcol with
  | @mk p0 p1 p2 p3 p4 p5 q y j scope c1 c2 c3 c4 c5 c6 c7 =>
  have kx : G.cs.names.lookup (W.nf x) = some .local := (g.ks x).trans hs
  have hyl : scope.names.lookup y = some .local := by
    rw [c3, List.lookup_cons, show (y == Str.ofString ".0") = false from beq_eq_false_iff_ne.mpr c4, List.lookup_cons, beq_self_eq_true]
  have hsw : swapsWith (.ListComp (.Subscript (.Name y p1) (.Constant (.int i) j p2) p3) [⟨.Name y p4, .Name (W.nf z) p5, [], 0⟩] scope q) (some (.Name (W.nf x) p0)) p.line G.env = pure true := by
    have e1 : G.env.blockKind = .function := by
      unfold Env.blockKind
      rw [show G.env.scope.kind = .function from g.hk]; rfl
    have e2 : G.env.kindOf (W.nf x) = some .local := kx
    have e3 : (scope.names.any fun (n, k) => n == W.nf x && (k == .local || k == .cell)) = false := by
      rw [c3, List.any_cons, List.any_cons, List.any_nil]
      show ((Str.ofString ".0" == W.nf x) && _ || ((y == W.nf x) && _ || false)) = false
      rw [beq_eq_false_iff_ne.mpr (Ne.symm c6), beq_eq_false_iff_ne.mpr (Ne.symm c5)]; rfl
    show (pure (G.env.blockKind == .function && G.env.kindOf (W.nf x) == some .local && p0.line == q.line && !(scope.names.any fun (n, k) => n == W.nf x && (k == .local || k == .cell))) : Sem Bool) = pure true
    rw [e1, e2, e3, c1, beq_self_eq_true, beq_self_eq_true, beq_self_eq_true]; rfl
  have hclos : closureFor scope G.env = pure [] := by
    unfold closureFor
    rw [c3]
    rfl
  obtain ⟨v, hv, hr⟩ := a.L z _ hz
  have hv := hv.local ((g.ks z).trans hs')
  cases hr with
  | @obj aa _ ha =>
    refine a.R.listE ha hl fun hμ vs n hm hvs => ?_
    have hlen := hvs.length
    refine LCg.Assign_ListComp_U (L := G.L) (m := m) a.F rfl hsw hclos (by rw [c3]; intro y hy; simp at hy; rcases hy with rfl | rfl <;> (intro e; cases e)) c2 (fun y' hy' _ => by
      rw [c3] at hy'
      simp at hy'
      rcases hy' with rfl | rfl
      · rw [c3, List.lookup_cons, beq_self_eq_true]
      · exact hyl) hyl kx (by show (G.cs.kind == .class || (G.cs.kind == .module && G.L != mainGlobals)) = false; rw [g.hk]; rfl) ?_
    refine nameX_L a.F hv ?_ g.hk ((g.ks z).trans hs') (lk.dbg z)
    refine LCg.CompSrc.ledger rfl a.F a.nw hm (by rw [List.size_toArray, sizeLine_eq]; (first | lia | omega)) fun gh => ?_
    exact col_rest (its := vs.toArray) rfl c2 hyl c7 ⟨hi.1, hi.2.1⟩ hk hvs (.inr ⟨_, hm, rfl, n, rfl⟩) (fun ys hys => At.colEnd lk g hs a.R a.L hys fun m' h' tk N' φ' ψ' a' ge => h .next m' h' tk N' φ' ψ' a' ge .next) vs.toArray.size 0 [] (by rw [List.size_toArray]; (first | lia | omega)) (by rw [List.take_zero]; exact .nil)
end

theorem walks_shift {prog : Program} {w : World} {A : Around} {I : Addr} {fp wr : List Addr} {n : Nat} {P : Nat → Value → Prop} {St : Nat → Heap → Prop} (W : Walks prog w A I fp wr n P St) (c : Nat) (P0 : Nat → Value → Prop) :
    Walks prog w A I fp wr (c + n) (fun i v => (i < c → P0 i v) ∧ (c ≤ i → P (i - c) v)) (fun i h => c ≤ i ∧ St (i - c) h) where
  sub := W.sub
  frame := fun i h h' st hk => ⟨st.1, W.frame _ h h' st.2 hk⟩
  item := fun i s Q E hi st hQ => W.item (i - c) s Q E (by have := st.1; (first | lia | omega)) st.2 fun v h' tk hp hs hk => hQ v h' tk ⟨fun h => absurd st.1 (by (first | lia | omega)), fun _ => hp⟩ ⟨by have := st.1; (first | lia | omega), by have := st.1; rw [show i + 1 - c = i - c + 1 by (first | lia | omega)]; exact hs⟩ hk
  done := fun s Q E st hQ => W.done s Q E (by have := st.2; rwa [Nat.add_sub_cancel_left] at this) hQ
  self := fun i s Q E st hQ => W.self _ s Q E st.2 hQ
/-- a list is grown by an iterator -/
theorem it_extend {prog : Program} {w : World} {A : Around} {s : Shared} {T : String} {I dd : Addr} {n : Nat} {P : Nat → Value → Prop} {St : Nat → Heap → Prop} {R : Result → Shared → Prop} (W : Walks prog w A.in1 I [I, dd] [I] n P St) (hT : s.TypeIs (.ref I) T) (hT1 : (Value.type T == Value.type "list") = false) (hT2 : (Value.type T == Value.type "tuple") = false)
    (hint : ∀ (E : Value → Shared → Prop) (Q : Bool → Shared → Prop), (∀ b tk, s.toks ≤ tk → Q b { s with toks := tk }) → wpAny (model prog w) A.in1 (Builtin.List.listLengthHint (.ref I)) Q E s) (hst : St 0 s.heap) (S : Addr) (hSI : S ≠ I) (hSd : S ≠ dd) (res : Value) (c₀ : Nat) (acc₀ : Array Value) (hS : s.heap.get? S = some { cls := .type "list", data := .seq acc₀ c₀ })
    (hz : acc₀.size + n < sizeLine) (hR : ∀ h' tk acc' c', (∀ b o, b ≠ S → b ≠ I → s.heap.get? b = some o → h'.get? b = some o) → h'.get? S = some { cls := .type "list", dict := none, data := .seq acc' c', slots := #[] } → acc'.size = acc₀.size + n → (∀ j v, acc'[j]? = some v → (j < acc₀.size → acc₀[j]? = some v) ∧ (acc₀.size ≤ j → P (j - acc₀.size) v)) → R (.ok (.ret res)) { s with heap := h', toks := tk }) :
    wpAny (model prog w) A.in1 (Builtin.List.listExtendWith (.ref S) (.ref I) res)
      (fun fin s' => match fin with | .done f => R (.ok f) s' | .again c' => c'.quiet = true ∧ codeAny (model prog w) A c' R s') (fun e s' => R (.error e) s') s := by
  have hSf : S ∉ [I, dd] := by simp only [List.mem_cons, List.not_mem_nil, or_false, not_or]; exact ⟨hSI, hSd⟩
  have W' := walks_shift W acc₀.size (fun j v => acc₀[j]? = some v)
  have key : ∀ (h : Heap) (c₁ tk : Nat), St 0 h → (∀ b o, b ≠ S → s.heap.get? b = some o → h.get? b = some o) →
      h.get? S = some { cls := .type "list", data := .seq acc₀ c₁ } → codeAny (model prog w) A (.builtin "list.extend.loop" ⟨[.ref S, .ref I, res], []⟩) R { s with heap := h, toks := tk } := by
    intro h c₁ tk hst hk hS₁
    refine codeAny_extend_loopS W'.toS (Nat.le_of_lt hz) S hSf res n acc₀.size _ acc₀ c₁ (by (first | lia | omega)) (by (first | lia | omega)) ⟨Nat.le_refl _, by rw [Nat.sub_self]; exact hst⟩ hS₁ ⟨rfl, fun j v e => ⟨fun _ => e, fun hj => by
      have : acc₀[j]? = none := Array.getElem?_eq_none hj
      rw [this] at e; cases e⟩⟩ fun s' acc' c' hm hS' hacc => ?_
    rw [Moved.eq_with hm]
    refine hR s'.heap s'.toks acc' c' (fun b o hb hbI e => hm.heap b o (fun hmem => ?_) (hk b o hb e)) hS' hacc.1 hacc.2
    rcases List.mem_cons.mp hmem with e' | hmem
    · exact hb e'
    · exact hbI (List.mem_singleton.mp hmem)
  unfold Builtin.List.listExtendWith
  refine wpAny_bind (wpAny_typeOf (T := T) hT ?_)
  have h1 : Builtin.List.listSameRef (.ref S) (.ref I) = false := by simp [Builtin.List.listSameRef, hSI]
  simp only [h1, hT1, hT2, Bool.or_false, Bool.false_eq_true, if_false]
  refine wpAny_bind (W.self 0 _ _ _ hst ?_)
  refine wpAny_bind (wpAny_holding (hint _ _ fun b tk htk => ?_))
  refine wpAny_ite_split (fun _ => ?_) (fun _ => wpAny_pure ⟨plainId_quiet PySem.F.plain_extend_loop _, key _ c₀ _ hst (fun b o _ e => e) hS⟩)
  refine wpAny_bind (wpAny_rule ?_)
  refine wpAny_bind ?_
  show wpAny _ _ (updateSeq S (·.push .none) >>= fun _ => updateSeq S (·.pop)) _ _ _
  refine wpAny_bind (wpAny_updateSeq hS rfl ?_ (by (first | lia | omega)) (by rw [Array.size_push]; (first | lia | omega)))
  have q1 := get?_update_seq (c := "list") hS (·.push Value.none)
  have q2 := get?_update_seq q1 (·.pop)
  have e3 : ∃ c3, ((s.heap.update S (Obj.mapSeq (·.push Value.none))).update S (Obj.mapSeq (·.pop))).get? S = some { cls := .type "list", data := .seq acc₀ c3 } := ⟨_, by rw [q2]; rw [Array.pop_push]⟩
  obtain ⟨c3, e3⟩ := e3
  refine wpAny_updateSeq (s := { s with heap := s.heap.update S (Obj.mapSeq (·.push Value.none)), toks := tk }) (hz := by rw [Array.size_push]; (first | lia | omega)) q1 rfl ?_ (by rw [Array.pop_push]; (first | lia | omega))
  refine wpAny_pure ⟨plainId_quiet PySem.F.plain_extend_loop _, key _ c3 _ ?_ (fun b o hb e => ?_) e3⟩
  · refine W.frame 0 _ _ hst fun b hb o e => ?_
    have hbS : b ≠ S := fun h => hSf (h ▸ hb)
    exact (Heap.get?_update_other _ _ (Ne.symm hbS)).trans ((Heap.get?_update_other _ _ (Ne.symm hbS)).trans e)
  · exact (Heap.get?_update_other _ _ (Ne.symm hb)).trans ((Heap.get?_update_other _ _ (Ne.symm hb)).trans e)
theorem nolen_lri : typeLookup (.type "list_reverseiterator") "__len__" = pure none := by rw [typeLookup_type, builtinLookup_eq_fast]; kernel_rfl
theorem hint_lri : typeLookup (.type "list_reverseiterator") "__length_hint__" = pure (some (.builtin "list_reverseiterator.__length_hint__")) := by rw [typeLookup_type, builtinLookup_eq_fast]; kernel_rfl
theorem lri_hint {prog : Program} {w : World} {A : Around} {s : Shared} {I : Addr} {Q : Bool → Shared → Prop} {E : Value → Shared → Prop} (hT : s.TypeIs (.ref I) "list_reverseiterator") (h : Q false s) : wpAny (model prog w) A (Builtin.List.listLengthHint (.ref I)) Q E s := by
  unfold Builtin.List.listLengthHint
  refine wpAny_bind (wpAny_specialOf hT nolen_lri ?_)
  show wpAny _ A (specialOf (Value.ref I) (Str.ofString "__length_hint__") >>= _) _ _ _
  refine wpAny_bind (wpAny_specialOf hT hint_lri ?_)
  (generalize hid : ("list_reverseiterator.__length_hint__" : String) = id0; (fail_if_success (clear hid id0)); wp_delta; rw [show splitId id0 = some ("list_reverseiterator", "__length_hint__") from by subst hid; decide +kernel]; subst hid)
  refine wpAny_bind (wpAny_isInstance (b := true) hT (by rw [isSubtype_type]; kernel_rfl) ?_)
  exact wpAny_pure h
theorem call_list_rev {prog : Program} {w : World} {A : Around} {s : Shared} {I l : Addr} {items : Array Value} {Q : Value → Shared → Prop} {E : Value → Shared → Prop} (hh : A.handled = none) (hne : l ≠ I) (hit : s.heap.IsRevIter I l ((items.size : Int) - 1)) (hl : s.heap.IsList l items) (hz : items.size < sizeLine)
    (h : ∀ h' tk (acc : Array Value) c, (∀ b o, b ≠ I → s.heap.get? b = some o → h'.get? b = some o) → h'.get? s.heap.objs.size = some { cls := .type "list", dict := none, data := .seq acc c, slots := #[] } → acc.size = items.size → (∀ j v, acc[j]? = some v → items[items.size - 1 - j]? = some v) → Q (.ref s.heap.objs.size) { s with heap := h', toks := tk }) :
    wpAny (model prog w) A (call (.type "list") [.ref I]) Q E s := by
  refine callType_codes (Q₁ := fun obj s₁ => obj = .ref s.heap.objs.size ∧ s₁ = { s with heap := s.heap.push { cls := .type "list", data := .seq #[] } }) PySem.F.called_list (PySem.F.typeCall_list_1 _) PySem.F.entry_list_init
    (code_list_new _ ⟨rfl, rfl⟩) fun obj s₁ h₁ => ?_
  obtain ⟨rfl, rfl⟩ := h₁
  have hS : (s.heap.push { cls := .type "list", data := .seq #[] }).get? s.heap.objs.size = some { cls := .type "list", data := .seq #[] } := Heap.get?_push_size _ rfl
  have hI : I < s.heap.objs.size := by obtain ⟨o, ho, _⟩ := hit; exact Heap.lt_size ho
  have hL : l < s.heap.objs.size := by obtain ⟨o, ho, _⟩ := hl; exact Heap.lt_size ho
  refine ⟨⟨_, hS, rfl⟩, PySem.F.args_list_init_2 _ _, ?_⟩
  show wpAny _ _ (do let old ← Builtin.List.listItems (.ref s.heap.objs.size); Builtin.List.listUpdate (.ref s.heap.objs.size) (fun _ => #[]); letGo old.toList.reverse; Builtin.List.listExtendWith (.ref s.heap.objs.size) (.ref I) .none) _ _ _
  refine wpAny_bind ?_
  unfold Builtin.List.listItems
  refine wpAny_bind (wpAny_seqItems hS rfl (wpAny_pure ?_))
  show wpAny _ _ (updateSeq s.heap.objs.size (fun _ => #[]) >>= fun _ => letGo (#[] : Array Value).toList.reverse >>= fun _ => Builtin.List.listExtendWith (.ref s.heap.objs.size) (.ref I) .none) _ _ _
  refine wpAny_bind (wpAny_updateSeq hS rfl ?_)
  have hS₂ := Heap.get?_update_self (Obj.mapSeq (fun _ => (#[] : Array Value))) hS rfl
  have oth : ∀ b o, s.heap.get? b = some o → ((s.heap.push { cls := .type "list", data := .seq #[] }).update s.heap.objs.size (Obj.mapSeq (fun _ => (#[] : Array Value)))).get? b = some o :=
    fun b o e => (Heap.get?_update_other _ _ (Nat.ne_of_gt (Heap.lt_size e))).trans (Heap.get?_push_of_some _ e)
  refine wpAny_bind (wpAny_letGo ?_)
  have hst : (0 ≤ items.size) ∧ ((s.heap.push { cls := .type "list", data := .seq #[] }).update s.heap.objs.size (Obj.mapSeq (fun _ => (#[] : Array Value)))).IsRevIter I l ((items.size : Int) - 1 - ((0 : Nat) : Int)) ∧ ((s.heap.push { cls := .type "list", data := .seq #[] }).update s.heap.objs.size (Obj.mapSeq (fun _ => (#[] : Array Value)))).IsList l items :=
    ⟨Nat.zero_le _, by rw [show (items.size : Int) - 1 - ((0 : Nat) : Int) = (items.size : Int) - 1 by (first | lia | omega)]; exact hit.at fun o e => oth _ o e, hl.at fun o e => oth _ o e⟩
  refine it_extend (A := A.in1) (T := "list_reverseiterator") (dd := l) (acc₀ := #[]) (St := fun i h => i ≤ items.size ∧ h.IsRevIter I l ((items.size : Int) - 1 - (i : Int)) ∧ h.IsList l items) (P := fun i v => items[items.size - 1 - i]? = some v) (Walks.listRev (A := A.in1.in1) hh I l hne items) hst.2.1.typeIs (by decide) (by decide) (fun E Q hq => lri_hint hst.2.1.typeIs (hq false _ (Nat.le_refl _))) hst s.heap.objs.size (Nat.ne_of_gt hI) (Nat.ne_of_gt hL) .none _ hS₂ (by simpa using hz) fun h' tk acc' c' hk hS' hsz hacc => ?_
  refine ⟨rfl, h h' tk acc' c' (fun b o hb e => hk b o (Nat.ne_of_lt (Heap.lt_size e)) hb (oth b o e)) hS' (by simpa using hsz) fun j v e => ?_⟩
  simpa using (hacc j v e).2 (Nat.zero_le _)
section
variable {W : Wd} {G : Gd} {sc : Sc} {d : Nat} {ρ : Loc} {H : AH}
/-- list(reversed(e)) -/
theorem ok_revL (lk : Lk W) (lb : LkB W) (lt : LkT W) (g : GOk W G sc d) {k : Nat} {p p' q q' : Pos} {x x' o : Nat} {e : Expr} {y : X Nat} {l : List AV} {H1 : AH} (hs : sc.lookup x = some .globalImplicit) (hc : Tb.call x = some .list) (hs' : sc.lookup x' = some .globalImplicit) (hc' : Tb.call x' = some .rev) (hy : er k e = X.put W.nf k y) (hz : l.length ≤ 10000)
    (ih : EvOk W G (eval e G.env) ρ H (.obj o) H1) (hu : H1[o]? = some (.list l)) : EvOk W G (eval (.Call (.Name (W.nf x) q) [.Call (.Name (W.nf x') q') [e] [] p'] [] p) G.env) ρ H (.obj H1.length) (H1 ++ [.list l.reverse]) := by
  intro m s N φ ψ Q E a h
  obtain ⟨b1, b2, b3⟩ := lb.list x hc
  obtain ⟨r1, r2, r3⟩ := lt.rev x' hc'
  refine Call_ ?_
  refine nameX_B a.F g.X (topRead_of g.T) b1 b2 b3 ?_ g.hk ((g.ks x).trans hs) (lk.dbg x)
  refine PyProof.Rows.callWith_type1 (args_cons (Call_ ?_) rfl) rfl rfl
  refine nameX_B a.F g.X (topRead_of g.T) r1 r2 r3 ?_ g.hk ((g.ks x').trans hs') (lk.dbg x')
  refine PyProof.Rows.callWith_type1 (args_cons (ih m s N φ ψ _ E a fun v h1 tk N1 φ1 ψ1 a1 g1 v1 => args_nil ?_) (noStar hy (put_bad y))) (noStar hy (put_bad y)) rfl
  cases v1 with
  | @obj aa _ ha =>
    refine a1.R.listE ha hu fun hμ vs n hm hvs => ?_
    have hL : h1.IsList aa vs.toArray := ⟨_, (a1.nw _ hm).1, rfl, n, rfl⟩
    have hlt : aa < h1.objs.size := Heap.lt_size (a1.nw _ hm).1
    have hlen := hvs.length
    refine call_reversed_list hL (args_nil ?_)
    refine call_list_rev (s := { up s h1 tk with heap := h1.push (revObj aa ((vs.toArray.size : Int) - 1)) }) rfl (Nat.ne_of_lt hlt) ⟨_, Heap.get?_push_size _ rfl, rfl, rfl⟩ (hL.push _) (by rw [List.size_toArray, sizeLine_eq]; (first | lia | omega)) fun h' tk' acc c hk hD hsz hacc => ?_
    have old : ∀ b o, h1.get? b = some o → h'.get? b = some o := fun b o e => hk b o (Nat.ne_of_lt (Heap.lt_size e)) (Heap.get?_push_of_some _ e)
    have hDv : (h1.push (revObj aa ((vs.toArray.size : Int) - 1))).objs.size = h1.objs.size + 1 := size_push' _ _
    have F' : Fr G.h₀ G.L h' m := a1.F.kept old
    have N' : News G.h₀ G.L h' (((h1.push (revObj aa ((vs.toArray.size : Int) - 1))).objs.size, listOf acc.toList.toArray c) :: N1) :=
      News.kept_cons a1.F a1.nw old (by rw [hDv]; exact Nat.le_succ _) (by rw [Array.toArray_toList]; exact hD)
    have hrev : All2 (VR W.nf N1 φ1) acc.toList l.reverse := by
      have e : acc.toList = vs.reverse := by
        apply List.ext_getElem?
        intro j
        have hsz : acc.size = vs.length := by rw [hsz, List.size_toArray]
        by_cases hj : j < acc.size
        · have e1 : acc[j]? = some acc[j] := Array.getElem?_eq_getElem hj
          have e2 := hacc j _ e1
          rw [List.getElem?_reverse (by (first | lia | omega)), Array.getElem?_toList, e1, ← e2]
          simp
        · rw [List.getElem?_eq_none (by rw [Array.length_toList]; (first | lia | omega)), List.getElem?_eq_none (by rw [List.length_reverse]; (first | lia | omega))]
      rw [e]; exact hvs.reverse
    obtain ⟨a2, g2, v2⟩ := a1.cell (O := .list l.reverse) F' N' (fun p hp => Nat.ne_of_lt (by rw [hDv]; exact Nat.lt_succ_of_lt (Heap.lt_size (a1.nw p hp).1))) fixed_list (fun _ _ e => by cases e) (fun ge => ⟨rfl, acc.toList, c, .head _, VRs.mono hrev ge⟩)
    exact h _ h' tk' _ _ _ a2 (g1.trans g2) v2
end

/-! reversed(a tuple) -/
theorem slot_rt_next : Slot "reversed" "__next__" "reversed.__next__" :=
  .of (owner := "reversed") (n := "__next__") (by rw [typeLookup_type, builtinLookup_eq_fast]; kernel_rfl) (by decide +kernel) (by decide +kernel) (by decide +kernel)
    (by first | exact .inl (by decide +kernel) | exact .inr (by decide +kernel)) (by rw [isSubtype_type]; kernel_rfl)
theorem entry_rt_next : entryFor table "reversed.__next__" = some Builtin.«reversed.__next__» := entryFor_of_tree (by kernel_rfl)
theorem args_rt_next (a : Value) : argsOk "reversed.__next__" ⟨[a], []⟩ := by unfold argsOk; kernel_rfl
theorem slot_rt_iter : Slot "reversed" "__iter__" "reversed.__iter__" :=
  .of (owner := "reversed") (n := "__iter__") (by rw [typeLookup_type, builtinLookup_eq_fast]; kernel_rfl) (by decide +kernel) (by decide +kernel) (by decide +kernel)
    (by first | exact .inl (by decide +kernel) | exact .inr (by decide +kernel)) (by rw [isSubtype_type]; kernel_rfl)
theorem args_rt_iter (a : Value) : argsOk "reversed.__iter__" ⟨[a], []⟩ := by unfold argsOk; kernel_rfl
theorem entry_rt_iter : entryFor table "reversed.__iter__" = some Builtin.«dict_keyiterator.__iter__» :=
  entryFor_alias (id' := "dict_keyiterator.__iter__") (by kernel_rfl) (by first | rfl | decide +kernel | (unfold String.splitOn; simp +decide [String.splitOnAux])) (by decide +kernel) (by kernel_rfl)
theorem slot_rt_init : Slot "reversed" "__init__" "object.__init__" :=
  .of (owner := "object") (n := "__init__") (by rw [typeLookup_type, builtinLookup_eq_fast]; kernel_rfl) (by decide +kernel) (by decide +kernel) (by decide +kernel)
    (by first | exact .inl (by decide +kernel) | exact .inr (by decide +kernel)) (by rw [isSubtype_type]; kernel_rfl)
theorem slot_rt_hint : Slot "reversed" "__length_hint__" "reversed.__length_hint__" :=
  .of (owner := "reversed") (n := "__length_hint__") (by rw [typeLookup_type, builtinLookup_eq_fast]; kernel_rfl) (by decide +kernel) (by decide +kernel) (by decide +kernel)
    (by first | exact .inl (by decide +kernel) | exact .inr (by decide +kernel)) (by rw [isSubtype_type]; kernel_rfl)
theorem entry_rt_hint : entryFor table "reversed.__length_hint__" = some Builtin.«reversed.__length_hint__» := entryFor_of_tree (by kernel_rfl)
theorem args_rt_hint (a : Value) : argsOk "reversed.__length_hint__" ⟨[a], []⟩ := by unfold argsOk; kernel_rfl
theorem nolen_rt : typeLookup (.type "reversed") "__len__" = pure none := by rw [typeLookup_type, builtinLookup_eq_fast]; kernel_rfl
theorem norev_tuple : typeLookup (.type "tuple") "__reversed__" = pure none := by rw [typeLookup_type, builtinLookup_eq_fast]; kernel_rfl
theorem called_rt : TypeCalled "reversed" "reversed.__new__" "object.__init__" :=
  ⟨by decide +kernel, PySem.F.create_reversed, ⟨_, _, PySem.F.mro_reversed⟩, PySem.F.made_reversed, PySem.F.plain_reversed_new, PySem.F.sub_reversed_self, slot_rt_init⟩
noncomputable def revT (t : Addr) (i : Int) : Obj := { cls := .type "reversed", data := .fields #[.ref t, rawInt i] }
noncomputable def IsRevT (h : Heap) (a t : Addr) (i : Int) : Prop := ∃ o, h.get? a = some o ∧ o.cls = .type "reversed" ∧ o.data = .fields #[.ref t, rawInt i]
section
variable {prog : Program} {w : World} {A : Around} {E : Value → Shared → Prop} {s : Shared}
theorem IsRevT.typeIs {a l : Addr} {i : Int} (x : IsRevT s.heap a l i) : s.TypeIs (.ref a) "reversed" := let ⟨o, ho, hc, _⟩ := x; ⟨o, ho, hc⟩
theorem IsRevT.at {h h' : Heap} {a l : Addr} {i : Int} (x : IsRevT h a l i) (e : ∀ o, h.get? a = some o → h'.get? a = some o) : IsRevT h' a l i := let ⟨o, ho, r⟩ := x; ⟨o, e _ ho, r⟩
theorem code_rt_new {t : Addr} {items : Array Value} {Q₁ : Value → Shared → Prop} (ht : IsTup s.heap t items) (hz : (items.size : Int) < 2 ^ 63)
    (h : ∀ tk, Q₁ (.ref s.heap.objs.size) { s with heap := s.heap.push (revT t ((items.size : Int) - 1)), toks := tk }) :
    codeAny (model prog w) A (.call (.builtin "reversed.__new__") ⟨[.type "reversed", .ref t], []⟩) (wants Q₁ E) s := by
  refine codeAny_of_tree ?_
  show wpAny _ A.in1 (do checkBuiltinCall "reversed.__new__" ⟨[.type "reversed", .ref t], []⟩; again (.builtin "reversed.__new__" ⟨[.type "reversed", .ref t], []⟩)) _ _ s
  refine wpAny_bind (wpAny_of_eq (PySem.F.newCall_reversed_1 _) (wpAny_pure ⟨plainId_quiet PySem.F.plain_reversed_new _, codeAny_builtin PySem.F.entry_reversed_new ?_⟩))
  rw [Around.under_plainId PySem.F.plain_reversed_new _]
  unfold Builtin.«reversed.__new__»
  refine wpAny_bind (wpAny_of_eq (newClass_reversed _) ?_)
  try dsimp only
  refine wpAny_bind (wpAny_of_eq (a := ()) (by first | rfl | kernel_rfl) ?_)
  refine wpAny_bind (wpAny_of_eq (a := ()) (by first | rfl | kernel_rfl) ?_)
  try dsimp only
  refine wpAny_bind (wpAny_specialOf ht.typeIs norev_tuple ?_)
  try dsimp only
  refine wpAny_bind ?_
  wp_delta
  refine wpAny_bind (wpAny_isInstance ht.typeIs PySem.F.sub_tuple_dict ?_)
  rw [if_neg (by decide)]
  refine wpAny_bind (wpAny_specialOf ht.typeIs slot_tuple_getitem.lookup ?_)
  try dsimp only
  rw [if_pos (by decide +kernel)]
  refine wpAny_pure ?_
  rw [if_neg (by decide)]
  refine wpAny_bind (len_tuple ht hz ?_)
  refine wpAny_bind (wpAny_of_eq (a := some (items.size : Int)) rfl ?_)
  try dsimp only
  refine wpAny_bind (m := Builtin.SmallTypes.newRecord _ _) (show wpAny _ _ (newObj (.type "reversed") (.fields #[.ref t, rawInt ((items.size : Int) - 1)])) _ _ _ from wpAny_newObj_type ?_)
  exact wpAny_pure (h _)
theorem call_rt {t : Addr} {items : Array Value} {Q : Value → Shared → Prop} (ht : IsTup s.heap t items) (hz : (items.size : Int) < 2 ^ 63)
    (h : ∀ tk, Q (.ref s.heap.objs.size) { s with heap := s.heap.push (revT t ((items.size : Int) - 1)), toks := tk }) : wpAny (model prog w) A (call (.type "reversed") [.ref t]) Q E s := by
  refine callType_codes (Q₁ := fun obj s₁ => s₁.TypeIs obj "reversed" ∧ Q obj s₁) called_rt (PySem.F.typeCall_reversed_1 _) PySem.F.entry_object_init
    (code_rt_new ht hz fun tk => ⟨⟨_, Heap.get?_push_size _ rfl, rfl⟩, h tk⟩) fun obj s₁ h₁ => ?_
  exact ⟨h₁.1, PySem.F.args_object_init_2 obj _, object_init_meets called_rt.init.lookup called_rt.made (by decide) prog w A.in1 _ s₁ ⟨h₁.1, rfl, h₁.2⟩⟩
theorem rt_item {it t : Addr} {i : Nat} {items : Array Value} {x : Value} {Q : Option Value → Shared → Prop} (hit : IsRevT s.heap it t (i : Int)) (ht : IsTup s.heap t items) (hz : (items.size : Int) < 2 ^ 63) (hx : items[i]? = some x)
    (hQ : ∀ h' tk, IsRevT h' it t ((i : Int) - 1) → Heap.SameBut it s.heap h' → Q (some x) { s with heap := h', toks := tk }) : wpAny (model prog w) A (pyNext (.ref it)) Q E s := by
  obtain ⟨o, ho, hc, hd⟩ := id hit
  have hi : i < items.size := by
    rcases Nat.lt_or_ge i items.size with h | h
    · exact h
    · rw [Array.getElem?_eq_none h] at hx; cases hx
  unfold pyNext
  refine wpAny_bind (wpAny_attempt (wpAny_callSpecial?_slot (name := Str.ofString "__next__") hit.typeIs slot_rt_next
    (wpAny_call_entry slot_rt_next hit.typeIs entry_rt_next ?_ (args_rt_next _))))
  unfold Builtin.«reversed.__next__»
  refine wpAny_bind (wpAny_of_eq (a := (Value.ref it, [])) rfl ?_)
  try dsimp only
  refine wpAny_bind (wpAny_field ho hd (x := .ref t) rfl ?_)
  refine wpAny_bind (wpAny_field ho hd (x := rawInt (i : Int)) rfl ?_)
  show wpAny _ _ (if (i : Int) < 0 then _ else _) _ _ s
  rw [if_neg (by (first | lia | omega))]
  refine wpAny_bind (wpAny_specialOf ht.typeIs slot_tuple_getitem.lookup ?_)
  show wpAny _ _ (if false = true then _ else _) _ _ s
  rw [if_neg (by decide)]
  refine wpAny_bind (wpAny_mkInt ?_)
  refine wpAny_bind (wpAny_attempt (getItem_tuple ht (by (first | lia | omega)) (by (first | lia | omega)) (j := i) ?_ hx ?_))
  · unfold seqIndex?
    have h0 : ¬ ((i : Int) < 0) := by (first | lia | omega)
    simp only [h0, if_false]
    rw [if_pos (by simp only [Bool.and_eq_true, decide_eq_true_eq]; (first | lia | omega))]
    simp
  show wpAny _ _ (field (.ref it) 1 >>= _) _ _ _
  refine wpAny_bind (wpAny_field ho hd (x := rawInt (i : Int)) rfl ?_)
  show wpAny _ _ (setField (.ref it) 1 (rawInt ((i : Int) - 1)) >>= _) _ _ _
  refine wpAny_bind (wpAny_setField ho hd (by simp) ?_)
  refine wpAny_pure ⟨x, rfl, wpAny_pure (hQ _ _ ?_ (Heap.SameBut.update ..))⟩
  exact ⟨_, Heap.get?_update_self _ ho (Obj.isFreed_of_fields (Obj.data_mapFields hd _)), (Obj.cls_mapFields ..).trans hc, by
    rw [Obj.data_mapFields hd]; simp⟩
theorem rt_end {it t : Addr} {Q : Option Value → Shared → Prop} (hh : A.handled = none) (hit : IsRevT s.heap it t (-1))
    (hQ : ∀ h', Heap.ExtBut it s.heap h' → Q none { s with heap := h' }) : wpAny (model prog w) A (pyNext (.ref it)) Q E s := by
  obtain ⟨o, ho, hc, hd⟩ := id hit
  unfold pyNext
  refine wpAny_bind (wpAny_attempt (wpAny_callSpecial?_slot (name := Str.ofString "__next__") hit.typeIs slot_rt_next
    (wpAny_call_entry slot_rt_next hit.typeIs entry_rt_next ?_ (args_rt_next _))))
  unfold Builtin.«reversed.__next__»
  refine wpAny_bind (wpAny_of_eq (a := (Value.ref it, [])) rfl ?_)
  try dsimp only
  refine wpAny_bind (wpAny_field ho hd (x := .ref t) rfl ?_)
  refine wpAny_bind (wpAny_field ho hd (x := rawInt (-1)) rfl ?_)
  show wpAny _ _ (if (-1 : Int) < 0 then _ else _) _ _ s
  rw [if_pos (by decide)]
  refine wpAny_bind (wpAny_rule ?_)
  refine wpAny_bind ?_
  wp_delta
  refine wpAny_bind (wpAny_setField ho hd (by simp) ?_)
  have h1 := Heap.get?_update_self (Obj.mapFields (·.setIfInBounds 1 (rawInt (-1)))) ho (Obj.isFreed_of_fields (Obj.data_mapFields hd _))
  refine wpAny_setField h1 (Obj.data_mapFields hd _) (by simp) ?_
  have hx : Heap.ExtBut it s.heap ((s.heap.update it (Obj.mapFields (·.setIfInBounds 1 (rawInt (-1))))).update it (Obj.mapFields (·.setIfInBounds 0 Value.none))) := (Heap.SameBut.update ..).extBut.trans (Heap.SameBut.update ..).extBut
  dsimp only
  generalize (s.heap.update it (Obj.mapFields (·.setIfInBounds 1 (rawInt (-1))))).update it (Obj.mapFields (·.setIfInBounds 0 Value.none)) = h2 at hx ⊢
  refine wpAny_bind ?_
  show wpAny _ _ (newExc (.type "StopIteration") [] >>= _) _ _ _
  refine wpAny_bind ?_
  simp only [newExc, newTuple]
  refine wpAny_bind (wpAny_newObj_type ?_ (by size_fits))
  refine wpAny_bind (m := firstArgMember _ _) (wpAny_of_eq (a := Value.none) (by first | rfl | (simp only [firstArgMember]; rfl)) ?_)
  refine wpAny_newObj_type ?_ (by size_fits)
  simp only [raiseNew]
  refine wpAny_bind (wpAny_handled ?_)
  first | rw [show A.in1.handled = none from hh] | rw [hh]
  refine wpAny_bind (wpAny_pure (wpAny_throw ?_))
  refine wpAny_bind (wpAny_isInstance (T := "StopIteration") (b := true) ⟨_, Heap.get?_push_size _ rfl, rfl⟩ isSubtype_stop ?_)
  exact wpAny_pure (hQ _ ((hx.push _).push _))
theorem rt_iter {it l : Addr} {i : Int} {Q : Value → Shared → Prop} (hit : IsRevT s.heap it l i) (h : Q (.ref it) s) : wpAny (model prog w) A (pyIter (.ref it)) Q E s := by
  refine wpAny_pyIter_slot hit.typeIs slot_rt_iter (wpAny_call_entry slot_rt_iter hit.typeIs entry_rt_iter ?_ (args_rt_iter _))
  show wpAny _ _ (ret (.ref it)) _ _ s
  exact wpAny_pure ⟨_, rfl, "reversed", _, hit.typeIs, slot_rt_next.lookup, h⟩
theorem Walks_rt {prog : Program} {w : World} {A : Around} (hh : A.handled = none) (I l : Addr) (hne : l ≠ I) (items : Array Value) (hz : (items.size : Int) < 2 ^ 63) :
    Walks prog w A I [I, l] [I] items.size (fun i v => items[items.size - 1 - i]? = some v) (fun i h => i ≤ items.size ∧ IsRevT h I l ((items.size : Int) - 1 - (i : Int)) ∧ IsTup h l items) where
  sub := fun b hb => by simp at hb; simp [hb]
  frame := fun _ _ _ x hk => ⟨x.1, x.2.1.at fun o e => hk I (by simp) o e, let ⟨o, ho, r⟩ := x.2.2; ⟨o, hk l (by simp) o ho, r⟩⟩
  item := fun i s Q E hi x hQ => by
    have e : (items.size : Int) - 1 - (i : Int) = ((items.size - 1 - i : Nat) : Int) := by (first | lia | omega)
    have hit := x.2.1
    rw [e] at hit
    have hx : items[items.size - 1 - i]? = some (items[items.size - 1 - i]'(by (first | lia | omega))) := Array.getElem?_eq_getElem (by (first | lia | omega))
    refine rt_item hit x.2.2 hz hx fun h' tk hit' hs' => ?_
    have e2 : ((items.size - 1 - i : Nat) : Int) - 1 = (items.size : Int) - 1 - ((i + 1 : Nat) : Int) := by (first | lia | omega)
    rw [e2] at hit'
    exact hQ _ h' tk hx ⟨hi, hit', let ⟨o, ho, r⟩ := x.2.2; ⟨o, (hs'.2 l hne).trans ho, r⟩⟩ fun b o hb eo => hs'.extBut b o (fun h => hb (by simp [h])) eo
  done := fun s Q E x hQ => by
    have e : (items.size : Int) - 1 - (items.size : Int) = -1 := by (first | lia | omega)
    have hit := x.2.1
    rw [e] at hit
    exact rt_end hh hit fun h' he' => hQ h' s.toks fun b o hb eo => he' b o (fun h => hb (by simp [h])) eo
  self := fun _ _ _ _ x hQ => rt_iter x.2.1 hQ
end
theorem rt_hint {prog : Program} {w : World} {A : Around} {s : Shared} {I t : Addr} {i : Int} {items : Array Value} {Q : Bool → Shared → Prop} {E : Value → Shared → Prop} (hit : IsRevT s.heap I t i) (ht : IsTup s.heap t items) (hi : i = (items.size : Int) - 1) (hz : items.size ≤ 1000000)
    (h : ∀ b tk, s.toks ≤ tk → Q b { s with toks := tk }) : wpAny (model prog w) A (Builtin.List.listLengthHint (.ref I)) Q E s := by
  obtain ⟨o, ho, hc, hd⟩ := id hit
  unfold Builtin.List.listLengthHint
  refine wpAny_bind (wpAny_specialOf hit.typeIs nolen_rt ?_)
  show wpAny _ A (specialOf (Value.ref I) (Str.ofString "__length_hint__") >>= _) _ _ _
  refine wpAny_bind (wpAny_specialOf hit.typeIs slot_rt_hint.lookup ?_)
  (generalize hid : ("reversed.__length_hint__" : String) = id0; (fail_if_success (clear hid id0)); wp_delta; rw [show splitId id0 = some ("reversed", "__length_hint__") from by subst hid; decide +kernel]; subst hid)
  refine wpAny_bind (wpAny_isInstance (b := true) hit.typeIs PySem.F.sub_reversed_self ?_)
  rw [if_neg (by decide)]
  show wpAny _ _ (if _ = true then _ else _) _ _ _
  rw [if_neg (by decide +kernel)]
  refine wpAny_bind (wpAny_rule ?_)
  refine wpAny_bind (wpAny_of_eq (slot_rt_hint.bind _) ?_)
  try dsimp only
  refine wpAny_bind (wpAny_attempt (wpAny_call_entry slot_rt_hint hit.typeIs entry_rt_hint ?_ (args_rt_hint _)))
  unfold Builtin.«reversed.__length_hint__»
  refine wpAny_bind (wpAny_of_eq (a := Value.ref I) rfl ?_)
  refine wpAny_bind (wpAny_field ho hd (x := .ref t) rfl ?_)
  show wpAny _ _ (if false = true then _ else _) _ _ s
  rw [if_neg (by decide)]
  refine wpAny_bind (len_tuple ht (by (first | lia | omega)) ?_)
  refine wpAny_bind (wpAny_of_eq (a := some (items.size : Int)) rfl ?_)
  try dsimp only
  refine wpAny_bind (wpAny_field (s := { s with toks := s.toks + 1 + 1 }) ho hd (x := rawInt i) rfl ?_)
  show wpAny _ _ (if (items.size : Int) < i + 1 then _ else _) _ _ _
  rw [if_neg (by (first | lia | omega))]
  refine wpAny_bind (wpAny_mkInt (wpAny_pure ⟨_, rfl, ?_⟩))
  show wpAny _ _ (asInt? (.int (i + 1) _) >>= _) _ _ _
  refine wpAny_bind (wpAny_of_eq (a := some (i + 1)) rfl ?_)
  show wpAny _ _ (if (!Builtin.List.listFitsIndex (i + 1)) = true then _ else _) _ _ _
  rw [if_neg (by unfold Builtin.List.listFitsIndex; simp; (first | lia | omega))]
  show wpAny _ _ (if (i + 1) < 0 then _ else _) _ _ _
  rw [if_neg (by (first | lia | omega))]
  show wpAny _ _ (if Builtin.List.listTooLong (i + 1).toNat = true then _ else _) _ _ _
  rw [if_neg (by unfold Builtin.List.listTooLong; rw [sizeLine_eq]; simp; (first | lia | omega))]
  exact wpAny_pure (h _ _ (by dsimp only; (first | lia | omega)))
section
variable {W : Wd} {G : Gd} {sc : Sc} {d : Nat} {ρ : Loc} {H : AH}
theorem frExt {h₀ h h' : Heap} {L d : Addr} {m : Str → Option Value} (F : Fr h₀ L h m) (hs : Heap.ExtBut d h h') (hL : d ≠ L) (hn : h₀.get? d = none) : Fr h₀ L h' m := by
  obtain ⟨oL, a1, a2, hoL, a3⟩ := F.ns
  refine ⟨⟨oL, a1, a2, hs L _ hL.symm hoL, a3⟩, fun b x e => hs b x ?_ (F.keep b x e), F.above⟩
  rintro rfl
  rw [hn] at e
  cases e
theorem news_setAllE {h₀ h h' : Heap} {N : Led} {L μ : Addr} {o o' : Obj} (nw : News h₀ L h N) (hm : (μ, o) ∈ N) (hs : Heap.ExtBut μ h h') (ho : h'.get? μ = some o') : News h₀ L h' (setAll μ o' N) := by
  intro p hp
  rcases setAll_mem hp with rfl | ⟨hp, hn⟩
  · exact ⟨ho, (nw _ hm).2⟩
  · exact ⟨hs _ _ hn (nw p hp).1, (nw p hp).2⟩
/-- o.extend(reversed(e)) -/
theorem ok_extRev (lk : Lk W) (lf : LkF W) (lt : LkT W) (g : GOk W G sc d) {k k' : Nat} {p p' q q' : Pos} {x x' a0 : Nat} {o e : Expr} {y z : X Nat} {l m : List AV} {H1 H2 : AH} (hx : bmOf x = some .extend) (hs' : sc.lookup x' = some .globalImplicit) (hc' : Tb.call x' = some .rev) (hy : er k o = X.put W.nf k y) (hb : y.plainB = true) (hz : er k' e = X.put W.nf k' z) (hq : (q.endLine == p.line) = true)
    (i1 : EvOk W G (eval o G.env) ρ H (.obj a0) H1) (ho : ∃ m, H1[a0]? = some (.list m)) (ih : EvOk W G (eval e G.env) ρ H1 (.tup l) H2) (hm : H2[a0]? = some (.list m)) (hl : l.length + m.length ≤ 10000) : EvOk W G (eval (.Call (.Attribute o (W.nf x) q) [.Call (.Name (W.nf x') q') [e] [] p'] [] p) G.env) ρ H .none (H2.set a0 (.list (m ++ l.reverse))) := by
  intro mm s N φ ψ Q E a h
  obtain ⟨r1, r2, r3⟩ := lt.rev x' hc'
  obtain ⟨m0, ho⟩ := ho
  refine MethodCall_ (i1 mm s N φ ψ _ E a fun v h1 tk N1 φ1 ψ1 a1 g1 v1 => ?_) (meth_eq (attr_eq (p := q) hy hb) rfl (by simp) hq)
  cases v1 with
  | @obj aa _ ha =>
    refine a1.bm lf ho ha hx rfl ?_
    refine callWith_method1 (args_cons (Call_ ?_) rfl) rfl rfl
    refine nameX_B a1.F g.X (topRead_of g.T) r1 r2 r3 ?_ g.hk ((g.ks x').trans hs') (lk.dbg x')
    refine PyProof.Rows.callWith_type1 (args_cons (ih mm (up s h1 tk) N1 φ1 ψ1 _ E a1 fun v h2 tk2 N2 φ2 ψ2 a2 g2 v2 => args_nil ?_) (noStar hz (put_bad z))) (noStar hz (put_bad z)) rfl
    cases v2 with
    | @tup t vs _ hq hvs =>
      have hlv := hvs.length
      have hT : IsTup h2 t vs.toArray := ⟨_, (a2.nw _ hq).1, rfl, _, rfl⟩
      have hzv : vs.toArray.size ≤ 10000 := by rw [List.size_toArray]; (first | lia | omega)
      refine call_rt hT (by (first | lia | omega)) fun tk3 => ?_
      refine args_nil ?_
      obtain ⟨aa', μ, haa, hμ, rfl, us, n, hN, hus⟩ := a2.R.at hm
      rw [g2.fi _ _ ha] at haa; cases haa
      have hlu := hus.length
      have z2 := a2.nw _ hN
      have ltI : ∀ b ob, h2.get? b = some ob → b ≠ h2.objs.size := fun b ob e => Nat.ne_of_lt (Heap.lt_size e)
      have hS : (h2.push (revT t ((vs.toArray.size : Int) - 1))).get? aa = some (listOf us.toArray n) := Heap.get?_push_of_some _ z2.1
      have hIt : IsRevT (h2.push (revT t ((vs.toArray.size : Int) - 1))) h2.objs.size t ((vs.toArray.size : Int) - 1) := ⟨_, Heap.get?_push_size _ rfl, rfl, rfl⟩
      refine wpAny_call (codeAny_call_builtin PySem.F.slot_list_extend.plain PySem.F.entry_list_extend (PySem.F.slot_list_extend.check _ _ _ _ _ _ _ _ ⟨_, hS, rfl⟩ (PySem.F.args_list_extend_2 _ _) ?_))
      show wpAny _ _ (Builtin.«list.extend» ⟨[.ref aa, .ref h2.objs.size], []⟩) _ _ _
      unfold Builtin.«list.extend»
      refine wpAny_bind (wpAny_of_eq (a := (Value.ref aa, Value.ref h2.objs.size)) rfl ?_)
      have hAt : aa ≠ t := fun e => by
        have q1 := hN; rw [e] at q1
        exact absurd (congrArg Obj.cls (nd_eq a2.R.nd q1 hq)) (by simp)
      refine it_extend (R := wants Q E) (A := G.A) (T := "reversed") (dd := t) (St := fun i h => i ≤ vs.toArray.size ∧ IsRevT h h2.objs.size t ((vs.toArray.size : Int) - 1 - (i : Int)) ∧ IsTup h t vs.toArray) (P := fun i v => vs.toArray[vs.toArray.size - 1 - i]? = some v)
        (Walks_rt rfl h2.objs.size t (ltI _ _ (a2.nw _ hq).1) _ (by (first | lia | omega))) hIt.typeIs (by decide) (by decide) (fun E Q hq => rt_hint hIt (hT.push _) rfl (by (first | lia | omega)) hq)
        ⟨Nat.zero_le _, by rw [show (vs.toArray.size : Int) - 1 - ((0 : Nat) : Int) = (vs.toArray.size : Int) - 1 by (first | lia | omega)]; exact hIt, hT.push _⟩ aa (ltI _ _ z2.1) hAt .none n us.toArray hS (by rw [sizeLine_eq, List.size_toArray]; (first | lia | omega)) fun h' tk acc c hk hS' hsz hacc => ?_
      show Q .none (up s h' tk)
      have he : Heap.ExtBut aa h2 h' := fun b ob hb e => hk b ob hb (ltI b ob e) (Heap.get?_push_of_some _ e)
      have e : acc.toList = us ++ vs.reverse := by
        apply List.ext_getElem?
        intro j
        have hsz : acc.size = us.length + vs.length := by rw [hsz, List.size_toArray, List.size_toArray]
        by_cases hj : j < acc.size
        · have e1 : acc[j]? = some acc[j] := Array.getElem?_eq_getElem hj
          have e2 := hacc j _ e1
          rw [Array.getElem?_toList, e1]
          by_cases hju : j < us.length
          · have := e2.1 (by rw [List.size_toArray]; exact hju)
            rw [List.getElem?_append_left hju]
            simpa using this.symm
          · have := e2.2 (by rw [List.size_toArray]; (first | lia | omega))
            rw [List.getElem?_append_right (by (first | lia | omega)), List.getElem?_reverse (by (first | lia | omega))]
            simpa using this.symm
        · rw [List.getElem?_eq_none (by rw [Array.length_toList]; (first | lia | omega)), List.getElem?_eq_none (by rw [List.length_append, List.length_reverse]; (first | lia | omega))]
      have hS2 : h'.get? aa = some (listOf acc.toList.toArray c) := by rw [Array.toArray_toList]; exact hS'
      obtain ⟨R', ge⟩ := a2.R.upd (O := .list (m ++ l.reverse)) (o' := listOf acc.toList.toArray c) hm (g2.fi _ _ ha) hμ fixed_list (fun _ _ e => by cases e) (fun ge => ⟨rfl, _, _, setAll_self hN, e.symm ▸ (VRs.mono hus ge).append (VRs.mono hvs ge).reverse⟩)
      exact h .none h' tk _ φ2 ψ2 ⟨frExt a2.F he z2.2.1 z2.2.2, news_setAllE a2.nw hN he hS2, R', a2.L.mono ge⟩ ((g1.trans g2).trans ge) .none
end

structure Lks (W : Wd) : Prop where
  lk : Lk W
  lc : LkC W
  ls : LkS W
  lf : LkF W
  lb : LkB W
  lt : LkT W
theorem map1 {α β : Type} {f : α → β} {l : List α} {b : β} (h : l.map f = [b]) : ∃ a, l = [a] ∧ f a = b := by
  cases l with
  | nil => cases h
  | cons a l => cases l with
    | nil => injection h with h _; exact ⟨a, rfl, h⟩
    | cons _ _ => injection h with _ h; cases h
theorem map2 {α β : Type} {f : α → β} {l : List α} {b c : β} (h : l.map f = [b, c]) : ∃ a a', l = [a, a'] ∧ f a = b ∧ f a' = c := by
  cases l with
  | nil => cases h
  | cons a l =>
    injection h with h h2
    obtain ⟨a', rfl, h3⟩ := map1 h2
    exact ⟨a, a', rfl, h, h3⟩
@[elab_as_elim] theorem map1E {α β : Type} {f : α → β} {l : List α} {b : β} (h : l.map f = [b]) {P : List α → Prop} (c : ∀ a, f a = b → P [a]) : P l := by
  obtain ⟨a, rfl, h1⟩ := map1 h
  exact c a h1
theorem one_map {nf : Nat → Str} {k : Nat} {e : Expr} {y : X Nat} (h : er k e = X.put nf k y) : [e].map (er k) = [y].map (X.put nf k) := congrArg (fun x => [x]) h
@[elab_as_elim] theorem map2E {α β : Type} {f : α → β} {l : List α} {b b' : β} (h : l.map f = [b, b']) {P : List α → Prop} (c : ∀ a a', f a = b → f a' = b' → P [a, a']) : P l := by
  obtain ⟨a, a', rfl, h1, h2⟩ := map2 h
  exact c a a' h1 h2
@[elab_as_elim] theorem nmE {nf : Nat → Str} {k : Nat} {e : Expr} {x : Nat} (h : er k e = X.put nf k (.nm x)) {P : Expr → Prop} (c : ∀ p, P (.Name (nf x) p)) : P e := by
  obtain ⟨k, rfl, p, rfl⟩ := shape h
  exact c p
@[elab_as_elim] theorem intE {nf : Nat → Str} {k : Nat} {e : Expr} {i : Int} (h : er k e = X.put nf k (.int i)) {P : Expr → Prop} (c : ∀ j p, P (.Constant (.int i) j p)) : P e := by
  obtain ⟨k, rfl, j, p, rfl⟩ := shape h
  exact c j p
@[elab_as_elim] theorem strE {nf : Nat → Str} {k : Nat} {e : Expr} {i : Nat} (h : er k e = X.put nf k (.str i)) {P : Expr → Prop} (c : ∀ j p, P (.Constant (.str (nf i)) j p)) : P e := by
  obtain ⟨k, rfl, j, p, rfl⟩ := shape h
  exact c j p
@[elab_as_elim] theorem boolE {nf : Nat → Str} {k : Nat} {e : Expr} {b : Bool} (h : er k e = X.put nf k (.bool b)) {P : Expr → Prop} (c : ∀ j p, P (.Constant (.bool b) j p)) : P e := by
  obtain ⟨k, rfl, j, p, rfl⟩ := shape h
  exact c j p
@[elab_as_elim] theorem dictE {nf : Nat → Str} {k : Nat} {e : Expr} (h : er k e = X.put nf k .dict) {P : Expr → Prop} (c : ∀ p, P (.Dict [] [] p)) : P e := by
  obtain ⟨k, rfl, p, rfl⟩ := shape h
  exact c p
@[elab_as_elim] theorem tupE {nf : Nat → Str} {k : Nat} {e : Expr} {l : List (X Nat)} (h : er k e = X.put nf k (.tup l)) {P : Expr → Prop} (c : ∀ k es j p, es.map (er k) = l.map (X.put nf k) → P (.Tuple es j p)) : P e := by
  obtain ⟨k, rfl, es, j, p, rfl, h1⟩ := shape h
  exact c k es j p h1
@[elab_as_elim] theorem lstE {nf : Nat → Str} {k : Nat} {e : Expr} {l : List (X Nat)} (h : er k e = X.put nf k (.lst l)) {P : Expr → Prop} (c : ∀ k es p, es.map (er k) = l.map (X.put nf k) → P (.List es p)) : P e := by
  obtain ⟨k, rfl, es, p, rfl, h1⟩ := shape h
  exact c k es p h1
@[elab_as_elim] theorem attE {nf : Nat → Str} {k : Nat} {e : Expr} {o : X Nat} {a : Nat} (h : er k e = X.put nf k (.att o a)) {P : Expr → Prop} (c : ∀ k e' p, er k e' = X.put nf k o → P (.Attribute e' (nf a) p)) : P e := by
  obtain ⟨k, rfl, e', p, rfl, h1⟩ := shape h
  exact c k e' p h1
@[elab_as_elim] theorem subE {nf : Nat → Str} {k : Nat} {e : Expr} {o : X Nat} {i : X Nat} (h : er k e = X.put nf k (.sub o i)) {P : Expr → Prop} (c : ∀ k e' i' p, er k e' = X.put nf k o → er k i' = X.put nf k i → P (.Subscript e' i' p)) : P e := by
  obtain ⟨k, rfl, e', i', p, rfl, h1, h2⟩ := shape h
  exact c k e' i' p h1 h2
@[elab_as_elim] theorem uptoE {nf : Nat → Str} {k : Nat} {e : Expr} {o : X Nat} (h : er k e = X.put nf k (.upto o)) {P : Expr → Prop} (c : ∀ k e' p, er k e' = X.put nf k o → P (.Slice none (some e') none p)) : P e := by
  obtain ⟨k, rfl, e', p, rfl, h1⟩ := shape h
  exact c k e' p h1
@[elab_as_elim] theorem frmE {nf : Nat → Str} {k : Nat} {e : Expr} {o : X Nat} (h : er k e = X.put nf k (.frm o)) {P : Expr → Prop} (c : ∀ k e' p, er k e' = X.put nf k o → P (.Slice (some e') none none p)) : P e := by
  obtain ⟨k, rfl, e', p, rfl, h1⟩ := shape h
  exact c k e' p h1
@[elab_as_elim] theorem cmpE {nf : Nat → Str} {k : Nat} {e : Expr} {op : CmpOp} {a : X Nat} {b : X Nat} (h : er k e = X.put nf k (.cmp op a b)) {P : Expr → Prop} (c : ∀ k a' b' p, er k a' = X.put nf k a → er k b' = X.put nf k b → P (.Compare a' [op] [b'] p)) : P e := by
  obtain ⟨k, rfl, a', b', p, rfl, h1, h2⟩ := shape h
  exact c k a' b' p h1 h2
@[elab_as_elim] theorem bopE {nf : Nat → Str} {k : Nat} {e : Expr} {op : BoolOp} {l : List (X Nat)} (h : er k e = X.put nf k (.bop op l)) {P : Expr → Prop} (c : ∀ k es p, es.map (er k) = l.map (X.put nf k) → P (.BoolOp op es p)) : P e := by
  obtain ⟨k, rfl, es, p, rfl, h1⟩ := shape h
  exact c k es p h1
@[elab_as_elim] theorem notE {nf : Nat → Str} {k : Nat} {e : Expr} {o : X Nat} (h : er k e = X.put nf k (.not o)) {P : Expr → Prop} (c : ∀ k e' p, er k e' = X.put nf k o → P (.UnaryOp .Not e' p)) : P e := by
  obtain ⟨k, rfl, e', p, rfl, h1⟩ := shape h
  exact c k e' p h1
@[elab_as_elim] theorem negE {nf : Nat → Str} {k : Nat} {e : Expr} {o : X Nat} (h : er k e = X.put nf k (.neg o)) {P : Expr → Prop} (c : ∀ k e' p, er k e' = X.put nf k o → P (.UnaryOp .USub e' p)) : P e := by
  obtain ⟨k, rfl, e', p, rfl, h1⟩ := shape h
  exact c k e' p h1
@[elab_as_elim] theorem binE {nf : Nat → Str} {k : Nat} {e : Expr} {op : Operator} {a : X Nat} {b : X Nat} (h : er k e = X.put nf k (.bin op a b)) {P : Expr → Prop} (c : ∀ k a' b' p, er k a' = X.put nf k a → er k b' = X.put nf k b → P (.BinOp a' op b' p)) : P e := by
  obtain ⟨k, rfl, a', b', p, rfl, h1, h2⟩ := shape h
  exact c k a' b' p h1 h2
@[elab_as_elim] theorem callE {nf : Nat → Str} {k : Nat} {e : Expr} {g : X Nat} {l : List (X Nat)} (h : er k e = X.put nf k (.call g l)) {P : Expr → Prop} (c : ∀ k g' es p, er k g' = X.put nf k g → es.map (er k) = l.map (X.put nf k) → lineOk g' p = true → P (.Call g' es [] p)) : P e := by
  obtain ⟨k, rfl, g', es, p, rfl, h1, h2, h3⟩ := shape h
  exact c k g' es p h1 h2 h3
@[elab_as_elim] theorem S_colE {nf : Nat → Str} {k : Nat} {e : Stmt} {x : Nat} {i : Int} {z : Nat} (h : erS k e = S.put nf k (.col x i z)) {P : Stmt → Prop} (c : ∀ t' e' p, colOf t' e' = some (nf x, i, nf z) → P (.Assign [t'] e' p)) : P e := by
  obtain ⟨k, rfl, t', e', p, rfl, h1⟩ := shapeS h
  exact c t' e' p h1
@[elab_as_elim] theorem S_exE {nf : Nat → Str} {k : Nat} {e : Stmt} {x : X Nat} (h : erS k e = S.put nf k (.ex x)) {P : Stmt → Prop} (c : ∀ k e' p, er k e' = X.put nf k x → P (.Expr e' p)) : P e := by
  obtain ⟨k, rfl, e', p, rfl, h1⟩ := shapeS h
  exact c k e' p h1
@[elab_as_elim] theorem S_asgE {nf : Nat → Str} {k : Nat} {e : Stmt} {t : X Nat} {x : X Nat} (h : erS k e = S.put nf k (.asg t x)) {P : Stmt → Prop} (c : ∀ k t' e' p, er k t' = X.put nf k t → er k e' = X.put nf k x → P (.Assign [t'] e' p)) : P e := by
  obtain ⟨k, rfl, t', e', p, rfl, h1, h2⟩ := shapeS h
  exact c k t' e' p h1 h2
@[elab_as_elim] theorem S_augE {nf : Nat → Str} {k : Nat} {e : Stmt} {t : X Nat} {op : Operator} {x : X Nat} (h : erS k e = S.put nf k (.aug t op x)) {P : Stmt → Prop} (c : ∀ k t' e' p, er k t' = X.put nf k t → er k e' = X.put nf k x → P (.AugAssign t' op e' p)) : P e := by
  obtain ⟨k, rfl, t', e', p, rfl, h1, h2⟩ := shapeS h
  exact c k t' e' p h1 h2
@[elab_as_elim] theorem S_iteE {nf : Nat → Str} {k : Nat} {e : Stmt} {q : X Nat} {a : List (S Nat)} {b : List (S Nat)} (h : erS k e = S.put nf k (.ite q a b)) {P : Stmt → Prop} (c : ∀ k c' a' b' p, er k c' = X.put nf k q → a'.map (erS k) = a.map (S.put nf k) → b'.map (erS k) = b.map (S.put nf k) → P (.If c' a' b' p)) : P e := by
  obtain ⟨k, rfl, c', a', b', p, rfl, h1, h2, h3⟩ := shapeS h
  exact c k c' a' b' p h1 h2 h3
@[elab_as_elim] theorem S_whlE {nf : Nat → Str} {k : Nat} {e : Stmt} {q : X Nat} {b : List (S Nat)} (h : erS k e = S.put nf k (.whl q b)) {P : Stmt → Prop} (c : ∀ k c' b' p, er k c' = X.put nf k q → b'.map (erS k) = b.map (S.put nf k) → P (.While c' b' [] p)) : P e := by
  obtain ⟨k, rfl, c', b', p, rfl, h1, h2⟩ := shapeS h
  exact c k c' b' p h1 h2
@[elab_as_elim] theorem S_forE {nf : Nat → Str} {k : Nat} {e : Stmt} {x : Nat} {q : X Nat} {b : List (S Nat)} (h : erS k e = S.put nf k (.for x q b)) {P : Stmt → Prop} (c : ∀ j k c' b' p, er k c' = X.put nf k q → b'.map (erS k) = b.map (S.put nf k) → P (.For (.Name (nf x) j) c' b' [] p)) : P e := by
  obtain ⟨k, rfl, j, c', b', p, rfl, h1, h2⟩ := shapeS h
  exact c j k c' b' p h1 h2
@[elab_as_elim] theorem S_retE {nf : Nat → Str} {k : Nat} {e : Stmt} {x : X Nat} (h : erS k e = S.put nf k (.ret x)) {P : Stmt → Prop} (c : ∀ k e' p, er k e' = X.put nf k x → P (.Return (some e') p)) : P e := by
  obtain ⟨k, rfl, e', p, rfl, h1⟩ := shapeS h
  exact c k e' p h1
@[elab_as_elim] theorem S_ret0E {nf : Nat → Str} {k : Nat} {e : Stmt} (h : erS k e = S.put nf k .ret0) {P : Stmt → Prop} (c : ∀ p, P (.Return none p)) : P e := by
  obtain ⟨k, rfl, p, rfl⟩ := shapeS h
  exact c p
@[elab_as_elim] theorem S_contE {nf : Nat → Str} {k : Nat} {e : Stmt} (h : erS k e = S.put nf k .cont) {P : Stmt → Prop} (c : ∀ p, P (.Continue p)) : P e := by
  obtain ⟨k, rfl, p, rfl⟩ := shapeS h
  exact c p
/-! what a text does, wherever it stands -/
noncomputable def Ev (d : Nat) (sc : Sc) (ρ : Loc) (H : AH) (x : X Nat) (r : AV) (H' : AH) : Prop := ∀ W, Lks W → ∀ G k e, GOk W G sc d → er k e = X.put W.nf k x → EvOk W G (eval e G.env) ρ H r H'
noncomputable def Evs (d : Nat) (sc : Sc) (ρ : Loc) (H : AH) (l : List (X Nat)) (r : List AV) (H' : AH) : Prop := (l = [] → r = [] ∧ H' = H) ∧ ∀ W, Lks W → ∀ G k es p, GOk W G sc d → es.map (er k) = l.map (X.put W.nf k) → EvsOk W G (spliced (backTo p (starEach es G.env))) ρ H r H'
noncomputable def Tr (d : Nat) (sc : Sc) (ρ : Loc) (H : AH) (x : X Nat) (b : Bool) (H' : AH) : Prop := ∀ W, Lks W → ∀ G k e, GOk W G sc d → er k e = X.put W.nf k x → TrOk W G (PySem.isTrue e G.env (eval e G.env)) ρ H b H'
noncomputable def Trs (d : Nat) (sc : Sc) (ρ : Loc) (H : AH) (a : Bool) (l : List (X Nat)) (b : Bool) (H' : AH) : Prop := ∀ W, Lks W → ∀ G k es p whole, GOk W G sc d → es.map (er k) = l.map (X.put W.nf k) → TrOk W G (PySem.isTrue (.BoolOp (opOf a) es p) G.env whole) ρ H b H'
noncomputable def Cal (d : Nat) (i : Nat) (vs : List AV) (H : AH) (r : AV) (H' : AH) : Prop := (∃ f, Tb.fn i = some f) ∧ ∀ W, Lks W → ∀ G sc, GOk W G sc d → CallOk W G i vs H r H'
noncomputable def Exs (d : Nat) (sc : Sc) (ρ : Loc) (H : AH) (l : List (S Nat)) (f : Fl) (ρ' : Loc) (H' : AH) : Prop := ∀ W, Lks W → BodyOk W sc d l ρ H f ρ' H'
noncomputable def Ex1 (d : Nat) (sc : Sc) (ρ : Loc) (H : AH) (s : S Nat) (f : Fl) (ρ' : Loc) (H' : AH) : Prop := ∀ W, Lks W → ∀ G k e, GOk W G sc d → erS k e = S.put W.nf k s → ExOk W G (exec e G.env) ρ H f ρ' H'
noncomputable def Whl (d : Nat) (sc : Sc) (ρ : Loc) (H : AH) (c : X Nat) (b : List (S Nat)) (f : Fl) (ρ' : Loc) (H' : AH) : Prop := ∀ W, Lks W → ∀ G k e l, GOk W G sc d → er k e = X.put W.nf k c → l.map (erS k) = b.map (S.put W.nf k) → WhOk W G e l ρ H f ρ' H'
noncomputable def Sr (d : Nat) (sc : Sc) (ρ : Loc) (H : AH) (x : X Nat) (q : Src) (H' : AH) : Prop := ∀ W, Lks W → ∀ G k e, GOk W G sc d → er k e = X.put W.nf k x → SrcOk W G (eval e G.env) ρ H q H'
section
variable {d : Nat} {sc : Sc} {ρ : Loc} {H : AH}
noncomputable def WEv (d : Nat) (sc : Sc) (ρ : Loc) (H : AH) (x : X Nat) (Q : AV → AH → Prop) : Prop := ∃ r H', Ev d sc ρ H x r H' ∧ Q r H'
noncomputable def WEvs (d : Nat) (sc : Sc) (ρ : Loc) (H : AH) (l : List (X Nat)) (Q : List AV → AH → Prop) : Prop := ∃ r H', Evs d sc ρ H l r H' ∧ Q r H'
noncomputable def WTr (d : Nat) (sc : Sc) (ρ : Loc) (H : AH) (x : X Nat) (Q : Bool → AH → Prop) : Prop := ∃ r H', Tr d sc ρ H x r H' ∧ Q r H'
noncomputable def WTrs (d : Nat) (sc : Sc) (ρ : Loc) (H : AH) (a : Bool) (l : List (X Nat)) (Q : Bool → AH → Prop) : Prop := ∃ r H', Trs d sc ρ H a l r H' ∧ Q r H'
noncomputable def WCal (d : Nat) (i : Nat) (vs : List AV) (H : AH) (Q : AV → AH → Prop) : Prop := ∃ r H', Cal d i vs H r H' ∧ Q r H'
noncomputable def WEx (d : Nat) (sc : Sc) (ρ : Loc) (H : AH) (l : List (S Nat)) (Q : Fl → Loc → AH → Prop) : Prop := ∃ f ρ' H', Exs d sc ρ H l f ρ' H' ∧ Q f ρ' H'
noncomputable def WEx1 (d : Nat) (sc : Sc) (ρ : Loc) (H : AH) (s : S Nat) (Q : Fl → Loc → AH → Prop) : Prop := ∃ f ρ' H', Ex1 d sc ρ H s f ρ' H' ∧ Q f ρ' H'
noncomputable def WWh (d : Nat) (sc : Sc) (ρ : Loc) (H : AH) (c : X Nat) (b : List (S Nat)) (Q : Fl → Loc → AH → Prop) : Prop := ∃ f ρ' H', Whl d sc ρ H c b f ρ' H' ∧ Q f ρ' H'
noncomputable def WSrc (d : Nat) (sc : Sc) (ρ : Loc) (H : AH) (x : X Nat) (Q : Src → AH → Prop) : Prop := ∃ r H', Sr d sc ρ H x r H' ∧ Q r H'
noncomputable def WFo (d : Nat) (sc : Sc) (ρ : Loc) (H : AH) (x : Nat) (b : List (S Nat)) (q : Src) (i : Nat) (Q : Fl → Loc → AH → Prop) : Prop := ∃ n f ρ' H', (∀ W, Lks W → ForOk W sc d b x q n ρ H i f ρ' H') ∧ Q f ρ' H'
/-! expressions -/
variable {Q : AV → AH → Prop} {v : AV} {r : AV}
theorem WEv.nm {x : Nat} (hs : sc.lookup x = some .local) (hx : lookN x ρ = some v) (h : Q v H) : WEv d sc ρ H (.nm x) Q :=
  ⟨v, H, fun W L G k e g hx' => by refine nmE hx' fun p => ?_; exact ok_nm L.lk g hs hx, h⟩
theorem WEv.cel {x : Nat} (hs : sc.lookup x = some .cell) (hx : lookN x ρ = some v) (h : Q v H) : WEv d sc ρ H (.nm x) Q :=
  ⟨v, H, fun W L G k e g hx' => by refine nmE hx' fun p => ?_; exact ok_cell L.lk g hs hx, h⟩
theorem WEv.glo {x : Nat} {i : Int} (hs : sc.lookup x = some .globalImplicit) (hx : Tb.glob x = some i) (h : Q (.int i) H) : WEv d sc ρ H (.nm x) Q :=
  ⟨_, H, fun W L G k e g hx' => by refine nmE hx' fun p => ?_; exact ok_glob L.lk g hs hx, h⟩
theorem WEv.int {i : Int} (h : Q (.int i) H) : WEv d sc ρ H (.int i) Q := ⟨_, H, fun W L G k e g hx => by refine intE hx fun j p => ?_; exact ok_int, h⟩
theorem WEv.str {i : Nat} (h : Q (.str i) H) : WEv d sc ρ H (.str i) Q := ⟨_, H, fun W L G k e g hx => by refine strE hx fun j p => ?_; exact ok_str, h⟩
theorem WEv.bool {b : Bool} (h : Q (.bool b) H) : WEv d sc ρ H (.bool b) Q := ⟨_, H, fun W L G k e g hx => by refine boolE hx fun j p => ?_; exact ok_bool, h⟩
theorem WEv.neg {i : Int} (h : Q (.int (-i)) H) : WEv d sc ρ H (.neg (.int i)) Q := ⟨_, H, fun W L G k e g hx => by
  refine negE hx fun k e' p h1 => ?_
  refine intE h1 fun j q => ?_
  exact ok_neg, h⟩
noncomputable def NewD (Q : AV → AH → Prop) (H : AH) : Prop := Q (.obj H.length) (H ++ [.dict [] false])
theorem WEv.dict (h : NewD Q H) : WEv d sc ρ H .dict Q := ⟨_, _, fun W L G k e g hx => by refine dictE hx fun p => ?_; exact ok_dict g, h⟩
noncomputable def KTup (Q : AV → AH → Prop) (r : List AV) (H : AH) : Prop := r.length ≤ 1000 ∧ Q (.tup r) H
theorem KTup.mk {r : List AV} (h : Q (.tup r) H) (hl : r.length ≤ 1000 := by exact Nat.le_of_ble_eq_true rfl) : KTup Q r H := ⟨hl, h⟩
theorem WEv.tup {l : List (X Nat)} (h : WEvs d sc ρ H l (KTup Q)) : WEv d sc ρ H (.tup l) Q := by
  obtain ⟨r, H1, e1, hl, h⟩ := h
  exact ⟨_, _, fun W L G k e g hx => by refine tupE hx fun k es j p hy => ?_; exact ok_tup (Nat.le_trans hl (by decide)) (e1.2 W L G k es p g hy), h⟩
noncomputable def NewL (Q : AV → AH → Prop) (H : AH) (r : List AV) : Prop := Q (.obj H.length) (H ++ [.list r])
noncomputable def KLst (Q : AV → AH → Prop) (r : List AV) (H : AH) : Prop := r.length ≤ 1000 ∧ NewL Q H r
theorem KLst.mk {r : List AV} (h : NewL Q H r) (hl : r.length ≤ 1000 := by exact Nat.le_of_ble_eq_true rfl) : KLst Q r H := ⟨hl, h⟩
theorem WEv.lst {l : List (X Nat)} (h : WEvs d sc ρ H l (KLst Q)) : WEv d sc ρ H (.lst l) Q := by
  obtain ⟨r, H1, e1, hl, h⟩ := h
  exact ⟨_, _, fun W L G k e g hx => by refine lstE hx fun k es p hy => ?_; exact ok_lst (Nat.le_trans hl (by decide)) (e1.2 W L G k es p g hy), h⟩
noncomputable def KAtt (a : Nat) (Q : AV → AH → Prop) (r : AV) (H : AH) : Prop := ∃ v, getAt Tb H r a = some v ∧ Q v H
theorem WEv.att {o : X Nat} {a : Nat} (ho : o.plainB = true) (h : WEv d sc ρ H o (KAtt a Q)) : WEv d sc ρ H (.att o a) Q := by
  obtain ⟨r, H1, e1, v, hv, h⟩ := h
  exact ⟨_, _, fun W L G k e g hx => by refine attE hx fun k e' p h1 => ?_; exact ok_att L.lk L.lc g h1 ho (e1 W L G k _ g h1) hv, h⟩
noncomputable def KSub2 (r : AV) (Q : AV → AH → Prop) (k : AV) (H : AH) : Prop := ∃ v, item H r k = some v ∧ Q v H
noncomputable def KSub1 (d : Nat) (sc : Sc) (ρ : Loc) (i : X Nat) (Q : AV → AH → Prop) (r : AV) (H : AH) : Prop := WEv d sc ρ H i (KSub2 r Q)
theorem KSub1.mk {i : X Nat} (h : WEv d sc ρ H i (KSub2 r Q)) : KSub1 d sc ρ i Q r H := h
theorem WEv.sub {o i : X Nat} (hi : notSl i = true) (h : WEv d sc ρ H o (KSub1 d sc ρ i Q)) : WEv d sc ρ H (.sub o i) Q := by
  obtain ⟨r, H1, e1, k, H2, e2, v, hv, h⟩ := h
  exact ⟨_, _, fun W L G k e g hx => by refine subE hx fun k e' i' p h1 h2 => ?_; exact ok_sub h2 hi (e1 W L G k _ g h1) (e2 W L G k _ g h2) hv, h⟩
noncomputable def KUpto2 (r : AV) (Q : AV → AH → Prop) (k : AV) (H2 : AH) : Prop := ∃ a b l, r = .obj a ∧ k = .int b ∧ H2[a]? = some (.list l) ∧ (0 ≤ b ∧ b < 1000000 ∧ l.length ≤ 1000000) ∧ NewL Q H2 (l.take b.toNat)
noncomputable def KUpto1 (d : Nat) (sc : Sc) (ρ : Loc) (i : X Nat) (Q : AV → AH → Prop) (r : AV) (H : AH) : Prop := WEv d sc ρ H i (KUpto2 r Q)
theorem KUpto1.mk {i : X Nat} (h : WEv d sc ρ H i (KUpto2 r Q)) : KUpto1 d sc ρ i Q r H := h
theorem KUpto2.mk {a : Nat} {b : Int} {l : List AV} (ha : H[a]? = some (.list l)) (hb : 0 ≤ b ∧ b < 1000000 ∧ l.length ≤ 1000000) (h : NewL Q H (l.take b.toNat)) : KUpto2 (.obj a) Q (.int b) H := ⟨_, _, _, rfl, rfl, ha, hb, h⟩
theorem WEv.upto {o i : X Nat} (h : WEv d sc ρ H o (KUpto1 d sc ρ i Q)) : WEv d sc ρ H (.sub o (.upto i)) Q := by
  obtain ⟨r, H1, e1, k, H2, e2, a, b, l, rfl, rfl, ha, hb, h⟩ := h
  exact ⟨_, _, fun W L G k e g hx => by
    refine subE hx fun k e' i' p h1 h2 => ?_
    refine uptoE h2 fun k' e'' q h3 => ?_
    exact ok_upto (e1 W L G _ _ g h1) (e2 W L G _ _ g h3) ha hb, h⟩
noncomputable def KFrm2 (r : AV) (Q : AV → AH → Prop) (k : AV) (H2 : AH) : Prop := ∃ a b l, r = .obj a ∧ k = .int b ∧ H2[a]? = some (.list l) ∧ (0 ≤ b ∧ b < 1000000 ∧ l.length ≤ 1000000) ∧ NewL Q H2 (l.drop b.toNat)
noncomputable def KFrm1 (d : Nat) (sc : Sc) (ρ : Loc) (i : X Nat) (Q : AV → AH → Prop) (r : AV) (H : AH) : Prop := WEv d sc ρ H i (KFrm2 r Q)
theorem KFrm1.mk {i : X Nat} (h : WEv d sc ρ H i (KFrm2 r Q)) : KFrm1 d sc ρ i Q r H := h
theorem KFrm2.mk {a : Nat} {b : Int} {l : List AV} (ha : H[a]? = some (.list l)) (hb : 0 ≤ b ∧ b < 1000000 ∧ l.length ≤ 1000000) (h : NewL Q H (l.drop b.toNat)) : KFrm2 (.obj a) Q (.int b) H := ⟨_, _, _, rfl, rfl, ha, hb, h⟩
theorem WEv.frm {o i : X Nat} (h : WEv d sc ρ H o (KFrm1 d sc ρ i Q)) : WEv d sc ρ H (.sub o (.frm i)) Q := by
  obtain ⟨r, H1, e1, k, H2, e2, a, b, l, rfl, rfl, ha, hb, h⟩ := h
  exact ⟨_, _, fun W L G k e g hx => by
    refine subE hx fun k e' i' p h1 h2 => ?_
    refine frmE h2 fun k' e'' q h3 => ?_
    exact ok_frm (e1 W L G _ _ g h1) (e2 W L G _ _ g h3) ha hb, h⟩
noncomputable def KCmp2 (op : CmpOp) (r : AV) (Q : Bool → AH → Prop) (k : AV) (H : AH) : Prop := ∃ c, CmpIs H op r k c ∧ Q c H
theorem KCmp2.mk {op : CmpOp} {Q : Bool → AH → Prop} {k : AV} {c : Bool} (hc : CmpIs H op r k c) (h : Q c H) : KCmp2 op r Q k H := ⟨c, hc, h⟩
noncomputable def KCmp1 (d : Nat) (sc : Sc) (ρ : Loc) (op : CmpOp) (b : X Nat) (Q : Bool → AH → Prop) (r : AV) (H : AH) : Prop := WEv d sc ρ H b (KCmp2 op r Q)
theorem KCmp1.mk {op : CmpOp} {b : X Nat} {Q : Bool → AH → Prop} (h : WEv d sc ρ H b (KCmp2 op r Q)) : KCmp1 d sc ρ op b Q r H := h
noncomputable def KBool (Q : AV → AH → Prop) (c : Bool) (H : AH) : Prop := Q (.bool c) H
theorem KBool.mk {c : Bool} (h : Q (.bool c) H) : KBool Q c H := h
theorem WEv.cmp {op : CmpOp} {a b : X Nat} (h : WEv d sc ρ H a (KCmp1 d sc ρ op b (KBool Q))) : WEv d sc ρ H (.cmp op a b) Q := by
  obtain ⟨r, H1, e1, k, H2, e2, v, hv, h⟩ := h
  exact ⟨_, _, fun W L G k e g hx => by refine cmpE hx fun k a' b' p h1 h2 => ?_; exact ok_cmp L.lk L.ls g h2 (e1 W L G k _ g h1) (e2 W L G k _ g h2) hv, h⟩
noncomputable def KAnd (d : Nat) (sc : Sc) (ρ : Loc) (b : X Nat) (Q : AV → AH → Prop) (r : AV) (H : AH) : Prop := ∃ c, r = .bool c ∧ (if c = true then WEv d sc ρ H b Q else Q (.bool false) H)
theorem KAnd.t {b : X Nat} {c : Bool} (hc : c = true) (h : WEv d sc ρ H b Q) : KAnd d sc ρ b Q (.bool c) H := ⟨c, rfl, by rw [if_pos hc]; exact h⟩
theorem KAnd.f {b : X Nat} {c : Bool} (hc : c = false) (h : Q (.bool false) H) : KAnd d sc ρ b Q (.bool c) H := ⟨c, rfl, by rw [if_neg (by rw [hc]; decide)]; exact h⟩
theorem WEv.and {a b : X Nat} (h : WEv d sc ρ H a (KAnd d sc ρ b Q)) : WEv d sc ρ H (.bop .And [a, b]) Q := by
  obtain ⟨r, H1, e1, c, rfl, h⟩ := h
  cases c with
  | true =>
    obtain ⟨k, H2, e2, h⟩ := h
    exact ⟨_, _, fun W L G k e g hx => by
      refine bopE hx fun k es p hl => ?_
      refine map2E hl fun a' b' h1 h2 => ?_
      exact ok_and (e1 W L G k _ g h1) (by rw [if_pos rfl]; exact e2 W L G k _ g h2), h⟩
  | false =>
    exact ⟨_, _, fun W L G k e g hx => by
      refine bopE hx fun k es p hl => ?_
      refine map2E hl fun a' b' h1 h2 => ?_
      exact ok_and (e1 W L G k _ g h1) (by rw [if_neg (by decide)]; exact ⟨rfl, rfl⟩), h⟩
/-- an operator's answer: lists, or the rest -/
noncomputable def KBin2 (op : Operator) (r : AV) (Q : AV → AH → Prop) (k : AV) (H : AH) : Prop :=
  (∃ v, binOp Tb op r k = some v ∧ Q v H) ∨ ∃ i j l m, op = .Add ∧ r = .obj i ∧ k = .obj j ∧ H[i]? = some (.list l) ∧ H[j]? = some (.list m) ∧ l.length + m.length ≤ 1000000 ∧ NewL Q H (l ++ m)
theorem KBin2.mk {op : Operator} {k : AV} (hv : binOp Tb op r k = some v) (h : Q v H) : KBin2 op r Q k H := .inl ⟨v, hv, h⟩
theorem KBin2.cat {i j : Nat} {l m : List AV} (h1 : H[i]? = some (.list l)) (h2 : H[j]? = some (.list m)) (hl : l.length + m.length ≤ 1000000) (h : NewL Q H (l ++ m)) : KBin2 .Add (.obj i) Q (.obj j) H := .inr ⟨_, _, _, _, rfl, rfl, rfl, h1, h2, hl, h⟩
noncomputable def KBin1 (d : Nat) (sc : Sc) (ρ : Loc) (op : Operator) (b : X Nat) (Q : AV → AH → Prop) (r : AV) (H : AH) : Prop := WEv d sc ρ H b (KBin2 op r Q)
theorem KBin1.mk {op : Operator} {b : X Nat} (h : WEv d sc ρ H b (KBin2 op r Q)) : KBin1 d sc ρ op b Q r H := h
theorem WEv.bin {op : Operator} {a b : X Nat} (h : WEv d sc ρ H a (KBin1 d sc ρ op b Q)) : WEv d sc ρ H (.bin op a b) Q := by
  obtain ⟨r, H1, e1, k, H2, e2, h⟩ := h
  rcases h with ⟨v, hv, h⟩ | ⟨i, j, l, m, rfl, rfl, rfl, hi, hj, hz, h⟩
  · exact ⟨_, _, fun W L G k e g hx => by refine binE hx fun k a' b' p h1 h2 => ?_; exact ok_bin L.ls (e1 W L G k _ g h1) (e2 W L G k _ g h2) hv, h⟩
  · exact ⟨_, _, fun W L G k e g hx => by refine binE hx fun k a' b' p h1 h2 => ?_; exact ok_cat (e1 W L G k _ g h1) (e2 W L G k _ g h2) hi hj hz, h⟩
theorem WEvs.nil {Q : List AV → AH → Prop} (h : Q [] H) : WEvs d sc ρ H [] Q := by
  refine ⟨_, _, ⟨fun _ => ⟨rfl, rfl⟩, fun W L G k es p g hx => ?_⟩, h⟩
  cases es with
  | nil => exact ok_nil
  | cons _ _ => cases hx
noncomputable def KCons2 (r : AV) (Q : List AV → AH → Prop) (l : List AV) (H : AH) : Prop := Q (r :: l) H
theorem KCons2.mk {Q : List AV → AH → Prop} {l : List AV} (h : Q (r :: l) H) : KCons2 r Q l H := h
noncomputable def KCons1 (d : Nat) (sc : Sc) (ρ : Loc) (l : List (X Nat)) (Q : List AV → AH → Prop) (r : AV) (H : AH) : Prop := WEvs d sc ρ H l (KCons2 r Q)
theorem KCons1.mk {l : List (X Nat)} {Q : List AV → AH → Prop} (h : WEvs d sc ρ H l (KCons2 r Q)) : KCons1 d sc ρ l Q r H := h
theorem WEvs.cons {Q : List AV → AH → Prop} {e : X Nat} {l : List (X Nat)} (h : WEv d sc ρ H e (KCons1 d sc ρ l Q)) : WEvs d sc ρ H (e :: l) Q := by
  obtain ⟨r, H1, e1, k, H2, e2, h⟩ := h
  refine ⟨_, _, ⟨(fun e => by cases e), fun W L G k es p g hx => ?_⟩, h⟩
  cases es with
  | nil => cases hx
  | cons e es =>
    have h1 : er k e = X.put W.nf k _ := (List.cons.inj hx).1
    exact ok_cons h1 (e1 W L G k _ g h1) (e2.2 W L G k _ p g (List.cons.inj hx).2)
/-! calls -/
section
variable {f : Nat} (hs : sc.lookup f = some .globalImplicit)
include hs
noncomputable def KFn (d i : Nat) (Q : AV → AH → Prop) (vs : List AV) (H : AH) : Prop := WCal d i vs H Q
omit hs in
theorem KFn.mk {i : Nat} {vs : List AV} (h : WCal d i vs H Q) : KFn d i Q vs H := h
theorem emp {W : Wd} {k : Nat} {es : List Expr} {l : List (X Nat)} {P : Prop} (hl : es.map (er k) = l.map (X.put W.nf k)) (h0 : l = [] → P) (he : es = []) : P := by
  subst he
  cases l with
  | nil => exact h0 rfl
  | cons _ _ => cases hl
theorem WEv.fn {i : Nat} {args : List (X Nat)} (hc : Tb.call f = some (.fn i)) (h : WEvs d sc ρ H args (KFn d i Q)) : WEv d sc ρ H (.call (.nm f) args) Q := by
  obtain ⟨r, H1, e1, k, H2, ⟨⟨fd, hf⟩, e2⟩, h⟩ := h
  exact ⟨_, _, fun W L G k e g hx => by
    refine callE hx fun k g' es p h1 hl hq => ?_
    refine nmE h1 fun q => ?_
    exact ok_fn L.lk L.lf g hs hc hf hl (emp hs hl e1.1) (e1.2 W L G _ _ p g hl) (e2 W L G sc g), h⟩
noncomputable def KNone (n : Nat) (Q : AV → AH → Prop) (r : AV) (H : AH) : Prop := r = .none ∧ Q (.obj n) H
omit hs in
theorem KNone.mk {n : Nat} (h : Q (.obj n) H) : KNone n Q .none H := ⟨rfl, h⟩
noncomputable def NewI (d c i : Nat) (Q : AV → AH → Prop) (vs : List AV) (H : AH) : Prop := WCal d i (.obj H.length :: vs) (H ++ [.inst c []]) (KNone H.length Q)
theorem WEv.cls {c i : Nat} {args : List (X Nat)} (hc : Tb.call f = some (.cls c)) (hi : Tb.init c = some i) (h : WEvs (d + 1) sc ρ H args (NewI d c i Q)) : WEv (d + 1) sc ρ H (.call (.nm f) args) Q := by
  obtain ⟨r, H1, e1, k, H2, ⟨⟨fd, hf⟩, e2⟩, rfl, h⟩ := h
  exact ⟨_, _, fun W L G k e g hx => by
    refine callE hx fun k g' es p h1 hl hq => ?_
    refine nmE h1 fun q => ?_
    exact ok_new L.lk L.lf L.lb g hs hc hi hf hl (emp hs hl e1.1) (e1.2 W L G _ _ p g hl) (fun G' g' => e2 W L G' sc g'), h⟩
noncomputable def KLen (Q : AV → AH → Prop) (r : AV) (H : AH) : Prop := ∃ l, seqOf H r = some l ∧ l.length ≤ 1000000 ∧ Q (.int l.length) H
theorem WEv.len {e : X Nat} (hc : Tb.call f = some .len) (h : WEv d sc ρ H e (KLen Q)) : WEv d sc ρ H (.call (.nm f) [e]) Q := by
  obtain ⟨r, H1, e1, l, hl, hb, h⟩ := h
  exact ⟨_, _, fun W L G k e g hx => by
    refine callE hx fun k g' es p h1 hl0 hq => ?_
    refine nmE h1 fun q => ?_
    refine map1E hl0 fun e h2 => ?_
    exact ok_len L.lk L.lb g hs hc (one_map h2) hb (ok_cons h2 (e1 W L G _ _ g h2) ok_nil) hl, h⟩
noncomputable def KTuple (Q : AV → AH → Prop) (r : AV) (H : AH) : Prop := ∃ o l, r = .obj o ∧ H[o]? = some (.list l) ∧ l.length ≤ 10000 ∧ Q (.tup l) H
omit hs in
theorem KTuple.mk {o : Nat} {l : List AV} (ho : H[o]? = some (.list l)) (hl : l.length ≤ 10000) (h : Q (.tup l) H) : KTuple Q (.obj o) H := ⟨_, _, rfl, ho, hl, h⟩
omit hs in
theorem seqL {o : Nat} {l : List AV} (h : H[o]? = some (.list l)) : seqOf H (.obj o) = some l := by unfold seqOf; dsimp only; rw [h]
theorem WEv.tuple {e : X Nat} (hc : Tb.call f = some .tuple) (h : WEv d sc ρ H e (KTuple Q)) : WEv d sc ρ H (.call (.nm f) [e]) Q := by
  obtain ⟨r, H1, e1, o, l, rfl, hl, hb, h⟩ := h
  exact ⟨_, _, fun W L G k e g hx => by
    refine callE hx fun k g' es p h1 hl0 hq => ?_
    refine nmE h1 fun q => ?_
    refine map1E hl0 fun e h2 => ?_
    exact ok_tupleOf L.lk L.lb g hs hc h2 hb (ok_cons h2 (e1 W L G _ _ g h2) ok_nil) (seqL hl), h⟩
noncomputable def NewS (Q : AV → AH → Prop) (H : AH) : Prop := Q (.obj H.length) (H ++ [.set fun _ => false])
theorem WEv.set (hc : Tb.call f = some .set) (h : NewS Q H) : WEv d sc ρ H (.call (.nm f) []) Q :=
by
  refine ⟨_, _, fun W L G k e g hx => ?_, h⟩
  refine callE hx fun k g' es p h1 hl0 hq => ?_
  refine nmE h1 fun q => ?_
  cases es with
  | nil => exact ok_set L.lk L.lb g hs hc
  | cons _ _ => cases hl0
noncomputable def KSorted (Q : AV → AH → Prop) (r : AV) (H : AH) : Prop := ∃ o l b, r = .obj o ∧ H[o]? = some (.dict l b) ∧ l.length < 64 ∧ NewL Q H ((insSort (l.map (·.1))).map .int)
omit hs in
theorem KSorted.mk {o : Nat} {l : List (Int × AV)} {b : Bool} (ho : H[o]? = some (.dict l b)) (hl : l.length < 64) (h : NewL Q H ((insSort (l.map (·.1))).map .int)) : KSorted Q (.obj o) H := ⟨_, _, _, rfl, ho, hl, h⟩
theorem WEv.sorted {x : X Nat} (hc : Tb.call f = some .sorted) (h : WEv d sc ρ H x (KSorted Q)) : WEv d sc ρ H (.call (.nm f) [x]) Q := by
  obtain ⟨r, H1, e1, o, l, b, rfl, hl, hb, h⟩ := h
  exact ⟨_, _, fun W L G k e g hx => by
    refine callE hx fun k g' es p h1 hl0 hq => ?_
    refine nmE h1 fun q => ?_
    refine map1E hl0 fun e h2 => ?_
    exact ok_sorted L.lk L.lt g hs hc h2 (ok_cons h2 (e1 W L G _ _ g h2) ok_nil) hl hb, h⟩
noncomputable def KListT (Q : AV → AH → Prop) (r : AV) (H : AH) : Prop := ∃ l, r = .tup l ∧ l.length ≤ 10000 ∧ NewL Q H l
omit hs in
theorem KListT.mk {l : List AV} (hl : l.length ≤ 10000) (h : NewL Q H l) : KListT Q (.tup l) H := ⟨_, rfl, hl, h⟩
theorem WEv.listT {x : Nat} (hc : Tb.call f = some .list) (h : WEv d sc ρ H (.nm x) (KListT Q)) : WEv d sc ρ H (.call (.nm f) [.nm x]) Q := by
  obtain ⟨r, H1, e1, l, rfl, hb, h⟩ := h
  exact ⟨_, _, fun W L G k e g hx => by
    refine callE hx fun k g' es p h1 hl0 hq => ?_
    refine nmE h1 fun q => ?_
    refine map1E hl0 fun e h2 => ?_
    exact ok_listOf L.lk L.lb g hs hc h2 hb (ok_cons h2 (e1 W L G _ _ g h2) ok_nil), h⟩
noncomputable def KListR (Q : AV → AH → Prop) (r : AV) (H : AH) : Prop := ∃ o l, r = .obj o ∧ H[o]? = some (.list l) ∧ l.length ≤ 10000 ∧ NewL Q H l.reverse
omit hs in
theorem KListR.mk {o : Nat} {l : List AV} (ho : H[o]? = some (.list l)) (hl : l.length ≤ 10000) (h : NewL Q H l.reverse) : KListR Q (.obj o) H := ⟨_, _, rfl, ho, hl, h⟩
theorem WEv.listR {g : Nat} {e : X Nat} (hc : Tb.call f = some .list) (hs2 : sc.lookup g = some .globalImplicit) (hc2 : Tb.call g = some .rev) (h : WEv d sc ρ H e (KListR Q)) : WEv d sc ρ H (.call (.nm f) [.call (.nm g) [e]]) Q := by
  obtain ⟨r, H1, e1, o, l, rfl, hl, hb, h⟩ := h
  exact ⟨_, _, fun W L G k e g hx => by
    refine callE hx fun k g' es p h1 hl0 hq => ?_
    refine nmE h1 fun q => ?_
    refine map1E hl0 fun e h2 => ?_
    refine callE h2 fun k1 e' es' p' h3 h4 _ => ?_
    refine nmE h3 fun q' => ?_
    refine map1E h4 fun e0 h5 => ?_
    exact ok_revL L.lk L.lb L.lt g hs hc hs2 hc2 h5 hb (e1 W L G _ _ g h5) hl, h⟩
end
/-- a method of an object of the text's own class -/
noncomputable def KMeth1 (d : Nat) (sc : Sc) (ρ : Loc) (x : Nat) (args : List (X Nat)) (Q : AV → AH → Prop) (r : AV) (H1 : AH) : Prop :=
  ∃ a c l f, r = .obj a ∧ H1[a]? = some (.inst c l) ∧ (lookN x l).isNone = true ∧ Tb.meth c x = some f ∧ WEvs d sc ρ H1 args (KCons2 (.obj a) (KFn d f Q))
theorem KMeth1.mk {x a c f : Nat} {args : List (X Nat)} {l : List (Nat × AV)} (ho : H[a]? = some (.inst c l)) (hl : (lookN x l).isNone = true) (hm : Tb.meth c x = some f) (h : WEvs d sc ρ H args (KCons2 (.obj a) (KFn d f Q))) : KMeth1 d sc ρ x args Q (.obj a) H := ⟨_, _, _, _, rfl, ho, hl, hm, h⟩
theorem len_of {W : Wd} {k n : Nat} {es : List Expr} {l : List (X Nat)} (hl : es.map (er k) = l.map (X.put W.nf k)) (h : l.length < n) : es.length < n := by
  have := congrArg List.length hl
  rw [List.length_map, List.length_map] at this
  rw [this]; exact h
theorem WEv.meth {o : X Nat} {x : Nat} {args : List (X Nat)} (ho : o.plainB = true ∧ args.length < 20) (h : WEv d sc ρ H o (KMeth1 d sc ρ x args Q)) : WEv d sc ρ H (.call (.att o x) args) Q := by
  obtain ⟨r, H1, e1, a, c, l, f, rfl, ha, hl, hm, vs, H2, e2, k, H3, ⟨⟨fd, hf⟩, e3⟩, h⟩ := h
  exact ⟨_, _, fun W L G k e g hx => by
    refine callE hx fun k g' es p h1 hl0 hq => ?_
    revert hq; refine attE h1 fun k' e' q h2 hq => ?_
    exact ok_meth L.lk L.lf g h2 ho.1 (len_of hl0 ho.2) hq hl0 (e1 W L G _ _ g h2) ha (Option.isNone_iff_eq_none.mp hl) hm hf (emp (f := 0) (sc := [(0, .globalImplicit)]) rfl hl0 e2.1) (e2.2 W L G _ _ p g hl0) (e3 W L G sc g), h⟩
/-- a built-in method -/
noncomputable def KRun (b : Bm) (a : Nat) (vs : List AV) (H : AH) (Q : AV → AH → Prop) : Prop := ∃ v H3, BmRun b a vs H v H3 ∧ Q v H3
theorem KRun.mk {b : Bm} {a : Nat} {vs : List AV} {H3 : AH} (hr : BmRun b a vs H v H3) (h : Q v H3) : KRun b a vs H Q := ⟨_, _, hr, h⟩
noncomputable def KBm2 (b : Bm) (a : Nat) (Q : AV → AH → Prop) (vs : List AV) (H : AH) : Prop := KRun b a vs H Q
theorem KBm2.mk {b : Bm} {a : Nat} {vs : List AV} (h : KRun b a vs H Q) : KBm2 b a Q vs H := h
noncomputable def KBm1 (d : Nat) (sc : Sc) (ρ : Loc) (b : Bm) (args : List (X Nat)) (Q : AV → AH → Prop) (r : AV) (H1 : AH) : Prop :=
  ∃ a ob, r = .obj a ∧ H1[a]? = some ob ∧ bmHas b ob = true ∧ WEvs d sc ρ H1 args (KBm2 b a Q)
theorem KBm1.mk {b : Bm} {a : Nat} {args : List (X Nat)} {ob : AO} (ho : H[a]? = some ob) (hb : bmHas b ob = true) (h : WEvs d sc ρ H args (KBm2 b a Q)) : KBm1 d sc ρ b args Q (.obj a) H := ⟨_, _, rfl, ho, hb, h⟩
theorem WEv.bm {o : X Nat} {x : Nat} {args : List (X Nat)} {b : Bm} (ho : o.plainB = true ∧ args.length < 20) (hb : bmOf x = some b) (h : WEv d sc ρ H o (KBm1 d sc ρ b args Q)) : WEv d sc ρ H (.call (.att o x) args) Q := by
  obtain ⟨r, H1, e1, a, ob, rfl, ha, hk, vs, H2, e2, v, H3, hr, h⟩ := h
  exact ⟨_, _, fun W L G k e g hx => by
    refine callE hx fun k g' es p h1 hl0 hq => ?_
    revert hq; refine attE h1 fun k' e' q h2 hq => ?_
    exact ok_bmeth L.lf h2 ho.1 (len_of hl0 ho.2) hq hl0 (e1 W L G _ _ g h2) ha hb hk (emp (f := 0) (sc := [(0, .globalImplicit)]) rfl hl0 e2.1) (e2.2 W L G _ _ p g hl0) hr, h⟩
noncomputable def KExt2 (a : Nat) (Q : AV → AH → Prop) (r : AV) (H : AH) : Prop := ∃ l q, r = .tup l ∧ H[a]? = some (.list q) ∧ l.length + q.length ≤ 10000 ∧ Q .none (H.set a (.list (q ++ l.reverse)))
theorem KExt2.mk {a : Nat} {l q : List AV} (ho : H[a]? = some (.list q)) (hl : l.length + q.length ≤ 10000) (h : Q .none (H.set a (.list (q ++ l.reverse)))) : KExt2 a Q (.tup l) H := ⟨_, _, rfl, ho, hl, h⟩
noncomputable def KExt1 (d : Nat) (sc : Sc) (ρ : Loc) (e : X Nat) (Q : AV → AH → Prop) (r : AV) (H1 : AH) : Prop := ∃ a q, r = .obj a ∧ H1[a]? = some (.list q) ∧ WEv d sc ρ H1 e (KExt2 a Q)
theorem KExt1.mk {a : Nat} {q : List AV} {e : X Nat} (ho : H[a]? = some (.list q)) (h : WEv d sc ρ H e (KExt2 a Q)) : KExt1 d sc ρ e Q (.obj a) H := ⟨_, _, rfl, ho, h⟩
theorem WEv.ext {o e : X Nat} {x g : Nat} (ho : o.plainB = true) (hb : bmOf x = some .extend) (hs : sc.lookup g = some .globalImplicit) (hc : Tb.call g = some .rev) (h : WEv d sc ρ H o (KExt1 d sc ρ e Q)) : WEv d sc ρ H (.call (.att o x) [.call (.nm g) [e]]) Q := by
  obtain ⟨r, H1, e1, a, q, rfl, ha, u, H2, e2, l, q2, rfl, ha2, hz, h⟩ := h
  exact ⟨_, _, fun W L G k e g hx => by
    refine callE hx fun k g' es p h1 hl0 hq => ?_
    revert hq; refine attE h1 fun k' e' q h2 hq => ?_
    refine map1E hl0 fun e0 h3 => ?_
    refine callE h3 fun k1 e' es' p' h4 h5 _ => ?_
    refine nmE h4 fun q' => ?_
    refine map1E h5 fun e00 h6 => ?_
    exact ok_extRev L.lk L.lf L.lt g hb hs hc h2 ho h6 hq (e1 W L G _ _ g h2) ⟨_, ha⟩ (e2 W L G _ _ g h6) ha2 hz, h⟩
/-! truth -/
theorem WTr.and {l : List (X Nat)} {Q : Bool → AH → Prop} (h : WTrs d sc ρ H true l Q) : WTr d sc ρ H (.bop .And l) Q := by
  obtain ⟨r, H1, e1, h⟩ := h
  exact ⟨_, _, fun W L G k e g hx => by refine bopE hx fun k es p hl => ?_; exact e1 W L G k es p _ g hl, h⟩
theorem WTr.or {l : List (X Nat)} {Q : Bool → AH → Prop} (h : WTrs d sc ρ H false l Q) : WTr d sc ρ H (.bop .Or l) Q := by
  obtain ⟨r, H1, e1, h⟩ := h
  exact ⟨_, _, fun W L G k e g hx => by refine bopE hx fun k es p hl => ?_; exact e1 W L G k es p _ g hl, h⟩
noncomputable def KNot (Q : Bool → AH → Prop) (b : Bool) (H : AH) : Prop := Q (!b) H
theorem KNot.mk {Q : Bool → AH → Prop} {b : Bool} (h : Q (!b) H) : KNot Q b H := h
theorem WTr.not {a : X Nat} {Q : Bool → AH → Prop} (h : WTr d sc ρ H a (KNot Q)) : WTr d sc ρ H (.not a) Q := by
  obtain ⟨r, H1, e1, h⟩ := h
  exact ⟨_, _, fun W L G k e g hx => by refine notE hx fun k e' p h1 => ?_; exact tr_not (e1 W L G k _ g h1), h⟩
theorem WTr.cmp {op : CmpOp} {a b : X Nat} {Q : Bool → AH → Prop} (h : WEv d sc ρ H a (KCmp1 d sc ρ op b Q)) : WTr d sc ρ H (.cmp op a b) Q := by
  obtain ⟨r, H1, e1, k, H2, e2, v, hv, h⟩ := h
  exact ⟨_, _, fun W L G k e g hx => by refine cmpE hx fun k a' b' p h1 h2 => ?_; exact tr_cmp L.lk L.ls g h2 (e1 W L G k _ g h1) (e2 W L G k _ g h2) hv, h⟩
noncomputable def KTruth (Q : Bool → AH → Prop) (r : AV) (H : AH) : Prop := ∃ b, truth H r = some b ∧ Q b H
theorem KTruth.bool {Q : Bool → AH → Prop} {b : Bool} (h : Q b H) : KTruth Q (.bool b) H := ⟨b, rfl, h⟩
theorem KTruth.list {Q : Bool → AH → Prop} {w : Nat} {l : List AV} (hw : H[w]? = some (.list l)) (hl : l.length ≤ 1000000) (h : Q (!l.isEmpty) H) : KTruth Q (.obj w) H := ⟨_, by unfold truth; dsimp only; rw [hw]; exact if_pos hl, h⟩
theorem WTr.ev {e : X Nat} {Q : Bool → AH → Prop} (he : plainT e = true) (h : WEv d sc ρ H e (KTruth Q)) : WTr d sc ρ H e Q := by
  obtain ⟨r, H1, e1, b, hb, h⟩ := h
  exact ⟨_, _, fun W L G k e' g hx => tr_plain hx he (e1 W L G k _ g hx) hb, h⟩
theorem WTrs.one {a : Bool} {e : X Nat} {Q : Bool → AH → Prop} (h : WTr d sc ρ H e Q) : WTrs d sc ρ H a [e] Q := by
  obtain ⟨r, H1, e1, h⟩ := h
  exact ⟨_, _, fun W L G k es p whole g hl => by refine map1E hl fun e h1 => ?_; exact tr_one (e1 W L G k _ g h1), h⟩
noncomputable def KTrs (d : Nat) (sc : Sc) (ρ : Loc) (a : Bool) (l : List (X Nat)) (Q : Bool → AH → Prop) (b : Bool) (H : AH) : Prop := if b = a then WTrs d sc ρ H a l Q else Q (!a) H
theorem KTrs.tt {l : List (X Nat)} {Q : Bool → AH → Prop} {b : Bool} (hb : b = true) (h : WTrs d sc ρ H true l Q) : KTrs d sc ρ true l Q b H := by unfold KTrs; rw [if_pos hb]; exact h
theorem KTrs.tf {l : List (X Nat)} {Q : Bool → AH → Prop} {b : Bool} (hb : b = false) (h : Q false H) : KTrs d sc ρ true l Q b H := by unfold KTrs; rw [if_neg (by rw [hb]; decide)]; exact h
theorem KTrs.ff {l : List (X Nat)} {Q : Bool → AH → Prop} {b : Bool} (hb : b = false) (h : WTrs d sc ρ H false l Q) : KTrs d sc ρ false l Q b H := by unfold KTrs; rw [if_pos hb]; exact h
theorem KTrs.ft {l : List (X Nat)} {Q : Bool → AH → Prop} {b : Bool} (hb : b = true) (h : Q true H) : KTrs d sc ρ false l Q b H := by unfold KTrs; rw [if_neg (by rw [hb]; decide)]; exact h
theorem WTrs.cons {a : Bool} {e e2 : X Nat} {l : List (X Nat)} {Q : Bool → AH → Prop} (h : WTr d sc ρ H e (KTrs d sc ρ a (e2 :: l) Q)) : WTrs d sc ρ H a (e :: e2 :: l) Q := by
  obtain ⟨r, H1, e1, h⟩ := h
  unfold KTrs at h
  by_cases hr : r = a
  · rw [if_pos hr] at h
    obtain ⟨b, H2, e3, h⟩ := h
    subst hr
    refine ⟨_, _, fun W L G k es p whole g hl => ?_, h⟩
    cases es with
    | nil => cases hl
    | cons e es => exact tr_go (e1 W L G k _ g (List.cons.inj hl).1) fun whole => e3 W L G k es p whole g (List.cons.inj hl).2
  · rw [if_neg hr] at h
    have hr : r = !a := by cases a <;> cases r <;> first | rfl | exact absurd rfl hr
    refine ⟨_, _, fun W L G k es p whole g hl => ?_, h⟩
    cases es with
    | nil => cases hl
    | cons e es => exact tr_end rfl (hr ▸ e1 W L G k _ g (List.cons.inj hl).1)
/-! statements -/
variable {Qs : Fl → Loc → AH → Prop}
noncomputable def KRet (Q : AV → AH → Prop) : Fl → Loc → AH → Prop
  | .ret v, _, H => Q v H
  | .next, _, H => Q .none H
  | .cont, _, _ => False
theorem KRet.ret (h : Q v H) : KRet Q (.ret v) ρ H := h
theorem KRet.next (h : Q .none H) : KRet Q .next ρ H := h
theorem WCal.mk {i : Nat} {f : Fn} {vs : List AV} (hf : Tb.fn i = some f) (hl : f.ps.length = vs.length) (h : WEx d f.sc (f.ps.zip vs) H f.body (KRet Q)) : WCal (d + 1) i vs H Q := by
  obtain ⟨fl, ρ', H', e, h⟩ := h
  cases fl with
  | ret v => exact ⟨v, H', ⟨⟨f, hf⟩, fun W L G sc g => ok_call L.lk g (L.lf.fn i f hf).1 hl (fl := .ret _) rfl fun G' body g' ⟨k, hb⟩ => e W L G' k body g' hb⟩, h⟩
  | next => exact ⟨.none, H', ⟨⟨f, hf⟩, fun W L G sc g => ok_call L.lk g (L.lf.fn i f hf).1 hl (fl := .next) rfl fun G' body g' ⟨k, hb⟩ => e W L G' k body g' hb⟩, h⟩
  | cont => exact h.elim
noncomputable def KSeq (d : Nat) (sc : Sc) (l : List (S Nat)) (Q : Fl → Loc → AH → Prop) : Fl → Loc → AH → Prop
  | .next, ρ, H => WEx d sc ρ H l Q
  | .ret v, ρ, H => Q (.ret v) ρ H
  | .cont, ρ, H => Q .cont ρ H
theorem KSeq.next {l : List (S Nat)} (h : WEx d sc ρ H l Qs) : KSeq d sc l Qs .next ρ H := h
theorem KSeq.ret {l : List (S Nat)} (h : Qs (.ret v) ρ H) : KSeq d sc l Qs (.ret v) ρ H := h
theorem KSeq.cont {l : List (S Nat)} (h : Qs .cont ρ H) : KSeq d sc l Qs .cont ρ H := h
theorem WEx.nil (h : Qs .next ρ H) : WEx d sc ρ H [] Qs := by
  refine ⟨_, _, _, fun W L G k b g hl => ?_, h⟩
  cases b with
  | nil => exact sts_nil
  | cons _ _ => cases hl
theorem WEx.cons {s : S Nat} {l : List (S Nat)} (h : WEx1 d sc ρ H s (KSeq d sc l Qs)) : WEx d sc ρ H (s :: l) Qs := by
  obtain ⟨fl, ρ1, H1, e, h⟩ := h
  have stop : fl ≠ .next → Exs d sc ρ H (s :: l) fl ρ1 H1 := fun hn W L G k b g hl => by
    cases b with
    | nil => cases hl
    | cons e' b => exact sts_stop hn (e W L G k e' g (List.cons.inj hl).1)
  cases fl with
  | ret v => exact ⟨_, _, _, stop (fun e => nomatch e), h⟩
  | cont => exact ⟨_, _, _, stop (fun e => nomatch e), h⟩
  | next =>
    obtain ⟨f2, ρ2, H2, e2, h⟩ := h
    refine ⟨_, _, _, fun W L G k b g hl => ?_, h⟩
    cases b with
    | nil => cases hl
    | cons e' b => exact sts_next (e W L G k e' g (List.cons.inj hl).1) (e2 W L G k b g (List.cons.inj hl).2)
noncomputable def KEx (ρ : Loc) (Qs : Fl → Loc → AH → Prop) (_r : AV) (H : AH) : Prop := Qs .next ρ H
theorem KEx.mk (h : Qs .next ρ H) : KEx ρ Qs r H := h
theorem WEx1.ex {e : X Nat} (h : WEv d sc ρ H e (KEx ρ Qs)) : WEx1 d sc ρ H (.ex e) Qs := by
  obtain ⟨r, H1, e1, h⟩ := h
  exact ⟨_, _, _, fun W L G k e' g hx => by refine S_exE hx fun k e' p h1 => ?_; exact st_ex g.hk h1 (e1 W L G k _ g h1), h⟩
theorem WEx1.col {x z : Nat} {i : Int} {o : Nat} {l k : List AV} (hx : sc.lookup x = some .local) (hz : sc.lookup z = some .local) (ho : lookN z ρ = some (.obj o)) (hl : H[o]? = some (.list l)) (hb : 0 ≤ i ∧ i < 10 ∧ l.length ≤ 10000) (hk : colRun i.toNat l = some k) (h : Qs .next (setL x (.obj H.length) ρ) (H ++ [.list k])) : WEx1 d sc ρ H (.col x i z) Qs :=
  ⟨_, _, _, fun W L G k' e g hx' => by refine S_colE hx' fun t' e' p hcol => ?_; exact st_col L.lk g hcol hx hz ho hl hb hk, h⟩
noncomputable def KAsg (x : Nat) (ρ : Loc) (Qs : Fl → Loc → AH → Prop) (r : AV) (H : AH) : Prop := Qs .next (setL x r ρ) H
theorem KAsg.mk {x : Nat} (h : Qs .next (setL x r ρ) H) : KAsg x ρ Qs r H := h
theorem WEx1.asg {x : Nat} {e : X Nat} (hx : sc.lookup x = some .local) (h : WEv d sc ρ H e (KAsg x ρ Qs)) : WEx1 d sc ρ H (.asg (.nm x) e) Qs := by
  obtain ⟨r, H1, e1, h⟩ := h
  exact ⟨_, _, _, fun W L G k e' g hx' => by
    refine S_asgE hx' fun k t' e' p h1 h2 => ?_
    refine nmE h1 fun q => ?_
    exact st_asg L.lk g h2 hx (e1 W L G _ _ g h2), h⟩
noncomputable def KSet (o : AV) (a : Nat) (v : AV) (ρ : Loc) (Qs : Fl → Loc → AH → Prop) (H : AH) : Prop := ∃ H3, setAt Tb H o a v = some H3 ∧ Qs .next ρ H3
theorem KSet.mk {o : AV} {a : Nat} {H3 : AH} (hs : setAt Tb H o a v = some H3) (h : Qs .next ρ H3) : KSet o a v ρ Qs H := ⟨_, hs, h⟩
noncomputable def KAsgA2 (a : Nat) (r : AV) (ρ : Loc) (Qs : Fl → Loc → AH → Prop) (k : AV) (H : AH) : Prop := KSet k a r ρ Qs H
theorem KAsgA2.mk {a : Nat} {k : AV} (h : KSet k a r ρ Qs H) : KAsgA2 a r ρ Qs k H := h
noncomputable def KAsgA1 (d : Nat) (sc : Sc) (ρ : Loc) (o : X Nat) (a : Nat) (Qs : Fl → Loc → AH → Prop) (r : AV) (H : AH) : Prop := WEv d sc ρ H o (KAsgA2 a r ρ Qs)
theorem KAsgA1.mk {o : X Nat} {a : Nat} (h : WEv d sc ρ H o (KAsgA2 a r ρ Qs)) : KAsgA1 d sc ρ o a Qs r H := h
theorem WEx1.asgA {o e : X Nat} {a : Nat} (h : WEv d sc ρ H e (KAsgA1 d sc ρ o a Qs)) : WEx1 d sc ρ H (.asg (.att o a) e) Qs := by
  obtain ⟨r, H1, e1, k, H2, e2, H3, e3, h⟩ := h
  exact ⟨_, _, _, fun W L G k e' g hx' => by
    refine S_asgE hx' fun k t' e' p h1 h2 => ?_
    refine attE h1 fun k' e0 q h3 => ?_
    exact st_att L.lk L.lc g h2 (e1 W L G _ _ g h2) (e2 W L G _ _ g h3) e3, h⟩
noncomputable def KSto (o i v : AV) (ρ : Loc) (Qs : Fl → Loc → AH → Prop) (H : AH) : Prop := ∃ H3, storeItem H o i v = some H3 ∧ Qs .next ρ H3
theorem KSto.mk {o i : AV} {H3 : AH} (hs : storeItem H o i v = some H3) (h : Qs .next ρ H3) : KSto o i v ρ Qs H := ⟨_, hs, h⟩
noncomputable def KAsgS3 (o r : AV) (ρ : Loc) (Qs : Fl → Loc → AH → Prop) (j : AV) (H : AH) : Prop := KSto o j r ρ Qs H
theorem KAsgS3.mk {o j : AV} (h : KSto o j r ρ Qs H) : KAsgS3 o r ρ Qs j H := h
noncomputable def KAsgS2 (d : Nat) (sc : Sc) (i : X Nat) (r : AV) (ρ : Loc) (Qs : Fl → Loc → AH → Prop) (k : AV) (H : AH) : Prop := WEv d sc ρ H i (KAsgS3 k r ρ Qs)
theorem KAsgS2.mk {i : X Nat} {k : AV} (h : WEv d sc ρ H i (KAsgS3 k r ρ Qs)) : KAsgS2 d sc i r ρ Qs k H := h
noncomputable def KAsgS1 (d : Nat) (sc : Sc) (o i : X Nat) (ρ : Loc) (Qs : Fl → Loc → AH → Prop) (r : AV) (H : AH) : Prop := WEv d sc ρ H o (KAsgS2 d sc i r ρ Qs)
theorem KAsgS1.mk {o i : X Nat} (h : WEv d sc ρ H o (KAsgS2 d sc i r ρ Qs)) : KAsgS1 d sc o i ρ Qs r H := h
theorem WEx1.asgS {o i e : X Nat} (h : WEv d sc ρ H e (KAsgS1 d sc o i ρ Qs)) : WEx1 d sc ρ H (.asg (.sub o i) e) Qs := by
  obtain ⟨r, H1, e1, k, H2, e2, j, H3, e3, H4, e4, h⟩ := h
  exact ⟨_, _, _, fun W L G k e' g hx' => by
    refine S_asgE hx' fun k t' e' p h1 h2 => ?_
    refine subE h1 fun k' e0 i0 q h3 h4 => ?_
    exact st_sub h2 (e1 W L G _ _ g h2) (e2 W L G _ _ g h3) (e3 W L G _ _ g h4) e4, h⟩
noncomputable def KAsg2 (x y : Nat) (ρ : Loc) (Qs : Fl → Loc → AH → Prop) (r : AV) (H : AH) : Prop := ∃ u v, r = .tup [u, v] ∧ Qs .next (setL y v (setL x u ρ)) H
theorem KAsg2.mk {x y : Nat} {u : AV} (h : Qs .next (setL y v (setL x u ρ)) H) : KAsg2 x y ρ Qs (.tup [u, v]) H := ⟨_, _, rfl, h⟩
theorem noTup {k j : Nat} {f : Nat → Str} {e : Expr} {x : X Nat} {ts : List Expr} {q : Pos} {env : Env} (h : er k e = X.put f k x) (hn : notT x = true) : swappedStores [.Tuple ts j q] e env = pure none := by
  cases e with
  | Tuple l j p => cases k with
    | zero => exact absurd h.symm (put_bad x 0)
    | succ k => exact ff_tt ((congrArg tupN (tag_er h)).trans hn)
  | _ => rfl
theorem WEx1.asg2 {x y : Nat} {e : X Nat} (hx : sc.lookup x = some .local) (hy : sc.lookup y = some .local) (hw : notT e = true) (h : WEv d sc ρ H e (KAsg2 x y ρ Qs)) : WEx1 d sc ρ H (.asg (.tup [.nm x, .nm y]) e) Qs := by
  obtain ⟨r, H1, e1, u, v, rfl, h⟩ := h
  refine ⟨_, _, _, fun W L G k e' g hx' => ?_, h⟩
  refine S_asgE hx' fun k t' e' p h1 h2 => ?_
  refine tupE h1 fun k' es j q hl => ?_
  refine map2E hl fun a1 a2 h3 h4 => ?_
  refine nmE h3 fun q1 => ?_
  refine nmE h4 fun q2 => ?_
  exact st_tup L.lk g h2 hx hy (noTup h2 hw) (e1 W L G _ _ g h2)
theorem WEx1.swap {x y a b : Nat} (hx : sc.lookup x = some .local) (hy : sc.lookup y = some .local) (hw : x ≠ y) (h : WEv d sc ρ H (.tup [.nm a, .nm b]) (KAsg2 x y ρ Qs)) : WEx1 d sc ρ H (.asg (.tup [.nm x, .nm y]) (.tup [.nm a, .nm b])) Qs := by
  obtain ⟨r, H1, e1, u, v, rfl, h⟩ := h
  refine ⟨_, _, _, fun W L G k e' g hx' => ?_, h⟩
  refine S_asgE hx' fun k t' e' p h1 h2 => ?_
  have ih := e1 W L G _ _ g h2
  refine tupE h1 fun k' es j q hl => ?_
  refine map2E hl fun a1 a2 h3 h4 => ?_
  refine nmE h3 fun q1 => ?_
  refine nmE h4 fun q2 => ?_
  revert ih
  refine tupE h2 fun k4 es2 j2 q5 hl2 => ?_
  refine map2E hl2 fun b1 b2 h5 h6 => ?_
  refine nmE h5 fun q6 => ?_
  refine nmE h6 fun q7 ih => ?_
  exact st_swap L.lk g hw hx hy ih
noncomputable def KAug (x : Nat) (op : Operator) (u : AV) (ρ : Loc) (Qs : Fl → Loc → AH → Prop) (r : AV) (H : AH) : Prop := ∃ v, augOp op u r = some v ∧ Qs .next (setL x v ρ) H
theorem KAug.mk {x : Nat} {op : Operator} {u : AV} (hv : augOp op u r = some v) (h : Qs .next (setL x v ρ) H) : KAug x op u ρ Qs r H := ⟨_, hv, h⟩
theorem WEx1.aug {x : Nat} {op : Operator} {e : X Nat} {u : AV} (hx : sc.lookup x = some .local) (hu : lookN x ρ = some u) (h : WEv d sc ρ H e (KAug x op u ρ Qs)) : WEx1 d sc ρ H (.aug (.nm x) op e) Qs := by
  obtain ⟨r, H1, e1, v, e2, h⟩ := h
  exact ⟨_, _, _, fun W L G k e' g hx' => by
    refine S_augE hx' fun k t' e' p h1 h2 => ?_
    refine nmE h1 fun q => ?_
    exact st_aug L.lk L.ls g hx hu (e1 W L G _ _ g h2) e2, h⟩
noncomputable def KAugA2 (op : Operator) (o : AV) (a : Nat) (u : AV) (ρ : Loc) (Qs : Fl → Loc → AH → Prop) (k : AV) (H : AH) : Prop := ∃ v, augOp op u k = some v ∧ KSet o a v ρ Qs H
theorem KAugA2.mk {op : Operator} {o u k : AV} {a : Nat} (hv : augOp op u k = some v) (h : KSet o a v ρ Qs H) : KAugA2 op o a u ρ Qs k H := ⟨_, hv, h⟩
noncomputable def KAugA1 (d : Nat) (sc : Sc) (ρ : Loc) (a : Nat) (op : Operator) (e : X Nat) (Qs : Fl → Loc → AH → Prop) (r : AV) (H : AH) : Prop := ∃ u, getAt Tb H r a = some u ∧ WEv d sc ρ H e (KAugA2 op r a u ρ Qs)
theorem KAugA1.mk {op : Operator} {e : X Nat} {u : AV} {a : Nat} (hu : getAt Tb H r a = some u) (h : WEv d sc ρ H e (KAugA2 op r a u ρ Qs)) : KAugA1 d sc ρ a op e Qs r H := ⟨_, hu, h⟩
theorem WEx1.augA {o e : X Nat} {a : Nat} {op : Operator} (h : WEv d sc ρ H o (KAugA1 d sc ρ a op e Qs)) : WEx1 d sc ρ H (.aug (.att o a) op e) Qs := by
  obtain ⟨r, H1, e1, u, hu, k, H2, e2, v, e3, H3, e4, h⟩ := h
  exact ⟨_, _, _, fun W L G k e' g hx' => by
    refine S_augE hx' fun k t' e' p h1 h2 => ?_
    refine attE h1 fun k' e0 q h3 => ?_
    exact st_augAtt L.lk L.lc L.ls g (e1 W L G _ _ g h3) hu (e2 W L G _ _ g h2) e3 e4, h⟩
noncomputable def KAugS3 (op : Operator) (o i u : AV) (ρ : Loc) (Qs : Fl → Loc → AH → Prop) (k : AV) (H : AH) : Prop := ∃ v, augOp op u k = some v ∧ KSto o i v ρ Qs H
theorem KAugS3.mk {op : Operator} {o i u k : AV} (hv : augOp op u k = some v) (h : KSto o i v ρ Qs H) : KAugS3 op o i u ρ Qs k H := ⟨_, hv, h⟩
noncomputable def KAugS2 (d : Nat) (sc : Sc) (ρ : Loc) (op : Operator) (e : X Nat) (r : AV) (Qs : Fl → Loc → AH → Prop) (j : AV) (H : AH) : Prop := ∃ o n l u, r = .obj o ∧ j = .int n ∧ H[o]? = some (.list l) ∧ itemAt l n = some u ∧ WEv d sc ρ H e (KAugS3 op (.obj o) (.int n) u ρ Qs)
theorem KAugS2.mk {op : Operator} {e : X Nat} {o : Nat} {n : Int} {l : List AV} {u : AV} (hl : H[o]? = some (.list l)) (hu : itemAt l n = some u) (h : WEv d sc ρ H e (KAugS3 op (.obj o) (.int n) u ρ Qs)) : KAugS2 d sc ρ op e (.obj o) Qs (.int n) H := ⟨_, _, _, _, rfl, rfl, hl, hu, h⟩
noncomputable def KAugS1 (d : Nat) (sc : Sc) (ρ : Loc) (i : X Nat) (op : Operator) (e : X Nat) (Qs : Fl → Loc → AH → Prop) (r : AV) (H : AH) : Prop := WEv d sc ρ H i (KAugS2 d sc ρ op e r Qs)
theorem KAugS1.mk {i e : X Nat} {op : Operator} (h : WEv d sc ρ H i (KAugS2 d sc ρ op e r Qs)) : KAugS1 d sc ρ i op e Qs r H := h
theorem WEx1.augS {o i e : X Nat} {op : Operator} (hi : notSl i = true) (h : WEv d sc ρ H o (KAugS1 d sc ρ i op e Qs)) : WEx1 d sc ρ H (.aug (.sub o i) op e) Qs := by
  obtain ⟨r, H1, e1, j, H2, e2, a, n, l, u, rfl, rfl, hl, hu, k, H3, e3, v, e4, H4, e5, h⟩ := h
  exact ⟨_, _, _, fun W L G k e' g hx' => by
    refine S_augE hx' fun k t' e' p h1 h2 => ?_
    refine subE h1 fun k' e0 i0 q h3 h4 => ?_
    exact st_augSub L.ls h4 hi (e1 W L G _ _ g h3) (e2 W L G _ _ g h4) ⟨_, _, l, rfl, rfl, hl, hu⟩ (e3 W L G _ _ g h2) e4 e5, h⟩
noncomputable def KIte (d : Nat) (sc : Sc) (ρ : Loc) (a b : List (S Nat)) (Qs : Fl → Loc → AH → Prop) (r : Bool) (H : AH) : Prop := if r = true then WEx d sc ρ H a Qs else WEx d sc ρ H b Qs
theorem KIte.t {a b : List (S Nat)} {r : Bool} (hr : r = true) (h : WEx d sc ρ H a Qs) : KIte d sc ρ a b Qs r H := by unfold KIte; rw [if_pos hr]; exact h
theorem KIte.f {a b : List (S Nat)} {r : Bool} (hr : r = false) (h : WEx d sc ρ H b Qs) : KIte d sc ρ a b Qs r H := by unfold KIte; rw [if_neg (by rw [hr]; decide)]; exact h
theorem WEx1.ite {c : X Nat} {a b : List (S Nat)} (h : WTr d sc ρ H c (KIte d sc ρ a b Qs)) : WEx1 d sc ρ H (.ite c a b) Qs := by
  obtain ⟨r, H1, e1, h⟩ := h
  cases r with
  | true =>
    obtain ⟨f, ρ', H', e2, h⟩ := h
    exact ⟨_, _, _, fun W L G k e' g hx => by refine S_iteE hx fun k c' a' b' p h1 h2 h3 => ?_; exact st_ite (e1 W L G k _ g h1) (e2 W L G k _ g h2), h⟩
  | false =>
    obtain ⟨f, ρ', H', e2, h⟩ := h
    exact ⟨_, _, _, fun W L G k e' g hx => by refine S_iteE hx fun k c' a' b' p h1 h2 h3 => ?_; exact st_ite (e1 W L G k _ g h1) (e2 W L G k _ g h3), h⟩
theorem WEx1.whl {c : X Nat} {b : List (S Nat)} (h : WWh d sc ρ H c b Qs) : WEx1 d sc ρ H (.whl c b) Qs := by
  obtain ⟨f, ρ', H', e, h⟩ := h
  exact ⟨_, _, _, fun W L G k e' g hx => by refine S_whlE hx fun k c' b' p h1 h2 => ?_; exact st_whl (e W L G k _ _ g h1 h2), h⟩
noncomputable def KWh (d : Nat) (sc : Sc) (c : X Nat) (b : List (S Nat)) (Q : Fl → Loc → AH → Prop) : Fl → Loc → AH → Prop
  | .ret v, ρ, H => Q (.ret v) ρ H
  | _, ρ, H => WWh d sc ρ H c b Q
theorem KWh.next {c : X Nat} {b : List (S Nat)} (h : WWh d sc ρ H c b Qs) : KWh d sc c b Qs .next ρ H := h
theorem KWh.cont {c : X Nat} {b : List (S Nat)} (h : WWh d sc ρ H c b Qs) : KWh d sc c b Qs .cont ρ H := h
noncomputable def KTurn (d : Nat) (sc : Sc) (ρ : Loc) (b : List (S Nat)) (K Q : Fl → Loc → AH → Prop) (r : Bool) (H : AH) : Prop := if r = true then WEx d sc ρ H b K else Q .next ρ H
theorem KTurn.t {b : List (S Nat)} {K : Fl → Loc → AH → Prop} {r : Bool} (hr : r = true) (h : WEx d sc ρ H b K) : KTurn d sc ρ b K Qs r H := by unfold KTurn; rw [if_pos hr]; exact h
theorem KTurn.f {b : List (S Nat)} {K : Fl → Loc → AH → Prop} {r : Bool} (hr : r = false) (h : Qs .next ρ H) : KTurn d sc ρ b K Qs r H := by unfold KTurn; rw [if_neg (by rw [hr]; decide)]; exact h
theorem WWh.mk {c : X Nat} {b : List (S Nat)} (h : WTr d sc ρ H c (KTurn d sc ρ b (KWh d sc c b Qs) Qs)) : WWh d sc ρ H c b Qs := by
  obtain ⟨r, H1, e1, h⟩ := h
  cases r with
  | false => exact ⟨_, _, _, fun W L G k e l g hx hl m s N φ ψ Q a h => whl_stop (e1 W L G k _ g hx) m s N φ ψ Q a h, h⟩
  | true =>
    obtain ⟨f, ρ1, H2, e2, h⟩ := h
    cases f with
    | ret v => exact ⟨_, _, _, fun W L G k e l g hx hl => whl_go (e1 W L G k _ g hx) (e2 W L G k _ g hl) ⟨rfl, rfl, rfl⟩, h⟩
    | next =>
      obtain ⟨f2, ρ2, H3, e3, h⟩ := h
      exact ⟨_, _, _, fun W L G k e l g hx hl => whl_go (e1 W L G k _ g hx) (e2 W L G k _ g hl) (e3 W L G k e l g hx hl), h⟩
    | cont =>
      obtain ⟨f2, ρ2, H3, e3, h⟩ := h
      exact ⟨_, _, _, fun W L G k e l g hx hl => whl_go (e1 W L G k _ g hx) (e2 W L G k _ g hl) (e3 W L G k e l g hx hl), h⟩
noncomputable abbrev KUnl (q : Src) (Qs : Fl → Loc → AH → Prop) (f : Fl) (ρ : Loc) (H : AH) : Prop := ∃ H4, unlock q H = some H4 ∧ Qs f ρ H4
noncomputable abbrev KSrc (d : Nat) (sc : Sc) (ρ : Loc) (x : Nat) (b : List (S Nat)) (Qs : Fl → Loc → AH → Prop) (q : Src) (H1 : AH) : Prop := ∃ H2, lock q H1 = some H2 ∧ WFo d sc ρ H2 x b q 0 (KUnl q Qs)
theorem WEx1.for {x : Nat} {e : X Nat} {b : List (S Nat)} (hx : sc.lookup x = some .local) (h : WSrc d sc ρ H e (KSrc d sc ρ x b Qs)) : WEx1 d sc ρ H (.for x e b) Qs := by
  obtain ⟨q, H1, e1, H2, e2, n, f, ρ', H3, e3, H4, e4, h⟩ := h
  exact ⟨_, _, _, fun W L G k e' g hx' => by
    refine S_forE hx' fun q' k c' b' p h1 h2 => ?_
    exact st_for L.lk g hx (e1 W L G k _ g h1) (noFold h1) e2 h2 (e3 W L) e4, h⟩
noncomputable def KRetS (ρ : Loc) (Qs : Fl → Loc → AH → Prop) (r : AV) (H : AH) : Prop := Qs (.ret r) ρ H
theorem KRetS.mk (h : Qs (.ret r) ρ H) : KRetS ρ Qs r H := h
theorem WEx1.ret {e : X Nat} (h : WEv d sc ρ H e (KRetS ρ Qs)) : WEx1 d sc ρ H (.ret e) Qs := by
  obtain ⟨r, H1, e1, h⟩ := h
  exact ⟨_, _, _, fun W L G k e' g hx => by refine S_retE hx fun k e' p h1 => ?_; exact st_ret (e1 W L G k _ g h1), h⟩
theorem WEx1.ret0 (h : Qs (.ret .none) ρ H) : WEx1 d sc ρ H .ret0 Qs := ⟨_, _, _, fun W L G k e' g hx => by refine S_ret0E hx fun p => ?_; exact st_ret0, h⟩
theorem WEx1.cont (h : Qs .cont ρ H) : WEx1 d sc ρ H .cont Qs := ⟨_, _, _, fun W L G k e' g hx => by refine S_contE hx fun p => ?_; exact st_cont, h⟩
noncomputable abbrev KRange (Q : Src → AH → Prop) (r : AV) (H : AH) : Prop := ∃ i, r = .int i ∧ (0 ≤ i ∧ i ≤ 1000000) ∧ Q (.rng i.toNat) H
theorem KRange.mk {Q : Src → AH → Prop} {i : Int} (hi : 0 ≤ i ∧ i ≤ 1000000) (h : Q (.rng i.toNat) H) : KRange Q (.int i) H := ⟨_, rfl, hi, h⟩
theorem WSrc.range {g : Nat} {e : X Nat} {Q : Src → AH → Prop} (hs : sc.lookup g = some .globalImplicit) (hc : Tb.call g = some .range) (h : WEv d sc ρ H e (KRange Q)) : WSrc d sc ρ H (.call (.nm g) [e]) Q := by
  obtain ⟨r, H1, e1, i, rfl, hi, h⟩ := h
  exact ⟨_, _, fun W L G k e' g' hx => by
    refine callE hx fun k g0 es p h1 hl _ => ?_
    refine nmE h1 fun q => ?_
    refine map1E hl fun e' h2 => ?_
    exact src_rng L.lk g' hs (L.lt.range g hc) h2 hi (ok_cons h2 (e1 W L G _ _ g' h2) ok_nil), h⟩
noncomputable abbrev KAny (Q : Src → AH → Prop) (r : AV) (H : AH) : Prop := ∃ q, srcAt H r = some q ∧ Q q H
theorem WSrc.any {e : X Nat} {Q : Src → AH → Prop} (_hr : rangeOf Tb sc e = none) (h : WEv d sc ρ H e (KAny Q)) : WSrc d sc ρ H e Q := by
  obtain ⟨r, H1, e1, q, hq, h⟩ := h
  exact ⟨_, _, fun W L G k e' g hx => src_ev (e1 W L G k e' g hx) hq, h⟩
noncomputable def KFo (d : Nat) (sc : Sc) (x : Nat) (b : List (S Nat)) (q : Src) (i : Nat) (Q : Fl → Loc → AH → Prop) : Fl → Loc → AH → Prop
  | .ret v, ρ, H => Q (.ret v) ρ H
  | _, ρ, H => WFo d sc ρ H x b q i Q
theorem WFo.stop {x : Nat} {b : List (S Nat)} {q : Src} {i : Nat} (hn : nextOf H q i = some none) (h : Qs .next ρ H) : WFo d sc ρ H x b q i Qs :=
  ⟨1, _, _, _, fun W L => .stop hn, h⟩
theorem WFo.turn {x : Nat} {b : List (S Nat)} {q : Src} {i : Nat} (hn : nextOf H q i = some (some v)) (h : WEx d sc (setL x v ρ) H b (KFo d sc x b q (i + 1) Qs)) : WFo d sc ρ H x b q i Qs := by
  obtain ⟨f, ρ1, H2, e2, h⟩ := h
  cases f with
  | ret v => exact ⟨1, _, _, _, fun W L => .ret hn (e2 W L), h⟩
  | next =>
    obtain ⟨n, f2, ρ2, H3, e3, h⟩ := h
    exact ⟨n + 1, _, _, _, fun W L => .turn hn (e2 W L) (fun _ => Fl.noConfusion) (e3 W L), h⟩
  | cont =>
    obtain ⟨n, f2, ρ2, H3, e3, h⟩ := h
    exact ⟨n + 1, _, _, _, fun W L => .turn hn (e2 W L) (fun _ => Fl.noConfusion) (e3 W L), h⟩
end

/-! expressions that ask no heap, by computation -/
noncomputable def pcmp (op : CmpOp) : AV → AV → Option Bool
  | .int i, .int j => cmpInt op i j
  | .str i, .str j => match op with | .Eq => some (decide (i = j)) | .NotEq => some (!decide (i = j)) | _ => none
  | _, _ => none
noncomputable def pitem : AV → AV → Option AV
  | .tup l, .int i => match i with
    | .ofNat n => match n with
      | 0 => l[0]?
      | n + 1 => match n with
        | 0 => l[1]?
        | n + 1 => match n with
          | 0 => l[2]?
          | _ + 1 => none
    | .negSucc _ => none
  | _, _ => none
noncomputable def plen : AV → Option AV
  | .tup l => if l.length ≤ 1000000 then some (.int l.length) else none
  | _ => none
noncomputable def pevs (f : X Nat → Option AV) (l : List (X Nat)) : Option (List AV) := l.foldr (fun e r => (f e).bind fun v => r.bind fun l => some (v :: l)) (some [])
noncomputable def pev : Nat → Sc → Loc → X Nat → Option AV
  | 0, _, _, _ => none
  | n + 1, sc, ρ, x => match x with
    | .nm x => match sc.lookup x with
      | some .local => lookN x ρ
      | some .cell => lookN x ρ
      | some .globalImplicit => (Tb.glob x).bind fun i => some (.int i)
      | _ => none
    | .int i => some (.int i)
    | .str s => some (.str s)
    | .bool b => some (.bool b)
    | .tup l => (pevs (pev n sc ρ) l).bind fun r => if r.length ≤ 1000 then some (.tup r) else none
    | .sub a i => (pev n sc ρ a).bind fun u => (pev n sc ρ i).bind fun k => pitem u k
    | .cmp op a b => (pev n sc ρ a).bind fun u => (pev n sc ρ b).bind fun k => (pcmp op u k).bind fun c => some (.bool c)
    | .bin op a b => (pev n sc ρ a).bind fun u => (pev n sc ρ b).bind fun k => binOp Tb op u k
    | .call f l => match f with
      | .nm f => match l with
        | e :: m => match m with
          | [] => match sc.lookup f with
            | some .globalImplicit => match Tb.call f with
              | some .len => (pev n sc ρ e).bind plen
              | _ => none
            | _ => none
          | _ :: _ => none
        | [] => none
      | _ => none
    | _ => none
section
variable {d n : Nat} {sc : Sc} {ρ : Loc} {H : AH}
theorem pcmp_ok {op : CmpOp} {a b : AV} {c : Bool} (h : pcmp op a b = some c) : CmpIs H op a b c := by
  cases a <;> first | (cases h; done) | skip
  · cases b <;> first | (cases h; done) | exact .int h
  · cases b <;> first | (cases h; done) | (cases op <;> first | (cases h; done) | (cases h; constructor))
theorem pitem_ok {a b v : AV} (h : pitem a b = some v) : item H a b = some v := by
  cases a <;> first | cases h | skip
  cases b <;> first | cases h | skip
  rename_i l i
  cases i with
  | negSucc n => cases h
  | ofNat n => cases n with
    | zero => exact h
    | succ n => cases n with
      | zero => exact h
      | succ n => cases n with
        | zero => exact h
        | succ n => cases h
theorem plen_ok {a v : AV} (h : plen a = some v) : ∃ l, a = .tup l ∧ l.length ≤ 1000000 ∧ v = .int l.length := by
  cases a <;> first | cases h | skip
  rename_i l
  have h : (if l.length ≤ 1000000 then some (AV.int l.length) else none) = some v := h
  by_cases hl : l.length ≤ 1000000
  · rw [if_pos hl] at h; exact ⟨l, rfl, hl, (Option.some.inj h).symm⟩
  · rw [if_neg hl] at h; cases h
/-- the run's end is this one -/
noncomputable def KIs (v : AV) (H : AH) (r : AV) (H' : AH) : Prop := r = v ∧ H' = H
theorem ev_of {x : X Nat} {v : AV} (h : WEv d sc ρ H x (KIs v H)) : Ev d sc ρ H x v H := by obtain ⟨r, H', e, rfl, rfl⟩ := h; exact e
theorem WEv.of {x : X Nat} {v : AV} {Q : AV → AH → Prop} (h : Ev d sc ρ H x v H) (hq : Q v H) : WEv d sc ρ H x Q := ⟨_, _, h, hq⟩
theorem pevs_ok {f : X Nat → Option AV} (hf : ∀ x v, f x = some v → Ev d sc ρ H x v H) : ∀ {l : List (X Nat)} {vs : List AV} {Q : List AV → AH → Prop}, pevs f l = some vs → Q vs H → WEvs d sc ρ H l Q
  | [], _, _, h, hq => by cases h; exact WEvs.nil hq
  | e :: l, vs, Q, h, hq => by
    have h : ((f e).bind fun v => (pevs f l).bind fun l => some (v :: l)) = some vs := h
    obtain ⟨v, h1, h⟩ := Option.bind_eq_some_iff.mp h
    obtain ⟨r, h2, h⟩ := Option.bind_eq_some_iff.mp h
    cases h
    exact WEvs.cons (WEv.of (hf _ _ h1) (KCons1.mk (pevs_ok hf h2 (KCons2.mk hq))))
theorem pev_ok (n : Nat) : ∀ x v, pev n sc ρ x = some v → Ev d sc ρ H x v H := by
  induction n with
  | zero => intro _ _ h; cases h
  | succ n ih =>
    intro x v h
    refine ev_of ?_
    cases x with
    | nm x =>
      have h : (match sc.lookup x with
        | some .local => lookN x ρ
        | some .cell => lookN x ρ
        | some .globalImplicit => (Tb.glob x).bind fun i => some (.int i)
        | _ => none) = some v := h
      cases hs : sc.lookup x with
      | none => rw [hs] at h; cases h
      | some kd =>
        rw [hs] at h
        cases kd with
        | «local» => exact WEv.nm hs h ⟨rfl, rfl⟩
        | cell => exact WEv.cel hs h ⟨rfl, rfl⟩
        | globalImplicit =>
          obtain ⟨i, h1, h2⟩ := Option.bind_eq_some_iff.mp h
          cases h2
          exact WEv.glo hs h1 ⟨rfl, rfl⟩
        | _ => cases h
    | int i => cases h; exact WEv.int ⟨rfl, rfl⟩
    | str i => cases h; exact WEv.str ⟨rfl, rfl⟩
    | bool i => cases h; exact WEv.bool ⟨rfl, rfl⟩
    | tup l =>
      obtain ⟨r, h1, h⟩ := Option.bind_eq_some_iff.mp (show ((pevs (pev n sc ρ) l).bind fun r => if r.length ≤ 1000 then some (AV.tup r) else none) = some v from h)
      by_cases hl : r.length ≤ 1000
      · rw [if_pos hl] at h
        cases h
        exact WEv.tup (pevs_ok ih h1 (KTup.mk ⟨rfl, rfl⟩ hl))
      · rw [if_neg hl] at h; cases h
    | sub a i =>
      obtain ⟨u, h1, h⟩ := Option.bind_eq_some_iff.mp (show ((pev n sc ρ a).bind fun u => (pev n sc ρ i).bind fun k => pitem u k) = some v from h)
      obtain ⟨k, h2, h⟩ := Option.bind_eq_some_iff.mp h
      have hn : notSl i = true := by cases i <;> first | rfl | (cases n <;> cases h2)
      exact WEv.sub hn (WEv.of (ih _ _ h1) (KSub1.mk (WEv.of (ih _ _ h2) ⟨_, pitem_ok h, rfl, rfl⟩)))
    | cmp op a b =>
      obtain ⟨u, h1, h⟩ := Option.bind_eq_some_iff.mp (show ((pev n sc ρ a).bind fun u => (pev n sc ρ b).bind fun k => (pcmp op u k).bind fun c => some (AV.bool c)) = some v from h)
      obtain ⟨k, h2, h⟩ := Option.bind_eq_some_iff.mp h
      obtain ⟨c, h3, h⟩ := Option.bind_eq_some_iff.mp h
      cases h
      exact WEv.cmp (WEv.of (ih _ _ h1) (KCmp1.mk (WEv.of (ih _ _ h2) (KCmp2.mk (pcmp_ok h3) (KBool.mk ⟨rfl, rfl⟩)))))
    | bin op a b =>
      obtain ⟨u, h1, h⟩ := Option.bind_eq_some_iff.mp (show ((pev n sc ρ a).bind fun u => (pev n sc ρ b).bind fun k => binOp Tb op u k) = some v from h)
      obtain ⟨k, h2, h⟩ := Option.bind_eq_some_iff.mp h
      exact WEv.bin (WEv.of (ih _ _ h1) (KBin1.mk (WEv.of (ih _ _ h2) (KBin2.mk h ⟨rfl, rfl⟩))))
    | call f l =>
      cases f with
      | nm f => cases l with
        | nil => cases h
        | cons e m => cases m with
          | cons _ _ => cases h
          | nil =>
            have h : (match sc.lookup f with
              | some .globalImplicit => (match Tb.call f with
                | some .len => (pev n sc ρ e).bind plen
                | _ => none)
              | _ => none) = some v := h
            cases hs : sc.lookup f with
            | none => rw [hs] at h; cases h
            | some kd =>
              rw [hs] at h
              cases kd with
              | globalImplicit =>
                dsimp only at h
                cases hc : Tb.call f with
                | none => rw [hc] at h; cases h
                | some c =>
                  rw [hc] at h
                  cases c with
                  | len =>
                    obtain ⟨u, h1, h⟩ := Option.bind_eq_some_iff.mp h
                    obtain ⟨l, rfl, hl, rfl⟩ := plen_ok h
                    exact WEv.len hs hc (WEv.of (ih _ _ h1) ⟨l, rfl, hl, rfl, rfl⟩)
                  | _ => cases h
              | _ => cases h
      | _ => cases h
    | _ => cases h
variable {x : X Nat} {v : AV}
theorem WEv.pure {Q : AV → AH → Prop} (h : pev 20 sc ρ x = some v) (hq : Q v H) : WEv d sc ρ H x Q := ⟨_, _, pev_ok _ _ _ h, hq⟩
theorem WEvs.pure {l : List (X Nat)} {vs : List AV} {Q : List AV → AH → Prop} (h : pevs (pev 20 sc ρ) l = some vs) (hq : Q vs H) : WEvs d sc ρ H l Q := pevs_ok (fun x v => pev_ok 20 x v) h hq
theorem WTr.pure {op : CmpOp} {a b : X Nat} {c : Bool} {Q : Bool → AH → Prop} (h : pev 20 sc ρ (.cmp op a b) = some (.bool c)) (hq : Q c H) : WTr d sc ρ H (.cmp op a b) Q := by
  obtain ⟨u, h1, h⟩ := Option.bind_eq_some_iff.mp (show ((pev 19 sc ρ a).bind fun u => (pev 19 sc ρ b).bind fun k => (pcmp op u k).bind fun c => some (AV.bool c)) = some (.bool c) from h)
  obtain ⟨k, h2, h⟩ := Option.bind_eq_some_iff.mp h
  obtain ⟨c, h3, h⟩ := Option.bind_eq_some_iff.mp h
  cases h
  exact WTr.cmp (WEv.of (pev_ok _ _ _ h1) (KCmp1.mk (WEv.of (pev_ok _ _ _ h2) (KCmp2.mk (pcmp_ok h3) hq))))
end

/-! plain data: terms, plan, state of the maker -/
inductive Tm where
  | v (k : Int)
  | a (n : Int)
  | i (n : Int)
  | s1 (x : Tm)
  | s2 (d : Bool) (x y : Tm)
noncomputable def Tm.av : Tm → AV
  | .v k => .tup [.str 15, .int k]
  | .a n => .tup [.str 19, .int n]
  | .i n => .tup [.str 159, .int n]
  | .s1 x => .tup [.str 16, .int 12, .tup [x.av]]
  | .s2 d x y => .tup [.str 16, .int (if d = true then 0 else 14), .tup [x.av, y.av]]
structure Plan where
  dom : Int → Bool
  kind : Int → Nat
  slot : Int → Int
  five : ∀ k, dom k = true → 0 ≤ k ∧ k < 5
noncomputable def Plan.void (p : Plan) (k : Int) : Bool := decide (p.kind k = 36)
noncomputable def Plan.perm (p : Plan) (k : Int) : Bool := decide (p.kind k = 37)
structure St where
  code : List AV
  seen : Int → Bool
  loc : Int → Bool
  next : Int
noncomputable abbrev cmd (n : Nat) (ds : List AV) : AV := .tup (.str n :: ds)
noncomputable abbrev reg (k : Nat) (n : Int) : AV := .tup [.str k, .int n]
noncomputable def updB (f : Int → Bool) (k : Int) : Int → Bool := fun y => f y || decide (y = k)
noncomputable def delB (f : Int → Bool) (k : Int) : Int → Bool := fun y => f y && !decide (y = k)
noncomputable def St.emit (s : St) (i : AV) : St := { s with code := s.code ++ [i] }
noncomputable def St.see (s : St) (k : Int) : St := { s with seen := updB s.seen k }
noncomputable def St.addLoc (s : St) (k : Int) : St := { s with loc := updB s.loc k }
noncomputable def St.delLoc (s : St) (k : Int) : St := { s with loc := delB s.loc k }
noncomputable def St.bump (s : St) : St := { s with next := s.next + 1 }
noncomputable def place (p : Plan) (k : Int) : AV := if p.perm k = true then reg 39 (p.slot k) else reg 32 k
noncomputable def cell : Tm → AV
  | .a n => .tup [.int 4, .int n]
  | .i n => .tup [.int 5, .int n]
  | _ => .none
/-! where the maker stands in the heap -/
structure Mk where
  x : Nat
  ka : Nat
  pa : Nat
/-- what may change: the maker's four objects, and those of W -/
structure Fr (x : Nat) (W : List Nat) (H H' : AH) : Prop where
  len : H.length ≤ H'.length
  same : ∀ i, i < H.length → (i < x ∨ x + 4 ≤ i) → i ∉ W → H'[i]? = H[i]?
theorem Fr.refl {x : Nat} {W : List Nat} (H : AH) : Fr x W H H := ⟨Nat.le_refl _, fun _ _ _ _ => rfl⟩
theorem Fr.trans {x : Nat} {W W' : List Nat} {H H1 H2 : AH} (a : Fr x W H H1) (b : Fr x W' H1 H2) (hw : ∀ w ∈ W', w ∈ W ∨ H.length ≤ w) : Fr x W H H2 :=
  ⟨Nat.le_trans a.len b.len, fun i hi hx hn => by
    rw [b.same i (Nat.lt_of_lt_of_le hi a.len) hx (fun h => (hw i h).elim hn (fun h => by (first | lia | omega))), a.same i hi hx hn]⟩
theorem lt_of_get {H : AH} {i : Nat} {o : AO} (h : H[i]? = some o) : i < H.length := by
  obtain ⟨h, _⟩ := List.getElem?_eq_some_iff.mp h; exact h
theorem Fr.get {x : Nat} {W : List Nat} {H H' : AH} (f : Fr x W H H') {i : Nat} {o : AO} (h : H[i]? = some o) (hx : i < x ∨ x + 4 ≤ i) (hn : i ∉ W) : H'[i]? = some o := by
  rw [f.same i (lt_of_get h) hx hn, h]
theorem Fr.app {x : Nat} {W : List Nat} {H : AH} (G : AH) : Fr x W H (H ++ G) := ⟨by simp, fun i hi _ _ => List.getElem?_append_left hi⟩
theorem Fr.set {x : Nat} {W : List Nat} {H : AH} {i : Nat} (o : AO) (hi : i ∈ W ∨ (x ≤ i ∧ i < x + 4)) : Fr x W H (H.set i o) :=
  ⟨by simp, fun j hj hx hn => by
    rw [List.getElem?_set_ne]
    intro e; subst e
    rcases hi with hi | hi
    · exact hn hi
    · (first | lia | omega)⟩
/-- what the plan says of one variable -/
inductive KeyAt (H : AH) (x : Nat) (p : Plan) (D : List (Int × AV)) (k : Int) : Prop
  | mk (o : Nat) (l : List (Nat × AV)) (g0 : o < x) (g1 : lookI k D = some (.obj o)) (g2 : H[o]? = some (.inst 2 l)) (g3 : lookN 35 l = some (.str (p.kind k))) (g4 : lookN 40 l = some (.int (p.slot k)))
inductive PlanAt (H : AH) (pa x : Nat) (p : Plan) : Prop
  | mk (l : List (Nat × AV)) (ia : Nat) (D : List (Int × AV)) (lk : Bool) (h1 : H[pa]? = some (.inst 3 l)) (h2 : lookN 33 l = some (.obj ia)) (h3 : H[ia]? = some (.dict D lk)) (h4 : pa < x) (h5 : ia < x) (h6 : ∀ k, p.dom k = true → KeyAt H x p D k)
theorem PlanAt.fr {H H' : AH} {pa x : Nat} {p : Plan} {W : List Nat} (h : PlanAt H pa x p) (f : Fr x W H H') (hW : ∀ w ∈ W, x ≤ w) : PlanAt H' pa x p := by
  obtain ⟨l, ia, D, lk, h1, h2, h3, h4, h5, h6⟩ := h
  refine ⟨l, ia, D, lk, f.get h1 (.inl h4) (fun h => by have := hW _ h; (first | lia | omega)), h2, f.get h3 (.inl h5) (fun h => by have := hW _ h; (first | lia | omega)), h4, h5, fun k hk => ?_⟩
  obtain ⟨o, l', g0, g1, g2, g3, g4⟩ := h6 k hk
  exact ⟨o, l', g0, g1, f.get g2 (.inl g0) (fun h => by have := hW _ h; (first | lia | omega)), g3, g4⟩
noncomputable abbrev mkL (σ : Mk) (st : St) : List (Nat × AV) := [(23, .obj σ.ka), (24, .obj σ.pa), (25, .obj (σ.x + 1)), (9, .obj (σ.x + 2)), (27, .obj (σ.x + 3)), (28, .int st.next)]
structure M (H : AH) (σ : Mk) (p : Plan) (st : St) : Prop where
  inst : H[σ.x]? = some (.inst 0 (mkL σ st))
  code : H[σ.x + 1]? = some (.list st.code)
  seen : H[σ.x + 2]? = some (.set st.seen)
  loc : H[σ.x + 3]? = some (.set st.loc)
  plan : PlanAt H σ.pa σ.x p
section
variable {H : AH} {σ : Mk} {p : Plan} {st : St}
theorem M.fr {H' : AH} {W : List Nat} (m : M H σ p st) (f : Fr σ.x W H H') (hW : ∀ w ∈ W, σ.x + 4 ≤ w) (hs : ∀ i, σ.x ≤ i → i < σ.x + 4 → H'[i]? = H[i]?) : M H' σ p st :=
  ⟨by rw [hs _ (by (first | lia | omega)) (by (first | lia | omega))]; exact m.inst, by rw [hs _ (by (first | lia | omega)) (by (first | lia | omega))]; exact m.code, by rw [hs _ (by (first | lia | omega)) (by (first | lia | omega))]; exact m.seen, by rw [hs _ (by (first | lia | omega)) (by (first | lia | omega))]; exact m.loc, m.plan.fr f fun w h => by have := hW w h; (first | lia | omega)⟩
theorem M.lt (m : M H σ p st) : σ.x + 4 ≤ H.length := by have := lt_of_get m.loc; (first | lia | omega)
/-- more objects -/
theorem M.app (m : M H σ p st) (G : AH) : M (H ++ G) σ p st :=
  m.fr (W := []) (Fr.app G) (fun _ h => by cases h) fun i _ hi => List.getElem?_append_left (by have := m.lt; (first | lia | omega))
/-- another object set anew -/
theorem M.set (m : M H σ p st) {w : Nat} (o : AO) (hw : σ.x + 4 ≤ w) : M (H.set w o) σ p st :=
  m.fr (W := [w]) (Fr.set o (.inl List.mem_cons_self)) (fun _ h => by cases List.mem_singleton.mp h; exact hw) fun i _ hi => List.getElem?_set_ne (by (first | lia | omega))
theorem set_get {H : AH} {i : Nat} {o o' : AO} (h : H[i]? = some o) : (H.set i o')[i]? = some o' := by
  rw [List.getElem?_set_self (lt_of_get h)]
theorem M.planSet {H' : AH} (m : M H σ p st) (f : Fr σ.x [] H H') : PlanAt H' σ.pa σ.x p := m.plan.fr f fun _ h => by cases h
theorem M.setCode (m : M H σ p st) (l : List AV) : M (H.set (σ.x + 1) (.list l)) σ p { st with code := l } :=
  ⟨by rw [List.getElem?_set_ne (by (first | lia | omega))]; exact m.inst, set_get m.code, by rw [List.getElem?_set_ne (by (first | lia | omega))]; exact m.seen, by rw [List.getElem?_set_ne (by (first | lia | omega))]; exact m.loc, m.planSet (Fr.set _ (.inr (by (first | lia | omega))))⟩
theorem M.setSeen (m : M H σ p st) (l : Int → Bool) : M (H.set (σ.x + 2) (.set l)) σ p { st with seen := l } :=
  ⟨by rw [List.getElem?_set_ne (by (first | lia | omega))]; exact m.inst, by rw [List.getElem?_set_ne (by (first | lia | omega))]; exact m.code, set_get m.seen, by rw [List.getElem?_set_ne (by (first | lia | omega))]; exact m.loc, m.planSet (Fr.set _ (.inr (by (first | lia | omega))))⟩
theorem M.setLoc (m : M H σ p st) (l : Int → Bool) : M (H.set (σ.x + 3) (.set l)) σ p { st with loc := l } :=
  ⟨by rw [List.getElem?_set_ne (by (first | lia | omega))]; exact m.inst, by rw [List.getElem?_set_ne (by (first | lia | omega))]; exact m.code, by rw [List.getElem?_set_ne (by (first | lia | omega))]; exact m.seen, set_get m.loc, m.planSet (Fr.set _ (.inr (by (first | lia | omega))))⟩
theorem M.setNext (m : M H σ p st) (n : Int) : M (H.set σ.x (.inst 0 (mkL σ { st with next := n }))) σ p { st with next := n } :=
  ⟨set_get m.inst, by rw [List.getElem?_set_ne (by (first | lia | omega))]; exact m.code, by rw [List.getElem?_set_ne (by (first | lia | omega))]; exact m.seen, by rw [List.getElem?_set_ne (by (first | lia | omega))]; exact m.loc, m.planSet (Fr.set _ (.inr (by (first | lia | omega))))⟩
end
/-! reading -/
theorem getAt_inst {H : AH} {o c x : Nat} {l : List (Nat × AV)} {v : AV} (h : H[o]? = some (.inst c l)) (hc : Tb.attr c x = true) (hx : lookN x l = some v) : getAt Tb H (.obj o) x = some v := by
  unfold getAt
  dsimp only
  rw [h]
  dsimp only
  rw [if_pos hc, hx]
theorem setAt_inst {H : AH} {o c x : Nat} {l : List (Nat × AV)} {v : AV} (h : H[o]? = some (.inst c l)) (hc : Tb.attr c x = true) (hl : l.length < 100) : setAt Tb H (.obj o) x v = some (H.set o (.inst c (setL x v l))) := by
  unfold setAt
  dsimp only
  rw [h]
  dsimp only
  rw [if_pos ⟨hc, hl⟩]
section
variable {H : AH} {Q : AV → AH → Prop} {o : Nat} {v : AV} {d : Nat} {sc : Sc} {ρ : Loc} {Qs : Fl → Loc → AH → Prop}
theorem KAtt.inst {a c : Nat} {l : List (Nat × AV)} (h : H[o]? = some (.inst c l)) (hc : Tb.attr c a = true) (hx : lookN a l = some v) (hq : Q v H) : KAtt a Q (.obj o) H := ⟨_, getAt_inst h hc hx, hq⟩
theorem KAugA1.inst {a c : Nat} {op : Operator} {e : X Nat} {l : List (Nat × AV)} (h : H[o]? = some (.inst c l)) (hc : Tb.attr c a = true) (hx : lookN a l = some v) (hq : WEv d sc ρ H e (KAugA2 op (.obj o) a v ρ Qs)) : KAugA1 d sc ρ a op e Qs (.obj o) H := ⟨_, getAt_inst h hc hx, hq⟩
theorem KSub2.mk {r k : AV} (h : item H r k = some v) (hq : Q v H) : KSub2 r Q k H := ⟨_, h, hq⟩
theorem KSub2.dict {l : List (Int × AV)} {b : Bool} {k : Int} (h : H[o]? = some (.dict l b)) (hx : lookI k l = some v) (hq : Q v H) : KSub2 (.obj o) Q (.int k) H := ⟨v, by unfold item; dsimp only; rw [h]; exact hx, hq⟩
theorem KSub2.list {l : List AV} {k : Int} (h : H[o]? = some (.list l)) (hx : itemAt l k = some v) (hq : Q v H) : KSub2 (.obj o) Q (.int k) H := ⟨v, by unfold item; dsimp only; rw [h]; exact hx, hq⟩
theorem KLen.mk {r : AV} {l : List AV} (h : seqOf H r = some l) (hl : l.length ≤ 1000000) (hq : Q (.int l.length) H) : KLen Q r H := ⟨l, h, hl, hq⟩
theorem KLen.list {l : List AV} (h : H[o]? = some (.list l)) (hl : l.length ≤ 1000000) (hq : Q (.int l.length) H) : KLen Q (.obj o) H := ⟨l, seqL h, hl, hq⟩
end
theorem run_append {a : Nat} {v : AV} {H : AH} {l : List AV} (h : H[a]? = some (.list l)) (hl : l.length < 1000000) : BmRun .append a [v] H .none (H.set a (.list (l ++ [v]))) := .append h hl
theorem run_pop {a : Nat} {v : AV} {H : AH} {l : List AV} (h : H[a]? = some (.list (l ++ [v]))) (hl : l.length < 1000000) : BmRun .pop a [] H v (H.set a (.list l)) := .pop h (by rw [List.length_append]; exact hl)
theorem run_add {a : Nat} {k : Int} {H : AH} {f : Int → Bool} (h : H[a]? = some (.set f)) (hk : 0 ≤ k ∧ k < 5) : BmRun .add a [.int k] H .none (H.set a (.set (updB f k))) := .add h hk
theorem run_discard {a : Nat} {k : Int} {H : AH} {f : Int → Bool} (h : H[a]? = some (.set f)) (hk : 0 ≤ k ∧ k < 5) : BmRun .discard a [.int k] H .none (H.set a (.set (delB f k))) := .discard h hk

theorem not_t {b : Bool} (h : b = false) : (!b) = true := by rw [h]; rfl
theorem not_f {b : Bool} (h : b = true) : (!b) = false := by rw [h]; rfl
theorem lookN_self (x : Nat) (v : AV) : ∀ ρ : Loc, lookN x (setL x v ρ) = some v
  | [] => by show (if x = x then some v else none) = _; rw [if_pos rfl]
  | (z, u) :: r => by
    unfold setL
    by_cases hz : x = z
    · rw [if_pos hz]; show (if z = x then some v else _) = _; rw [if_pos hz.symm]
    · rw [if_neg hz]; show (if z = x then some u else lookN x (setL x v r)) = _; rw [if_neg (Ne.symm hz)]; exact lookN_self x v r
theorem lookN_ne' {x y : Nat} (v : AV) (hn : x ≠ y) : ∀ ρ : Loc, lookN y (setL x v ρ) = lookN y ρ
  | [] => by show (if x = y then some v else none) = _; rw [if_neg hn]; rfl
  | (z, u) :: r => by
    unfold setL
    by_cases hz : x = z
    · rw [if_pos hz]; subst hz; show (if x = y then some v else lookN y r) = (if x = y then some u else lookN y r); rw [if_neg hn, if_neg hn]
    · rw [if_neg hz]; show (if z = y then some u else lookN y (setL x v r)) = (if z = y then some u else lookN y r); rw [lookN_ne' v hn r]
theorem lookN_ne {x y : Nat} {v u : AV} {ρ : Loc} (hn : x ≠ y) (h : lookN y ρ = some u) : lookN y (setL x v ρ) = some u := by rw [lookN_ne' v hn, h]
/-- what holds behind each turn of a loop -/
noncomputable def KJ (J : Loc → AH → Prop) : Fl → Loc → AH → Prop
  | .ret _, _, _ => False
  | _, ρ, H => J ρ H
theorem KJ.next {J : Loc → AH → Prop} {ρ : Loc} {H : AH} (h : J ρ H) : KJ J .next ρ H := h
theorem KJ.cont {J : Loc → AH → Prop} {ρ : Loc} {H : AH} (h : J ρ H) : KJ J .cont ρ H := h
theorem KJ.fo {d : Nat} {sc : Sc} {x : Nat} {b : List (S Nat)} {q : Src} {i : Nat} {Q : Fl → Loc → AH → Prop} {J : Loc → AH → Prop} (hJ : ∀ ρ H, J ρ H → WFo d sc ρ H x b q i Q) {f : Fl} {ρ : Loc} {H : AH} (h : KJ J f ρ H) : KFo d sc x b q i Q f ρ H := by
  cases f with
  | ret v => exact h.elim
  | next => exact hJ _ _ h
  | cont => exact hJ _ _ h
theorem KJ.wh {d : Nat} {sc : Sc} {c : X Nat} {b : List (S Nat)} {Q : Fl → Loc → AH → Prop} {J : Loc → AH → Prop} (hJ : ∀ ρ H, J ρ H → WWh d sc ρ H c b Q) {f : Fl} {ρ : Loc} {H : AH} (h : KJ J f ρ H) : KWh d sc c b Q f ρ H := by
  cases f with
  | ret v => exact h.elim
  | next => exact hJ _ _ h
  | cont => exact hJ _ _ h
theorem WEx.mono {d : Nat} {sc : Sc} {ρ : Loc} {H : AH} {l : List (S Nat)} {Q Q' : Fl → Loc → AH → Prop} (h : WEx d sc ρ H l Q) (hq : ∀ f ρ H, Q f ρ H → Q' f ρ H) : WEx d sc ρ H l Q' := by
  obtain ⟨f, ρ', H', e, h⟩ := h
  exact ⟨f, ρ', H', e, hq _ _ _ h⟩
/-- what holds behind a statement that neither returns nor goes on with the loop -/
noncomputable def KN (J : Loc → AH → Prop) : Fl → Loc → AH → Prop
  | .next, ρ, H => J ρ H
  | _, _, _ => False
theorem KN.next {J : Loc → AH → Prop} {ρ : Loc} {H : AH} (h : J ρ H) : KN J .next ρ H := h
theorem WEx.cut {d : Nat} {sc : Sc} {ρ : Loc} {H : AH} {s : S Nat} {l : List (S Nat)} {Q : Fl → Loc → AH → Prop} (J : Loc → AH → Prop) (h1 : WEx1 d sc ρ H s (KN J)) (h2 : ∀ ρ' H', J ρ' H' → WEx d sc ρ' H' l Q) : WEx d sc ρ H (s :: l) Q :=
  WEx.cons (by
    obtain ⟨f, ρ', H', e, h⟩ := h1
    refine ⟨f, ρ', H', e, ?_⟩
    cases f with
    | next => exact h2 _ _ h
    | ret v => exact h.elim
    | cont => exact h.elim)
theorem KIte.split {d : Nat} {sc : Sc} {ρ : Loc} {H : AH} {a b : List (S Nat)} {Q : Fl → Loc → AH → Prop} {r : Bool} (h1 : r = true → WEx d sc ρ H a Q) (h2 : r = false → WEx d sc ρ H b Q) : KIte d sc ρ a b Q r H := by
  cases r with
  | true => exact KIte.t rfl (h1 rfl)
  | false => exact KIte.f rfl (h2 rfl)
theorem KIte.splitd {d : Nat} {sc : Sc} {ρ : Loc} {H : AH} {a b : List (S Nat)} {Q : Fl → Loc → AH → Prop} {P : Prop} [Decidable P] (h1 : P → WEx d sc ρ H a Q) (h2 : ¬ P → WEx d sc ρ H b Q) : KIte d sc ρ a b Q (decide P) H :=
  KIte.split (fun h => h1 (of_decide_eq_true h)) (fun h => h2 (of_decide_eq_false h))
/-- a condition's value, told apart from what follows -/
noncomputable def KVal (v : Bool) (H0 : AH) (b : Bool) (H : AH) : Prop := b = v ∧ H = H0
theorem KVal.mk {v b : Bool} {H : AH} (h : b = v) : KVal v H b H := ⟨h, rfl⟩
theorem WTr.as {d : Nat} {sc : Sc} {ρ : Loc} {H : AH} {c : X Nat} {Q : Bool → AH → Prop} (v : Bool) (h : WTr d sc ρ H c (KVal v H)) (hq : Q v H) : WTr d sc ρ H c Q := by
  obtain ⟨r, H1, e, rfl, rfl⟩ := h
  exact ⟨_, _, e, hq⟩
theorem KTrs.sp {d : Nat} {sc : Sc} {ρ : Loc} {H : AH} {l : List (X Nat)} {Q : Bool → AH → Prop} {c : Bool} (h1 : c = true → WTrs d sc ρ H true l Q) (h2 : c = false → Q false H) : KTrs d sc ρ true l Q c H := by
  cases c with
  | true => exact KTrs.tt rfl (h1 rfl)
  | false => exact KTrs.tf rfl (h2 rfl)
theorem KTrs.nt {d : Nat} {sc : Sc} {ρ : Loc} {H : AH} {l : List (X Nat)} {Q : Bool → AH → Prop} {c : Bool} (h1 : c = false → WTrs d sc ρ H true l Q) (h2 : c = true → Q false H) : KTrs d sc ρ true l Q (!c) H := by
  cases c with
  | false => exact KTrs.tt rfl (h1 rfl)
  | true => exact KTrs.tf rfl (h2 rfl)
section
variable {d : Nat} {sc : Sc} {Q : Fl → Loc → AH → Prop}
/-- a for over a tuple -/
theorem WFo.tup {x : Nat} {b : List (S Nat)} {l : List AV} (J : Nat → Loc → AH → Prop) (step : ∀ j v ρ H, l[j]? = some v → J j ρ H → WEx d sc (setL x v ρ) H b (KJ (J (j + 1)))) (fin : ∀ ρ H, J l.length ρ H → Q .next ρ H) :
    ∀ (n i : Nat) (ρ : Loc) (H : AH), l.length - i = n → i ≤ l.length → J i ρ H → WFo d sc ρ H x b (.tup l) i Q
  | 0, i, ρ, H, hn, hi, hJ => by
    have : i = l.length := by (first | lia | omega)
    subst this
    exact .stop (by show some l[l.length]? = _; rw [List.getElem?_eq_none (Nat.le_refl _)]) (fin _ _ hJ)
  | n + 1, i, ρ, H, hn, hi, hJ => by
    have hlt : i < l.length := by (first | lia | omega)
    have e : l[i]? = some l[i] := List.getElem?_eq_getElem hlt
    exact .turn (v := l[i]) (by show some l[i]? = _; rw [e]) ((step i _ ρ H e hJ).mono fun f ρ' H' h => KJ.fo (fun ρ2 H2 h2 => WFo.tup J step fin n (i + 1) ρ2 H2 (by (first | lia | omega)) (by (first | lia | omega)) h2) h)
/-- a for over a range -/
theorem WFo.rng {x : Nat} {b : List (S Nat)} {m : Nat} (J : Nat → Loc → AH → Prop) (step : ∀ j ρ H, j < m → J j ρ H → WEx d sc (setL x (.int j) ρ) H b (KJ (J (j + 1)))) (fin : ∀ ρ H, J m ρ H → Q .next ρ H) :
    ∀ (n i : Nat) (ρ : Loc) (H : AH), m - i = n → i ≤ m → J i ρ H → WFo d sc ρ H x b (.rng m) i Q
  | 0, i, ρ, H, hn, hi, hJ => by
    have : i = m := by (first | lia | omega)
    subst this
    exact .stop (by show (if i < i then _ else _) = _; rw [if_neg (by (first | lia | omega))]) (fin _ _ hJ)
  | n + 1, i, ρ, H, hn, hi, hJ => by
    have hlt : i < m := by (first | lia | omega)
    exact .turn (v := .int i) (by show (if i < m then _ else _) = _; rw [if_pos hlt]) ((step i ρ H hlt hJ).mono fun f ρ' H' h => KJ.fo (fun ρ2 H2 h2 => WFo.rng J step fin n (i + 1) ρ2 H2 (by (first | lia | omega)) (by (first | lia | omega)) h2) h)
/-- a for over a list that stays -/
theorem WFo.lst {x : Nat} {b : List (S Nat)} {o : Nat} {l : List AV} (J : Nat → Loc → AH → Prop) (hl : ∀ j ρ H, J j ρ H → H[o]? = some (.list l)) (step : ∀ j v ρ H, l[j]? = some v → J j ρ H → WEx d sc (setL x v ρ) H b (KJ (J (j + 1)))) (fin : ∀ ρ H, J l.length ρ H → Q .next ρ H) :
    ∀ (n i : Nat) (ρ : Loc) (H : AH), l.length - i = n → i ≤ l.length → J i ρ H → WFo d sc ρ H x b (.lst o) i Q
  | 0, i, ρ, H, hn, hi, hJ => by
    have : i = l.length := by (first | lia | omega)
    subst this
    exact .stop (by unfold nextOf; dsimp only; rw [hl _ _ _ hJ]; show some l[l.length]? = _; rw [List.getElem?_eq_none (Nat.le_refl _)]) (fin _ _ hJ)
  | n + 1, i, ρ, H, hn, hi, hJ => by
    have hlt : i < l.length := by (first | lia | omega)
    have e : l[i]? = some l[i] := List.getElem?_eq_getElem hlt
    exact .turn (v := l[i]) (by unfold nextOf; dsimp only; rw [hl _ _ _ hJ]; show some l[i]? = _; rw [e]) ((step i _ ρ H e hJ).mono fun f ρ' H' h => KJ.fo (fun ρ2 H2 h2 => WFo.lst J hl step fin n (i + 1) ρ2 H2 (by (first | lia | omega)) (by (first | lia | omega)) h2) h)
/-- a while, by a measure -/
theorem WWh.inv {c : X Nat} {b : List (S Nat)} (J : Nat → Loc → AH → Prop) (step : ∀ k ρ H, J k ρ H → WTr d sc ρ H c (KTurn d sc ρ b (KJ fun ρ' H' => ∃ k', k' < k ∧ J k' ρ' H') Q)) :
    ∀ (n k : Nat) (ρ : Loc) (H : AH), k < n → J k ρ H → WWh d sc ρ H c b Q
  | 0, k, _, _, hn, _ => absurd hn (Nat.not_lt_zero _)
  | n + 1, k, ρ, H, hn, hJ => by
    obtain ⟨r, H1, e, h⟩ := step k ρ H hJ
    refine .mk ⟨r, H1, e, ?_⟩
    cases r with
    | false => exact h
    | true =>
      have h : WEx d sc ρ H1 b (KJ fun ρ' H' => ∃ k', k' < k ∧ J k' ρ' H') := h
      exact h.mono fun f ρ' H' h => KJ.wh (fun ρ2 H2 ⟨k', hk, h2⟩ => WWh.inv J step n k' ρ2 H2 (by (first | lia | omega)) h2) h
end
section
variable {H : AH} {σ : Mk} {p : Plan} {st : St} {Q : AV → AH → Prop} {d : Nat}
theorem add_seen (m : M H σ p st) {k : Int} (hk : 0 ≤ k ∧ k < 5) (h : ∀ H', M H' σ p (st.see k) → Fr σ.x [] H H' → Q .none H') : KRun .add (σ.x + 2) [.int k] H Q :=
  ⟨_, _, run_add m.seen hk, h _ (m.setSeen _) (Fr.set _ (.inr (by (first | lia | omega))))⟩
theorem add_loc (m : M H σ p st) {k : Int} (hk : 0 ≤ k ∧ k < 5) (h : ∀ H', M H' σ p (st.addLoc k) → Fr σ.x [] H H' → Q .none H') : KRun .add (σ.x + 3) [.int k] H Q :=
  ⟨_, _, run_add m.loc hk, h _ (m.setLoc _) (Fr.set _ (.inr (by (first | lia | omega))))⟩
theorem del_loc (m : M H σ p st) {k : Int} (hk : 0 ≤ k ∧ k < 5) (h : ∀ H', M H' σ p (st.delLoc k) → Fr σ.x [] H H' → Q .none H') : KRun .discard (σ.x + 3) [.int k] H Q :=
  ⟨_, _, run_discard m.loc hk, h _ (m.setLoc _) (Fr.set _ (.inr (by (first | lia | omega))))⟩
theorem new_list (m : M H σ p st) {r : List AV} (h : ∀ w H', w = H.length → H'[w]? = some (.list r) → M H' σ p st → Fr σ.x [] H H' → Q (.obj w) H') : NewL Q H r :=
  h _ _ rfl (by rw [List.getElem?_append_right (Nat.le_refl _), Nat.sub_self]; rfl) (m.app _) (Fr.app _)
theorem app_list (m : M H σ p st) {w : Nat} {l : List AV} {v : AV} (hw : H[w]? = some (.list l)) (hx : σ.x + 4 ≤ w) (hl : l.length < 1000000) (h : ∀ H', H'[w]? = some (.list (l ++ [v])) → M H' σ p st → Fr σ.x [w] H H' → Q .none H') : KRun .append w [v] H Q :=
  ⟨_, _, run_append hw hl, h _ (set_get hw) (m.set _ hx) (Fr.set _ (.inl List.mem_cons_self))⟩
theorem pop_list (m : M H σ p st) {w : Nat} {l : List AV} {v : AV} (hw : H[w]? = some (.list (l ++ [v]))) (hx : σ.x + 4 ≤ w) (hl : l.length < 1000000) (h : ∀ H', H'[w]? = some (.list l) → M H' σ p st → Fr σ.x [w] H H' → Q v H') : KRun .pop w [] H Q :=
  ⟨_, _, run_pop hw hl, h _ (set_get hw) (m.set _ hx) (Fr.set _ (.inl List.mem_cons_self))⟩
theorem store_list (m : M H σ p st) {w : Nat} {l : List AV} {v : AV} {i : Int} {ρ : Loc} {Qs : Fl → Loc → AH → Prop} (hw : H[w]? = some (.list l)) (hx : σ.x + 4 ≤ w) (hi : 0 ≤ i ∧ i < l.length ∧ l.length ≤ 1000000) (h : ∀ H', H'[w]? = some (.list (l.set i.toNat v)) → M H' σ p st → Fr σ.x [w] H H' → Qs .next ρ H') : KSto (.obj w) (.int i) v ρ Qs H :=
  ⟨_, by unfold storeItem; dsimp only; rw [hw]; exact if_pos hi, h _ (set_get hw) (m.set _ hx) (Fr.set _ (.inl List.mem_cons_self))⟩
end
/-- what may change: the objects of W -/
structure Fx (W : List Nat) (H H' : AH) : Prop where
  len : H.length ≤ H'.length
  same : ∀ i, i < H.length → i ∉ W → H'[i]? = H[i]?
theorem Fx.refl {W : List Nat} (H : AH) : Fx W H H := ⟨Nat.le_refl _, fun _ _ _ => rfl⟩
theorem Fx.trans {W W' : List Nat} {H H1 H2 : AH} (a : Fx W H H1) (b : Fx W' H1 H2) (hw : ∀ w ∈ W', w ∈ W ∨ H.length ≤ w) : Fx W H H2 :=
  ⟨Nat.le_trans a.len b.len, fun i hi hn => by
    rw [b.same i (Nat.lt_of_lt_of_le hi a.len) (fun h => (hw i h).elim hn (fun h => by (first | lia | omega))), a.same i hi hn]⟩
theorem Fx.get {W : List Nat} {H H' : AH} (f : Fx W H H') {i : Nat} {o : AO} (h : H[i]? = some o) (hn : i ∉ W) : H'[i]? = some o := by
  rw [f.same i (lt_of_get h) hn, h]
theorem Fx.app {W : List Nat} {H : AH} (G : AH) : Fx W H (H ++ G) := ⟨by simp, fun i hi _ => List.getElem?_append_left hi⟩
theorem Fx.set {W : List Nat} {H : AH} {i : Nat} (o : AO) (hi : i ∈ W) : Fx W H (H.set i o) :=
  ⟨by simp, fun j hj hn => by
    rw [List.getElem?_set_ne]
    intro e; subst e
    exact hn hi⟩
theorem Fx.fr {x : Nat} {W : List Nat} {H H' : AH} (f : Fx W H H') : Fr x W H H' := ⟨f.len, fun i hi _ hn => f.same i hi hn⟩
theorem Fx.m {H H' : AH} {σ : Mk} {p : Plan} {st : St} (f : Fx [] H H') (m : M H σ p st) : M H' σ p st :=
  m.fr (W := []) f.fr (fun _ h => by cases h) fun i _ hi => f.same i (by have := m.lt; (first | lia | omega)) List.not_mem_nil
section
variable {H : AH} {Q : AV → AH → Prop} {d : Nat}
theorem new_dictX (h : ∀ w H', w = H.length → H'[w]? = some (.dict [] false) → Fx [] H H' → Q (.obj w) H') : NewD Q H :=
  h _ _ rfl (by rw [List.getElem?_append_right (Nat.le_refl _), Nat.sub_self]; rfl) (Fx.app _)
theorem new_listX {r : List AV} (h : ∀ w H', w = H.length → H'[w]? = some (.list r) → Fx [] H H' → Q (.obj w) H') : NewL Q H r :=
  h _ _ rfl (by rw [List.getElem?_append_right (Nat.le_refl _), Nat.sub_self]; rfl) (Fx.app _)
theorem app_listX {w : Nat} {l : List AV} {v : AV} (hw : H[w]? = some (.list l)) (hl : l.length < 1000000) (h : ∀ H', H'[w]? = some (.list (l ++ [v])) → Fx [w] H H' → Q .none H') : KRun .append w [v] H Q :=
  ⟨_, _, run_append hw hl, h _ (set_get hw) (Fx.set _ List.mem_cons_self)⟩
theorem pop_listX {w : Nat} {l : List AV} {v : AV} (hw : H[w]? = some (.list (l ++ [v]))) (hl : l.length < 1000000) (h : ∀ H', H'[w]? = some (.list l) → Fx [w] H H' → Q v H') : KRun .pop w [] H Q :=
  ⟨_, _, run_pop hw hl, h _ (set_get hw) (Fx.set _ List.mem_cons_self)⟩
theorem ext_listX {w : Nat} {q l : List AV} (hw : H[w]? = some (.list q)) (hl : l.length + q.length ≤ 10000) (h : ∀ H', H'[w]? = some (.list (q ++ l.reverse)) → Fx [w] H H' → Q .none H') : KExt2 w Q (.tup l) H :=
  KExt2.mk hw hl (h _ (set_get hw) (Fx.set _ List.mem_cons_self))
theorem store_dictX {w : Nat} {l : List (Int × AV)} {v : AV} {k : Int} {ρ : Loc} {Qs : Fl → Loc → AH → Prop} (hw : H[w]? = some (.dict l false)) (hl : l.length ≤ 1000000) (h : ∀ H', H'[w]? = some (.dict (setD k v l) false) → Fx [w] H H' → Qs .next ρ H') : KSto (.obj w) (.int k) v ρ Qs H :=
  ⟨_, by unfold storeItem; dsimp only; rw [hw]; exact if_pos hl, h _ (set_get hw) (Fx.set _ List.mem_cons_self)⟩
theorem run_getX {w : Nat} {l : List (Int × AV)} {b : Bool} {k : Int} {v : AV} (hw : H[w]? = some (.dict l b)) (h : Q ((lookI k l).getD v) H) : KRun .get w [.int k, v] H Q := ⟨_, _, .get hw, h⟩
end
/-! limits, from a fact with room to spare -/
theorem lim1 {n : Nat} (h : n + 16 ≤ 1000000) : n ≤ 1000000 := Nat.le_trans (Nat.le_add_right _ _) h
theorem lim2 {n : Nat} (h : n + 16 ≤ 1000000) : n < 1000000 := Nat.lt_of_lt_of_le (Nat.lt_add_of_pos_right (by decide)) h
theorem lim4 {n k j : Nat} (h : n + 16 ≤ 1000000) (hk : Nat.ble (k + j) 15 = true) : n + k + j < 1000000 := by have := Nat.le_of_ble_eq_true hk; (first | lia | omega)
theorem lim5 {α : Type} {l : List α} {x : α} (h : l.length + 16 ≤ 1000000) : (l ++ [x]).length ≤ 1000000 := by rw [List.length_append, List.length_singleton]; (first | lia | omega)
theorem pos5 {α : Type} {l : List α} {x : α} : ((l ++ [x]).length : Int) > 0 := by rw [List.length_append, List.length_singleton]; (first | lia | omega)

open Lean in
def tyQ (c : Char) (i : Nat) : MacroM Ident := return mkIdent (← Macro.addMacroScope (.mkSimple (c.toString ++ toString i)))
theorem And3.mk {a b c : Prop} (h1 : a) (h2 : b) (h3 : c) : a ∧ b ∧ c := ⟨h1, h2, h3⟩
theorem notOne {x y : Nat} (h : x ≠ y) : x ∉ [y] := fun h2 => h (List.mem_singleton.mp h2)
theorem subNil {P : Nat → Prop} : ∀ w ∈ ([] : List Nat), P w := fun _ h => absurd h List.not_mem_nil
theorem subOne {P : Nat → Prop} {a : Nat} (h : P a) : ∀ w ∈ [a], P w := fun w hw => by rw [List.mem_singleton.mp hw]; exact h
theorem subTwo {P : Nat → Prop} {a b : Nat} (h : P a) (h2 : P b) : ∀ w ∈ [a, b], P w := fun w hw => by
  rcases List.mem_cons.mp hw with hw | hw
  · rw [hw]; exact h
  · rw [List.mem_singleton.mp hw]; exact h2
theorem Fr.tr {x : Nat} {W W' : List Nat} {H H1 H2 : AH} (b : Fr x W' H1 H2) (hw : ∀ w ∈ W', w ∈ W ∨ H.length ≤ w) (a : Fr x W H H1) : Fr x W H H2 := a.trans b hw
theorem Fx.tr {W W' : List Nat} {H H1 H2 : AH} (b : Fx W' H1 H2) (hw : ∀ w ∈ W', w ∈ W ∨ H.length ≤ w) (a : Fx W H H1) : Fx W H H2 := a.trans b hw
open Lean in
def tyC (c : Char) : MacroM (TSyntax `tactic) :=
  match c with
  | 'r' => `(tactic| exact rfl)
  | 'a' => `(tactic| assumption)
  | 'A' => `(tactic| with_reducible assumption)
  | 'k' => `(tactic| kp_flats)
  | 'K' => `(tactic| kat_tups)
  | 'h' => `(tactic| keq_hits)
  | 'l' => `(tactic| kas_types)
  | 'n' => `(tactic| keq_rows)
  | 'm' => `(tactic| mem_news)
  | 'c' => `(tactic| kct_strs)
  | 'd' => `(tactic| decide)
  | 'D' => `(tactic| exact ⟨rfl, by decide⟩)
  | 'N' => `(tactic| exact ⟨rfl, Nat.le_of_ble_eq_true rfl⟩)
  | 'E' => `(tactic| constructor <;> decide)
  | 'w' => `(tactic| (first | lia | omega))
  | 'y' => `(tactic| simp)
  | '!' => `(tactic| tb_rel)
  | 'z' => `(tactic| ((try simp only [true_or, or_true, St.emit, St.see, St.addLoc, St.delLoc, St.bump, List.length_append, List.length_cons, List.length_nil, List.length_reverse, List.length_map, List.mem_cons, List.mem_singleton, List.not_mem_nil, or_false]) <;> (first | lia | omega)))
  | _ => `(tactic| fail "no")
/-- letters for lists of alternatives -/
def tyL (c : Char) : Option String :=
  match c with
  | 'L' => some "=A =r"
  | 'o' => some "=a =w"
  | 'R' => some "=r =a"
  | 'b' => some "Nat.le_of_ble_eq_true/r/-"
  | 's' => some "=a And3.mk/yyy/-"
  | 'e' => some "Nat.le_of_ble_eq_true/r/- =A lim2/A/- lim1/A/- lim5/A/- =w"
  | 'p' => some "=A pos5//- =w"
  | 'q' => some "=A =w"
  | 'v' => some "CmpIs.inS/k/- CmpIs.ninS/k/- CmpIs.int/r/- CmpIs.seq/uu/- CmpIs.sne/uu/-"
  | 'x' => some "CmpIs.ninD/k/- CmpIs.inD/k/- CmpIs.int/r/- CmpIs.seq/uu/- CmpIs.sne/uu/-"
  | 'j' => some "List.not_mem_nil//- =A notOne/A/- =w =z"
  | 'i' => some "subNil//- subOne/I/- subTwo/II/-"
  | 'I' => some "Or.inr/A/- Or.inl+List.mem_cons_self//- Or.inl/A/- =w =z"
  | 'g' => some "lookI_self/uuu/-"
  
  | _ => none
open Lean in
/-- one alternative: RULE[+SUB][/closers[/main]], or =closer; `_` among the closers: the goal that stays; main: `-` none, or so many names; rd: within reducible -/
def tyA (lv : Char) (rd : Bool) (cl : Char → MacroM (TSyntax `tactic)) (s : String) : MacroM (TSyntax `Lean.Parser.Tactic.tacticSeq) := do
  if s.front == '=' then
    let t ← cl (s.toList.getD 1 ' ')
    return ← `(tacticSeq| $t:tactic)
  let p := s.splitOn "/"
  let r0 := p.getD 0 ""
  let rd := rd || r0.front == '^'
  let vs := (if r0.front == '^' then r0.drop 1 |>.toString else r0).splitOn "~"
  let rs := (vs.getD 0 "").splitOn "+"
  let mut as : Array Term := #[]
  let mut ts : Array (TSyntax `tactic) := #[]
  let mut i := 0
  for c in (p.getD 1 "").toList do
    if c == 'u' then as := as.push (← `(_))
    else if c == '_' then as := as.push (← `(?_))
    else
      let q ← tyQ lv i
      as := as.push (← `(?$q:ident))
      let t ← cl c
      ts := ts.push (← `(tactic| case $q:ident => $t:tactic))
      i := i + 1
  let m := p.getD 2 ""
  let hole : Term ← `(?_)
  let mm : Array Term ← if m == "-" then pure #[] else if m == "" then pure #[hole] else do
    let xs ← (List.range m.length).toArray.mapM (tyQ 'x')
    pure #[← `(fun $xs* => ?_)]
  let f := mkIdent (rs.getD 0 "").toName
  let as2 ← match rs with
    | [_, g] => do
      let g := mkIdent g.toName
      if as.isEmpty then pure (#[(g : Term)] ++ mm) else pure (#[← `(($g $as*))] ++ mm)
    | _ => pure (as ++ mm)
  let e ← if vs.length == 2 then let n := Syntax.mkNumLit (vs.getD 1 ""); `($f (v := AV.int $n) $as2*) else if vs.length == 3 then let n := Syntax.mkNumLit (vs.getD 2 ""); `($f (v := AV.int (-$n)) $as2*) else `($f $as2*)
  let r ← if ts.isEmpty then `(tactic| refine $e) else `(tactic| refine' $e)
  let r ← if rd then `(tactic| with_reducible $r:tactic) else pure r
  let all := #[r] ++ ts
  `(tacticSeq| $[$all:tactic]*)
open Lean in
def tyG (lv : Char) (rd : Bool) (cl : Char → MacroM (TSyntax `tactic)) (s : String) : MacroM (TSyntax `tactic) := do
  let as ← (s.splitOn " ").toArray.mapM (tyA lv rd cl)
  `(tactic| first $[| $as:tacticSeq]* | fail "no")
open Lean in
def tyK (c : Char) : MacroM (TSyntax `tactic) :=
  match tyL c with
  | some s => tyG 'p' false (fun c => match tyL c with | some s => tyG 'o' false tyC s | none => tyC c) s
  | none => tyC c
open Lean in
def tyF (s : String) : MacroM (TSyntax `tactic) := tyG 'q' true tyK s
open Lean in
def tyD (s : String) : MacroM (TSyntax `tactic) := tyG 'q' false tyK s
open Lean in
def tyRows : MacroM (TSyntax `tactic) := tyD "List.not_mem_nil//- =A Or.inr/A/- Or.inl/A/- notOne/A/- =w =z"
open Lean in
def tyNews : MacroM (TSyntax `tactic) := tyD "=a =w"
open Lean in
def tyTups : MacroM (TSyntax `tactic) := tyD "=A lookN_self/uuu/- lookN_ne/dK/- =r"
open Lean in
def tyTypes : MacroM (TSyntax `tactic) := tyD "=a lim2/A/- lim1/A/- lim5/A/- lim4/Ar/- =b =w =z"
open Lean in
def tyHits (b : Bool) : MacroM (TSyntax `tactic) := tyD ("=A =r decide_eq_true/p/- decide_eq_false/q/- ^not_t/h/- ^not_f/h/- =" ++ if b then "a" else "_")
open Lean in
def tyFlatV : MacroM (TSyntax `tactic) := tyD "=A ^M.inst/a/- ^M.code/a/- ^M.seen/a/- ^M.loc/a/- Fr.get/aknn/-"
open Lean in
def tyFlatX : MacroM (TSyntax `tactic) := tyD "=A Fx.get/akn/-"
open Lean in
def tyFrV : MacroM (TSyntax `tactic) := tyD "Fr.refl/u/- =a Fr.tr/aic/-"
open Lean in
def tyFrX : MacroM (TSyntax `tactic) := tyD "Fx.refl/u/- =a Fx.tr/aic/-"
open Lean in
def tyVS : MacroM (TSyntax `tactic) := tyF "new_list/a/111111 KCmp2.mk/v add_seen/am/111 add_loc/am/111 del_loc/am/111 app_list/aknl/1111 pop_list/aknl/1111"
open Lean in
def tyXS : MacroM (TSyntax `tactic) := tyF "new_listX//11111 new_dictX//11111 KCmp2.mk/x app_listX/kl/111 pop_listX/kl/111 KExt1.mk/k ext_listX/kl/111 KListR.mk/kl KTruth.list/kl store_dictX/kl/111 run_getX/k"
open Lean in
def tyUR : MacroM (TSyntax `tactic) := tyF "WEx1.whl WWh.mk KWh.next KWh.cont WTr.cmp WEv.cmp WEv.sub/r store_list/akns/1111 WEv.pure~0/r WEv.pure~~1/r WEv.pure~1/r KBin2.mk~0/r KBin2.mk~~1/r KBin2.mk~1/r KAug.mk~0/r KAug.mk~~1/r KAug.mk~1/r"

local macro_rules | `(tactic| keq_rows) => tyRows
local macro_rules | `(tactic| kat_tups) => tyTups
local macro_rules | `(tactic| kas_types) => tyTypes
local macro_rules | `(tactic| mem_news) => tyNews
local macro_rules | `(tactic| tb_start) => tyF "KLen.list/ke KLen.mk/re KMeth1.mk/krr KBm1.mk/kr KListT.mk/e KAug.mk/r KAugA1.inst/krL KAugA2.mk/r KBin2.mk/r"
local macro_rules | `(tactic| tb_start) => tyF "KAtt.inst/krL KSub2.dict/kA KSub2.list/kL KSub2.mk/r"
local macro_rules | `(tactic| tb_start) => tyF "=!"
local macro_rules | `(tactic| tb_start) => tyF "WTr.ev/r KVal.mk/h/- KIte.t/h KIte.f/h KAnd.t/h KAnd.f/h KTrs.tt/h KTrs.tf/h KTrs.ff/h KTrs.ft/h KTurn.t/h KTurn.f/h"
local macro_rules | `(tactic| tb_start) => tyF "WEv.fn/rr WEv.cls/rrr WEv.len/rr WEv.tuple/rr WEv.set/rr WEv.sorted/rr WEv.listR/rrrr WEv.listT/rr WEv.ext/rrrr WEv.bm/Dr WEv.meth/D"
local macro_rules | `(tactic| tb_start) => tyF "KTup.mk/_b/- KLst.mk/_b/- WEx1.asg/r WEx1.swap/rrd WEx1.asg2/rrr WEx1.aug/rK WEx1.augS/r WEv.nm/rK WEv.cel/rK WEv.glo/rr WEv.att/r WEv.sub/r"
local macro_rules | `(tactic| tb_start) => tyF "WEv.neg WEv.dict WEv.tup WEv.lst WEv.upto WEv.frm WEv.cmp WEv.and WEv.bin"
local macro_rules | `(tactic| tb_start) => tyF "WEx1.ite WEx1.ret WEx1.ret0 WEx1.cont WEx1.ex WEx1.asgA WEx1.asgS WEx1.augA WTr.and WTr.or WTr.not WTr.cmp WTrs.cons WTrs.one WEvs.cons WEvs.nil"
local macro_rules | `(tactic| tb_start) => tyF "WEv.pure/r WEvs.pure/r WTr.pure/r"
local macro_rules | `(tactic| tb_start) => tyF "KBool.mk KNot.mk KFn.mk KAsgA1.mk KAsgA2.mk KAsgS1.mk KAsgS2.mk KAsgS3.mk KAugS1.mk KBm2.mk KAsg2.mk KTruth.bool KJ.next KJ.cont KNone.mk KUpto1.mk KFrm1.mk"
local macro_rules | `(tactic| tb_start) => tyF "KN.next KSeq.next KSeq.ret KSeq.cont KRet.ret KRet.next WEx.cons WEx.nil KAsg.mk KEx.mk KRetS.mk KSub1.mk KCmp1.mk KBin1.mk KCons1.mk KCons2.mk"

section
local macro_rules | `(tactic| keq_hits) => tyHits true
local macro_rules | `(tactic| kp_flats) => tyFlatV
local macro_rules | `(tactic| kct_strs) => tyFrV
local macro_rules | `(tactic| tb_start) => tyVS

section
section
variable {H : AH} {σ : Mk} {p : Plan} {st : St} {Q : AV → AH → Prop} {d : Nat}

theorem w_emit {i : AV} (m : M H σ p st) (hl : st.code.length < 1000000) (h : ∀ H', M H' σ p (st.emit i) → Fr σ.x [] H H' → Q .none H') : WCal (d + 1) 5 [.obj σ.x, i] H Q := by
  refine WCal.mk (f := F_CodeState_emit) rfl rfl ?_; dsimp only [F_CodeState_emit]
  (repeat' tb_start)
  refine KRun.mk (run_append m.code hl) ?_
  (repeat' tb_start)
  exact h _ (m.setCode _) (Fr.set _ (.inr (by (first | lia | omega))))
local macro_rules | `(tactic| tb_rel) => tyF "w_emit/al/111"

theorem w_new_temporary (m : M H σ p st) (h : ∀ H', M H' σ p st.bump → Fr σ.x [] H H' → Q (reg 32 st.next) H') : WCal (d + 1) 6 [.obj σ.x] H Q := by
  refine WCal.mk (f := F_CodeState_new_temporary) rfl rfl ?_; dsimp only [F_CodeState_new_temporary]
  (repeat' tb_start)
  refine KSet.mk (setAt_inst m.inst rfl (by show 6 < 100; decide)) ?_
  have m' := m.setNext (st.next + 1)
  have f' : Fr σ.x [] H (H.set σ.x (.inst 0 (mkL σ { st with next := st.next + 1 }))) := Fr.set _ (.inr (by (first | lia | omega)))
  (repeat' tb_start)
  exact h _ m' f'
local macro_rules | `(tactic| tb_rel) => tyF "w_new_temporary/a/111"

theorem w_is_void (m : M H σ p st) {k : Int} (hk : p.dom k = true) (h : Q (.bool (p.void k)) H) : WCal (d + 1) 7 [.obj σ.x, .int k] H Q := by
  obtain ⟨l, ia, D, lk, h1, h2, h3, h4, h5, h6⟩ := m.plan
  obtain ⟨o, l', g0, g1, g2, g3, g4⟩ := h6 k hk
  refine WCal.mk (f := F_CodeState_is_void) rfl rfl ?_; dsimp only [F_CodeState_is_void]
  (repeat' tb_start)
  exact h
local macro_rules | `(tactic| tb_rel) => tyF "w_is_void/aa"

theorem w_is_permanent (m : M H σ p st) {k : Int} (hk : p.dom k = true) (h : Q (.bool (p.perm k)) H) : WCal (d + 1) 8 [.obj σ.x, .int k] H Q := by
  obtain ⟨l, ia, D, lk, h1, h2, h3, h4, h5, h6⟩ := m.plan
  obtain ⟨o, l', g0, g1, g2, g3, g4⟩ := h6 k hk
  refine WCal.mk (f := F_CodeState_is_permanent) rfl rfl ?_; dsimp only [F_CodeState_is_permanent]
  (repeat' tb_start)
  exact h
local macro_rules | `(tactic| tb_rel) => tyF "w_is_permanent/aa"

theorem w_place (m : M H σ p st) {k : Int} (hk : p.dom k = true) (h : Q (place p k) H) : WCal (d + 1) 9 [.obj σ.x, .int k] H Q := by
  obtain ⟨l, ia, D, lk, h1, h2, h3, h4, h5, h6⟩ := m.plan
  obtain ⟨o, l', g0, g1, g2, g3, g4⟩ := h6 k hk
  unfold place at h
  cases hp : p.perm k with
  | true =>
    rw [hp, if_pos rfl] at h
    refine WCal.mk (f := F_CodeState_place) rfl rfl ?_; dsimp only [F_CodeState_place]
    (repeat' tb_start)
    exact h
  | false =>
    rw [hp, if_neg (by decide)] at h
    refine WCal.mk (f := F_CodeState_place) rfl rfl ?_; dsimp only [F_CodeState_place]
    (repeat' tb_start)
    exact h
local macro_rules | `(tactic| tb_rel) => tyF "w_place/aa"

noncomputable def matchVar (p : Plan) (k : Int) (st : St) : St :=
  if st.seen k = true then (if st.loc k = true then st.emit (cmd 68 [place p k]) else st.emit (cmd 69 [place p k])) else (st.see k).emit (cmd 66 [place p k])
theorem w_match_variable (m : M H σ p st) {k : Int} (hk : p.dom k = true) (hl : st.code.length < 1000000) (h : ∀ H', M H' σ p (matchVar p k st) → Fr σ.x [] H H' → Q .none H') : WCal (d + 2) 13 [.obj σ.x, .int k] H Q := by
  have h5 := p.five k hk
  unfold matchVar at h
  cases hs : st.seen k with
  | true =>
    rw [hs, if_pos rfl] at h
    cases hc : st.loc k with
    | true =>
      rw [hc, if_pos rfl] at h
      refine WCal.mk (f := F_Matcher_match_variable) rfl rfl ?_; dsimp only [F_Matcher_match_variable]
      (repeat' tb_start)
      exact h _ (by assumption) (by kct_strs)
    | false =>
      rw [hc, if_neg (by decide)] at h
      refine WCal.mk (f := F_Matcher_match_variable) rfl rfl ?_; dsimp only [F_Matcher_match_variable]
      (repeat' tb_start)
      exact h _ (by assumption) (by kct_strs)
  | false =>
    rw [hs, if_neg (by decide)] at h
    refine WCal.mk (f := F_Matcher_match_variable) rfl rfl ?_; dsimp only [F_Matcher_match_variable]
    (repeat' tb_start)
    exact h _ (by assumption) (by kct_strs)
end

end
section
section
variable {H : AH} {σ : Mk} {p : Plan} {st : St} {Q : AV → AH → Prop} {d : Nat}

local macro_rules | `(tactic| tb_rel) => tyF "w_emit/al/111 w_new_temporary/a/111 w_is_void/aa w_is_permanent/aa w_place/aa w_match_variable/aal/111"

noncomputable def setVar (p : Plan) (k : Int) (st : St) : St :=
  if st.seen k = true then (if st.loc k = true then (if p.perm k = true then st.emit (cmd 87 [place p k]) else (st.emit (cmd 87 [place p k])).delLoc k) else st.emit (cmd 85 [place p k]))
  else (st.see k).emit (cmd 84 [place p k])
theorem w_set_variable (m : M H σ p st) {k : Int} (hk : p.dom k = true) (hl : st.code.length < 1000000) (h : ∀ H', M H' σ p (setVar p k st) → Fr σ.x [] H H' → Q .none H') : WCal (d + 2) 18 [.obj σ.x, .int k] H Q := by
  have h5 := p.five k hk
  unfold setVar at h
  refine WCal.mk (f := F_Builder_set_variable) rfl rfl ?_; dsimp only [F_Builder_set_variable]
  cases hs : st.seen k with
  | true =>
    rw [hs, if_pos rfl] at h
    cases hc : st.loc k with
    | true =>
      rw [hc, if_pos rfl] at h
      cases hp : p.perm k with
      | true =>
        rw [hp, if_pos rfl] at h
        (repeat' tb_start)
        exact h _ (by assumption) (by kct_strs)
      | false =>
        rw [hp, if_neg (by decide)] at h
        (repeat' tb_start)
        exact h _ (by assumption) (by kct_strs)
    | false =>
      rw [hc, if_neg (by decide)] at h
      (repeat' tb_start)
      exact h _ (by assumption) (by kct_strs)
  | false =>
    rw [hs, if_neg (by decide)] at h
    (repeat' tb_start)
    exact h _ (by assumption) (by kct_strs)
local macro_rules | `(tactic| tb_rel) => tyF "w_set_variable/aal/111"

noncomputable def freshN (p : Plan) (k : Int) (st : St) : Int := if p.perm k = true then st.next else k
noncomputable def freshSt (p : Plan) (k : Int) (st : St) : St := if p.perm k = true then st.bump else st
theorem w_fresh_register (m : M H σ p st) {k : Int} (hk : p.dom k = true) (h : ∀ H', M H' σ p (freshSt p k st) → Fr σ.x [] H H' → Q (reg 32 (freshN p k st)) H') : WCal (d + 2) 24 [.obj σ.x, .int k] H Q := by
  unfold freshN freshSt at h
  refine WCal.mk (f := F_InPlace_fresh_register) rfl rfl ?_; dsimp only [F_InPlace_fresh_register]
  cases hp : p.perm k with
  | true =>
    rw [hp, if_pos rfl, if_pos rfl] at h
    (repeat' tb_start)
    exact h _ (by assumption) (by kct_strs)
  | false =>
    rw [hp, if_neg (by decide), if_neg (by decide)] at h
    (repeat' tb_start)
    exact h _ (by assumption) (by kct_strs)
local macro_rules | `(tactic| tb_rel) => tyF "w_fresh_register/aa/111"

noncomputable def settle (p : Plan) (k n : Int) (st : St) : St := if p.perm k = true then (st.see k).emit (cmd 46 [place p k, reg 32 n]) else st.see k
theorem w_settle (m : M H σ p st) {k n : Int} (hk : p.dom k = true) (hl : st.code.length < 1000000) (h : ∀ H', M H' σ p (settle p k n st) → Fr σ.x [] H H' → Q .none H') : WCal (d + 2) 25 [.obj σ.x, .int k, reg 32 n] H Q := by
  have h5 := p.five k hk
  unfold settle at h
  refine WCal.mk (f := F_InPlace_settle) rfl rfl ?_; dsimp only [F_InPlace_settle]
  cases hp : p.perm k with
  | true =>
    rw [hp, if_pos rfl] at h
    (repeat' tb_start)
    exact h _ (by assumption) (by kct_strs)
  | false =>
    rw [hp, if_neg (by decide)] at h
    (repeat' tb_start)
    exact h _ (by assumption) (by kct_strs)
local macro_rules | `(tactic| tb_rel) => tyF "w_settle/aal/111"

noncomputable def loadSlot (p : Plan) (k n : Int) (st : St) : St := if st.loc k = true then st.emit (cmd 110 [place p k, reg 32 n]) else st.emit (cmd 109 [place p k, reg 32 n])
theorem w_load_slot (m : M H σ p st) {k n : Int} (hk : p.dom k = true) (hl : st.code.length < 1000000) (h : ∀ H', M H' σ p (loadSlot p k n st) → Fr σ.x [] H H' → Q .none H') : WCal (d + 2) 27 [.obj σ.x, .int k, reg 32 n] H Q := by
  unfold loadSlot at h
  refine WCal.mk (f := F_InPlace_load_slot) rfl rfl ?_; dsimp only [F_InPlace_load_slot]
  cases hc : st.loc k with
  | true =>
    rw [hc, if_pos rfl] at h
    (repeat' tb_start)
    exact h _ (by assumption) (by kct_strs)
  | false =>
    rw [hc, if_neg (by decide)] at h
    (repeat' tb_start)
    exact h _ (by assumption) (by kct_strs)
local macro_rules | `(tactic| tb_rel) => tyF "w_load_slot/aal/111"

noncomputable def regOfSt (p : Plan) (k : Int) (st : St) : St := if p.perm k = true then loadSlot p k st.next st.bump else st
theorem w_register_of (m : M H σ p st) {k : Int} (hk : p.dom k = true) (hl : st.code.length < 1000000) (h : ∀ H', M H' σ p (regOfSt p k st) → Fr σ.x [] H H' → Q (reg 32 (freshN p k st)) H') : WCal (d + 3) 26 [.obj σ.x, .int k] H Q := by
  unfold regOfSt freshN at h
  refine WCal.mk (f := F_InPlace_register_of) rfl rfl ?_; dsimp only [F_InPlace_register_of]
  cases hp : p.perm k with
  | true =>
    rw [hp, if_pos rfl, if_pos rfl] at h
    (repeat' tb_start)
    exact h _ (by assumption) (by kct_strs)
  | false =>
    rw [hp, if_neg (by decide), if_neg (by decide)] at h
    (repeat' tb_start)
    exact h _ (by assumption) (by kct_strs)
local macro_rules | `(tactic| tb_rel) => tyF "w_register_of/aal/111"

noncomputable def introduce (p : Plan) (k : Int) (st : St) : St := if p.void k = true then st else settle p k (freshN p k st) ((freshSt p k st).emit (cmd 106 [reg 32 (freshN p k st)]))
theorem fresh_len (p : Plan) (k : Int) (st : St) : (freshSt p k st).code.length = st.code.length := by unfold freshSt; split <;> rfl
theorem w_introduce (m : M H σ p st) {k : Int} (hk : p.dom k = true) (hl : st.code.length < 999999) (h : ∀ H', M H' σ p (introduce p k st) → Fr σ.x [] H H' → Q .none H') : WCal (d + 3) 22 [.obj σ.x, .int k] H Q := by
  have l1 := fresh_len p k st
  unfold introduce at h
  refine WCal.mk (f := F_InPlace_introduce) rfl rfl ?_; dsimp only [F_InPlace_introduce]
  cases hp : p.void k with
  | true =>
    rw [hp, if_pos rfl] at h
    (repeat' tb_start)
    exact h _ (by assumption) (by kct_strs)
  | false =>
    rw [hp, if_neg (by decide)] at h
    (repeat' tb_start)
    exact h _ (by assumption) (by kct_strs)
local macro_rules | `(tactic| tb_rel) => tyF "w_introduce/aal/111"

noncomputable def alias1 (p : Plan) (k old : Int) (st : St) : St := if p.perm k = true then st.emit (cmd 46 [place p k, place p old]) else st.emit (cmd 109 [place p old, place p k])
noncomputable def alias (p : Plan) (k old : Int) (st : St) : St :=
  if p.void k = true then st
  else if p.perm old = true then settle p k (freshN p k st) (loadSlot p old (freshN p k st) (freshSt p k st))
  else alias1 p k old ((if st.loc old = true then st.addLoc k else st).see k)
theorem load_len (p : Plan) (k n : Int) (st : St) : (loadSlot p k n st).code.length = st.code.length + 1 := by unfold loadSlot; split <;> simp [St.emit]
/-- ahead of the last statement -/
inductive UW (σ : Mk) (p : Plan) (st : St) (ρ0 : Loc) (H0 : AH) (ρ : Loc) (H : AH) : Prop
  | mk (e : ρ = ρ0) (m : M H σ p st) (f : Fr σ.x [] H0 H)
theorem roomA {a b : Nat} (h : a < 999999) (hb : b = a + 1) : b < 1000000 := by (first | lia | omega)
theorem w_alias (m : M H σ p st) {k old : Int} (hk : p.dom k = true) (ho : p.dom old = true) (hl : st.code.length < 999999) (h : ∀ H', M H' σ p (alias p k old st) → Fr σ.x [] H H' → Q .none H') : WCal (d + 3) 23 [.obj σ.x, .int k, .int old] H Q := by
  have h5 := p.five k hk
  have l0 : st.code.length < 1000000 := Nat.lt_of_lt_of_le hl (by decide)
  have l1 : (freshSt p k st).code.length < 1000000 := by rw [fresh_len]; exact l0
  have l2 : (loadSlot p old (freshN p k st) (freshSt p k st)).code.length < 1000000 := roomA hl (by rw [load_len, fresh_len])
  unfold alias at h
  refine WCal.mk (f := F_InPlace_alias) rfl rfl ?_; dsimp only [F_InPlace_alias]
  (repeat' tb_start)
  refine KIte.split (fun hv => ?_) fun hv => ?_
  · rw [if_pos hv] at h
    (repeat' tb_start)
    exact h _ (by assumption) (by kct_strs)
  rw [if_neg (by rw [hv]; decide)] at h
  (repeat' tb_start)
  refine KIte.split (fun hp => ?_) fun hp => ?_
  · rw [if_pos hp] at h
    (repeat' tb_start)
    exact h _ (by assumption) (by kct_strs)
  rw [if_neg (by rw [hp]; decide)] at h
  repeat' ((fail_if_success (with_reducible show WEx _ _ _ _ (S.ite (X.cmp _ _ _) _ _ :: _) _)); tb_start)
  refine WEx.cut (UW σ p (if st.loc old = true then st.addLoc k else st) [(22, .obj σ.x), (34, .int k), (107, .int old)] H) ?_ ?_
  · (repeat' tb_start)
    refine KIte.split (fun hc => ?_) fun hc => ?_
    · rw [if_pos hc]
      (repeat' tb_start)
      exact ⟨rfl, by assumption, by kct_strs⟩
    · rw [if_neg (by rw [hc]; decide)]
      (repeat' tb_start)
      exact ⟨rfl, by assumption, by kct_strs⟩
  rintro _ H1 ⟨rfl, m1, f1⟩
  have l3 : (if st.loc old = true then st.addLoc k else st).code.length < 1000000 := by
    split
    · exact l0
    · exact l0
  generalize (if st.loc old = true then st.addLoc k else st) = st1 at m1 h l3
  unfold alias1 at h
  have l4 : (st1.see k).code.length < 1000000 := l3
  (repeat' tb_start)
  refine KIte.split (fun hq => ?_) fun hq => ?_
  · rw [if_pos hq] at h
    (repeat' tb_start)
    exact h _ (by assumption) (by kct_strs)
  · rw [if_neg (by rw [hq]; decide)] at h
    (repeat' tb_start)
    exact h _ (by assumption) (by kct_strs)
local macro_rules | `(tactic| tb_rel) => tyF "w_alias/aaal/111"

end

end
section
section
variable {H : AH} {σ : Mk} {p : Plan} {st : St} {Q : AV → AH → Prop} {d : Nat}

local macro_rules | `(tactic| tb_rel) => tyF "w_emit/al/111 w_new_temporary/a/111 w_is_void/aa w_is_permanent/aa w_place/aa w_match_variable/aal/111 w_fresh_register/aa/111 w_settle/aal/111 w_load_slot/aal/111 w_register_of/aal/111 w_introduce/aal/111 w_alias/aaal/111"

theorem settle_len (p : Plan) (k n : Int) (st : St) : (settle p k n st).code.length ≤ st.code.length + 1 := by unfold settle; split <;> simp [St.emit, St.see]
theorem regOfSt_len (p : Plan) (k : Int) (st : St) : (regOfSt p k st).code.length ≤ st.code.length + 1 := by
  unfold regOfSt; split
  · rw [load_len]; simp [St.bump]
  · (first | lia | omega)
theorem introduce_len (p : Plan) (k : Int) (st : St) : (introduce p k st).code.length ≤ st.code.length + 2 := by
  unfold introduce; split
  · (first | lia | omega)
  · have h := settle_len p k (freshN p k st) ((freshSt p k st).emit (cmd 106 [reg 32 (freshN p k st)]))
    have h2 := fresh_len p k st
    simp only [St.emit, List.length_append, List.length_cons, List.length_nil] at h
    simp only [St.emit] at *
    (first | lia | omega)
theorem alias_len (p : Plan) (k old : Int) (st : St) : (alias p k old st).code.length ≤ st.code.length + 2 := by
  have h := settle_len p k (freshN p k st) (loadSlot p old (freshN p k st) (freshSt p k st))
  have h2 := fresh_len p k st
  have h3 := load_len p old (freshN p k st) (freshSt p k st)
  unfold alias alias1
  split
  · (first | lia | omega)
  · split
    · (first | lia | omega)
    · split <;> simp only [St.emit, St.see, St.addLoc, List.length_append, List.length_cons, List.length_nil] <;> split <;> (try dsimp only) <;> (first | lia | omega)
noncomputable def unifyVars (p : Plan) (j k : Int) (st : St) : St :=
  if st.seen j = true then
    if st.seen k = true then
      if j = k then st
      else if p.perm j = true then (regOfSt p k st).emit (cmd 43 [place p j, reg 32 (freshN p k st)])
      else st.emit (cmd 43 [place p k, place p j])
    else alias p k j st
  else if st.seen k = true then alias p j k st
  else if j = k then introduce p k st
  else if (introduce p k st).seen k = true then alias p j k (introduce p k st)
  else introduce p j (introduce p k st)
theorem unifyVars_len (p : Plan) (j k : Int) (st : St) : (unifyVars p j k st).code.length ≤ st.code.length + 4 := by
  have h1 := alias_len p k j st
  have h2 := alias_len p j k st
  have h3 := introduce_len p k st
  have h4 := regOfSt_len p k st
  have h5 := alias_len p j k (introduce p k st)
  have h6 := introduce_len p j (introduce p k st)
  unfold unifyVars
  repeat' split
  all_goals first | (first | lia | omega) | (simp only [St.emit, List.length_append, List.length_cons, List.length_nil]; (first | lia | omega))
theorem roomV {a b n : Nat} (h : a < 999990) (hb : b ≤ a + n) (hn : Nat.ble n 4 = true) : b < 999999 ∧ b < 1000000 := by have := Nat.le_of_ble_eq_true hn; (first | lia | omega)
theorem w_unify_variables (m : M H σ p st) {j k : Int} (hj : p.dom j = true) (hk : p.dom k = true) (hl : st.code.length < 999990) (h : ∀ H', M H' σ p (unifyVars p j k st) → Fr σ.x [] H H' → Q .none H') : WCal (d + 4) 21 [.obj σ.x, .int j, .int k] H Q := by
  have l0 := (roomV (n := 0) hl (Nat.le_refl _) rfl).1
  have l00 := (roomV (n := 0) hl (Nat.le_refl _) rfl).2
  have l1 := (roomV hl (regOfSt_len p k st) rfl).2
  have l2 := (roomV hl (introduce_len p k st) rfl).1
  have l3 := (roomV hl (introduce_len p k st) rfl).2
  unfold unifyVars at h
  refine WCal.mk (f := F_InPlace_unify_variables) rfl rfl ?_; dsimp only [F_InPlace_unify_variables]
  (repeat' tb_start)
  refine KTrs.sp (fun hsj => ?_) fun hsj => ?_
  · rw [if_pos hsj] at h
    (repeat' tb_start)
    refine KIte.split (fun hsk => ?_) fun hsk => ?_
    · rw [if_pos hsk] at h
      (repeat' tb_start)
      refine KIte.splitd (fun e => ?_) fun e => ?_
      · rw [if_pos e] at h
        (repeat' tb_start)
        exact h _ (by assumption) (by kct_strs)
      · rw [if_neg e] at h
        (repeat' tb_start)
        refine KIte.split (fun hp => ?_) fun hp => ?_
        · rw [if_pos hp] at h
          (repeat' tb_start)
          exact h _ (by assumption) (by kct_strs)
        · rw [if_neg (by rw [hp]; decide)] at h
          (repeat' tb_start)
          exact h _ (by assumption) (by kct_strs)
    · rw [if_neg (by rw [hsk]; decide)] at h
      (repeat' tb_start)
      exact h _ (by assumption) (by kct_strs)
  · rw [if_neg (by rw [hsj]; decide)] at h
    (repeat' tb_start)
    refine KIte.split (fun hsk => ?_) fun hsk => ?_
    · rw [if_pos hsk] at h
      (repeat' tb_start)
      exact h _ (by assumption) (by kct_strs)
    · rw [if_neg (by rw [hsk]; decide)] at h
      (repeat' tb_start)
      by_cases e : j = k
      · rw [if_pos e] at h
        (repeat' tb_start)
        exact h _ (by assumption) (by kct_strs)
      · rw [if_neg e] at h
        (repeat' tb_start)
        refine KIte.split (fun hsi => ?_) fun hsi => ?_
        · rw [if_pos hsi] at h
          (repeat' tb_start)
          exact h _ (by assumption) (by kct_strs)
        · rw [if_neg (by rw [hsi]; decide)] at h
          (repeat' tb_start)
          exact h _ (by assumption) (by kct_strs)
noncomputable def Tm.isC : Tm → Bool
  | .a _ => true
  | .i _ => true
  | _ => false
theorem w_constant_cell {t : Tm} (ht : t.isC = true) (h : Q (cell t) H) : WCal (d + 1) 3 [t.av] H Q := by
  refine WCal.mk (f := F_constant_cell) rfl rfl ?_; dsimp only [F_constant_cell]
  cases t with
  | a n => (repeat' tb_start); exact h
  | i n => (repeat' tb_start); exact h
  | v _ => cases ht
  | s1 _ => cases ht
  | s2 _ _ _ => cases ht
end

end
section
noncomputable def Tm.Ok (p : Plan) : Tm → Prop
  | .v k => p.dom k = true
  | .a _ => True
  | .i _ => True
  | .s1 x => x.Ok p
  | .s2 _ x y => x.Ok p ∧ y.Ok p
noncomputable def Tm.size : Tm → Nat
  | .v _ => 1
  | .a _ => 1
  | .i _ => 1
  | .s1 x => x.size + 1
  | .s2 _ x y => x.size + y.size + 1
noncomputable def Tm.isS : Tm → Bool
  | .s1 _ => true
  | .s2 _ _ _ => true
  | _ => false
noncomputable def tg : Tm → Nat
  | .v _ => 15
  | .a _ => 19
  | .i _ => 159
  | _ => 16
theorem item_tg {H : AH} {t : Tm} : item H t.av (.int 0) = some (.str (tg t)) := by cases t <;> rfl
theorem tg_S (t : Tm) : decide (tg t = 16) = t.isS := by cases t <;> rfl
theorem tg_C {t : Tm} (h1 : t.isS = false) (h2 : decide (tg t = 15) = false) : t.isC = true := by cases t <;> first | rfl | cases h1; done | cases h2
theorem tg_v {t : Tm} (h : decide (tg t = 15) = true) : ∃ k, t = .v k := by cases t <;> first | exact ⟨_, rfl⟩ | (exact absurd (show false = true from h) (by decide))
section
variable {H : AH} {σ : Mk} {p : Plan} {st : St} {Q : AV → AH → Prop} {d : Nat}

local macro_rules | `(tactic| tb_rel) => tyF "w_emit/al/111 w_new_temporary/a/111 w_is_void/aa w_is_permanent/aa w_place/aa w_match_variable/aal/111 w_constant_cell/R"

local macro_rules | `(tactic| tb_start) => tyF "KSub2.mk+item_tg"

/-! match_arguments -/
noncomputable abbrev WI := Tm × AV
noncomputable abbrev wav (x : WI) : AV := .tup [x.1.av, x.2]
noncomputable def flushU (v : Int) (st : St) : St := if v > 0 then st.emit (cmd 62 [.int v]) else st
noncomputable def flV (v : Int) : Int := if v > 0 then 0 else v
noncomputable def maStep (p : Plan) (a : List WI × Int × St) (t : Tm) : List WI × Int × St :=
  match t with
  | .v k => if p.void k = true then (a.1, a.2.1 + 1, a.2.2) else (a.1, flV a.2.1, matchVar p k (flushU a.2.1 a.2.2))
  | .a _ => (a.1, flV a.2.1, (flushU a.2.1 a.2.2).emit (cmd 67 [cell t]))
  | .i _ => (a.1, flV a.2.1, (flushU a.2.1 a.2.2).emit (cmd 67 [cell t]))
  | _ => (a.1 ++ [(t, reg 32 (flushU a.2.1 a.2.2).next)], flV a.2.1, (flushU a.2.1 a.2.2).bump.emit (cmd 66 [reg 32 (flushU a.2.1 a.2.2).next]))
noncomputable def maAcc (p : Plan) (ts : List Tm) (st : St) : List WI × Int × St := ts.foldl (maStep p) ([], 0, st)
noncomputable def matchArgs (p : Plan) (ts : List Tm) (st : St) : List WI × St := ((maAcc p ts st).1, flushU (maAcc p ts st).2.1 (maAcc p ts st).2.2)
theorem flushU_len (v : Int) (st : St) : (flushU v st).code.length ≤ st.code.length + 1 := by unfold flushU; split <;> simp [St.emit]
theorem matchVar_len (p : Plan) (k : Int) (st : St) : (matchVar p k st).code.length = st.code.length + 1 := by
  unfold matchVar
  split
  · split <;> simp [St.emit]
  · simp [St.emit, St.see]
theorem maStep_len (p : Plan) (a : List WI × Int × St) (t : Tm) : (maStep p a t).2.2.code.length ≤ a.2.2.code.length + 2 := by
  have h := flushU_len a.2.1 a.2.2
  cases t with
  | v k =>
    unfold maStep
    dsimp only
    split
    · dsimp only; (first | lia | omega)
    · dsimp only; rw [matchVar_len]; (first | lia | omega)
  | _ => simp only [maStep, St.emit, St.bump, List.length_append, List.length_cons, List.length_nil]; (first | lia | omega)
theorem maAcc_snoc (p : Plan) (ts : List Tm) (st : St) {i : Nat} {t : Tm} (h : ts[i]? = some t) : maAcc p (ts.take (i + 1)) st = maStep p (maAcc p (ts.take i) st) t := by
  unfold maAcc
  rw [List.take_add_one, h]
  simp
theorem maAcc_len (p : Plan) (ts : List Tm) (st : St) : ∀ i, (maAcc p (ts.take i) st).2.2.code.length ≤ st.code.length + 2 * i
  | 0 => by simp [maAcc]
  | i + 1 => by
    have ih := maAcc_len p ts st i
    cases h : ts[i]? with
    | none => rw [List.take_add_one, h]; simp only [Option.toList_none, List.append_nil]; (first | lia | omega)
    | some t =>
      rw [maAcc_snoc p ts st h]
      have := maStep_len p (maAcc p (ts.take i) st) t
      (first | lia | omega)
theorem maAcc_nest (p : Plan) (ts : List Tm) (st : St) : ∀ i, (maAcc p (ts.take i) st).1.length ≤ i
  | 0 => by simp [maAcc]
  | i + 1 => by
    have ih := maAcc_nest p ts st i
    cases h : ts[i]? with
    | none => rw [List.take_add_one, h]; simp only [Option.toList_none, List.append_nil]; (first | lia | omega)
    | some t =>
      rw [maAcc_snoc p ts st h]
      generalize maAcc p (ts.take i) st = A at *
      unfold maStep
      split
      · split <;> (dsimp only; (first | lia | omega))
      all_goals (simp only [List.length_append, List.length_cons, List.length_nil]; (first | lia | omega))
theorem matchArgs_len (p : Plan) (ts : List Tm) (st : St) : (matchArgs p ts st).2.code.length ≤ st.code.length + 2 * ts.length + 1 := by
  have h := maAcc_len p ts st ts.length
  rw [List.take_length] at h
  have h2 := flushU_len (maAcc p ts st).2.1 (maAcc p ts st).2.2
  show (flushU _ _).code.length ≤ _
  (first | lia | omega)
theorem getMap {α β : Type} {f : α → β} {l : List α} {j : Nat} {v : β} (h : (l.map f)[j]? = some v) : ∃ t, l[j]? = some t ∧ v = f t := by
  rw [List.getElem?_map] at h
  obtain ⟨t, e, h⟩ := Option.map_eq_some_iff.mp h
  exact ⟨t, e, h.symm⟩
theorem snoc_of_pos {α : Type} {l : List α} (h : 0 < l.length) : ∃ k a, l = k ++ [a] ∧ k.length + 1 = l.length := by
  rcases List.eq_nil_or_concat l with e | ⟨k, a, e⟩
  · rw [e] at h; cases h
  · exact ⟨k, a, by rw [e, List.concat_eq_append], by rw [e]; simp⟩
noncomputable def voidT (p : Plan) : Tm → Bool
  | .v k => p.void k
  | _ => false
theorem maStep_void {p : Plan} {a : List WI × Int × St} {t : Tm} (h : voidT p t = true) : maStep p a t = (a.1, a.2.1 + 1, a.2.2) := by
  cases t <;> first | exact if_pos h | cases h
theorem maStep_v {p : Plan} {a : List WI × Int × St} {k : Int} (h : p.void k = false) : maStep p a (.v k) = (a.1, flV a.2.1, matchVar p k (flushU a.2.1 a.2.2)) := if_neg (by rw [h]; decide)
theorem maStep_c {p : Plan} {a : List WI × Int × St} {t : Tm} (h : t.isC = true) : maStep p a t = (a.1, flV a.2.1, (flushU a.2.1 a.2.2).emit (cmd 67 [cell t])) := by
  cases t <;> first | rfl | cases h
theorem maStep_s {p : Plan} {a : List WI × Int × St} {t : Tm} (h : t.isS = true) : maStep p a t = (a.1 ++ [(t, reg 32 (flushU a.2.1 a.2.2).next)], flV a.2.1, (flushU a.2.1 a.2.2).bump.emit (cmd 66 [reg 32 (flushU a.2.1 a.2.2).next])) := by
  cases t <;> first | rfl | cases h
theorem isS_v {t : Tm} (h : decide (tg t = 15) = true) : t.isS = false := by cases t <;> first | rfl | exact absurd (show false = true from h) (by decide)
/-- the loop over the arguments -/
inductive MA (σ : Mk) (p : Plan) (wl nl : Nat) (H0 : AH) (A : List WI × Int × St) (ρ : Loc) (H : AH) : Prop
  | mk (r1 : lookN 22 ρ = some (.obj σ.x)) (r2 : lookN 50 ρ = some (.obj wl)) (r3 : lookN 58 ρ = some (.obj nl)) (r4 : lookN 59 ρ = some (.int A.2.1)) (m : M H σ p A.2.2) (h2 : H[nl]? = some (.list (A.1.map wav))) (f : Fr σ.x [] H0 H)
/-- behind the flush -/
inductive MB (σ : Mk) (p : Plan) (wl nl : Nat) (H0 : AH) (A : List WI × Int × St) (t : Tm) (ρ : Loc) (H : AH) : Prop
  | mk (r1 : lookN 22 ρ = some (.obj σ.x)) (r2 : lookN 50 ρ = some (.obj wl)) (r3 : lookN 58 ρ = some (.obj nl)) (r4 : lookN 59 ρ = some (.int (flV A.2.1))) (r5 : lookN 60 ρ = some t.av) (m : M H σ p (flushU A.2.1 A.2.2)) (h2 : H[nl]? = some (.list (A.1.map wav))) (f : Fr σ.x [] H0 H)
/-- behind the last flush -/
inductive MC (σ : Mk) (p : Plan) (wl nl : Nat) (H0 : AH) (l : List AV) (st : St) (ρ : Loc) (H : AH) : Prop
  | mk (r2 : lookN 50 ρ = some (.obj wl)) (r3 : lookN 58 ρ = some (.obj nl)) (m : M H σ p st) (h2 : H[nl]? = some (.list l)) (f : Fr σ.x [] H0 H)
/-- the loop that empties nested -/
inductive MW (σ : Mk) (p : Plan) (wl nl : Nat) (ws : List AV) (H0 : AH) (l : List AV) (st : St) (k : Nat) (ρ : Loc) (H : AH) : Prop
  | mk (l1 l2 : List AV) (r2 : lookN 50 ρ = some (.obj wl)) (r3 : lookN 58 ρ = some (.obj nl)) (hk : k = l1.length) (hl : l = l1 ++ l2) (m : M H σ p st) (h1 : H[nl]? = some (.list l1)) (h2 : H[wl]? = some (.list (ws ++ l2.reverse))) (f : Fr σ.x [wl] H0 H)
theorem roomM1 {s n j a : Nat} (h : s + 2 * n + 2 < 1000000) (hj : j < n) (ha : a ≤ s + 2 * j) : a < 1000000 ∧ a + 1 < 1000000 := by (first | lia | omega)
theorem roomM2 {w n j a : Nat} (h : w + n < 1000000) (hj : j < n) (ha : a ≤ j) : a < 1000000 := by (first | lia | omega)
theorem roomM3 {s n a : Nat} (h : s + 2 * n + 2 < 1000000) (ha : a ≤ s + 2 * n) : a < 1000000 := by (first | lia | omega)
theorem roomM4 {α : Type} {w n : Nat} {l l1 l2 : List α} (h : w + n < 1000000) (hn : l.length ≤ n) (hl : l = l1 ++ l2) (ws : List α) (hw : ws.length = w) : l1.length < 1000000 ∧ (ws ++ l2.reverse).length + 0 + l1.length < 1000000 := by
  rw [hl, List.length_append] at hn
  rw [List.length_append, List.length_reverse]; (first | lia | omega)
theorem len_fewer {α : Type} {l : List α} {x : α} : l.length < (l ++ [x]).length := by rw [List.length_append]; exact Nat.lt_succ_self _
theorem Fr.weak {x : Nat} {W : List Nat} {H H' : AH} (f : Fr x [] H H') : Fr x W H H' := ⟨f.len, fun i hi hx _ => f.same i hi hx List.not_mem_nil⟩
theorem w_match_arguments (m : M H σ p st) {ts : List Tm} {wl : Nat} {ws : List AV} (ho : ∀ t ∈ ts, t.Ok p) (hw : H[wl]? = some (.list ws)) (hx : σ.x + 4 ≤ wl) (hl : st.code.length + 2 * ts.length + 2 < 1000000) (hz : ws.length + ts.length < 1000000)
    (h : ∀ H', M H' σ p (matchArgs p ts st).2 → H'[wl]? = some (.list (ws ++ ((matchArgs p ts st).1.map wav).reverse)) → Fr σ.x [wl] H H' → Q .none H') : WCal (d + 3) 12 [.obj σ.x, .tup (ts.map Tm.av), .obj wl] H Q := by
  have hwlt := lt_of_get hw
  refine WCal.mk (f := F_Matcher_match_arguments) rfl rfl ?_; dsimp only [F_Matcher_match_arguments]
  (repeat' tb_start)
  rename_i nl H1 e1 h1 m1 f1
  have hnH : H.length ≤ nl := Nat.le_of_eq e1.symm
  have hnx : σ.x + 4 ≤ nl := Nat.le_trans m.lt hnH
  have hnw : wl ≠ nl := by rw [e1]; exact Nat.ne_of_lt hwlt
  have hwn : nl ≠ wl := hnw.symm
  refine WEx1.for rfl (WSrc.any rfl (WEv.nm rfl rfl ⟨_, rfl, _, rfl, ?_⟩))
  refine WFo.tup (fun j ρ H' => MA σ p wl nl H (maAcc p (ts.take j) st) ρ H') ?_ ?_ _ 0 _ _ rfl (Nat.zero_le _) ⟨rfl, rfl, rfl, rfl, m1, h1, f1⟩
  · rintro j v ρ H' hv ⟨r1, r2, r3, r4, m2, h2, f2⟩
    obtain ⟨t, ht, rfl⟩ := getMap hv
    have hj : j < ts.length := (List.getElem?_eq_some_iff.mp ht).1
    have hok := ho t (List.mem_of_getElem? ht)
    have hA := roomM1 hl hj (maAcc_len p ts st j)
    have hN : ((maAcc p (ts.take j) st).1.map wav).length < 1000000 := roomM2 hz hj (by rw [List.length_map]; exact maAcc_nest p ts st j)
    rw [maAcc_snoc p ts st ht]
    generalize maAcc p (ts.take j) st = A at *
    have hA1 := hA.1
    have hF : (flushU A.2.1 A.2.2).code.length < 1000000 := Nat.lt_of_le_of_lt (flushU_len A.2.1 A.2.2) hA.2
    refine WEx.cons (WEx1.ite (WTr.as (voidT p t) ?_ ?_))
    · cases htv : decide (tg t = 15) with
      | true =>
        obtain ⟨k, rfl⟩ := tg_v htv
        have hk : p.dom k = true := hok
        (repeat' tb_start)
      | false =>
        rw [show voidT p t = false by cases t <;> first | rfl | exact absurd (show true = false from htv) (by decide)]
        (repeat' tb_start)
    refine KIte.split (fun hv => ?_) fun hv => ?_
    · rw [maStep_void hv]
      (repeat' tb_start)
      exact ⟨by kat_tups, by kat_tups, by kat_tups, by kat_tups, by assumption, by kp_flats, by kct_strs⟩
    repeat' ((fail_if_success (with_reducible show WEx _ _ _ _ (S.ite _ _ _ :: _) _)); tb_start)
    refine WEx.cut (MB σ p wl nl H A t) ?_ ?_
    · (repeat' tb_start)
      refine KIte.splitd (fun hp => ?_) fun hp => ?_
      · (repeat' tb_start)
        exact ⟨by kat_tups, by kat_tups, by kat_tups, by rw [show flV A.2.1 = 0 from if_pos hp]; kat_tups, by kat_tups, by rw [show flushU A.2.1 A.2.2 = _ from if_pos hp]; assumption, by kp_flats, by kct_strs⟩
      · (repeat' tb_start)
        exact ⟨by kat_tups, by kat_tups, by kat_tups, by rw [show flV A.2.1 = A.2.1 from if_neg hp]; kat_tups, by kat_tups, by rw [show flushU A.2.1 A.2.2 = _ from if_neg hp]; assumption, by kp_flats, by kct_strs⟩
    rintro ρ3 H3 ⟨s1, s2, s3, s4, s5, m3, g3, f3⟩
    (repeat' tb_start)
    refine KIte.split (fun htv => ?_) fun htv => ?_
    · obtain ⟨k, rfl⟩ := tg_v htv
      have hk : p.dom k = true := hok
      rw [maStep_v hv]
      (repeat' tb_start)
      exact ⟨by kat_tups, by kat_tups, by kat_tups, by kat_tups, by assumption, by kp_flats, by kct_strs⟩
    · have tu := tg_S t
      (repeat' tb_start)
      refine KIte.split (fun hs => ?_) fun hs => ?_
      · rw [maStep_s (tu.symm.trans hs)]
        (repeat' tb_start)
        exact ⟨by kat_tups, by kat_tups, by kat_tups, by kat_tups, by assumption, (by rw [List.map_append]; show _ = some (AO.list (_ ++ [AV.tup [_, _]])); kp_flats), by kct_strs⟩
      · have hc := tg_C (tu.symm.trans hs) htv
        rw [maStep_c hc]
        (repeat' tb_start)
        exact ⟨by kat_tups, by kat_tups, by kat_tups, by kat_tups, by assumption, by kp_flats, by kct_strs⟩
  · rintro ρ H' ⟨r1, r2, r3, r4, m2, h2, f2⟩
    rw [List.length_map, List.take_length] at r4 m2 h2
    have hA := maAcc_len p ts st ts.length
    have hN := maAcc_nest p ts st ts.length
    rw [List.take_length] at hA hN
    unfold matchArgs at h
    generalize maAcc p ts st = A at *
    have hA1 := roomM3 hl hA
    refine ⟨_, rfl, ?_⟩
    refine WEx.cut (MC σ p wl nl H (A.1.map wav) (flushU A.2.1 A.2.2)) ?_ ?_
    · (repeat' tb_start)
      refine KIte.splitd (fun hp => ?_) fun hp => ?_
      · (repeat' tb_start)
        exact ⟨by kat_tups, by kat_tups, by rw [show flushU A.2.1 A.2.2 = _ from if_pos hp]; assumption, by kp_flats, by kct_strs⟩
      · (repeat' tb_start)
        exact ⟨by kat_tups, by kat_tups, by rw [show flushU A.2.1 A.2.2 = _ from if_neg hp]; assumption, by kp_flats, by kct_strs⟩
    rintro ρ3 H3 ⟨s2, s3, m3, h3, f3⟩
    refine WEx.cons (WEx1.whl (WWh.inv (MW σ p wl nl ws H (A.1.map wav) (flushU A.2.1 A.2.2)) ?_ _ (A.1.map wav).length _ _ (Nat.lt_succ_self _) ⟨_, [], s2, s3, rfl, (List.append_nil _).symm, m3, h3, by rw [List.reverse_nil, List.append_nil]; exact f3.get hw (.inr hx) List.not_mem_nil, f3.weak⟩))
    rintro k ρ' H4 ⟨l1, l2, q2, q3, hk, el, m4, g1, g2, f4⟩
    have hr := roomM4 hz (by rw [List.length_map]; exact hN) el ws rfl
    rcases List.eq_nil_or_concat l1 with e | ⟨l3, v, e⟩
    · subst e
      (repeat' tb_start)
      rw [List.nil_append] at el
      rw [← el] at g2
      exact h _ m4 g2 f4
    · rw [List.concat_eq_append] at e
      subst e
      have hr1 : l3.length < 1000000 := Nat.lt_trans len_fewer hr.1
      have hr2 : (ws ++ l2.reverse).length < 1000000 := Nat.lt_of_le_of_lt (Nat.le_add_right _ _) hr.2
      have hr3 := Nat.le_of_lt hr.1
      (repeat' tb_start)
      refine ⟨l3.length, by rw [hk]; exact len_fewer, ⟨l3, v :: l2, by kat_tups, by kat_tups, rfl, by rw [el, List.append_assoc]; rfl, by assumption, by kp_flats, ?_, by kct_strs⟩⟩
      rw [List.reverse_cons, ← List.append_assoc]; kp_flats
end

end
section
section
variable {H : AH} {σ : Mk} {p : Plan} {st : St} {Q : AV → AH → Prop} {d : Nat}

local macro_rules | `(tactic| tb_rel) => tyF "w_emit/al/111 w_new_temporary/a/111 w_is_void/aa w_is_permanent/aa w_place/aa w_match_variable/aal/111 w_constant_cell/R"

noncomputable def Tm.args : Tm → List Tm
  | .s1 x => [x]
  | .s2 _ x y => [x, y]
  | _ => []
theorem Tm.size_pos (t : Tm) : 0 < t.size := by cases t <;> simp [Tm.size]
noncomputable def fnS : Tm → Int
  | .s1 _ => 12
  | .s2 d _ _ => if d = true then 0 else 14
  | _ => 0
theorem item_args {t : Tm} (hs : t.isS = true) : item H t.av (.int 2) = some (.tup (t.args.map Tm.av)) := by cases t <;> first | rfl | cases hs
theorem fnS_eq (t : Tm) (hs : t.isS = true) : item H t.av (.int 1) = some (.int (fnS t)) := by cases t <;> first | rfl | cases hs
noncomputable def headIns (t : Tm) (r : AV) : AV := if fnS t = 0 then cmd 55 [r] else cmd 56 [.int (fnS t), r]
noncomputable def matchLoop (p : Plan) : Nat → List WI → St → St
  | 0, _, st => st
  | _ + 1, [], st => st
  | n + 1, x :: W, st => matchLoop p n ((matchArgs p x.1.args (st.emit (headIns x.1 x.2))).1 ++ W) (matchArgs p x.1.args (st.emit (headIns x.1 x.2))).2
noncomputable def wsum : List WI → Nat
  | [] => 0
  | x :: W => x.1.size + wsum W
theorem wsum_append (a b : List WI) : wsum (a ++ b) = wsum a + wsum b := by
  induction a with
  | nil => simp [wsum]
  | cons x a ih => simp only [List.cons_append, wsum, ih]; (first | lia | omega)
theorem wsum_ge : ∀ W : List WI, W.length ≤ wsum W
  | [] => Nat.le_refl _
  | x :: W => by
    have := wsum_ge W
    have := x.1.size_pos
    simp only [wsum, List.length_cons]
    (first | lia | omega)
noncomputable def tsum : List Tm → Nat
  | [] => 0
  | t :: l => t.size + tsum l
theorem maAcc_foldl (p : Plan) : ∀ (ts : List Tm) (A : List WI × Int × St), wsum (ts.foldl (maStep p) A).1 ≤ wsum A.1 + tsum ts
  | [], A => by simp [tsum]
  | t :: ts, A => by
    have ih := maAcc_foldl p ts (maStep p A t)
    have h1 : wsum (maStep p A t).1 ≤ wsum A.1 + t.size := by
      unfold maStep
      split
      · split <;> (dsimp only; (first | lia | omega))
      all_goals (simp only [wsum_append, wsum]; (first | lia | omega))
    simp only [List.foldl_cons, tsum]
    (first | lia | omega)
theorem maNest_sum (p : Plan) (ts : List Tm) (st : St) : wsum (matchArgs p ts st).1 ≤ tsum ts := by
  have := maAcc_foldl p ts ([], 0, st)
  unfold matchArgs maAcc
  simpa [wsum] using this
noncomputable def WOk (p : Plan) (x : WI) : Prop := x.1.isS = true ∧ x.1.Ok p
theorem maNest_ok (p : Plan) : ∀ (ts : List Tm) (A : List WI × Int × St), (∀ t ∈ ts, t.Ok p) → (∀ x ∈ A.1, WOk p x) → ∀ x ∈ (ts.foldl (maStep p) A).1, WOk p x
  | [], _, _, h => h
  | t :: ts, A, ho, h => by
    refine maNest_ok p ts (maStep p A t) (fun t' ht' => ho t' (.tail _ ht')) ?_
    have hot := ho t (.head _)
    intro x hx
    unfold maStep at hx
    cases t with
    | v k =>
      dsimp only at hx
      split at hx <;> exact h x hx
    | a n => exact h x hx
    | i n => exact h x hx
    | s1 y =>
      rcases List.mem_append.mp hx with hx | hx
      · exact h x hx
      · rw [List.mem_singleton.mp hx]; exact ⟨rfl, hot⟩
    | s2 d y z =>
      rcases List.mem_append.mp hx with hx | hx
      · exact h x hx
      · rw [List.mem_singleton.mp hx]; exact ⟨rfl, hot⟩
theorem args_len (t : Tm) : t.args.length ≤ 2 := by cases t <;> simp [Tm.args]
theorem args_sum (t : Tm) : tsum t.args + 1 ≤ t.size := by cases t <;> simp [Tm.args, tsum, Tm.size] <;> (first | lia | omega)
theorem args_ok {p : Plan} {t : Tm} (h : t.Ok p) : ∀ u ∈ t.args, u.Ok p := by
  cases t with
  | s1 x => intro u hu; rw [List.mem_singleton.mp hu]; exact h
  | s2 _ x y =>
    intro u hu
    rcases List.mem_cons.mp hu with hu | hu
    · rw [hu]; exact h.1
    · rw [List.mem_singleton.mp hu]; exact h.2
  | _ => intro u hu; cases hu
theorem matchLoop_len (p : Plan) : ∀ (n : Nat) (W : List WI) (st : St), (matchLoop p n W st).code.length ≤ st.code.length + 6 * n
  | 0, _, st => by simp [matchLoop]
  | _ + 1, [], st => by simp [matchLoop]
  | n + 1, x :: W, st => by
    have h1 := matchArgs_len p x.1.args (st.emit (headIns x.1 x.2))
    have h2 := matchLoop_len p n ((matchArgs p x.1.args (st.emit (headIns x.1 x.2))).1 ++ W) (matchArgs p x.1.args (st.emit (headIns x.1 x.2))).2
    have h3 := args_len x.1
    have h4 : (st.emit (headIns x.1 x.2)).code.length = st.code.length + 1 := by simp [St.emit]
    rw [matchLoop]
    (first | lia | omega)
theorem matchLoop_nil (p : Plan) (n : Nat) (st : St) : matchLoop p n [] st = st := by cases n <;> rfl
theorem fuelM {x : WI} {W : List WI} {n : Nat} (h : wsum (x :: W) ≤ n) : ∃ n', n = n' + 1 := by
  have h1 := x.1.size_pos
  have h2 : wsum (x :: W) = x.1.size + wsum W := rfl
  exact ⟨n - 1, by (first | lia | omega)⟩
theorem roomL1 {c n : Nat} (h : c + 6 * (n + 1) + 10 < 1000000) : c + 16 ≤ 1000000 := by (first | lia | omega)
theorem roomL2 {c n k : Nat} (h : c + 6 * (n + 1) + 10 < 1000000) (hk : k ≤ 2) : c + 1 + 2 * k + 2 < 1000000 := by (first | lia | omega)
theorem roomL3 {c n k : Nat} {x : WI} {W : List WI} (h : c + 6 * (n + 1) + 10 < 1000000) (hn : wsum (x :: W) ≤ n + 1) (hk : k ≤ 2) : (W.map wav).reverse.length + k + 14 ≤ 1000000 := by
  have h1 := wsum_ge (x :: W)
  rw [List.length_reverse, List.length_map]
  rw [List.length_cons] at h1
  (first | lia | omega)
theorem roomL4 {c n k b : Nat} (h : c + 6 * (n + 1) + 10 < 1000000) (hk : k ≤ 2) (hb : b ≤ c + 1 + 2 * k + 1) : b + 6 * n + 10 < 1000000 := by (first | lia | omega)
theorem wsum_less {p : Plan} {x : WI} {W : List WI} (st : St) : wsum ((matchArgs p x.1.args st).1 ++ W) < wsum (x :: W) := by
  have h1 := maNest_sum p x.1.args st
  have h2 := args_sum x.1
  rw [wsum_append]
  show _ < x.1.size + wsum W
  (first | lia | omega)
/-- the loop of match -/
inductive ML (σ : Mk) (p : Plan) (t : Tm) (r : AV) (st : St) (wl : Nat) (H0 : AH) (k : Nat) (ρ : Loc) (H : AH) : Prop
  | mk (n : Nat) (W : List WI) (st' : St) (r1 : lookN 22 ρ = some (.obj σ.x)) (r2 : lookN 50 ρ = some (.obj wl)) (hk : k = wsum W) (hW : ∀ x ∈ W, WOk p x) (m : M H σ p st') (e : matchLoop p t.size [(t, r)] st = matchLoop p n W st') (hn : wsum W ≤ n)
      (hc : st'.code.length + 6 * n + 10 < 1000000) (h1 : H[wl]? = some (.list (W.map wav).reverse)) (f : Fr σ.x [] H0 H)
/-- behind its instruction -/
inductive MI (σ : Mk) (p : Plan) (st : St) (wl : Nat) (L : List AV) (x : Tm) (H0 : AH) (ρ : Loc) (H : AH) : Prop
  | mk (r1 : lookN 22 ρ = some (.obj σ.x)) (r2 : lookN 50 ρ = some (.obj wl)) (r3 : lookN 52 ρ = some x.av) (m : M H σ p st) (h1 : H[wl]? = some (.list L)) (f : Fr σ.x [] H0 H)
local macro_rules | `(tactic| tb_start) => tyF "KSub2.mk+item_args/a KSub2.mk+fnS_eq/uA"

theorem w_match (m : M H σ p st) {t : Tm} {r : AV} (hs : t.isS = true) (ho : t.Ok p) (hl : st.code.length + 6 * t.size + 10 < 1000000) (h : ∀ H', M H' σ p (matchLoop p t.size [(t, r)] st) → Fr σ.x [] H H' → Q .none H') : WCal (d + 4) 11 [.obj σ.x, t.av, r] H Q := by
  have hml := m.lt
  refine WCal.mk (f := F_Matcher_match) rfl rfl ?_; dsimp only [F_Matcher_match]
  (repeat' tb_start)
  rename_i wl H1 e1 h1 m1 f1
  have hHw : H.length ≤ wl := Nat.le_of_eq e1.symm
  have hwx : σ.x + 4 ≤ wl := Nat.le_trans hml hHw
  refine WEx1.whl (WWh.inv (ML σ p t r st wl H) ?_ _ (wsum [(t, r)]) _ _ (Nat.lt_succ_self _)
    ⟨t.size, [(t, r)], st, rfl, rfl, rfl, fun x hx => by rw [List.mem_singleton.mp hx]; exact ⟨hs, ho⟩, m1, rfl, Nat.le_refl _, hl, h1, f1⟩)
  rintro k ρ' H2 ⟨n, W, st', r1, r2, hk, hW, m2, e2, hn, hc, h2, f2⟩
  cases W with
  | nil =>
    rw [matchLoop_nil] at e2
    rw [e2] at h
    (repeat' tb_start)
    exact h _ m2 f2
  | cons x W' =>
    obtain ⟨n, rfl⟩ := fuelM hn
    have hcl := roomL1 hc
    have hWl : (W'.map wav).reverse.length + 16 ≤ 1000000 := roomL3 hc hn (Nat.le_refl 2)
    rw [List.map_cons, List.reverse_cons] at h2
    obtain ⟨hxs, hxo⟩ := hW x (.head _)
    have ha3 := args_ok hxo
    repeat' ((fail_if_success (with_reducible show WEx _ _ _ _ (S.ite _ _ _ :: _) _)); tb_start)
    refine WEx.cut (MI σ p (st'.emit (headIns x.1 x.2)) wl (W'.map wav).reverse x.1 H) ?_ ?_
    · (repeat' tb_start)
      refine KIte.splitd (fun hz => ?_) fun hz => ?_
      · rw [show headIns x.1 x.2 = _ from if_pos hz]
        (repeat' tb_start)
        exact ⟨by kat_tups, by kat_tups, by kat_tups, by assumption, by kp_flats, by kct_strs⟩
      · rw [show headIns x.1 x.2 = _ from if_neg hz]
        (repeat' tb_start)
        exact ⟨by kat_tups, by kat_tups, by kat_tups, by assumption, by kp_flats, by kct_strs⟩
    rintro ρ3 H3 ⟨s1, s2, s3, m3, g3, f3⟩
    have h4 : (st'.emit (headIns x.1 x.2)).code.length = st'.code.length + 1 := List.length_append
    have hal := matchArgs_len p x.1.args (st'.emit (headIns x.1 x.2))
    rw [h4] at hal
    (repeat' tb_start)
    refine w_match_arguments m3 ha3 g3 hwx (by rw [h4]; exact roomL2 hc (args_len x.1)) (Nat.lt_of_lt_of_le (Nat.lt_add_of_pos_right (by decide)) (roomL3 hc hn (args_len x.1))) fun H4 m4 g4 f4 => ?_
    (repeat' tb_start)
    refine ⟨_, by rw [hk]; exact wsum_less (p := p) (st'.emit (headIns x.1 x.2)), ⟨n, _, _, by kat_tups, by kat_tups, rfl, fun y hy => ?_, m4, e2, Nat.le_of_lt_succ (Nat.lt_of_lt_of_le (wsum_less _) hn), roomL4 hc (args_len x.1) hal, ?_, by kct_strs⟩⟩
    · rcases List.mem_append.mp hy with hy | hy
      · exact maNest_ok p x.1.args ([], 0, st'.emit (headIns x.1 x.2)) ha3 (fun _ h => by cases h) y hy
      · exact hW y (.tail _ hy)
    · rw [g4, List.map_append, List.reverse_append]
end

end
section
section
variable {H : AH} {σ : Mk} {p : Plan} {st : St} {Q : AV → AH → Prop} {d : Nat}

local macro_rules | `(tactic| tb_rel) => tyF "w_emit/al/111 w_new_temporary/a/111 w_is_void/aa w_is_permanent/aa w_place/aa w_match_variable/aal/111 w_set_variable/aal/111 w_constant_cell/R w_match/aRol/111"

noncomputable def headArg (p : Plan) (t : Tm) (r : AV) (st : St) : St :=
  match t with
  | .v k => if p.void k = true then st else if st.seen k = true then st.emit (cmd 43 [place p k, r]) else ((st.see k).addLoc k).emit (cmd 46 [place p k, r])
  | .a _ => st.emit (cmd 48 [cell t, r])
  | .i _ => st.emit (cmd 48 [cell t, r])
  | _ => matchLoop p t.size [(t, r)] st
theorem headArg_len (p : Plan) (t : Tm) (r : AV) (st : St) : (headArg p t r st).code.length ≤ st.code.length + 6 * t.size := by
  cases t with
  | v k => unfold headArg; dsimp only; split; · (first | lia | omega)
           · split <;> simp [St.emit, St.see, St.addLoc, Tm.size]
  | a _ => simp [headArg, St.emit, Tm.size]
  | i _ => simp [headArg, St.emit, Tm.size]
  | s1 x => exact matchLoop_len p _ _ st
  | s2 b x y => exact matchLoop_len p _ _ st
theorem headArg_s {t : Tm} {r : AV} (h : t.isS = true) : headArg p t r st = matchLoop p t.size [(t, r)] st := by cases t <;> first | rfl | cases h
theorem headArg_c {t : Tm} {r : AV} (h : t.isC = true) : headArg p t r st = st.emit (cmd 48 [cell t, r]) := by cases t <;> first | rfl | cases h
section
local macro_rules | `(tactic| tb_start) => tyF "KSub2.mk+item_tg"

theorem w_head_argument (m : M H σ p st) {t : Tm} {r : AV} (ho : t.Ok p) (hl : st.code.length + 6 * t.size + 12 < 1000000) (h : ∀ H', M H' σ p (headArg p t r st) → Fr σ.x [] H H' → Q .none H') : WCal (d + 5) 10 [.obj σ.x, t.av, r] H Q := by
  have l0 : st.code.length < 1000000 := by (first | lia | omega)
  have l1 : st.code.length + 6 * t.size + 10 < 1000000 := by (first | lia | omega)
  refine WCal.mk (f := F_Matcher_head_argument) rfl rfl ?_; dsimp only [F_Matcher_head_argument]
  (repeat' tb_start)
  refine KIte.split (fun htv => ?_) fun htv => ?_
  · obtain ⟨k, rfl⟩ := tg_v htv
    have hk : p.dom k = true := ho
    have h5 := p.five k hk
    unfold headArg at h
    dsimp only at h
    (repeat' tb_start)
    refine KIte.split (fun hv => ?_) fun hv => ?_
    · rw [if_pos hv] at h
      (repeat' tb_start)
      exact h _ (by assumption) (by kct_strs)
    rw [if_neg (by rw [hv]; decide)] at h
    (repeat' tb_start)
    refine KIte.split (fun hs => ?_) fun hs => ?_
    · rw [if_pos hs] at h
      (repeat' tb_start)
      exact h _ (by assumption) (by kct_strs)
    · rw [if_neg (by rw [hs]; decide)] at h
      (repeat' tb_start)
      exact h _ (by assumption) (by kct_strs)
  have tu := tg_S t
  (repeat' tb_start)
  refine KIte.split (fun hs => ?_) fun hs => ?_
  · have hs := tu.symm.trans hs
    rw [headArg_s hs] at h
    (repeat' tb_start)
    exact h _ (by assumption) (by kct_strs)
  · have hc := tg_C (tu.symm.trans hs) htv
    rw [headArg_c hc] at h
    (repeat' tb_start)
    exact h _ (by assumption) (by kct_strs)
end
/-! wait_for_nested, take_nested -/
noncomputable def fav (b : Bool) (t : Tm) : AV := .tup [.bool b, t.av]
/-- one place, kept for later -/
inductive WK (σ : Mk) (p : Plan) (st : St) (wl : Nat) (L : List AV) (H0 : AH) (ρ0 ρ : Loc) (H : AH) : Prop
  | mk (e : ρ = ρ0) (m : M H σ p st) (h1 : H[wl]? = some (.list L)) (f : Fr σ.x [wl] H0 H)
noncomputable def wS (ts : List Tm) : List AV := (ts.filter Tm.isS).map (fav false)
theorem wS_two (x y : Tm) : wS [x] ++ wS [y] = wS [x, y] := by
  unfold wS
  rw [← List.map_append, ← List.filter_append]; rfl
theorem wS_len (x : Tm) : (wS [x]).length ≤ 1 := by unfold wS; rw [List.length_map]; exact List.length_filter_le _ _
section
local macro_rules | `(tactic| tb_start) => tyUR

local macro_rules | `(tactic| tb_start) => tyF "KSub2.mk+item_tg WEv.nm/AA KSub2.mk+ha/u WEv.bm/Nr"

theorem w_wait1 {ρ : Loc} (m : M H σ p st) {t : Tm} {x wl : Nat} {i : Int} {as ws : List AV} (hs : F_Builder_wait_for_nested.sc.lookup x = some .local) (r1 : lookN 61 ρ = some (.tup as)) (r2 : lookN 70 ρ = some (.obj wl)) (r4 : lookN x ρ = some (.int i))
    (ha : ∀ H, item H (.tup as) (.int i) = some t.av) (hw : H[wl]? = some (.list ws)) (hx : σ.x + 4 ≤ wl) (hz : ws.length < 1000000) :
    WEx1 d F_Builder_wait_for_nested.sc ρ H (.ite (.cmp .Eq (.sub (.sub (.nm 61) (.nm x)) (.int 0)) (.str 16)) [.ex (.call (.att (.nm 70) 0) [.tup [.bool false, .sub (.nm 61) (.nm x)]])] []) (KN (WK σ p st wl (ws ++ wS [t]) H ρ)) := by
  have tu := tg_S t
  dsimp only [F_Builder_wait_for_nested] at hs ⊢
  (repeat' tb_start)
  refine KIte.split (fun h => ?_) fun h => ?_
  · rw [show wS [t] = [fav false t] by unfold wS; rw [List.filter_cons, if_pos (tu.symm.trans h)]; rfl]
    (repeat' tb_start)
    exact ⟨rfl, by assumption, by assumption, by kct_strs⟩
  · rw [show wS [t] = [] by unfold wS; rw [List.filter_cons, if_neg (by rw [tu.symm.trans h]; decide)]; rfl, List.append_nil]
    (repeat' tb_start)
    exact ⟨rfl, m, hw, Fr.refl _⟩
end
section
local macro_rules | `(tactic| tb_start) => tyUR

theorem w_wait (m : M H σ p st) {t : Tm} (hs : t.isS = true) {wl : Nat} {ws : List AV} (hw : H[wl]? = some (.list ws)) (hx : σ.x + 4 ≤ wl) (hz : ws.length + 2 < 1000000)
    (h : ∀ H', M H' σ p st → H'[wl]? = some (.list (ws ++ (t.args.filter Tm.isS).map (fav false))) → Fr σ.x [wl] H H' → Q .none H') : WCal (d + 2) 15 [.obj σ.x, .tup (t.args.map Tm.av), .obj wl] H Q := by
  have hz1 : ws.length < 1000000 := Nat.lt_of_le_of_lt (Nat.le_add_right _ _) hz
  refine WCal.mk (f := F_Builder_wait_for_nested) rfl rfl ?_; dsimp only [F_Builder_wait_for_nested]
  cases t with
  | s1 x =>
    repeat' ((fail_if_success (with_reducible show WEx _ _ _ _ (S.ite _ _ _ :: _) _)); tb_start)
    refine WEx.cut _ (w_wait1 (i := 0) m rfl (by kat_tups) (by kat_tups) (by kat_tups) (fun _ => rfl) hw hx hz1) ?_
    rintro ρ' H2 ⟨rfl, m2, g1, f2⟩
    (repeat' tb_start)
    exact h _ m2 g1 f2
  | s2 b x y =>
    repeat' ((fail_if_success (with_reducible show WEx _ _ _ _ (S.ite _ _ _ :: _) _)); tb_start)
    refine WEx.cut _ (w_wait1 (i := 0) m rfl (by kat_tups) (by kat_tups) (by kat_tups) (fun _ => rfl) hw hx hz1) ?_
    rintro ρ' H2 ⟨rfl, m2, g1, f2⟩
    repeat' ((fail_if_success (with_reducible show WEx _ _ _ _ (S.ite _ _ _ :: _) _)); tb_start)
    refine WEx.cut _ (w_wait1 (i := 1) m2 rfl (by kat_tups) (by kat_tups) (by kat_tups) (fun _ => rfl) g1 hx (by rw [List.length_append]; exact Nat.lt_of_le_of_lt (Nat.add_le_add_left (wS_len x) _) (Nat.lt_of_le_of_lt (Nat.le_succ _) hz))) ?_
    rintro ρ' H3 ⟨rfl, m3, k1, f3⟩
    rw [List.append_assoc, wS_two] at k1
    (repeat' tb_start)
    exact h _ m3 k1 (f2.trans f3 (subOne (.inl List.mem_cons_self)))
  | _ => cases hs
end
end

end
section
section
variable {H : AH} {σ : Mk} {p : Plan} {st : St} {Q : AV → AH → Prop} {d : Nat}

local macro_rules | `(tactic| tb_rel) => tyF "w_emit/al/111 w_new_temporary/a/111 w_is_void/aa w_is_permanent/aa w_place/aa w_match_variable/aal/111 w_set_variable/aal/111 w_constant_cell/R w_match/aRol/111"

inductive Pc where
  | tm (t : Tm)
  | rg (n : Int)
noncomputable def Pc.av : Pc → AV
  | .tm t => t.av
  | .rg n => reg 32 n
noncomputable def take1 (t : Tm) (B : List Int) : Pc × List Int := if t.isS = true then (.rg (B.headD 0), B.tail) else (.tm t, B)
noncomputable def takeP : List Tm → List Int → List Pc × List Int
  | [], B => ([], B)
  | t :: ts, B => ((take1 t B).1 :: (takeP ts (take1 t B).2).1, (takeP ts (take1 t B).2).2)
noncomputable def bav (B : List Int) : List AV := (B.map (reg 32)).reverse
theorem bav_cons (b : Int) (B : List Int) : bav (b :: B) = bav B ++ [reg 32 b] := by simp [bav]
/-- one place of the pieces, filled from built or left -/
inductive TK (σ : Mk) (p : Plan) (st : St) (bl pl : Nat) (B : List Int) (P : List AV) (H0 : AH) (ρ0 ρ : Loc) (H : AH) : Prop
  | mk (e : ρ = ρ0) (m : M H σ p st) (h1 : H[bl]? = some (.list (bav B))) (h2 : H[pl]? = some (.list P)) (f : Fr σ.x [bl, pl] H0 H)
theorem lt_ne {a b : Nat} (h : a < b) : b ≠ a := Nat.ne_of_gt h
theorem inB {P : List AV} {i : Int} {n : Nat} (hn : P.length = n) (h : 0 ≤ i ∧ i < n ∧ n ≤ 1000000) : 0 ≤ i ∧ i < P.length ∧ P.length ≤ 1000000 := by rw [hn]; exact h
theorem take1_le (t : Tm) (B : List Int) : (take1 t B).2.length ≤ B.length := by
  unfold take1
  split
  · rw [List.length_tail]; exact Nat.sub_le _ _
  · exact Nat.le_refl _
theorem take1_some {t : Tm} {B : List Int} (hs : t.isS = true) (hB : 0 < B.length) : ∃ b C, B = b :: C ∧ take1 t B = (.rg b, C) := by
  cases B with
  | nil => cases hB
  | cons b C => exact ⟨b, C, rfl, if_pos hs⟩
theorem bav_len (B : List Int) : (bav B).length = B.length := by simp [bav]
theorem need1 {x : Tm} {ts : List Tm} {n : Nat} (h : ((x :: ts).filter Tm.isS).length ≤ n) (hx : x.isS = true) : 0 < n := by
  rw [List.filter_cons, if_pos hx] at h
  exact Nat.lt_of_lt_of_le (Nat.succ_pos _) h
theorem need2 {x : Tm} {ts : List Tm} {B : List Int} (h : ((x :: ts).filter Tm.isS).length ≤ B.length) : (ts.filter Tm.isS).length ≤ (take1 x B).2.length := by
  rw [List.filter_cons] at h
  unfold take1
  by_cases hx : x.isS = true
  · rw [if_pos hx] at h
    rw [if_pos hx, List.length_tail]
    exact Nat.le_sub_of_add_le h
  · rw [if_neg hx] at h
    rw [if_neg hx]; exact h
theorem Fr.same2 {x a b n : Nat} {H H1 H2 : AH} (f : Fr x [] H H1) (g : Fr x [a, b] H1 H2) (hb : n ≤ b) (hn : n = H.length) : Fr x [a] H H2 := f.weak.trans g (subTwo (.inl List.mem_cons_self) (.inr (hn ▸ hb)))
theorem Fr.same3 {x a b n : Nat} {H H1 H2 : AH} (f : Fr x [a] H H1) (g : Fr x [a, b] H1 H2) (hb : n ≤ b) (hn : n = H.length) : Fr x [a] H H2 := f.trans g (subTwo (.inl List.mem_cons_self) (.inr (hn ▸ hb)))
section
local macro_rules | `(tactic| tb_start) => tyUR

local macro_rules | `(tactic| tb_start) => tyF "KSub2.mk+item_tg WEv.nm/AA KSub2.mk+ha/u"

theorem w_take1 {ρ : Loc} (m : M H σ p st) {t : Tm} {x : Nat} {i : Int} {as P : List AV} {bl pl : Nat} {B : List Int} (hs : F_Builder_take_nested.sc.lookup x = some .local) (r1 : lookN 61 ρ = some (.tup as)) (r2 : lookN 71 ρ = some (.obj bl)) (r3 : lookN 74 ρ = some (.obj pl)) (r4 : lookN x ρ = some (.int i))
    (ha : ∀ H, item H (.tup as) (.int i) = some t.av) (hw : H[bl]? = some (.list (bav B))) (hp : H[pl]? = some (.list P)) (hi : 0 ≤ i ∧ i < P.length ∧ P.length ≤ 1000000) (hx : σ.x + 4 ≤ bl) (hy : σ.x + 4 ≤ pl) (hn : pl ≠ bl) (hz : B.length < 1000000) (hB : t.isS = true → 0 < B.length) (he : P.set i.toNat t.av = P) :
    WEx1 d F_Builder_take_nested.sc ρ H (.ite (.cmp .Eq (.sub (.sub (.nm 61) (.nm x)) (.int 0)) (.str 16)) [.asg (.sub (.nm 74) (.nm x)) (.call (.att (.nm 71) 1) [])] []) (KN (TK σ p st bl pl (take1 t B).2 (P.set i.toNat (take1 t B).1.av) H ρ)) := by
  have tu := tg_S t
  have hnb := hn.symm
  dsimp only [F_Builder_take_nested] at hs ⊢
  (repeat' tb_start)
  refine KIte.split (fun h => ?_) fun h => ?_
  · obtain ⟨b, C, rfl, e⟩ := take1_some (tu.symm.trans h) (hB (tu.symm.trans h))
    rw [e]
    dsimp only [Pc.av]
    rw [bav_cons] at hw
    have hz2 : (bav C).length < 1000000 := by rw [bav_len]; exact Nat.lt_trans (Nat.lt_succ_self _) hz
    (repeat' tb_start)
    exact ⟨rfl, by assumption, by kp_flats, by kp_flats, by kct_strs⟩
  · rw [show take1 t B = (.tm t, B) from if_neg (by rw [tu.symm.trans h]; decide)]
    dsimp only [Pc.av]
    rw [he]
    (repeat' tb_start)
    exact ⟨rfl, by assumption, by kp_flats, by kp_flats, by kct_strs⟩
end
section
local macro_rules | `(tactic| tb_start) => tyUR

theorem w_take (m : M H σ p st) {t : Tm} (hs : t.isS = true) {bl : Nat} {B : List Int} (hw : H[bl]? = some (.list (bav B))) (hx : σ.x + 4 ≤ bl) (hz : B.length < 1000000) (hB : (t.args.filter Tm.isS).length ≤ B.length)
    (h : ∀ H' pl, M H' σ p st → H'[bl]? = some (.list (bav (takeP t.args B).2)) → H'[pl]? = some (.list ((takeP t.args B).1.map Pc.av)) → H.length ≤ pl → Fr σ.x [bl] H H' → Q (.obj pl) H') : WCal (d + 2) 16 [.obj σ.x, .tup (t.args.map Tm.av), .obj bl] H Q := by
  have hbl := lt_of_get hw
  refine WCal.mk (f := F_Builder_take_nested) rfl rfl ?_; dsimp only [F_Builder_take_nested]
  cases t with
  | s1 x =>
    repeat' ((fail_if_success (with_reducible show WEx _ _ _ _ (S.ite _ _ _ :: _) _)); tb_start)
    rename_i pl H1 e1 h1 m1 f1
    have hpl : σ.x + 4 ≤ pl := by rw [e1]; exact m.lt
    have hpb : pl ≠ bl := by rw [e1]; exact lt_ne hbl
    refine WEx.cut _ (w_take1 (i := 0) m1 rfl (by kat_tups) (by kat_tups) (by kat_tups) (by kat_tups) (fun _ => rfl) (by kp_flats) h1 (inB (n := 1) rfl (by decide)) hx hpl hpb hz (need1 hB) rfl) ?_
    rintro ρ' H2 ⟨rfl, m2, g1, g2, f2⟩
    (repeat' tb_start)
    exact h _ _ m2 g1 g2 (Nat.le_of_eq e1.symm) (f1.same2 f2 (Nat.le_refl _) e1)
  | s2 b x y =>
    repeat' ((fail_if_success (with_reducible show WEx _ _ _ _ (S.ite _ _ _ :: _) _)); tb_start)
    rename_i pl H1 e1 h1 m1 f1
    have hpl : σ.x + 4 ≤ pl := by rw [e1]; exact m.lt
    have hpb : pl ≠ bl := by rw [e1]; exact lt_ne hbl
    refine WEx.cut _ (w_take1 (i := 0) m1 rfl (by kat_tups) (by kat_tups) (by kat_tups) (by kat_tups) (fun _ => rfl) (by kp_flats) h1 (inB (n := 2) rfl (by decide)) hx hpl hpb hz (need1 hB) rfl) ?_
    rintro ρ' H2 ⟨rfl, m2, g1, g2, f2⟩
    repeat' ((fail_if_success (with_reducible show WEx _ _ _ _ (S.ite _ _ _ :: _) _)); tb_start)
    refine WEx.cut _ (w_take1 (i := 1) m2 rfl (by kat_tups) (by kat_tups) (by kat_tups) (by kat_tups) (fun _ => rfl) g1 g2 (inB (n := 2) rfl (by decide)) hx hpl hpb (Nat.lt_of_le_of_lt (take1_le _ _) hz) (need1 (need2 hB)) rfl) ?_
    rintro ρ' H3 ⟨rfl, m3, k1, k2, f3⟩
    (repeat' tb_start)
    exact h _ _ m3 k1 k2 (Nat.le_of_eq e1.symm) ((f1.same2 f2 (Nat.le_refl _) e1).same3 f3 (Nat.le_refl _) e1)
  | _ => cases hs
end
noncomputable def Pc.Ok (p : Plan) : Pc → Prop
  | .tm t => t.Ok p ∧ t.isS = false
  | .rg _ => True
noncomputable def flushS (v : Int) (st : St) : St := if v > 0 then st.emit (cmd 83 [.int v]) else st
noncomputable def saStep (p : Plan) (a : Int × St) (c : Pc) : Int × St :=
  match c with
  | .tm (.v k) => if p.void k = true then (a.1 + 1, a.2) else (flV a.1, setVar p k (flushS a.1 a.2))
  | .tm t => (flV a.1, (flushS a.1 a.2).emit (cmd 86 [cell t]))
  | .rg n => (flV a.1, (flushS a.1 a.2).emit (cmd 85 [reg 32 n]))
noncomputable def saAcc (p : Plan) (cs : List Pc) (st : St) : Int × St := cs.foldl (saStep p) (0, st)
noncomputable def setArgs (p : Plan) (cs : List Pc) (st : St) : St := flushS (saAcc p cs st).1 (saAcc p cs st).2
theorem flushS_len (v : Int) (st : St) : (flushS v st).code.length ≤ st.code.length + 1 := by unfold flushS; split <;> simp [St.emit]
theorem setVar_len (p : Plan) (k : Int) (st : St) : (setVar p k st).code.length = st.code.length + 1 := by
  unfold setVar
  split
  · split
    · split <;> simp [St.emit, St.delLoc]
    · simp [St.emit]
  · simp [St.emit, St.see]
theorem saStep_len (p : Plan) (a : Int × St) (c : Pc) : (saStep p a c).2.code.length ≤ a.2.code.length + 2 := by
  have h := flushS_len a.1 a.2
  cases c with
  | rg n => simp only [saStep, St.emit, List.length_append, List.length_cons, List.length_nil]; (first | lia | omega)
  | tm t =>
    cases t with
    | v k =>
      unfold saStep
      dsimp only
      split
      · dsimp only; (first | lia | omega)
      · dsimp only; rw [setVar_len]; (first | lia | omega)
    | _ => simp only [saStep, St.emit, List.length_append, List.length_cons, List.length_nil]; (first | lia | omega)
theorem saAcc_snoc (p : Plan) (ts : List Pc) (st : St) {i : Nat} {t : Pc} (h : ts[i]? = some t) : saAcc p (ts.take (i + 1)) st = saStep p (saAcc p (ts.take i) st) t := by
  unfold saAcc
  rw [List.take_add_one, h]
  simp
theorem saAcc_len (p : Plan) (ts : List Pc) (st : St) : ∀ i, (saAcc p (ts.take i) st).2.code.length ≤ st.code.length + 2 * i
  | 0 => by simp [saAcc]
  | i + 1 => by
    have ih := saAcc_len p ts st i
    cases h : ts[i]? with
    | none => rw [List.take_add_one, h]; simp only [Option.toList_none, List.append_nil]; (first | lia | omega)
    | some t =>
      rw [saAcc_snoc p ts st h]
      have := saStep_len p (saAcc p (ts.take i) st) t
      (first | lia | omega)
theorem setArgs_len (p : Plan) (cs : List Pc) (st : St) : (setArgs p cs st).code.length ≤ st.code.length + 2 * cs.length + 1 := by
  have h := saAcc_len p cs st cs.length
  rw [List.take_length] at h
  have h2 := flushS_len (saAcc p cs st).1 (saAcc p cs st).2
  show (flushS _ _).code.length ≤ _
  (first | lia | omega)
noncomputable def voidC (p : Plan) : Pc → Bool
  | .tm t => voidT p t
  | .rg _ => false
noncomputable def ptg : Pc → Nat
  | .tm t => tg t
  | .rg _ => 32
theorem item_ptg {H : AH} {c : Pc} : item H c.av (.int 0) = some (.str (ptg c)) := by
  cases c with
  | tm t => exact item_tg
  | rg n => rfl
theorem ptg_v {c : Pc} (h : decide (ptg c = 15) = true) : ∃ k, c = .tm (.v k) := by
  cases c with
  | tm t => obtain ⟨k, rfl⟩ := tg_v h; exact ⟨k, rfl⟩
  | rg n => exact absurd (show false = true from h) (by decide)
theorem ptg_t {c : Pc} (h : decide (ptg c = 32) = true) : ∃ n, c = .rg n := by
  cases c with
  | tm t => cases t <;> exact absurd (show false = true from h) (by decide)
  | rg n => exact ⟨n, rfl⟩
theorem ptg_c {c : Pc} (ho : c.Ok p) (h1 : decide (ptg c = 15) = false) (h2 : decide (ptg c = 32) = false) : ∃ t, c = .tm t ∧ t.isC = true := by
  cases c with
  | tm t => exact ⟨t, rfl, tg_C ho.2 h1⟩
  | rg n => exact absurd (show true = false from h2) (by decide)
theorem saStep_void {a : Int × St} {c : Pc} (h : voidC p c = true) : saStep p a c = (a.1 + 1, a.2) := by
  cases c with
  | tm t => cases t <;> first | exact if_pos h | cases h
  | rg n => cases h
theorem saStep_v {a : Int × St} {k : Int} (h : p.void k = false) : saStep p a (.tm (.v k)) = (flV a.1, setVar p k (flushS a.1 a.2)) := if_neg (by rw [h]; decide)
theorem saStep_c {a : Int × St} {t : Tm} (h : t.isC = true) : saStep p a (.tm t) = (flV a.1, (flushS a.1 a.2).emit (cmd 86 [cell t])) := by
  cases t <;> first | rfl | cases h
inductive SA (σ : Mk) (p : Plan) (H0 : AH) (A : Int × St) (ρ : Loc) (H : AH) : Prop
  | mk (r1 : lookN 22 ρ = some (.obj σ.x)) (r4 : lookN 59 ρ = some (.int A.1)) (m : M H σ p A.2) (f : Fr σ.x [] H0 H)
inductive SB (σ : Mk) (p : Plan) (H0 : AH) (A : Int × St) (c : Pc) (ρ : Loc) (H : AH) : Prop
  | mk (r1 : lookN 22 ρ = some (.obj σ.x)) (r4 : lookN 59 ρ = some (.int (flV A.1))) (r5 : lookN 82 ρ = some c.av) (m : M H σ p (flushS A.1 A.2)) (f : Fr σ.x [] H0 H)
local macro_rules | `(tactic| tb_start) => tyF "KSub2.mk+item_ptg"

theorem w_set_arguments (m : M H σ p st) {cs : List Pc} {pl : Nat} (ho : ∀ c ∈ cs, c.Ok p) (hw : H[pl]? = some (.list (cs.map Pc.av))) (hx : σ.x + 4 ≤ pl) (hl : st.code.length + 2 * cs.length + 2 < 1000000)
    (h : ∀ H', M H' σ p (setArgs p cs st) → Fr σ.x [] H H' → Q .none H') : WCal (d + 3) 17 [.obj σ.x, .obj pl] H Q := by
  refine WCal.mk (f := F_Builder_set_arguments) rfl rfl ?_; dsimp only [F_Builder_set_arguments]
  (repeat' tb_start)
  refine WEx1.for rfl (WSrc.any rfl (WEv.nm rfl rfl ⟨.lst pl, by unfold srcAt; dsimp only; rw [hw], _, rfl, ?_⟩))
  refine WFo.lst (fun j ρ H' => SA σ p H (saAcc p (cs.take j) st) ρ H') (fun j ρ H' ⟨_, _, _, f⟩ => f.get hw (.inr hx) List.not_mem_nil) ?_ ?_ _ 0 _ _ rfl (Nat.zero_le _) ⟨rfl, rfl, m, Fr.refl _⟩
  · rintro j v ρ H' hv ⟨r1, r4, m2, f2⟩
    obtain ⟨c, ht, rfl⟩ := getMap hv
    have hok := ho c (List.mem_of_getElem? ht)
    have hA := roomM1 hl (List.getElem?_eq_some_iff.mp ht).1 (saAcc_len p cs st j)
    rw [saAcc_snoc p cs st ht]
    generalize saAcc p (cs.take j) st = A at *
    have hA1 := hA.1
    have hF : (flushS A.1 A.2).code.length < 1000000 := Nat.lt_of_le_of_lt (flushS_len A.1 A.2) hA.2
    refine WEx.cons (WEx1.ite (WTr.as (voidC p c) ?_ ?_))
    · cases htv : decide (ptg c = 15) with
      | true =>
        obtain ⟨k, rfl⟩ := ptg_v htv
        have hk : p.dom k = true := hok.1
        (repeat' tb_start)
      | false =>
        rw [show voidC p c = false by cases c with | rg n => rfl | tm t => cases t <;> first | rfl | exact absurd (show true = false from htv) (by decide)]
        (repeat' tb_start)
    refine KIte.split (fun hv => ?_) fun hv => ?_
    · rw [saStep_void hv]
      (repeat' tb_start)
      exact ⟨by kat_tups, by kat_tups, by assumption, by kct_strs⟩
    repeat' ((fail_if_success (with_reducible show WEx _ _ _ _ (S.ite _ _ _ :: _) _)); tb_start)
    refine WEx.cut (SB σ p H A c) ?_ ?_
    · (repeat' tb_start)
      refine KIte.splitd (fun hp => ?_) fun hp => ?_
      · (repeat' tb_start)
        exact ⟨by kat_tups, by rw [show flV A.1 = 0 from if_pos hp]; kat_tups, by kat_tups, by rw [show flushS A.1 A.2 = _ from if_pos hp]; assumption, by kct_strs⟩
      · (repeat' tb_start)
        exact ⟨by kat_tups, by rw [show flV A.1 = A.1 from if_neg hp]; kat_tups, by kat_tups, by rw [show flushS A.1 A.2 = _ from if_neg hp]; assumption, by kct_strs⟩
    rintro ρ3 H3 ⟨s1, s4, s5, m3, f3⟩
    (repeat' tb_start)
    refine KIte.split (fun htv => ?_) fun htv => ?_
    · obtain ⟨k, rfl⟩ := ptg_v htv
      have hk : p.dom k = true := hok.1
      rw [saStep_v hv]
      (repeat' tb_start)
      exact ⟨by kat_tups, by kat_tups, by assumption, by kct_strs⟩
    · (repeat' tb_start)
      refine KIte.split (fun htt => ?_) fun htt => ?_
      · obtain ⟨n, rfl⟩ := ptg_t htt
        rw [show saStep p A (.rg n) = (flV A.1, (flushS A.1 A.2).emit (cmd 85 [reg 32 n])) from rfl]
        (repeat' tb_start)
        exact ⟨by kat_tups, by kat_tups, by assumption, by kct_strs⟩
      · obtain ⟨t, rfl, hc⟩ := ptg_c hok htv htt
        have s5 : lookN 82 ρ3 = some t.av := s5
        rw [saStep_c hc]
        (repeat' tb_start)
        exact ⟨by kat_tups, by kat_tups, by assumption, by kct_strs⟩
  · rintro ρ H' ⟨r1, r4, m2, f2⟩
    rw [List.length_map, List.take_length] at r4 m2
    have hA := saAcc_len p cs st cs.length
    rw [List.take_length] at hA
    unfold setArgs at h
    generalize saAcc p cs st = A at *
    have hA1 := roomM3 hl hA
    refine ⟨_, rfl, ?_⟩
    (repeat' tb_start)
    refine KIte.splitd (fun hp => ?_) fun hp => ?_
    · rw [show flushS A.1 A.2 = _ from if_pos hp] at h
      (repeat' tb_start)
      exact h _ (by assumption) (by kct_strs)
    · rw [show flushS A.1 A.2 = _ from if_neg hp] at h
      (repeat' tb_start)
      exact h _ (by assumption) (by kct_strs)
end

end
section
section
variable {H : AH} {σ : Mk} {p : Plan} {st : St} {Q : AV → AH → Prop} {d : Nat}

local macro_rules | `(tactic| tb_rel) => tyF "w_emit/al/111 w_new_temporary/a/111"

noncomputable abbrev BW := Bool × Tm
noncomputable def waitT (ts : List Tm) : List BW := (ts.filter Tm.isS).map fun t => (false, t)
noncomputable def putIns (t : Tm) (r : Int) : AV := if fnS t = 0 then cmd 77 [reg 32 r] else cmd 78 [.int (fnS t), reg 32 r]
noncomputable def bReg (W : List BW) (tgt : Int) (st : St) : Int := if W.length = 0 then tgt else st.next
noncomputable def bSt (W : List BW) (st : St) : St := if W.length = 0 then st else st.bump
noncomputable def bStep (p : Plan) (W : List BW) (tgt : Int) (B : List Int) (t : Tm) (st : St) : St :=
  setArgs p (takeP t.args B).1 ((bSt W st).emit (putIns t (bReg W tgt st)))
noncomputable def buildLoop (p : Plan) (tgt : Int) : Nat → List BW → List Int → St → St
  | 0, _, _, st => st
  | _ + 1, [], _, st => st
  | n + 1, (false, t) :: W, B, st => buildLoop p tgt n ((waitT t.args).reverse ++ (true, t) :: W) B st
  | n + 1, (true, t) :: W, B, st => buildLoop p tgt n W (bReg W tgt st :: (takeP t.args B).2) (bStep p W tgt B t st)
noncomputable def build (p : Plan) (t : Tm) (tgt : Int) (st : St) : St := buildLoop p tgt (2 * t.size + 1) [(false, t)] [] st
noncomputable def nest (t : Tm) : Nat := (t.args.filter Tm.isS).length
noncomputable def okW : List BW → Nat → Prop
  | [], _ => True
  | (false, _) :: W, n => okW W (n + 1)
  | (true, t) :: W, n => nest t ≤ n ∧ okW W (n - nest t + 1)
noncomputable def mu : List BW → Nat
  | [] => 0
  | (false, t) :: W => 2 * t.size + mu W
  | (true, _) :: W => 1 + mu W
theorem mu_append (a b : List BW) : mu (a ++ b) = mu a + mu b := by
  induction a with
  | nil => simp [mu]
  | cons x a ih =>
    obtain ⟨c, t⟩ := x
    cases c <;> simp only [List.cons_append, mu, ih] <;> (first | lia | omega)
theorem mu_reverse (a : List BW) : mu a.reverse = mu a := by
  induction a with
  | nil => rfl
  | cons x a ih =>
    rw [List.reverse_cons, mu_append, ih]
    obtain ⟨c, t⟩ := x
    cases c <;> simp only [mu] <;> (first | lia | omega)
theorem mu_wait (ts : List Tm) : mu (waitT ts) ≤ 2 * tsum ts := by
  unfold waitT
  induction ts with
  | nil => simp [mu, tsum]
  | cons t ts ih =>
    rw [List.filter_cons]
    split
    · simp only [List.map_cons, mu, tsum]; (first | lia | omega)
    · simp only [tsum]; (first | lia | omega)
theorem mu_len : ∀ W : List BW, W.length ≤ mu W
  | [] => Nat.le_refl _
  | (false, t) :: W => by have := mu_len W; have := t.size_pos; simp only [mu, List.length_cons]; (first | lia | omega)
  | (true, t) :: W => by have := mu_len W; simp only [mu, List.length_cons]; (first | lia | omega)
theorem okW_wait : ∀ (l : List Tm) (W : List BW) (n : Nat), okW ((l.map fun t => (false, t)) ++ W) n = okW W (n + l.length)
  | [], W, n => rfl
  | t :: l, W, n => by
    show okW ((l.map fun t => (false, t)) ++ W) (n + 1) = _
    rw [okW_wait l W (n + 1), List.length_cons, show n + 1 + l.length = n + (l.length + 1) from by (first | lia | omega)]
theorem takeP_len : ∀ (ts : List Tm) (B : List Int), (takeP ts B).2.length = B.length - (ts.filter Tm.isS).length
  | [], B => by simp [takeP]
  | t :: ts, B => by
    show (takeP ts (take1 t B).2).2.length = _
    rw [takeP_len ts, List.filter_cons]
    unfold take1
    split
    · simp only [List.length_tail, List.length_cons]; (first | lia | omega)
    · rfl
theorem takeP_len1 : ∀ (ts : List Tm) (B : List Int), (takeP ts B).1.length = ts.length
  | [], _ => rfl
  | t :: ts, B => by show (takeP ts (take1 t B).2).1.length + 1 = _; rw [takeP_len1 ts]; rfl
theorem takeP_ok {p : Plan} : ∀ (ts : List Tm) (B : List Int), (∀ t ∈ ts, t.Ok p) → ∀ c ∈ (takeP ts B).1, c.Ok p
  | [], _, _, _, h => by cases h
  | t :: ts, B, ho, c, h => by
    rcases List.mem_cons.mp h with h | h
    · rw [h]
      unfold take1
      split
      · trivial
      · rename_i hn
        exact ⟨ho t (.head _), by simpa using hn⟩
    · exact takeP_ok ts _ (fun t ht => ho t (.tail _ ht)) c h
noncomputable abbrev bwv (x : BW) : AV := .tup [.bool x.1, x.2.av]
noncomputable def BOk (p : Plan) (x : BW) : Prop := x.2.isS = true ∧ x.2.Ok p
theorem bStep_len (p : Plan) (W : List BW) (tgt : Int) (B : List Int) (t : Tm) (st : St) : (bStep p W tgt B t st).code.length ≤ st.code.length + 6 := by
  have h := setArgs_len p (takeP t.args B).1 ((bSt W st).emit (putIns t (bReg W tgt st)))
  rw [takeP_len1] at h
  have h2 := args_len t
  have h3 : ((bSt W st).emit (putIns t (bReg W tgt st))).code.length = st.code.length + 1 := by unfold bSt; split <;> simp [St.emit, St.bump]
  unfold bStep
  (first | lia | omega)
theorem buildLoop_len (p : Plan) (tgt : Int) : ∀ (n : Nat) (W : List BW) (B : List Int) (st : St), (buildLoop p tgt n W B st).code.length ≤ st.code.length + 6 * n
  | 0, _, _, st => by simp [buildLoop]
  | _ + 1, [], _, st => by simp [buildLoop]
  | n + 1, (false, t) :: W, B, st => by
    have := buildLoop_len p tgt n ((waitT t.args).reverse ++ (true, t) :: W) B st
    rw [buildLoop]; (first | lia | omega)
  | n + 1, (true, t) :: W, B, st => by
    have := buildLoop_len p tgt n W (bReg W tgt st :: (takeP t.args B).2) (bStep p W tgt B t st)
    have := bStep_len p W tgt B t st
    rw [buildLoop]; (first | lia | omega)
theorem build_len (p : Plan) (t : Tm) (tgt : Int) (st : St) : (build p t tgt st).code.length ≤ st.code.length + 6 * (2 * t.size + 1) := buildLoop_len p tgt _ _ _ st
local macro_rules | `(tactic| tb_start) => tyF "KSub2.mk+item_args/a KSub2.mk+fnS_eq/uA"

theorem mu_false (u : Tm) (W : List BW) : mu ((waitT u.args).reverse ++ (true, u) :: W) < mu ((false, u) :: W) := by
  have h1 := mu_wait u.args
  have h2 := args_sum u
  rw [mu_append, mu_reverse]
  show mu (waitT u.args) + (1 + mu W) < 2 * u.size + mu W
  (first | lia | omega)
theorem fuel1 {c : Bool} {u : Tm} {W : List BW} {n : Nat} (h : mu ((c, u) :: W) ≤ n) : ∃ n', n = n' + 1 := by
  have h1 := u.size_pos
  have h2 : 1 ≤ mu ((c, u) :: W) := by cases c <;> simp only [mu] <;> (first | lia | omega)
  exact ⟨n - 1, by (first | lia | omega)⟩
theorem room1 {b : Nat} {c : Bool} {u : Tm} {W : List BW} (h : b + mu ((c, u) :: W) ≤ 200000) : (W.map bwv).reverse.length + 16 ≤ 1000000 := by
  have h1 := mu_len ((c, u) :: W)
  rw [List.length_reverse, List.length_map]
  rw [List.length_cons] at h1
  (first | lia | omega)
theorem room2 {a n : Nat} (h : a + 6 * (n + 1) + 20 < 1000000) : a + 16 ≤ 1000000 := by (first | lia | omega)
theorem room3 {a b n : Nat} (h : a + 6 * (n + 1) + 20 < 1000000) (hb : b ≤ a + 6) : b + 6 * n + 20 < 1000000 := by (first | lia | omega)
theorem room4 {a k n : Nat} (h : a + 6 * (n + 1) + 20 < 1000000) (hk : k ≤ 2) : a + 1 + 2 * k + 2 < 1000000 := by (first | lia | omega)
theorem room5 {B : List Int} {m : Nat} (h : B.length + m ≤ 200000) : (bav B).length + 16 ≤ 1000000 := by rw [show (bav B).length = B.length from by simp [bav]]; (first | lia | omega)
theorem room6 {a n : Nat} (h : a + 12 * n + 30 < 1000000) : a + 6 * (2 * n + 1) + 20 < 1000000 := by (first | lia | omega)
theorem room7 {n : Nat} (h : n < 100000) (t : Tm) : 0 + (2 * n + 0) ≤ 200000 := by (first | lia | omega)
theorem room8 {n b m k : Nat} (h : b + (1 + m) ≤ 200000) (hn : n ≤ b) (hk : k = b - n) : k + 1 + m ≤ 200000 := by (first | lia | omega)
theorem lim6 {n : Nat} (h : n + 16 ≤ 1000000) : n + 2 + 1 < 1000000 := Nat.lt_of_lt_of_le (Nat.add_lt_add_left (by decide : 3 < 16) n) h
/-- the loop of build -/
inductive BL (σ : Mk) (p : Plan) (t : Tm) (tgt : Int) (st : St) (wl bl : Nat) (H0 : AH) (k : Nat) (ρ : Loc) (H : AH) : Prop
  | mk (n : Nat) (W : List BW) (B : List Int) (st' : St) (r1 : lookN 22 ρ = some (.obj σ.x)) (r2 : lookN 70 ρ = some (.obj wl)) (r3 : lookN 71 ρ = some (.obj bl)) (r4 : lookN 76 ρ = some (reg 32 tgt))
      (hk : k = mu W) (hW : ∀ x ∈ W, BOk p x) (m : M H σ p st') (e : build p t tgt st = buildLoop p tgt n W B st') (hn : mu W ≤ n) (hc : st'.code.length + 6 * n + 20 < 1000000) (hok : okW W B.length) (hB : B.length + mu W ≤ 200000)
      (h1 : H[wl]? = some (.list (W.map bwv).reverse)) (h2 : H[bl]? = some (.list (bav B))) (f : Fr σ.x [] H0 H)
/-- what a turn of it has made -/
inductive BI (σ : Mk) (p : Plan) (wl bl pl : Nat) (A B C : List AV) (tgt r : Int) (u : Tm) (H0 : AH) (st : St) (ρ : Loc) (H : AH) : Prop
  | mk (r1 : lookN 22 ρ = some (.obj σ.x)) (r2 : lookN 70 ρ = some (.obj wl)) (r3 : lookN 71 ρ = some (.obj bl)) (r4 : lookN 76 ρ = some (reg 32 tgt)) (r5 : lookN 52 ρ = some u.av) (r6 : lookN 74 ρ = some (.obj pl)) (r7 : lookN 53 ρ = some (reg 32 r))
      (m : M H σ p st) (h1 : H[wl]? = some (.list A)) (h2 : H[bl]? = some (.list B)) (h3 : H[pl]? = some (.list C)) (f : Fr σ.x [] H0 H)
theorem w_build (m : M H σ p st) {t : Tm} {tgt : Int} (hs : t.isS = true) (ho : t.Ok p) (hl : st.code.length + 12 * t.size + 30 < 1000000) (hz : t.size < 100000)
    (h : ∀ H', M H' σ p (build p t tgt st) → Fr σ.x [] H H' → Q .none H') : WCal (d + 4) 14 [.obj σ.x, t.av, reg 32 tgt] H Q := by
  have hml := m.lt
  refine WCal.mk (f := F_Builder_build) rfl rfl ?_; dsimp only [F_Builder_build]
  (repeat' tb_start)
  rename_i wl H1 e1 h1 m1 f1 bl H2 e2 h2 m2 f2
  have hwb := lt_of_get h1
  have hHw : H.length ≤ wl := Nat.le_of_eq e1.symm
  have hHb : H.length ≤ bl := Nat.le_trans f1.len (Nat.le_of_eq e2.symm)
  have hwx : σ.x + 4 ≤ wl := Nat.le_trans hml hHw
  have hbx : σ.x + 4 ≤ bl := Nat.le_trans hml hHb
  have hwb2 : bl ≠ wl := by rw [e2]; exact lt_ne hwb
  have hwb1 : wl ≠ bl := hwb2.symm
  refine WEx1.whl (WWh.inv (BL σ p t tgt st wl bl H) ?_ _ (mu [(false, t)]) _ _ (Nat.lt_succ_self _)
    ⟨2 * t.size + 1, [(false, t)], [], st, rfl, rfl, rfl, rfl, rfl, fun x hx => by rw [List.mem_singleton.mp hx]; exact ⟨hs, ho⟩, m2, rfl, Nat.le_succ _, room6 hl, trivial, room7 hz t, f2.get h1 (.inr hwx) List.not_mem_nil, h2, by kct_strs⟩)
  rintro k ρ' H3 ⟨n, W, B, st', r1, r2, r3, r4, hk, hW, m3, e3, hn, hc, hok, hBl, g1, g2, f3⟩
  have hw3 := lt_of_get g1
  have hb3 := lt_of_get g2
  have hx3 : σ.x + 4 ≤ H3.length := m3.lt
  have hB1 : (bav B).length + 16 ≤ 1000000 := room5 hBl
  cases W with
  | nil =>
    rw [show buildLoop p tgt n [] B st' = st' from by cases n <;> rfl] at e3
    rw [e3] at h
    (repeat' tb_start)
    exact h _ m3 f3
  | cons x W' =>
    obtain ⟨c, u⟩ := x
    obtain ⟨n, rfl⟩ := fuel1 hn
    have hWl := room1 hBl
    have hcl := room2 hc
    rw [List.map_cons, List.reverse_cons] at g1
    have hxs : u.isS = true := (hW _ (.head _)).1
    have hxo : u.Ok p := (hW _ (.head _)).2
    have ha3 := args_ok hxo
    cases c with
    | false =>
      have hlt := mu_false u W'
      (repeat' tb_start)
      refine w_wait (by assumption) hxs (by assumption) (by assumption) (by rw [List.length_append]; exact lim6 hWl) fun H4 m4 g4 f4 => ?_
      (repeat' tb_start)
      refine ⟨mu ((waitT u.args).reverse ++ (true, u) :: W'), by rw [hk]; exact hlt, ⟨n, _, B, st', by kat_tups, by kat_tups, by kat_tups, by kat_tups, rfl, ?_, m4, ?_, Nat.le_of_lt_succ (Nat.lt_of_lt_of_le hlt hn), room3 hc (Nat.le_add_right _ _), ?_, Nat.le_trans (Nat.add_le_add_left (Nat.le_of_lt hlt) _) hBl, ?_, by kp_flats, by kct_strs⟩⟩
      · intro y hy
        rcases List.mem_append.mp hy with hy | hy
        · obtain ⟨z, hz, rfl⟩ := List.mem_map.mp (List.mem_reverse.mp hy)
          exact ⟨(List.mem_filter.mp hz).2, ha3 z (List.mem_filter.mp hz).1⟩
        · rcases List.mem_cons.mp hy with hy | hy
          · rw [hy]; exact ⟨hxs, hxo⟩
          · exact hW y (.tail _ hy)
      · rw [e3]; rfl
      · unfold waitT
        rw [← List.map_reverse, okW_wait, List.length_reverse]
        refine ⟨Nat.le_add_left _ _, ?_⟩
        show okW W' (B.length + nest u - nest u + 1)
        rw [Nat.add_sub_cancel]; exact hok
      · rw [g4, List.map_append, List.reverse_append, List.map_cons, List.reverse_cons, List.map_reverse, List.reverse_reverse, waitT, List.map_map]
        rfl
    | true =>
      have hbl2 : (takeP u.args B).2.length = B.length - nest u := takeP_len u.args B
      have hbs := bStep_len p W' tgt B u st'
      have hB3 : (takeP u.args B).2.length + 1 + mu W' ≤ 200000 := room8 hBl hok.1 hbl2
      have hB4 := room5 (Nat.le_trans (Nat.le_of_eq (Nat.add_assoc _ _ _).symm) hB3)
      (repeat' tb_start)
      refine w_take (by assumption) hxs (by kp_flats) (by assumption) (Nat.lt_of_le_of_lt (Nat.le_trans (Nat.le_add_right _ _) hBl) (by decide)) hok.1 fun H5 pl m5 b5 p5 hp5 f5 => ?_
      have hwl3 : H3.length ≤ pl := Nat.le_trans (Fr.len (by assumption : Fr σ.x [wl] H3 _)) hp5
      have hpw : pl ≠ wl := lt_ne (Nat.lt_of_lt_of_le hw3 hwl3)
      have hpb : pl ≠ bl := lt_ne (Nat.lt_of_lt_of_le hb3 hwl3)
      have hpx : σ.x + 4 ≤ pl := Nat.le_trans hx3 hwl3
      repeat' ((fail_if_success (with_reducible show WEx _ _ _ _ (S.ite (X.cmp _ (X.call _ _) _) _ _ :: _) _)); tb_start)
      refine WEx.cut (BI σ p wl bl pl (W'.map bwv).reverse (bav (takeP u.args B).2) ((takeP u.args B).1.map Pc.av) tgt (bReg W' tgt st') u H (bSt W' st')) ?_ ?_
      · (repeat' tb_start)
        refine KIte.splitd (fun hz => ?_) fun hz => ?_
        · have hz : W'.length = 0 := by rw [List.length_reverse, List.length_map] at hz; exact Int.ofNat.inj hz
          rw [show bReg W' tgt st' = tgt from if_pos hz, show bSt W' st' = st' from if_pos hz]
          (repeat' tb_start)
          exact ⟨by kat_tups, by kat_tups, by kat_tups, by kat_tups, by kat_tups, by kat_tups, by kat_tups, by assumption, by kp_flats, by kp_flats, by kp_flats, by kct_strs⟩
        · have hz : ¬ W'.length = 0 := fun e => hz (by rw [List.length_reverse, List.length_map, e]; rfl)
          rw [show bReg W' tgt st' = st'.next from if_neg hz, show bSt W' st' = st'.bump from if_neg hz]
          (repeat' tb_start)
          exact ⟨by kat_tups, by kat_tups, by kat_tups, by kat_tups, by kat_tups, by kat_tups, by kat_tups, by assumption, by kp_flats, by kp_flats, by kp_flats, by kct_strs⟩
      rintro ρ6 H6 ⟨s1, s2, s3, s4, s5, s6, s7, m6, k1, k2, k3, f6⟩
      have hcl6 : (bSt W' st').code.length + 16 ≤ 1000000 := by rw [show (bSt W' st').code = st'.code from by unfold bSt; split <;> rfl]; exact hcl
      refine WEx.cut (BI σ p wl bl pl (W'.map bwv).reverse (bav (takeP u.args B).2) ((takeP u.args B).1.map Pc.av) tgt (bReg W' tgt st') u H ((bSt W' st').emit (putIns u (bReg W' tgt st')))) ?_ ?_
      · (repeat' tb_start)
        refine KIte.splitd (fun hz => ?_) fun hz => ?_
        · rw [show putIns u (bReg W' tgt st') = _ from if_pos hz]
          (repeat' tb_start)
          exact ⟨by kat_tups, by kat_tups, by kat_tups, by kat_tups, by kat_tups, by kat_tups, by kat_tups, by assumption, by kp_flats, by kp_flats, by kp_flats, by kct_strs⟩
        · rw [show putIns u (bReg W' tgt st') = _ from if_neg hz]
          (repeat' tb_start)
          exact ⟨by kat_tups, by kat_tups, by kat_tups, by kat_tups, by kat_tups, by kat_tups, by kat_tups, by assumption, by kp_flats, by kp_flats, by kp_flats, by kct_strs⟩
      rintro ρ7 H7 ⟨s1, s2, s3, s4, s5, s6, s7, m7, k1, k2, k3, f7⟩
      (repeat' tb_start)
      refine w_set_arguments (by assumption) (takeP_ok u.args B ha3) (by kp_flats) hpx ?_ fun H8 m8 f8 => ?_
      · rw [takeP_len1]
        show ((bSt W' st').code ++ [_]).length + 2 * _ + 2 < _
        rw [List.length_append, show (bSt W' st').code = st'.code from by unfold bSt; split <;> rfl]
        exact room4 hc (args_len u)
      (repeat' tb_start)
      refine ⟨mu W', by rw [hk]; exact Nat.lt_add_of_pos_left Nat.one_pos, ⟨n, W', _, _, by kat_tups, by kat_tups, by kat_tups, by kat_tups, rfl, fun x hx => hW x (.tail _ hx), by assumption, e3.trans rfl, Nat.le_of_lt_succ (Nat.lt_of_lt_of_le (Nat.lt_add_of_pos_left Nat.one_pos) hn), room3 hc hbs, ?_, ?_, by kp_flats, ?_, by kct_strs⟩⟩
      · rw [List.length_cons, hbl2]; exact hok.2
      · rw [List.length_cons]; exact hB3
      · rw [bav_cons]; kp_flats
end

end
end
section
local macro_rules | `(tactic| keq_hits) => tyHits false
local macro_rules | `(tactic| kp_flats) => tyFlatX
local macro_rules | `(tactic| kct_strs) => tyFrX
local macro_rules | `(tactic| tb_start) => tyXS

section
theorem lookI_set (k j : Int) (v : AV) : ∀ l : List (Int × AV), lookI k (setD j v l) = if j = k then some v else lookI k l
  | [] => by show (if j = k then some v else none) = _; rfl
  | (i, u) :: r => by
    unfold setD
    by_cases hi : i = j
    · subst hi
      rw [if_pos rfl]
      show (if i = k then some v else lookI k r) = if i = k then some v else (if i = k then some u else lookI k r)
      split <;> rfl
    · rw [if_neg hi]
      show (if i = k then some u else lookI k (setD j v r)) = if j = k then some v else (if i = k then some u else lookI k r)
      rw [lookI_set k j v r]
      by_cases hk : i = k
      · subst hk; rw [if_pos rfl, if_neg (Ne.symm hi), if_pos rfl]
      · rw [if_neg hk, if_neg hk]
theorem setD_len (j : Int) (v : AV) : ∀ l : List (Int × AV), (setD j v l).length ≤ l.length + 1
  | [] => Nat.le_refl _
  | (i, u) :: r => by
    unfold setD
    split
    · exact Nat.le_succ _
    · have := setD_len j v r; simp only [List.length_cons]; (first | lia | omega)
theorem tsum_append (a b : List Tm) : tsum (a ++ b) = tsum a + tsum b := by
  induction a with
  | nil => simp [tsum]
  | cons x a ih => simp only [List.cons_append, tsum, ih]; (first | lia | omega)
noncomputable def Tm.vars : Tm → List Int
  | .v k => [k]
  | .s1 x => x.vars
  | .s2 _ x y => x.vars ++ y.vars
  | _ => []
noncomputable def varsL (ts : List Tm) : List Int := ts.flatMap Tm.vars
theorem args_vars (t : Tm) (hs : t.isS = true) : varsL t.args = t.vars := by cases t <;> first | cases hs; done | simp [Tm.args, varsL, Tm.vars]
theorem varsL_cons {u : Tm} {T : List Tm} {k : Int} : k ∈ varsL (u :: T) ↔ k ∈ u.vars ∨ k ∈ varsL T := by unfold varsL; rw [List.flatMap_cons, List.mem_append]
theorem varsL_args {u : Tm} {T : List Tm} {k : Int} (hs : u.isS = true) : k ∈ varsL (u.args ++ T) ↔ k ∈ varsL (u :: T) := by
  rw [varsL_cons, ← args_vars u hs]
  unfold varsL
  rw [List.flatMap_append, List.mem_append]
theorem vars_none {u : Tm} (h1 : decide (tg u = 15) = false) (h2 : u.isS = false) : u.vars = [] := by cases u <;> first | rfl | exact absurd (show true = false from h1) (by decide) | cases h2
theorem tsum_ge : ∀ T : List Tm, T.length ≤ tsum T
  | [] => Nat.le_refl _
  | x :: T => Nat.le_trans (Nat.add_le_add (tsum_ge T) x.size_pos) (Nat.le_of_eq (Nat.add_comm _ _))
theorem tsum_less (u : Tm) (T : List Tm) : tsum T < tsum (u :: T) := Nat.lt_add_of_pos_left u.size_pos
theorem tsum_args (u : Tm) (T : List Tm) : tsum (u.args ++ T) < tsum (u :: T) := by
  rw [tsum_append]
  exact Nat.add_lt_add_right (args_sum u) _
/-- what variables_of has met -/
structure VI (t : Tm) (T : List Tm) (L : List Int) (S : List (Int × AV)) : Prop where
  seen : ∀ k, (lookI k S).isSome = true ↔ k ∈ L
  vars : ∀ k, (k ∈ L ∨ k ∈ varsL T) ↔ k ∈ t.vars
  few : S.length ≤ L.length
  len : L.length + tsum T ≤ t.size
theorem VI.start (t : Tm) : VI t [t] [] [] :=
  ⟨fun k => ⟨fun h => absurd h Bool.noConfusion, fun h => absurd h List.not_mem_nil⟩, fun k => by
    rw [varsL_cons]
    exact ⟨fun h => h.elim (fun h => absurd h List.not_mem_nil) fun h => h.elim id fun h => absurd h List.not_mem_nil, fun h => .inr (.inl h)⟩, Nat.le_refl _, Nat.le_of_eq (Nat.zero_add _)⟩
theorem VI.old {t : Tm} {T : List Tm} {L : List Int} {S : List (Int × AV)} {j : Int} (h : VI t (.v j :: T) L S) (hj : (lookI j S).isSome = true) : VI t T L S :=
  ⟨h.seen, fun k => by
    rw [← h.vars, varsL_cons]
    exact ⟨fun h => h.elim .inl fun h => .inr (.inr h), fun q => q.elim .inl fun q => q.elim (fun q => .inl ((h.seen k).mp (by rw [List.mem_singleton.mp q]; exact hj))) .inr⟩, h.few, Nat.le_trans (Nat.add_le_add_left (Nat.le_of_lt (tsum_less _ _)) _) h.len⟩
theorem VI.new {t : Tm} {T : List Tm} {L : List Int} {S : List (Int × AV)} {j : Int} (h : VI t (.v j :: T) L S) (v : AV) : VI t T (L ++ [j]) (setD j v S) :=
  ⟨fun k => by
    rw [lookI_set, List.mem_append, List.mem_singleton, ← h.seen]
    by_cases e : j = k
    · rw [if_pos e]; exact ⟨fun _ => .inr e.symm, fun _ => rfl⟩
    · rw [if_neg e]; exact ⟨.inl, fun q => q.elim id fun q => absurd q.symm e⟩, fun k => by
    rw [← h.vars, varsL_cons, List.mem_append, or_assoc]; exact Iff.rfl, by
    rw [List.length_append]; exact Nat.le_trans (setD_len _ _ _) (Nat.add_le_add_right h.few _), by
    rw [List.length_append, Nat.add_assoc]; exact h.len⟩
theorem VI.none {t u : Tm} {T : List Tm} {L : List Int} {S : List (Int × AV)} (h : VI t (u :: T) L S) (hu : u.vars = []) : VI t T L S :=
  ⟨h.seen, fun k => by
    rw [← h.vars, varsL_cons, hu]
    exact ⟨fun h => h.elim .inl fun h => .inr (.inr h), fun q => q.elim .inl fun q => q.elim (fun q => absurd q List.not_mem_nil) .inr⟩, h.few, Nat.le_trans (Nat.add_le_add_left (Nat.le_of_lt (tsum_less _ _)) _) h.len⟩
theorem VI.push {t u : Tm} {T : List Tm} {L : List Int} {S : List (Int × AV)} (h : VI t (u :: T) L S) (hu : u.isS = true) : VI t (u.args ++ T) L S :=
  ⟨h.seen, fun k => by rw [← h.vars, varsL_args hu], h.few, Nat.le_trans (Nat.add_le_add_left (Nat.le_of_lt (tsum_args _ _)) _) h.len⟩
theorem roomT {u : Tm} {T : List Tm} {b n : Nat} (h : b + tsum (u :: T) ≤ n) (hn : n < 1000) : (T.map Tm.av).reverse.length + 16 ≤ 1000000 ∧ (u.args.map Tm.av).length + (T.map Tm.av).reverse.length ≤ 10000 := by
  have h1 := tsum_ge (u :: T)
  have h2 := args_len u
  rw [List.length_reverse, List.length_map, List.length_map]
  rw [List.length_cons] at h1
  (first | lia | omega)
theorem VI.room {t : Tm} {T : List Tm} {L : List Int} {S : List (Int × AV)} (h : VI t T L S) (hn : t.size < 1000) : (L.map AV.int).length + 16 ≤ 1000000 ∧ S.length + 16 ≤ 1000000 := by
  have h1 := h.few
  have h2 := h.len
  rw [List.length_map]
  (first | lia | omega)
theorem snoc_ne {α : Type} {l : List α} {x : α} : (!(l ++ [x]).isEmpty) = true := by cases l <;> rfl
/-- the loop of variables_of -/
inductive VL (t : Tm) (tl sl rl : Nat) (H0 : AH) (k : Nat) (ρ : Loc) (H : AH) : Prop
  | mk (T : List Tm) (L : List Int) (S : List (Int × AV)) (r1 : lookN 11 ρ = some (.obj tl)) (r2 : lookN 9 ρ = some (.obj sl)) (r3 : lookN 10 ρ = some (.obj rl)) (hk : k = tsum T) (q1 : H[tl]? = some (.list (T.map Tm.av).reverse)) (q2 : H[sl]? = some (.dict S false))
      (q3 : H[rl]? = some (.list (L.map AV.int))) (hi : VI t T L S) (f : Fx [] H0 H)
section
variable {H : AH} {Q : AV → AH → Prop} {d : Nat}

local macro_rules | `(tactic| tb_start) => tyF "KSub2.mk+item_tg KSub2.mk+item_args/a"

theorem w_variables_of {t : Tm} {o : Nat} (hz : t.size < 1000) (ho : H[o]? = some (.list [t.av])) (h : ∀ H' r (L : List Int), H'[r]? = some (.list (L.map AV.int)) → (∀ k, k ∈ L ↔ k ∈ t.vars) → L.length ≤ t.size → H.length ≤ r → Fx [] H H' → Q (.obj r) H') : WCal (d + 1) 1 [.obj o] H Q := by
  refine WCal.mk (f := F_variables_of) rfl rfl ?_; dsimp only [F_variables_of]
  (repeat' tb_start)
  rename_i sl H1 e1 g1 f1 rl H2 e2 g2 f2 tl H3 e3 g3 f3
  have b1 := lt_of_get g1
  have b2 := lt_of_get g2
  have a1 : H.length ≤ sl := Nat.le_of_eq e1.symm
  have a2 : H.length ≤ rl := Nat.le_trans f1.len (Nat.le_of_eq e2.symm)
  have a3 : H.length ≤ tl := Nat.le_trans (Nat.le_trans f1.len f2.len) (Nat.le_of_eq e3.symm)
  have n1 : rl ≠ sl := by rw [e2]; exact lt_ne b1
  have n2 : tl ≠ rl := by rw [e3]; exact lt_ne b2
  have n3 : tl ≠ sl := by rw [e3]; exact lt_ne (Nat.lt_of_lt_of_le b1 f2.len)
  have n4 := n1.symm
  have n5 := n2.symm
  have n6 := n3.symm
  refine WEx1.whl (WWh.inv (VL t tl sl rl H) ?_ _ (tsum [t]) _ _ (Nat.lt_succ_self _)
    ⟨[t], [], [], rfl, rfl, rfl, rfl, g3, by kp_flats, f3.get g2 List.not_mem_nil, VI.start t, by kct_strs⟩)
  rintro k ρ' H4 ⟨T, L, S, r1, r2, r3, hk, q1, q2, q3, hi, f4⟩
  cases T with
  | nil =>
    (repeat' tb_start)
    exact h _ _ L q3 (fun k => by rw [← hi.vars]; exact ⟨.inl, fun h => h.elim id fun h => by cases h⟩) (Nat.le_trans (Nat.le_add_right _ _) hi.len) a2 f4
  | cons u T =>
    rw [List.map_cons, List.reverse_cons] at q1
    have hne : (!((T.map Tm.av).reverse ++ [u.av]).isEmpty) = true := snoc_ne
    have hr := roomT hi.len hz
    have hr1 := hr.1
    have hr2 := hr.2
    have hr3 := (hi.room hz).1
    have hr4 := (hi.room hz).2
    (repeat' tb_start)
    refine KIte.split (fun hv => ?_) fun hv => ?_
    · obtain ⟨j, rfl⟩ := tg_v hv
      (repeat' tb_start)
      refine KIte.split (fun hj => ?_) fun hj => ?_
      · (repeat' tb_start)
        refine ⟨tsum T, by rw [hk]; exact tsum_less _ _, ⟨T, L ++ [j], _, by kat_tups, by kat_tups, by kat_tups, rfl, by kp_flats, by kp_flats, ?_, hi.new _, by kct_strs⟩⟩
        rw [List.map_append]; show _ = some (AO.list (L.map AV.int ++ [AV.int j])); kp_flats
      · (repeat' tb_start)
        exact ⟨tsum T, by rw [hk]; exact tsum_less _ _, ⟨T, L, S, by kat_tups, by kat_tups, by kat_tups, rfl, by kp_flats, by kp_flats, by kp_flats, hi.old (by rw [Bool.not_eq_false'] at hj; exact hj), by kct_strs⟩⟩
    · have tu := tg_S u
      (repeat' tb_start)
      refine KIte.split (fun hs => ?_) fun hs => ?_
      · have hs := tu.symm.trans hs
        (repeat' tb_start)
        refine ⟨_, by rw [hk]; exact tsum_args _ _, ⟨u.args ++ T, L, S, by kat_tups, by kat_tups, by kat_tups, rfl, ?_, by kp_flats, by kp_flats, hi.push hs, by kct_strs⟩⟩
        rw [List.map_append, List.reverse_append]; kp_flats
      · (repeat' tb_start)
        exact ⟨tsum T, by rw [hk]; exact tsum_less _ _, ⟨T, L, S, by kat_tups, by kat_tups, by kat_tups, rfl, by kp_flats, by kp_flats, by kp_flats, hi.none (vars_none hv (tu.symm.trans hs)), by kct_strs⟩⟩
end

end
section
section
variable {H : AH} {Q : AV → AH → Prop} {d : Nat}

local macro_rules | `(tactic| tb_start) => tyF "KSub2.mk+item_tg KSub2.mk+item_args/a"

theorem w_variables {t : Tm} (hz : t.size < 1000) (h : ∀ H' r (L : List Int), H'[r]? = some (.list (L.map AV.int)) → (∀ k, k ∈ L ↔ k ∈ t.vars) → L.length ≤ t.size → H.length ≤ r → Fx [] H H' → Q (.obj r) H') : WCal (d + 2) 0 [t.av] H Q := by
  refine WCal.mk (f := F_variables) rfl rfl ?_; dsimp only [F_variables]
  (repeat' tb_start)
  rename_i w1 H1 e1 g1 f1
  have b1 := lt_of_get g1
  refine w_variables_of hz (by assumption) fun H' r L h1 h2 h3 h4 h5 => ?_
  (repeat' tb_start)
  exact h _ _ L (by assumption) h2 h3 (Nat.le_trans f1.len h4) (by kct_strs)
noncomputable def IntD (S : List (Int × AV)) : Prop := ∀ k v, lookI k S = some v → ∃ n, v = .int n
/-- what occurrences has met -/
structure OI (t : Tm) (T : List Tm) (S : List (Int × AV)) : Prop where
  int : IntD S
  vars : ∀ k, k ∈ t.vars → k ∈ varsL T ∨ (lookI k S).isSome = true
  len : S.length + tsum T ≤ t.size
theorem IntD.get {S : List (Int × AV)} (h : IntD S) (j : Int) : ∃ n, (lookI j S).getD (.int 0) = .int n := by
  cases hl : lookI j S with
  | none => exact ⟨0, rfl⟩
  | some v => obtain ⟨n, rfl⟩ := h j v hl; exact ⟨n, rfl⟩
theorem OI.add {t : Tm} {T : List Tm} {S : List (Int × AV)} {j n : Int} (h : OI t (.v j :: T) S) : OI t T (setD j (.int n) S) :=
  ⟨fun k v hk => by
    rw [lookI_set] at hk
    split at hk
    · cases hk; exact ⟨_, rfl⟩
    · exact h.int k v hk, fun k hk => by
    rw [lookI_set]
    by_cases e : j = k
    · rw [if_pos e]; exact .inr rfl
    · rw [if_neg e]
      exact (h.vars k hk).imp_left fun q => (varsL_cons.mp q).resolve_left fun q => e (List.mem_singleton.mp q).symm, Nat.le_trans (Nat.add_le_add_right (setD_len _ _ _) _) (by rw [Nat.add_assoc]; exact h.len)⟩
theorem OI.none {t u : Tm} {T : List Tm} {S : List (Int × AV)} (h : OI t (u :: T) S) (hu : u.vars = []) : OI t T S :=
  ⟨h.int, fun k hk => (h.vars k hk).imp_left fun q => (varsL_cons.mp q).resolve_left fun q => absurd (hu ▸ q) List.not_mem_nil, Nat.le_trans (Nat.add_le_add_left (Nat.le_of_lt (tsum_less _ _)) _) h.len⟩
theorem OI.push {t u : Tm} {T : List Tm} {S : List (Int × AV)} (h : OI t (u :: T) S) (hu : u.isS = true) : OI t (u.args ++ T) S :=
  ⟨h.int, fun k hk => (h.vars k hk).imp_left (varsL_args hu).mpr, Nat.le_trans (Nat.add_le_add_left (Nat.le_of_lt (tsum_args _ _)) _) h.len⟩
theorem OI.room {t : Tm} {T : List Tm} {S : List (Int × AV)} (h : OI t T S) (hn : t.size < 1000) : S.length + 16 ≤ 1000000 :=
  Nat.le_trans (Nat.add_le_add_right (Nat.le_trans (Nat.le_add_right _ _) (Nat.le_trans h.len (Nat.le_of_lt hn))) _) (by decide)
/-- the loop of occurrences -/
inductive OL (t : Tm) (tl sl : Nat) (H0 : AH) (k : Nat) (ρ : Loc) (H : AH) : Prop
  | mk (T : List Tm) (S : List (Int × AV)) (r1 : lookN 11 ρ = some (.obj tl)) (r2 : lookN 17 ρ = some (.obj sl)) (hk : k = tsum T) (q1 : H[tl]? = some (.list (T.map Tm.av).reverse)) (q2 : H[sl]? = some (.dict S false)) (hi : OI t T S) (f : Fx [] H0 H)
theorem w_occurrences {t : Tm} (hz : t.size < 1000) (h : ∀ H' r (S : List (Int × AV)), H'[r]? = some (.dict S false) → (∀ k, k ∈ t.vars → ∃ n, lookI k S = some (.int n)) → H.length ≤ r → Fx [] H H' → Q (.obj r) H') : WCal (d + 1) 2 [t.av] H Q := by
  refine WCal.mk (f := F_occurrences) rfl rfl ?_; dsimp only [F_occurrences]
  (repeat' tb_start)
  rename_i sl H1 e1 g1 f1 tl H2 e2 g2 f2
  have b1 := lt_of_get g1
  have a1 : H.length ≤ sl := Nat.le_of_eq e1.symm
  have a3 : H.length ≤ tl := Nat.le_trans f1.len (Nat.le_of_eq e2.symm)
  have n1 : tl ≠ sl := by rw [e2]; exact lt_ne b1
  have n2 := n1.symm
  refine WEx1.whl (WWh.inv (OL t tl sl H) ?_ _ (tsum [t]) _ _ (Nat.lt_succ_self _)
    ⟨[t], [], rfl, rfl, rfl, g2, f2.get g1 List.not_mem_nil, ⟨(fun k v h => by cases h), (fun k hk => .inl (varsL_cons.mpr (.inl hk))), Nat.le_of_eq (Nat.zero_add _)⟩, by kct_strs⟩)
  rintro k ρ' H4 ⟨T, S, r1, r2, hk, q1, q2, hi, f4⟩
  cases T with
  | nil =>
    (repeat' tb_start)
    refine h _ _ S q2 (fun k hk => ?_) a1 f4
    rcases hi.vars k hk with h | h
    · cases h
    · cases hl : lookI k S with
      | none => rw [hl] at h; cases h
      | some v => obtain ⟨n, rfl⟩ := hi.int k v hl; exact ⟨n, rfl⟩
  | cons u T =>
    rw [List.map_cons, List.reverse_cons] at q1
    have hne : (!((T.map Tm.av).reverse ++ [u.av]).isEmpty) = true := snoc_ne
    have hr := roomT hi.len hz
    have hr1 := hr.1
    have hr2 := hr.2
    have hr4 := hi.room hz
    (repeat' tb_start)
    refine KIte.split (fun hv => ?_) fun hv => ?_
    · obtain ⟨j, rfl⟩ := tg_v hv
      obtain ⟨n, hg⟩ := hi.int.get j
      (repeat' tb_start)
      rw [hg]
      (repeat' tb_start)
      exact ⟨tsum T, by rw [hk]; exact tsum_less _ _, ⟨T, _, by kat_tups, by kat_tups, rfl, by kp_flats, by kp_flats, hi.add, by kct_strs⟩⟩
    · have tu := tg_S u
      (repeat' tb_start)
      refine KIte.split (fun hs => ?_) fun hs => ?_
      · have hs := tu.symm.trans hs
        (repeat' tb_start)
        refine ⟨_, by rw [hk]; exact tsum_args _ _, ⟨u.args ++ T, S, by kat_tups, by kat_tups, rfl, ?_, by kp_flats, hi.push hs, by kct_strs⟩⟩
        rw [List.map_append, List.reverse_append]; kp_flats
      · (repeat' tb_start)
        exact ⟨tsum T, by rw [hk]; exact tsum_less _ _, ⟨T, S, by kat_tups, by kat_tups, rfl, by kp_flats, by kp_flats, hi.none (vars_none hv (tu.symm.trans hs)), by kct_strs⟩⟩
end

end
end
section
local macro_rules | `(tactic| keq_hits) => tyHits true
local macro_rules | `(tactic| kp_flats) => tyFlatV
local macro_rules | `(tactic| kct_strs) => tyFrV
local macro_rules | `(tactic| tb_start) => tyVS

section
section
variable {H : AH} {σ : Mk} {p : Plan} {st : St} {Q : AV → AH → Prop} {d : Nat}
theorem w_variablesM (m : M H σ p st) {t : Tm} {k : Int} {b : Bool} (hz : t.size < 1000) (hb : decide (k ∈ t.vars) = b) (h : ∀ H' r (L : List Int), H'[r]? = some (.list (L.map AV.int)) → decide (k ∈ L) = b → M H' σ p st → Fr σ.x [] H H' → Q (.obj r) H') : WCal (d + 2) 0 [t.av] H Q :=
  w_variables hz fun H' r L h1 h2 _ _ f => h H' r L h1 (by rw [← hb]; exact decide_eq_decide.mpr (h2 k)) (f.m m) f.fr

local macro_rules | `(tactic| tb_rel) => tyF "w_emit/al/111 w_new_temporary/a/111 w_is_void/aa w_is_permanent/aa w_place/aa w_fresh_register/aa/111 w_settle/aal/111 w_register_of/aal/111 w_introduce/aal/111 w_unify_variables/aaal/111 w_constant_cell/R w_match/aRol/111 w_build/aRooo/111"

local macro_rules | `(tactic| tb_start) => tyF "KSub2.mk+item_tg KCmp2.mk+CmpIs.inL/A"

noncomputable def preWV (p : Plan) (k : Int) (t : Tm) (st : St) : St := if st.seen k = false ∧ k ∈ t.vars then introduce p k st else st
noncomputable def uwSeen (p : Plan) (k : Int) (t : Tm) (st : St) : St :=
  if t.isS = true then matchLoop p t.size [(t, reg 32 (freshN p k st))] (regOfSt p k st) else (regOfSt p k st).emit (cmd 48 [cell t, reg 32 (freshN p k st)])
noncomputable def uwVoid (p : Plan) (t : Tm) (st : St) : St := if t.isS = true then build p t st.next st.bump else st
noncomputable def uwNew (p : Plan) (k : Int) (t : Tm) (st : St) : St :=
  settle p k (freshN p k st) (if t.isS = true then build p t (freshN p k st) (freshSt p k st) else (freshSt p k st).emit (cmd 102 [cell t, reg 32 (freshN p k st)]))
noncomputable def uwOn (p : Plan) (k : Int) (t : Tm) (st : St) : St :=
  if st.seen k = true then uwSeen p k t st else if p.void k = true then uwVoid p t st else uwNew p k t st
noncomputable def unifyWV (p : Plan) (k : Int) (t : Tm) (st : St) : St :=
  match t with
  | .v j => unifyVars p k j st
  | t => uwOn p k t (preWV p k t st)
theorem preWV_len (p : Plan) (k : Int) (t : Tm) (st : St) : (preWV p k t st).code.length ≤ st.code.length + 2 := by
  have := introduce_len p k st
  unfold preWV
  split <;> (first | lia | omega)
theorem uwOn_len (p : Plan) (k : Int) (t : Tm) (st : St) : (uwOn p k t st).code.length ≤ st.code.length + 12 * t.size + 8 := by
  have h1 := regOfSt_len p k st
  have h2 := matchLoop_len p t.size [(t, reg 32 (freshN p k st))] (regOfSt p k st)
  have h3 := build_len p t st.next st.bump
  have h4 := build_len p t (freshN p k st) (freshSt p k st)
  have h5 := fresh_len p k st
  have h6 : st.bump.code.length = st.code.length := rfl
  have h7 := fun n s => settle_len p k n s
  unfold uwOn uwSeen uwVoid uwNew
  split
  · split
    · (first | lia | omega)
    · simp only [St.emit, List.length_append, List.length_cons, List.length_nil]; (first | lia | omega)
  · split
    · split <;> (first | lia | omega)
    · refine Nat.le_trans (h7 _ _) ?_
      split
      · (first | lia | omega)
      · simp only [St.emit, List.length_append, List.length_cons, List.length_nil]; (first | lia | omega)
theorem unifyWV_len (p : Plan) (k : Int) (t : Tm) (st : St) : (unifyWV p k t st).code.length ≤ st.code.length + 12 * t.size + 10 := by
  have h1 := preWV_len p k t st
  have h2 := uwOn_len p k t (preWV p k t st)
  cases t with
  | v j => have := unifyVars_len p k j st; show (unifyVars p k j st).code.length ≤ _; (first | lia | omega)
  | _ => show (uwOn p k _ (preWV p k _ st)).code.length ≤ _; (first | lia | omega)
theorem room13 {a b n : Nat} (h : a + 12 * n + 58 < 1000000) (hb : b ≤ a + 1) : b + 6 * n + 10 < 1000000 ∧ b + 12 * n + 30 < 1000000 ∧ b + 16 ≤ 1000000 := by (first | lia | omega)
theorem room14 {a b n : Nat} (h : b + 12 * n + 30 < 1000000) (ha : a ≤ b + 6 * (2 * n + 1)) : a + 16 ≤ 1000000 := by (first | lia | omega)
theorem room15 {a b n : Nat} (h : a + 12 * n + 60 < 1000000) (hb : b ≤ a + 2) : b + 12 * n + 58 < 1000000 := by (first | lia | omega)
theorem room16 {a n : Nat} (h : a + 12 * n + 60 < 1000000) : a + 16 ≤ 1000000 := by (first | lia | omega)
theorem w_unify_with_variable (m : M H σ p st) {k : Int} {t : Tm} (hk : p.dom k = true) (ho : t.Ok p) (hl : st.code.length + 12 * t.size + 60 < 1000000) (hz : t.size < 1000)
    (h : ∀ H', M H' σ p (unifyWV p k t st) → Fr σ.x [] H H' → Q .none H') : WCal (d + 6) 20 [.obj σ.x, .int k, t.av] H Q := by
  have hl0 := room16 hl
  refine WCal.mk (f := F_InPlace_unify_with_variable) rfl rfl ?_; dsimp only [F_InPlace_unify_with_variable]
  (repeat' tb_start)
  refine KIte.split (fun htv => ?_) fun htv => ?_
  · obtain ⟨j, rfl⟩ := tg_v htv
    have hj : p.dom j = true := ho
    (repeat' tb_start)
    exact h _ (by assumption) (by kct_strs)
  rw [show unifyWV p k t st = uwOn p k t (preWV p k t st) by cases t <;> first | rfl | exact absurd (show true = false from htv) (by decide)] at h
  repeat' ((fail_if_success (with_reducible show WEx _ _ _ _ (S.ite (X.bop _ _) _ _ :: _) _)); tb_start)
  refine WEx.cut (UW σ p (preWV p k t st) [(22, .obj σ.x), (34, .int k), (8, t.av)] H) ?_ ?_
  · (repeat' tb_start)
    refine KTrs.nt (fun hs => ?_) fun hs => ?_
    · (repeat' tb_start)
      refine w_variablesM (k := k) (by assumption) hz rfl fun H' r L h1 h2 m1 f1 => ?_
      (repeat' tb_start)
      refine KIte.split (fun hb => ?_) fun hb => ?_
      · rw [show preWV p k t st = introduce p k st from if_pos ⟨hs, of_decide_eq_true (h2.symm.trans hb)⟩]
        (repeat' tb_start)
        exact ⟨rfl, by assumption, by kct_strs⟩
      · rw [show preWV p k t st = st from if_neg fun q => of_decide_eq_false (h2.symm.trans hb) q.2]
        (repeat' tb_start)
        exact ⟨rfl, by assumption, by kct_strs⟩
    · rw [show preWV p k t st = st from if_neg fun q => by rw [hs] at q; cases q.1]
      (repeat' tb_start)
      exact ⟨rfl, m, Fr.refl _⟩
  rintro _ H1 ⟨rfl, m1, f1⟩
  have hp2 := room15 hl (preWV_len p k t st)
  generalize preWV p k t st = st1 at m1 h hp2
  have tu := tg_S t
  have q1 := room13 hp2 (regOfSt_len p k st1)
  have q2 := room13 hp2 (Nat.le_succ_of_le (Nat.le_of_eq (fresh_len p k st1)))
  have q3 := room13 hp2 (Nat.le_succ st1.code.length)
  have q4 := room14 q2.2.1 (build_len p t (freshN p k st1) (freshSt p k st1))
  have q11 := q1.1
  have q12 := q1.2.2
  have q21 := q2.2.1
  have q22 := q2.2.2
  have q31 : st1.bump.code.length + 12 * t.size + 30 < 1000000 := q3.2.1
  have q32 := q3.2.2
  have hz5 : t.size < 100000 := Nat.lt_trans hz (by decide)
  (repeat' tb_start)
  refine KIte.split (fun hs => ?_) fun hs => ?_
  · rw [show uwOn p k t st1 = uwSeen p k t st1 from if_pos hs] at h
    (repeat' tb_start)
    refine KIte.split (fun hS => ?_) fun hS => ?_
    · have hS := tu.symm.trans hS
      rw [show uwSeen p k t st1 = _ from if_pos hS] at h
      (repeat' tb_start)
      exact h _ (by assumption) (by kct_strs)
    · have hS := tu.symm.trans hS
      rw [show uwSeen p k t st1 = _ from if_neg (by rw [hS]; decide)] at h
      have hC := tg_C hS htv
      (repeat' tb_start)
      exact h _ (by assumption) (by kct_strs)
  rw [show uwOn p k t st1 = _ from if_neg (by rw [hs]; decide)] at h
  (repeat' tb_start)
  refine KIte.split (fun hv => ?_) fun hv => ?_
  · rw [if_pos hv] at h
    (repeat' tb_start)
    refine KIte.split (fun hS => ?_) fun hS => ?_
    · have hS := tu.symm.trans hS
      rw [show uwVoid p t st1 = _ from if_pos hS] at h
      (repeat' tb_start)
      exact h _ (by assumption) (by kct_strs)
    · rw [show uwVoid p t st1 = _ from if_neg (by rw [tu.symm.trans hS]; decide)] at h
      (repeat' tb_start)
      exact h _ (by assumption) (by kct_strs)
  · rw [if_neg (by rw [hv]; decide)] at h
    unfold uwNew at h
    (repeat' tb_start)
    refine KIte.split (fun hS => ?_) fun hS => ?_
    · have hS := tu.symm.trans hS
      rw [if_pos hS] at h
      (repeat' tb_start)
      exact h _ (by assumption) (by kct_strs)
    · have hS := tu.symm.trans hS
      rw [if_neg (by rw [hS]; decide)] at h
      have hC := tg_C hS htv
      (repeat' tb_start)
      exact h _ (by assumption) (by kct_strs)
end

end
section
theorem ite_ff {b : Bool} {A B : Prop} (hc : b = false) (h : A) : if b = false then A else B := by rw [if_pos hc]; exact h
theorem ite_ft {b : Bool} {A B : Prop} (hc : b = true) (h : B) : if b = false then A else B := by rw [if_neg (by rw [hc]; decide)]; exact h
noncomputable def argPairs : Tm → Tm → Option (List (Tm × Tm))
  | .s1 x, .s1 y => some [(x, y)]
  | .s2 d x y, .s2 e z u => if d = e then some [(x, z), (y, u)] else none
  | _, _ => none
noncomputable def constSame : Tm → Tm → Bool
  | .a n, .a m => decide (n = m)
  | .i n, .i m => decide (n = m)
  | _, _ => false
noncomputable def unifyOne (p : Plan) (a b : Tm) (st : St) : St :=
  match a, b with
  | .v k, t => unifyWV p k t st
  | t, .v k => unifyWV p k t st
  | a, b => if constSame a b = true then st else st.emit (cmd 95 [])
noncomputable def unifyLoop (p : Plan) : Nat → List (Tm × Tm) → St → St
  | 0, _, st => st
  | _ + 1, [], st => st
  | n + 1, (a, b) :: W, st =>
    match argPairs a b with
    | some l => unifyLoop p n (l ++ W) st
    | none => unifyLoop p n W (unifyOne p a b st)
noncomputable def psum : List (Tm × Tm) → Nat
  | [] => 0
  | x :: W => x.1.size + x.2.size + psum W
theorem psum_append (a b : List (Tm × Tm)) : psum (a ++ b) = psum a + psum b := by
  induction a with
  | nil => simp [psum]
  | cons x a ih => simp only [List.cons_append, psum, ih]; (first | lia | omega)
noncomputable def unifyGoal (p : Plan) (a b : Tm) (st : St) : St := unifyLoop p (a.size + b.size) [(a, b)] st
theorem argPairs_sum {a b : Tm} {l : List (Tm × Tm)} (h : argPairs a b = some l) : psum l + 2 = a.size + b.size := by
  unfold argPairs at h
  split at h
  · cases h; simp only [psum, Tm.size]; (first | lia | omega)
  · split at h
    · cases h; simp only [psum, Tm.size]; (first | lia | omega)
    · cases h
  · cases h
theorem unifyLoop_fuel (p : Plan) : ∀ (n m : Nat) (W : List (Tm × Tm)) (st : St), psum W ≤ n → psum W ≤ m → unifyLoop p n W st = unifyLoop p m W st
  | 0, 0, _, _, _, _ => rfl
  | 0, m + 1, [], _, _, _ => rfl
  | n + 1, 0, [], _, _, _ => rfl
  | n + 1, m + 1, [], _, _, _ => rfl
  | 0, _, x :: W, _, h, _ => by have := x.1.size_pos; simp only [psum] at h; (first | lia | omega)
  | n + 1, 0, x :: W, _, _, h => by have := x.1.size_pos; simp only [psum] at h; (first | lia | omega)
  | n + 1, m + 1, (a, b) :: W, st, h, k => by
    have p1 := a.size_pos
    have p2 := b.size_pos
    simp only [psum] at h k
    cases e : argPairs a b with
    | some l =>
      have hl := argPairs_sum e
      have hs := psum_append l W
      simp only [unifyLoop, e]
      exact unifyLoop_fuel p n m (l ++ W) st (by (first | lia | omega)) (by (first | lia | omega))
    | none =>
      simp only [unifyLoop, e]
      exact unifyLoop_fuel p n m W _ (by (first | lia | omega)) (by (first | lia | omega))
theorem unifyLoop_append (p : Plan) : ∀ (n : Nat) (W V : List (Tm × Tm)) (st : St), psum W + psum V ≤ n → unifyLoop p n (W ++ V) st = unifyLoop p n V (unifyLoop p n W st)
  | 0, W, V, st, _ => by cases W <;> cases V <;> rfl
  | n + 1, [], V, st, _ => rfl
  | n + 1, (a, b) :: W, V, st, h => by
    have p1 := a.size_pos
    have p2 := b.size_pos
    simp only [psum] at h
    rw [unifyLoop_fuel p (n + 1) n V _ (by (first | lia | omega)) (by (first | lia | omega))]
    cases e : argPairs a b with
    | some l =>
      have hl := argPairs_sum e
      have hs := psum_append l W
      simp only [List.cons_append, unifyLoop, e]
      rw [← List.append_assoc]
      exact unifyLoop_append p n (l ++ W) V st (by (first | lia | omega))
    | none =>
      simp only [List.cons_append, unifyLoop, e]
      exact unifyLoop_append p n W V _ (by (first | lia | omega))
/-- l and r are the equations E, joined side by side -/
inductive Joined : List (Tm × Tm) → Tm → Tm → Prop
  | one (a b : Tm) : Joined [(a, b)] a b
  | two {E F : List (Tm × Tm)} {a b c e : Tm} (d : Bool) : Joined E a b → Joined F c e → Joined (E ++ F) (.s2 d a c) (.s2 d b e)
theorem Joined.sum {E : List (Tm × Tm)} {a b : Tm} (h : Joined E a b) : psum E ≤ a.size + b.size := by
  induction h with
  | one a b => simp [psum]
  | two d _ _ i1 i2 => rw [psum_append]; simp only [Tm.size]; (first | lia | omega)
theorem Joined.loop {E : List (Tm × Tm)} {a b : Tm} (h : Joined E a b) (p : Plan) : ∀ (n : Nat) (W : List (Tm × Tm)) (st : St), a.size + b.size + psum W ≤ n → unifyLoop p n ((a, b) :: W) st = unifyLoop p n (E ++ W) st := by
  induction h with
  | one a b => intros; rfl
  | @two E F a b c e d h1 h2 i1 i2 =>
    intro n W st hn
    simp only [Tm.size] at hn
    obtain ⟨k, rfl⟩ : ∃ k, n = k + 1 := ⟨n - 1, by (first | lia | omega)⟩
    have s1 := h1.sum
    have s2 := h2.sum
    have e1 : unifyLoop p (k + 1) ((.s2 d a c, .s2 d b e) :: W) st = unifyLoop p k ((a, b) :: (c, e) :: W) st := by simp [unifyLoop, argPairs]
    rw [e1, unifyLoop_fuel p k (k + 1) _ _ (by simp only [psum]; (first | lia | omega)) (by simp only [psum]; (first | lia | omega)), i1 (k + 1) ((c, e) :: W) st (by simp only [psum]; (first | lia | omega)),
      unifyLoop_append p (k + 1) E ((c, e) :: W) st (by simp only [psum]; (first | lia | omega)), i2 (k + 1) W _ (by (first | lia | omega)), List.append_assoc, unifyLoop_append p (k + 1) E (F ++ W) st (by rw [psum_append]; (first | lia | omega))]
noncomputable def unifyAll (p : Plan) (E : List (Tm × Tm)) (st : St) : St := E.foldl (fun st x => unifyGoal p x.1 x.2 st) st
theorem unifyAll_loop (p : Plan) : ∀ (E : List (Tm × Tm)) (n : Nat) (st : St), psum E ≤ n → unifyLoop p n E st = unifyAll p E st
  | [], n, st, _ => by cases n <;> rfl
  | (a, b) :: E, n, st, h => by
    simp only [psum] at h
    have e : (a, b) :: E = [(a, b)] ++ E := rfl
    rw [e, unifyLoop_append p n _ _ _ (by simp only [psum]; (first | lia | omega)), unifyAll_loop p E n _ (by (first | lia | omega)), unifyLoop_fuel p n (a.size + b.size) [(a, b)] st (by simp only [psum]; (first | lia | omega)) (by simp only [psum]; (first | lia | omega))]
    rfl
/-- the plain law -/
theorem plain_law (p : Plan) {E : List (Tm × Tm)} {l r : Tm} (h : Joined E l r) (st : St) : unifyGoal p (.s1 l) (.s1 r) st = unifyAll p E st := by
  have hs := h.sum
  unfold unifyGoal
  simp only [Tm.size]
  have e1 : unifyLoop p (l.size + 1 + (r.size + 1)) [(.s1 l, .s1 r)] st = unifyLoop p (l.size + 1 + r.size) [(l, r)] st := by
    rw [show l.size + 1 + (r.size + 1) = (l.size + 1 + r.size) + 1 from by (first | lia | omega)]; simp [unifyLoop, argPairs]
  rw [e1, h.loop p _ [] st (by simp only [psum]; (first | lia | omega)), List.append_nil, unifyAll_loop p E _ st (by (first | lia | omega))]

section
variable {H : AH} {σ : Mk} {p : Plan} {st : St} {Q : AV → AH → Prop} {d : Nat}
theorem cmp_const {a b : Tm} (h1 : a.isC = true) (h2 : b.isC = true) : CmpIs H .NotEq a.av b.av (!constSame a b) := by
  cases a <;> first | (cases h1; done) | (cases b <;> first | (cases h2; done) | exact CmpIs.cne _ _ _ _)
noncomputable abbrev pav (x : Tm × Tm) : AV := .tup [x.1.av, x.2.av]
theorem unifyOne_len (p : Plan) (a b : Tm) (st : St) : (unifyOne p a b st).code.length ≤ st.code.length + 24 * (a.size + b.size) := by
  have h1 := a.size_pos
  have h2 := b.size_pos
  unfold unifyOne
  split
  · refine Nat.le_trans (unifyWV_len p _ _ st) ?_; (first | lia | omega)
  · refine Nat.le_trans (unifyWV_len p _ _ st) ?_; (first | lia | omega)
  · split
    · (first | lia | omega)
    · simp only [St.emit, List.length_append, List.length_cons, List.length_nil]; (first | lia | omega)
theorem argPairs_ok {p : Plan} {a b : Tm} {l : List (Tm × Tm)} (h : argPairs a b = some l) (ha : a.Ok p) (hb : b.Ok p) : ∀ x ∈ l, x.1.Ok p ∧ x.2.Ok p := by
  unfold argPairs at h
  split at h
  · cases h; intro x hx; rw [List.mem_singleton.mp hx]; exact ⟨ha, hb⟩
  · split at h
    · cases h
      intro x hx
      rcases List.mem_cons.mp hx with hx | hx
      · rw [hx]; exact ⟨ha.1, hb.1⟩
      · rw [List.mem_singleton.mp hx]; exact ⟨ha.2, hb.2⟩
    · cases h
  · cases h
theorem argPairs_len {a b : Tm} {l : List (Tm × Tm)} (h : argPairs a b = some l) : l.length ≤ 2 := by
  unfold argPairs at h
  split at h
  · cases h; exact Nat.le_of_ble_eq_true rfl
  · split at h
    · cases h; exact Nat.le_of_ble_eq_true rfl
    · cases h
  · cases h
theorem psum_len : ∀ W : List (Tm × Tm), W.length ≤ psum W
  | [] => Nat.le_refl _
  | x :: W => by have := psum_len W; have := x.1.size_pos; simp only [psum, List.length_cons]; (first | lia | omega)

local macro_rules | `(tactic| tb_rel) => tyF "w_emit/al/111"

theorem unifyOne_nn (p : Plan) {a b : Tm} (st : St) (h1 : decide (tg a = 15) = false) (h2 : decide (tg b = 15) = false) : unifyOne p a b st = if constSame a b = true then st else st.emit (cmd 95 []) := by
  cases a <;> first | (exact absurd (show true = false from h1) (by decide)) | (cases b <;> first | (exact absurd (show true = false from h2) (by decide)) | rfl)
theorem argPairs_no {a b : Tm} (h1 : a.isS = true) (h2 : b.isS = true) (h : argPairs a b = none) : decide (fnS a = fnS b) = false := by
  cases a <;> first | (cases h1; done) | (cases b <;> first | (cases h2; done) | (cases h; done) | skip)
  · rename_i d _ _; cases d <;> rfl
  · rename_i d _ _ _; cases d <;> rfl
  · rename_i d _ _ e _ _
    cases d <;> cases e <;> first | rfl | (simp [argPairs] at h)
theorem argPairs_yes {a b : Tm} {l : List (Tm × Tm)} (h : argPairs a b = some l) : decide (fnS a = fnS b) = true := by
  unfold argPairs at h
  split at h
  · rfl
  · split at h
    · rename_i e; rw [e]; exact decide_eq_true rfl
    · cases h
  · cases h
theorem lim7 {n : Nat} (h : n + 16 ≤ 1000000) : n + 10 < 1000000 := Nat.lt_of_lt_of_le (Nat.add_lt_add_left (by decide : 10 < 16) n) h
theorem roomU7 {a n : Nat} (h : a + 24 * (n + 1) + 15000 < 1000000) : a + 24 * n + 15000 < 1000000 := by (first | lia | omega)
theorem unifyOne_vr (p : Plan) {u : Tm} {k : Int} (st : St) (h : decide (tg u = 15) = false) : unifyWV p k u st = unifyOne p u (.v k) st := by cases u <;> first | rfl | exact absurd (show true = false from h) (by decide)
theorem argPairs_vr (u : Tm) (k : Int) : argPairs u (.v k) = none := by cases u <;> rfl
theorem argPairs_vl (k : Int) (w : Tm) : argPairs (.v k) w = none := rfl
theorem constSame_l {u w : Tm} (h : u.isS = true) : constSame u w = false := by cases u <;> first | rfl | cases h
theorem constSame_r {u w : Tm} (h : w.isS = true) : constSame u w = false := by cases w <;> first | (cases u <;> rfl) | cases h
theorem argPairs_l {u w : Tm} {l : List (Tm × Tm)} (h : argPairs u w = some l) : u.isS = true := by cases u <;> first | rfl | cases h
theorem argPairs_r {u w : Tm} {l : List (Tm × Tm)} (h : argPairs u w = some l) : w.isS = true := by cases w <;> first | rfl | (cases u <;> cases h)
section
local macro_rules | `(tactic| tb_start) => tyUR

theorem w_push {ρ : Loc} {Qs : Fl → Loc → AH → Prop} (m : M H σ p st) {a b : Tm} {l : List (Tm × Tm)} {wl : Nat} {ws : List AV} (hp : argPairs a b = some l) (r1 : lookN 89 ρ = some (.obj wl)) (r2 : lookN 92 ρ = some a.av) (r3 : lookN 93 ρ = some b.av) (hw : H[wl]? = some (.list ws)) (hx : σ.x + 4 ≤ wl) (hz : ws.length + 10 < 1000000)
    (h : ∀ ρ' H', (∀ x, x ≠ 81 → lookN x ρ' = lookN x ρ) → H'[wl]? = some (.list (ws ++ (l.map pav).reverse)) → M H' σ p st → Fr σ.x [wl] H H' → Qs .next ρ' H') :
    WEx d F_InPlace_unify_goal.sc ρ H [.asg (.nm 81) (.bin .Sub (.call (.nm 51) [.sub (.nm 92) (.int 2)]) (.int 1)), .whl (.cmp .GtE (.nm 81) (.int 0)) [.ex (.call (.att (.nm 89) 0) [.tup [.sub (.sub (.nm 92) (.int 2)) (.nm 81), .sub (.sub (.nm 93) (.int 2)) (.nm 81)]]), .aug (.nm 81) .Sub (.int 1)]] Qs := by
  dsimp only [F_InPlace_unify_goal]
  unfold argPairs at hp
  split at hp
  · cases hp
    (repeat' tb_start)
    exact h _ _ (fun x hx => by rw [lookN_ne' _ (Ne.symm hx), lookN_ne' _ (Ne.symm hx)]) (by assumption) (by assumption) (by kct_strs)
  · split at hp
    · cases hp
      (repeat' tb_start)
      rename_i h9 _ _
      refine h _ _ (fun x hx => by rw [lookN_ne' _ (Ne.symm hx), lookN_ne' _ (Ne.symm hx), lookN_ne' _ (Ne.symm hx)]) ?_ (by assumption) (by kct_strs)
      rw [List.append_assoc] at h9
      exact h9
    · cases hp
  · cases hp
end
local macro_rules | `(tactic| tb_start) => tyF "KSub2.mk+item_tg KCmp2.mk+cmp_const/AA KSub2.mk+fnS_eq/uA"

theorem fuelU {u w : Tm} {W : List (Tm × Tm)} {n : Nat} (h : psum ((u, w) :: W) ≤ n) : ∃ n', n = n' + 1 := by
  have h1 := u.size_pos
  have h2 : psum ((u, w) :: W) = u.size + w.size + psum W := rfl
  exact ⟨n - 1, by (first | lia | omega)⟩
theorem roomU1 {x : Tm × Tm} {W : List (Tm × Tm)} {n : Nat} (h : psum (x :: W) ≤ n) (hn : n < 1000) : (W.map pav).reverse.length + 16 ≤ 1000000 := by
  have h1 := psum_len (x :: W)
  rw [List.length_reverse, List.length_map]
  rw [List.length_cons] at h1
  (first | lia | omega)
theorem roomU2 {a n : Nat} (h : a + 24 * (n + 1) + 15000 < 1000000) : a + 16 ≤ 1000000 := by (first | lia | omega)
theorem roomU3 {a n k s : Nat} (h : a + 24 * (n + 1) + 15000 < 1000000) (hn : n + 1 < 1000) (hk : k ≤ s) (hs : s + 0 ≤ n + 1) : a + 12 * k + 60 < 1000000 ∧ k < 1000 := by (first | lia | omega)
theorem roomU4 {a b n s : Nat} (h : a + 24 * (n + 1) + 15000 < 1000000) (hb : b ≤ a + 24 * s) (hs : s ≤ n + 1) : b + 24 * (n + 1 - s) + 15000 < 1000000 := by (first | lia | omega)
theorem roomU5 {s p n : Nat} (h : s + p ≤ n + 1) (hs : 0 < s) : p ≤ n ∧ p ≤ n + 1 - s ∧ p < s + p ∧ s ≤ n + 1 := by (first | lia | omega)
theorem roomU6 {s p n l : Nat} (h : s + p ≤ n + 1) (hl : l + 2 = s) : l + p < s + p ∧ l + p ≤ n := by (first | lia | omega)
/-- the loop of unify_goal -/
inductive UL (σ : Mk) (p : Plan) (a b : Tm) (st : St) (wl : Nat) (H0 : AH) (k : Nat) (ρ : Loc) (H : AH) : Prop
  | mk (n : Nat) (W : List (Tm × Tm)) (st' : St) (r1 : lookN 22 ρ = some (.obj σ.x)) (r2 : lookN 89 ρ = some (.obj wl)) (hk : k = psum W) (hW : ∀ x ∈ W, x.1.Ok p ∧ x.2.Ok p) (m : M H σ p st') (e : unifyGoal p a b st = unifyLoop p n W st') (hn : psum W ≤ n) (hn2 : n < 1000)
      (hc : st'.code.length + 24 * n + 15000 < 1000000) (h1 : H[wl]? = some (.list (W.map pav).reverse)) (f : Fr σ.x [] H0 H)
/-- a pair, put in order -/
inductive US (σ : Mk) (p : Plan) (u w : Tm) (st : St) (wl : Nat) (A : List AV) (H0 : AH) (ρ : Loc) (H : AH) : Prop
  | v (k : Int) (t : Tm) (hk : p.dom k = true) (ht : t.Ok p) (hs : t.size ≤ u.size + w.size) (he : unifyWV p k t st = unifyOne p u w st) (ha : argPairs u w = none)
      (r1 : lookN 22 ρ = some (.obj σ.x)) (r2 : lookN 89 ρ = some (.obj wl)) (r3 : lookN 92 ρ = some (Tm.v k).av) (r4 : lookN 93 ρ = some t.av) (m : M H σ p st) (h1 : H[wl]? = some (.list A)) (f : Fr σ.x [] H0 H)
  | n (hu : decide (tg u = 15) = false) (hw : decide (tg w = 15) = false)
      (r1 : lookN 22 ρ = some (.obj σ.x)) (r2 : lookN 89 ρ = some (.obj wl)) (r3 : lookN 92 ρ = some u.av) (r4 : lookN 93 ρ = some w.av) (m : M H σ p st) (h1 : H[wl]? = some (.list A)) (f : Fr σ.x [] H0 H)
theorem w_unify_goal (m : M H σ p st) {a b : Tm} (hoa : a.Ok p) (hob : b.Ok p) (hz : a.size + b.size < 1000) (hl : st.code.length + 24 * (a.size + b.size) + 15000 < 1000000)
    (h : ∀ H', M H' σ p (unifyGoal p a b st) → Fr σ.x [] H H' → Q .none H') : WCal (d + 7) 19 [.obj σ.x, a.av, b.av] H Q := by
  have hml := m.lt
  refine WCal.mk (f := F_InPlace_unify_goal) rfl rfl ?_; dsimp only [F_InPlace_unify_goal]
  (repeat' tb_start)
  rename_i wl H1 e1 h1 m1 f1
  have hHw : H.length ≤ wl := Nat.le_of_eq e1.symm
  have hwx : σ.x + 4 ≤ wl := Nat.le_trans hml hHw
  refine WEx1.whl (WWh.inv (UL σ p a b st wl H) ?_ _ (psum [(a, b)]) _ _ (Nat.lt_succ_self _)
    ⟨a.size + b.size, [(a, b)], st, rfl, rfl, rfl, fun x hx => by rw [List.mem_singleton.mp hx]; exact ⟨hoa, hob⟩, m1, rfl, Nat.le_refl _, hz, hl, h1, f1⟩)
  rintro k ρ' H2 ⟨n, W, st', r1, r2, hk, hW, m2, e2, hn, hn2, hc, h2, f2⟩
  cases W with
  | nil =>
    rw [show unifyLoop p n [] st' = st' from by cases n <;> rfl] at e2
    rw [e2] at h
    (repeat' tb_start)
    exact h _ m2 f2
  | cons x W' =>
    obtain ⟨u, w⟩ := x
    obtain ⟨n, rfl⟩ := fuelU hn
    have hWl := roomU1 hn hn2
    have hcl := roomU2 hc
    have hsz : 0 < u.size + w.size := Nat.lt_of_lt_of_le u.size_pos (Nat.le_add_right _ _)
    have h5 := roomU5 hn hsz
    rw [List.map_cons, List.reverse_cons] at h2
    have hou : u.Ok p := (hW _ (.head _)).1
    have how : w.Ok p := (hW _ (.head _)).2
    have cl : ∀ (ρ6 : Loc) (H6 : AH), argPairs u w = none → lookN 22 ρ6 = some (.obj σ.x) → lookN 89 ρ6 = some (.obj wl) → M H6 σ p (unifyOne p u w st') → H6[wl]? = some (.list (W'.map pav).reverse) → Fr σ.x [] H H6 → ∃ k', k' < k ∧ UL σ p a b st wl H k' ρ6 H6 :=
      fun ρ6 H6 hp s1 s2 m6 g6 f6 => ⟨psum W', by rw [hk]; exact h5.2.2.1, ⟨n + 1 - (u.size + w.size), W', _, s1, s2, rfl, fun x hx => hW x (.tail _ hx), m6,
        e2.trans ((show unifyLoop p (n + 1) ((u, w) :: W') st' = unifyLoop p n W' (unifyOne p u w st') by simp only [unifyLoop, hp]).trans (unifyLoop_fuel p _ _ _ _ h5.1 h5.2.1)), h5.2.1, Nat.lt_of_le_of_lt (Nat.sub_le _ _) hn2, roomU4 hc (unifyOne_len p u w st') h5.2.2.2, g6, f6⟩⟩
    repeat' ((fail_if_success (with_reducible show WEx _ _ _ _ (S.ite (X.bop _ _) _ _ :: _) _)); tb_start)
    refine WEx.cut (US σ p u w st' wl (W'.map pav).reverse H) ?_ ?_
    · (repeat' tb_start)
      refine KTrs.nt (fun hu => ?_) fun hu => ?_
      · (repeat' tb_start)
        refine KIte.split (fun hw => ?_) fun hw => ?_
        · (repeat' tb_start)
          obtain ⟨k, rfl⟩ := tg_v hw
          exact .v k u how hou (Nat.le_add_right _ _) (unifyOne_vr p st' hu) (argPairs_vr u k) (by kat_tups) (by kat_tups) (by kat_tups) (by kat_tups) (by assumption) (by kp_flats) (by kct_strs)
        · (repeat' tb_start)
          exact .n hu hw (by kat_tups) (by kat_tups) (by kat_tups) (by kat_tups) (by assumption) (by kp_flats) (by kct_strs)
      · obtain ⟨k, rfl⟩ := tg_v hu
        (repeat' tb_start)
        exact .v k w hou how (Nat.le_add_left _ _) rfl (argPairs_vl k w) (by kat_tups) (by kat_tups) (by kat_tups) (by kat_tups) (by assumption) (by kp_flats) (by kct_strs)
    rintro ρ3 H3 (⟨k, t, hk, ht, hts, he, ha, s1, s2, s3, s4, m3, g3, f3⟩ | ⟨hu, hw, s1, s2, s3, s4, m3, g3, f3⟩)
    · (repeat' tb_start)
      refine w_unify_with_variable (by assumption) hk ht (roomU3 hc hn2 hts h5.2.2.2).1 (roomU3 hc hn2 hts h5.2.2.2).2 fun H4 m4 f4 => ?_
      rw [he] at m4
      (repeat' tb_start)
      exact cl _ _ ha (by kat_tups) (by kat_tups) m4 (by kp_flats) (by kct_strs)
    · have tu := tg_S u
      have tw := tg_S w
      have huo := unifyOne_nn p st' hu hw
      repeat' ((fail_if_success (with_reducible show WEx _ _ _ _ (S.ite (X.bop _ _) _ _ :: _) _)); tb_start)
      cases hap : argPairs u w with
      | none =>
        refine WEx.cons (WEx1.ite (WTr.as false ?_ ?_))
        · cases hsu : u.isS with
          | false => rw [hsu] at tu; (repeat' tb_start)
          | true =>
            rw [hsu] at tu
            cases hsw : w.isS with
            | false => rw [hsw] at tw; (repeat' tb_start)
            | true => rw [hsw] at tw; have hne := argPairs_no hsu hsw hap; (repeat' tb_start)
        · refine KIte.f rfl (WEx.cons (WEx1.ite (WTr.as (!constSame u w) ?_ ?_)))
          · cases hsu : u.isS with
            | true => rw [hsu] at tu; rw [constSame_l hsu]; (repeat' tb_start)
            | false =>
              rw [hsu] at tu
              cases hsw : w.isS with
              | true => rw [hsw] at tw; rw [constSame_r hsw]; (repeat' tb_start)
              | false => rw [hsw] at tw; have hcu := tg_C hsu hu; have hcw := tg_C hsw hw; (repeat' tb_start)
          · refine KIte.split (fun hcs => ?_) fun hcs => ?_
            · rw [if_neg (by rw [Bool.not_eq_true'] at hcs; rw [hcs]; decide)] at huo
              (repeat' tb_start)
              exact cl _ _ hap (by kat_tups) (by kat_tups) (by rw [huo]; assumption) (by kp_flats) (by kct_strs)
            · rw [if_pos (by rw [Bool.not_eq_false'] at hcs; exact hcs)] at huo
              (repeat' tb_start)
              exact cl _ _ hap (by kat_tups) (by kat_tups) (by rw [huo]; assumption) (by kp_flats) (by kct_strs)
      | some l =>
        have hne : decide (fnS u = fnS w) = true := argPairs_yes hap
        rw [argPairs_l hap] at tu
        rw [argPairs_r hap] at tw
        have hsu := argPairs_l hap
        have hsw := argPairs_r hap
        repeat' ((fail_if_success (with_reducible show WEx _ _ _ _ (S.asg (X.nm 81) _ :: _) _)); tb_start)
        refine w_push (by assumption) hap (by kat_tups) (by kat_tups) (by kat_tups) (by kp_flats) hwx (lim7 hWl) fun ρ4 H4 hρ g4 m4 f4 => ?_
        have hpa := psum_append l W'
        have h6 := roomU6 hn (argPairs_sum hap)
        rw [← hpa] at h6
        (repeat' tb_start)
        refine ⟨psum (l ++ W'), by rw [hk]; exact h6.1, ⟨n, l ++ W', st', ?_, ?_, rfl, fun x hx => ?_, m4, e2.trans (by simp only [unifyLoop, hap]), h6.2, Nat.lt_trans (Nat.lt_succ_self _) hn2, roomU7 hc, ?_, by kct_strs⟩⟩
        · rw [hρ _ (by decide)]; kat_tups
        · rw [hρ _ (by decide)]; kat_tups
        · rcases List.mem_append.mp hx with hx | hx
          · exact argPairs_ok hap hou how x hx
          · exact hW x (.tail _ hx)
        · rw [g4, List.map_append, List.reverse_append]
end

end
end
section
local macro_rules | `(tactic| keq_hits) => tyHits false
local macro_rules | `(tactic| kp_flats) => tyFlatX
local macro_rules | `(tactic| kct_strs) => tyFrX
local macro_rules | `(tactic| tb_start) => tyXS

section
/-! the law's own functions: the tape -/
inductive TP (H : AH) (t s : Nat) : Prop
  | mk (l : List Int) (i j : Int) (h1 : H[t]? = some (.list [.obj s, .int i, .int j])) (h2 : H[s]? = some (.list (l.map AV.int))) (hi : 0 ≤ i) (hl : l.length ≤ 60) (hts : t ≠ s)
theorem TP.fx {H H' : AH} {t s : Nat} {W : List Nat} (h : TP H t s) (f : Fx W H H') (ht : t ∉ W) (hs : s ∉ W) : TP H' t s := by
  obtain ⟨l, i, j, h1, h2, h3, h4, h5⟩ := h
  exact ⟨l, i, j, f.get h1 ht, f.get h2 hs, h3, h4, h5⟩
section
variable {H : AH} {Q : AV → AH → Prop} {d : Nat}
theorem store_listX {w : Nat} {l : List AV} {v : AV} {i : Int} {ρ : Loc} {Qs : Fl → Loc → AH → Prop} (hw : H[w]? = some (.list l)) (hi : 0 ≤ i ∧ i < l.length ∧ l.length ≤ 1000000) (h : ∀ H', H'[w]? = some (.list (l.set i.toNat v)) → Fx [w] H H' → Qs .next ρ H') : KSto (.obj w) (.int i) v ρ Qs H :=
  ⟨_, by unfold storeItem; dsimp only; rw [hw]; exact if_pos hi, h _ (set_get hw) (Fx.set _ List.mem_cons_self)⟩
theorem bin_mod {a b : Int} (hb : 0 < b ∧ b ≤ 100000000000000000000) : binOp Tb .Mod (.int a) (.int b) = some (.int (Int.fmod a b)) := by
  exact if_pos hb
theorem bin_div {a b : Int} (hb : 0 < b ∧ b ≤ 100000000000000000000) : binOp Tb .FloorDiv (.int a) (.int b) = some (.int (Int.fdiv a b)) := by
  exact if_pos hb
theorem item_ints {l : List Int} {i : Int} (h : 0 ≤ i ∧ i < l.length) (hl : l.length ≤ 60) : ∃ c, itemAt (l.map AV.int) i = some (.int c) := by
  unfold itemAt
  rw [if_pos ⟨h.1, by (first | lia | omega)⟩, List.getElem?_map, List.getElem?_eq_getElem (show i.toNat < l.length by (first | lia | omega))]
  exact ⟨_, rfl⟩

local macro_rules | `(tactic| tb_start) => tyF "KAugS2.mk/kr KBin2.mk+bin_mod/a KBin2.mk+bin_div/a store_listX/ks/111 KAugS3.mk/r"

theorem tp_next {H : AH} {t s : Nat} {l : List Int} {i : Int} (h1 : H[t]? = some (.list [.obj s, .int (i + 1), .int 0])) (h2 : H[s]? = some (.list (l.map AV.int))) (hi : 0 ≤ i) (hl : l.length ≤ 60) (hts : t ≠ s) : TP H t s := ⟨l, i + 1, 0, h1, h2, by (first | lia | omega), hl, hts⟩
theorem w_digit {t s : Nat} {m : Int} (hm : 0 < m ∧ m ≤ 100000000000000000000) (tp : TP H t s) (h : ∀ H' f, 0 ≤ f → f < m → TP H' t s → Fx [t, s] H H' → Q (.int f) H') : WCal (d + 1) 40 [.obj t, .int m] H Q := by
  obtain ⟨l, i, j, h1, h2, hi, hl, hts⟩ := id tp
  have hst' := Ne.symm hts
  have hml : (l.map AV.int).length ≤ 1000000 := by rw [List.length_map]; exact Nat.le_trans hl (by decide)
  refine WCal.mk (f := F__law_digit) rfl rfl ?_; dsimp only [F__law_digit]
  (repeat' tb_start)
  refine KIte.splitd (fun hil => ?_) fun hil => ?_
  · (repeat' tb_start)
    exact h _ _ (Int.le_refl _) hm.1 tp (Fx.refl _)
  · have hil3 : i < (l.map AV.int).length := Int.not_le.mp hil
    obtain ⟨c, hc⟩ := item_ints (l := l) (i := i) ⟨hi, by rw [List.length_map] at hil3; exact hil3⟩ hl
    have hst : 0 ≤ i ∧ i < (l.map AV.int).length ∧ (l.map AV.int).length ≤ 1000000 := ⟨hi, hil3, hml⟩
    have hf0 := Int.fmod_nonneg_of_pos c hm.1
    have hf1 := Int.fmod_lt_of_pos c hm.1
    repeat' ((fail_if_success (with_reducible show WEx _ _ _ _ (S.ite (X.bop _ _) _ _ :: _) _)); tb_start)
    refine WEx.cons (WEx1.ite (WTr.as (decide (Int.fdiv c m = 0 ∨ Int.fdiv c m = -1 ∨ j + 1 = 30)) ?_ (KIte.splitd (fun _ => ?_) fun _ => ?_)))
    · by_cases q0 : Int.fdiv c m = 0
      · rw [decide_eq_true (Or.inl q0)]; (repeat' tb_start)
      · by_cases q1 : Int.fdiv c m = -1
        · rw [decide_eq_true (Or.inr (Or.inl q1))]; (repeat' tb_start)
        · by_cases q2 : j + 1 = 30
          · rw [decide_eq_true (Or.inr (Or.inr q2))]; (repeat' tb_start)
          · rw [decide_eq_false fun q => q.elim q0 fun q => q.elim q1 q2]; (repeat' tb_start)
    · (repeat' tb_start)
      exact h _ _ hf0 hf1 (tp_next (by assumption) (by kp_flats) hi hl hts) (by kct_strs)
    · (repeat' tb_start)
      refine h _ _ hf0 hf1 ⟨l.set i.toNat (Int.fdiv c m), i, j + 1, ?_, by rw [List.map_set]; assumption, hi, by rw [List.length_set]; exact hl, hts⟩ (by kct_strs)
      show _ = some (AO.list ([AV.obj s, AV.int i, AV.int j].set (Int.toNat 2) (AV.int (j + 1))))
      kp_flats
end

end
section
section
variable {H : AH} {Q : AV → AH → Prop} {d : Nat}
theorem bin_pred {n : Nat} : binOp Tb .Sub (.int ((n + 1 : Nat) : Int)) (.int 1) = some (.int n) := by
  show some (AV.int (((n + 1 : Nat) : Int) - 1)) = _
  rw [show ((n + 1 : Nat) : Int) - 1 = n from by (first | lia | omega)]
theorem notin2 {t s n x : Nat} (h : t < n ∧ s < n) (hx : n ≤ x) : x ∉ [t, s] := fun hm => by
  rcases List.mem_cons.mp hm with e | hm
  · exact absurd h.1 (Nat.not_lt.mpr (e ▸ hx))
  · exact absurd h.2 (Nat.not_lt.mpr (List.mem_singleton.mp hm ▸ hx))
theorem pick2 {f : Int} (h0 : 0 ≤ f) (h1 : f < 2) : itemAt [AV.int 0, AV.int 14] f = some (.int (if decide (f = 0) = true then 0 else 14)) := by
  have : f = 0 ∨ f = 1 := by (first | lia | omega)
  rcases this with rfl | rfl <;> rfl
noncomputable def VOk (t : Tm) : Prop := ∀ k ∈ t.vars, 0 ≤ k ∧ k < 5

local macro_rules | `(tactic| tb_start) => tyF "KBin2.mk+bin_pred WEvs.cons WEvs.nil WEv.bin KSub2.list/ka"

local macro_rules | `(tactic| tb_rel) => tyF "w_digit/Ea/111111"

theorem size_one {n : Nat} : 1 + 1 ≤ 2 ^ (n + 1) := Nat.pow_le_pow_right (n := 2) (i := 1) (by decide) (Nat.succ_le_succ (Nat.zero_le n))
theorem size_s1 {u n : Nat} (h : u + 1 ≤ 2 ^ (n + 1)) : u + 1 + 1 ≤ 2 ^ (n + 1 + 1) := by rw [Nat.pow_succ 2 (n + 1)]; (first | lia | omega)
theorem size_s2 {u v n : Nat} (h : u + 1 ≤ 2 ^ (n + 1)) (h2 : v + 1 ≤ 2 ^ (n + 1)) : u + v + 1 + 1 ≤ 2 ^ (n + 1 + 1) := by rw [Nat.pow_succ 2 (n + 1)]; (first | lia | omega)
/-- what one drawing of a term gives -/
noncomputable def TermAt (d t s n : Nat) : Prop := ∀ (H : AH) (Q : AV → AH → Prop), TP H t s → t < H.length ∧ s < H.length → (∀ H' u, VOk u → u.size + 1 ≤ 2 ^ (n + 1) → TP H' t s → Fx [t, s] H H' → Q (Tm.av u) H') → WCal (d + n + 2) 41 [.obj t, .int n] H Q
theorem in_len {t s : Nat} {W : List Nat} {H H' : AH} (h : t < H.length ∧ s < H.length) (f : Fx W H H') : t < H'.length ∧ s < H'.length := ⟨Nat.lt_of_lt_of_le h.1 f.len, Nat.lt_of_lt_of_le h.2 f.len⟩
theorem term_step {t s n : Nat} (ih : ∀ k, n = k + 1 → TermAt d t s k) : TermAt d t s n := by
  intro H Q tp hts h
  have hv : ∀ (H' : AH) (f : Int), 0 ≤ f → f < 5 → TP H' t s → Fx [t, s] H H' → Q (Tm.av (.v f)) H' := fun H' f h0 h1 tp' f' => h H' (.v f) (fun k hk => by rw [List.mem_singleton.mp hk]; exact ⟨h0, h1⟩) size_one tp' f'
  refine WCal.mk (f := F__law_term) rfl rfl ?_; dsimp only [F__law_term]
  (repeat' tb_start)
  rename_i H1 way hw0 hw1 tp1 f1
  refine KIte.splitd (fun w2 => ?_) fun w2 => ?_
  · have p4 : (0 : Int) < 4 ∧ (4 : Int) ≤ 100000000000000000000 := by decide
    (repeat' tb_start)
    rename_i H2 f hf0 hf1 tp2 f2
    exact h _ (.a f) (fun k hk => by cases hk) size_one tp2 (by kct_strs)
  (repeat' tb_start)
  refine KIte.splitd (fun w3 => ?_) fun w3 => ?_
  · (repeat' tb_start)
    rename_i H2 f hf0 hf1 tp2 f2
    exact h _ (.i (f - 5)) (fun k hk => by cases hk) size_one tp2 (by kct_strs)
  cases n with
  | zero =>
    by_cases w4 : way = 4
    · (repeat' tb_start)
      rename_i H2 f hf0 hf1 tp2 f2
      exact hv _ f hf0 hf1 tp2 (by kct_strs)
    · by_cases w5 : way = 5
      · (repeat' tb_start)
        rename_i H2 f hf0 hf1 tp2 f2
        exact hv _ f hf0 hf1 tp2 (by kct_strs)
      · (repeat' tb_start)
        rename_i H2 f hf0 hf1 tp2 f2
        exact hv _ f hf0 hf1 tp2 (by kct_strs)
  | succ n =>
    have hpos : ((n + 1 : Nat) : Int) > 0 := Int.ofNat_lt.mpr (Nat.succ_pos n)
    have ih := ih n rfl
    by_cases w4 : way = 4
    · (repeat' tb_start)
      refine ih _ _ (by assumption) (in_len hts f1) fun H2 u hu1 hu2 tp2 f2 => ?_
      (repeat' tb_start)
      exact h _ (.s1 u) hu1 (size_s1 hu2) tp2 (by kct_strs)
    · by_cases w5 : way = 5
      · (repeat' tb_start)
        refine ih _ _ (by assumption) (in_len hts f1) fun H2 u hu1 hu2 tp2 f2 => ?_
        (repeat' tb_start)
        refine ih _ _ (by assumption) (in_len (in_len hts f1) f2) fun H3 v hv1 hv2 tp3 f3 => ?_
        (repeat' tb_start)
        rename_i wl H4 e4 g4 f4
        have hts4 := in_len (in_len (in_len hts f1) f2) f3
        refine w_digit (by constructor <;> decide) (tp3.fx f4 List.not_mem_nil List.not_mem_nil) fun H5 f hf0 hf1 tp5 f5 => ?_
        have pk := pick2 hf0 hf1
        have g5 := f5.get g4 (notin2 hts4 (Nat.le_of_eq e4.symm))
        (repeat' tb_start)
        exact h _ (.s2 (decide (f = 0)) u v) (fun k hk => (List.mem_append.mp hk).elim (hu1 k) (hv1 k)) (size_s2 hu2 hv2) tp5 (by kct_strs)
      · (repeat' tb_start)
        rename_i H2 f hf0 hf1 tp2 f2
        exact hv _ f hf0 hf1 tp2 (by kct_strs)
theorem w_termT (t s : Nat) (n : Nat) : TermAt d t s n := by
  induction n with
  | zero => exact term_step fun k e => nomatch e
  | succ n ih => exact term_step fun k e => by cases e; exact ih
theorem w_term {t s : Nat} (n : Nat) (H : AH) (Q : AV → AH → Prop) (tp : TP H t s) (hts : t < H.length ∧ s < H.length) (h : ∀ H' u, VOk u → u.size + 1 ≤ 2 ^ (n + 1) → TP H' t s → Fx [t, s] H H' → Q (Tm.av u) H') : WCal (d + n + 2) 41 [.obj t, .int n] H Q := w_termT t s n H Q tp hts h
end

end
end
/-! the law's first two statements -/
theorem ints_take {vs : List Value} {ns : List Int} (h : IntsAre vs ns) : ∀ n, IntsAre (vs.take n) (ns.take n) := by
  induction h with
  | nil => intro n; cases n <;> exact .nil
  | cons i t _ ih => intro n; cases n with
    | zero => exact .nil
    | succ n => exact .cons i t (ih n)
theorem ints_len {vs : List Value} {ns : List Int} (h : IntsAre vs ns) : vs.length = ns.length := by
  induction h with
  | nil => rfl
  | cons i t _ ih => simp [ih]
theorem RR.empty {prog : Program} {w : World} {ca : Nat → Addr} {nf : Nat → Str} {ep : Addr → Nat} : RR prog w ca nf ep [] [] [] [] :=
  ⟨.nil, rfl, rfl, fun i o a μ h _ _ => by simp at h, .nil, fun i c l a h _ => by simp at h, fun q o _ h => by cases h⟩
section
variable {W : Wd} {G : Gd} {d : Nat}
/-- tape = [script[:60], 0, 0] -/
theorem st_tape (Ls : Lks W) (g : GOk W G law_sc d) {m : Str → Option Value} {s : Shared} {c a : Addr} {o : Obj} {vs : List Value} {ns : List Int} {p p1 p2 p3 p4 p5 p6 p7 p8 : Pos} {j2 j5 j6 : Nat} {Q : Flow → Shared → Prop} {E : Value → Shared → Prop}
    (F : PyProof.Rows.Fr G.h₀ G.L s.heap m) (nw : News G.h₀ G.L s.heap [(c, o)]) (hc : G.cl.lookup (W.nf 152) = some c) (ho : o.data = .cell none)
    (hm : m (W.nf 174) = some (.ref a)) (hL : G.h₀.IsList a vs.toArray) (hI : IntsAre vs ns) (hlen : ns.length ≤ 63)
    (h : ∀ h tk N φ ψ, At W G m h N φ ψ [.list ((ns.take 60).map .int), .list [.obj 0, .int 0, .int 0]] [(152, .obj 1)] → Q .next (up s h tk)) :
    wpAny (model W.prog W.w) G.A (exec (.Assign [.Name (W.nf 152) p] (.List [.Subscript (.Name (W.nf 174) p1) (.Slice none (some (.Constant (.int 60) j2 p2)) none p3) p4, .Constant (.int 0) j5 p5, .Constant (.int 0) j6 p6] p7) p8) G.env) Q E s := by
  have hl := ints_len hI
  have hvs : s.heap.IsList a vs.toArray := by obtain ⟨ob, e, r⟩ := hL; exact ⟨ob, F.keep _ _ e, r⟩
  refine wpAny_Assign_Name ?_
  refine List_ (args_cons (Subscript_ ?_) rfl)
  refine nameX_L F hm ?_ g.hk ((g.ks 174).trans rfl) (Ls.lk.dbg _)
  refine wpAny_Slice (wpAny_pure (wpAny_Constant_int (k := j2) (pos := p2) (wpAny_pure ?_)))
  have hc0 := nw _ (List.mem_singleton.mpr rfl)
  refine slice_list (s := { s with toks := s.toks + 1 }) F nw hvs .none (.int 60 _) (fun h1 F1 N1 => ?_) rfl (fun _ => by with_unfolding_all rfl) (by rw [List.size_toArray, sizeLine_eq]; (first | lia | omega))
  have e60 : slicePick vs.toArray none (some (60 : Int)) none = (vs.take 60).toArray := by have := pick_up vs.toArray 60; simpa using this
  rw [e60] at N1
  refine args_cons (wpAny_Constant_int (args_cons (wpAny_Constant_int (args_nil ?_)) rfl)) rfl
  refine wpAny_newObj_type ?_ (by show 3 ≤ sizeLine; rw [sizeLine_eq]; decide)
  have hlt : ∀ p ∈ ((s.heap.objs.size + 1, listOf (vs.take 60).toArray 0) :: [(c, o)]), p.1 ≠ h1.objs.size := fun p hp => Nat.ne_of_lt (Heap.lt_size (N1 p hp).1)
  have F2 := F1.push (listOf [Value.ref (s.heap.objs.size + 1), .int 0 (s.toks + 1), .int 0 (s.toks + 1 + 1)].toArray 0)
  have N2 := News.push F1 N1 (listOf [Value.ref (s.heap.objs.size + 1), .int 0 (s.toks + 1), .int 0 (s.toks + 1 + 1)].toArray 0)
  have ne1 : s.heap.objs.size + 1 ≠ c := Nat.ne_of_gt (Nat.lt_succ_of_lt (Heap.lt_size hc0.1))
  have ne2 : h1.objs.size ≠ c := (hlt (c, o) (.tail _ (.head _))).symm
  have ne3 : h1.objs.size ≠ s.heap.objs.size + 1 := (hlt _ (.head _)).symm
  refine storeX_C F2 N2 hc (.tail ne2 (.tail ne1 (.head fun _ h => nomatch h))) ho (fun h3 o' F3 N3 ho' => ?_) g.hk ((g.ks 152).trans rfl)
  have hfx : fixed o' = true := by unfold fixed; rw [ho']; show (_ || true) = true; rw [Bool.or_true]
  have hso : solid o' = true := by unfold solid; rw [ho']; show (_ || true) = true; rw [Bool.or_true]
  have R1 := (RR.empty (prog := W.prog) (w := W.w) (ca := W.ca) (nf := W.nf) (ep := G.ep)).fix (q := c) (o := o') (fun _ h => nomatch h)
  have R2 := R1.one (q := s.heap.objs.size + 1) (o := listOf (vs.take 60).toArray 0) (O := .list ((ns.take 60).map .int)) (fun p hp => by rw [List.mem_singleton.mp hp]; exact ne1.symm) fixed_list (fun _ _ e => by cases e) (fun _ => ⟨rfl, _, 0, .head _, ints_vr (ints_take hI 60)⟩)
  have R3 := R2.one (q := h1.objs.size) (o := listOf [Value.ref (s.heap.objs.size + 1), .int 0 (s.toks + 1), .int 0 (s.toks + 1 + 1)].toArray 0) (O := .list [.obj 0, .int 0, .int 0]) (fun p hp => by
    rcases List.mem_cons.mp hp with rfl | hp
    · exact ne3.symm
    · rw [List.mem_singleton.mp hp]; exact ne2.symm) fixed_list (fun _ _ e => by cases e) (fun ge => ⟨rfl, _, 0, .head _, .cons (.obj rfl) (.cons (.int 0 _) (.cons (.int 0 _) .nil))⟩)
  refine h h3 _ _ _ _ ⟨F3, N3, R3, fun x dv hx => ?_⟩
  have hx' : (if 152 = x then some (AV.obj 1) else none) = some dv := hx
  split at hx'
  · rename_i e
    subst e; cases hx'
    refine ⟨.ref h1.objs.size, ?_, .obj rfl⟩
    unfold VarIs
    have hcc : G.cs.names.lookup (W.nf 152) = some .cell := (g.ks 152).trans rfl
    rw [if_pos hcc]
    exact ⟨c, o', hc, .tail _ (.tail _ (.head _)), hso, ho'⟩
  · cases hx'
end

section
variable {W : Wd} {G : Gd} {d : Nat}
/-- the turns of the comprehension -/
theorem heads_rest (Ls : Lks W) (g : GOk W G law_sc 4) {m : Str → Option Value} {s : Shared} {c : Addr} {lp : Str} {scope : Scope} {t sa : Nat} {ρ : Loc} {p1 p2 p3 p4 : Pos} {j : Nat} {Q : Flow → Shared → Prop}
    (hc : G.cl.lookup (W.nf 152) = some c) (hk1 : (relabel scope G.env).names.lookup (W.nf 162) = some .globalImplicit) (hk2 : (relabel scope G.env).names.lookup (W.nf 152) = some .cell) (hkd : scope.kind = .function)
    (r1 : lookN 152 ρ = some (.obj t))
    (hfin : ∀ m' h tk N φ ψ H (hs : List Tm) ho, At W G m' h N φ ψ H (setL 175 (.obj ho) ρ) → TP H t sa → H[ho]? = some (.list (hs.map Tm.av)) → hs.length ≤ 2 → (∀ t ∈ hs, VOk t ∧ t.size ≤ 7) → ho ≠ t ∧ ho ≠ sa → Q .next (up s h tk)) :
    ∀ (k : Nat) (ys : List Value) (hs : List Tm) (N : Led) (φ ψ : List Addr) (H : AH), RR W.prog W.w W.ca W.nf G.ep N φ ψ H → LR W.nf G.cs G.cl m N φ ρ → TP H t sa → All2 (VR W.nf N φ) ys (hs.map Tm.av) → k + hs.length ≤ 2 → (∀ t ∈ hs, VOk t ∧ t.size ≤ 7) →
      ∀ i, LCg.CompRest W.prog W.w G.A G.h₀ G.L m G.env (.Call (.Name (W.nf 162) p1) [.Name (W.nf 152) p2, .Constant (.int 2) j p3] [] p4) lp scope [(W.nf 152, c)] s (fun _ => True) (fun i v => ∃ t, v = .int (0 + (i : Int)) t) (LCg.FinA G.h₀ G.L m s (W.nf 175) Q) k i ys N := by
  intro k
  induction k with
  | zero =>
    intro ys hs N φ ψ H R L tp hys hk hok i
    refine LCg.CompRest.zero (fun D h tk F' N' off => ?_)
    have hD := off1_mem off
    have R' := R.one (q := D) (o := LCg.lst ys) (O := .list (hs.map Tm.av)) hD fixed_list (fun _ _ e => by cases e) (fun ge => ⟨rfl, ys, ys.length, .head _, VRs.mono hys ge⟩)
    have ge : Ge N φ ((D, LCg.lst ys) :: N) (φ ++ [D]) := Ge.push
    have hv : VR W.nf ((D, LCg.lst ys) :: N) (φ ++ [D]) (.ref D) (.obj H.length) := .obj (by rw [List.getElem?_append_right (by rw [R.l1]; exact Nat.le_refl _), R.l1, Nat.sub_self]; rfl)
    obtain ⟨l, i, j, t1, t2, _, _, _⟩ := id tp
    have l1 := lt_of_some t1
    have l2 := lt_of_some t2
    refine hfin _ h tk _ _ _ _ hs H.length ⟨F', N', R', (L.mono ge).set Ls.lk.inj ((g.ks 175).trans rfl) hv⟩ (tp.fx (Fx.app (W := []) [.list (hs.map Tm.av)]) List.not_mem_nil List.not_mem_nil) (by rw [List.getElem?_append_right (Nat.le_refl _), Nat.sub_self]; rfl) (by (first | lia | omega)) hok ⟨Nat.ne_of_gt l1, Nat.ne_of_gt l2⟩
  | succ k ih =>
    intro ys hs N φ ψ H R L tp hys hk hok i
    refine LCg.CompRest.succ fun v I oI C oC D m₂ h tk E' hP hNs hm2 F N' off hne => ?_
    have nw : News G.h₀ G.L h N := fun p hp => N' p (.tail _ (.tail _ (.tail _ hp)))
    have at0 : At W G m h N φ ψ H ρ := ⟨F, nw, R, L⟩
    obtain ⟨l, ti, tj, t1, t2, _, _, _⟩ := id tp
    have l1 := lt_of_some t1
    have l2 := lt_of_some t2
    obtain ⟨r, H2, ⟨⟨fd, hfd⟩, cal⟩, u, rfl, hu, hsz, tp2⟩ : WCal (0 + 2 + 2) 41 [.obj t, .int ((2 : Nat) : Int)] H (fun r H2 => ∃ u, r = Tm.av u ∧ VOk u ∧ u.size + 1 ≤ 8 ∧ TP H2 t sa) :=
      w_term 2 H _ tp ⟨l1, l2⟩ fun H' u hu hsz tp' _ => ⟨u, rfl, hu, hsz, tp'⟩
    have hcc : G.cs.names.lookup (W.nf 152) = some .cell := (g.ks 152).trans rfl
    obtain ⟨tv, hv, hrv⟩ := L _ _ r1
    unfold VarIs at hv
    rw [if_pos hcc] at hv
    obtain ⟨c', oc, e1, e2, _, e4⟩ := hv
    rw [hc] at e1; cases e1
    refine Call_ ?_ rfl
    refine PySem.Calls.Name_function_global (env := compEnvC scope [(W.nf 152, c)] C G.env) hkd hk1 (PySem.Calls.loadGlobal_global (g.T.g.keeps F.keep) (mg_of g.X g.T.g (Ls.lf.call _ 41 rfl)) ?_) (Ls.lk.dbg _)
    refine callWith_K g.X (Ls.lf.fn 41 fd hfd).2.1 ?_ rfl rfl
    refine args_cons (wpAny_Name (wpAny_loadName_cell (env := compEnvC scope [(W.nf 152, c)] C G.env) hkd hk2 (by show List.lookup _ [(_, _)] = _; rw [List.lookup_cons, beq_self_eq_true]) ⟨oc, (nw _ e2).1, e4⟩ ?_) (Ls.lk.dbg _)) rfl
    refine args_cons (wpAny_Constant_int (args_nil ?_)) rfl
    refine ⟨g.X.keeps F.keep, wpAny_call (cal W Ls G law_sc g m { s with heap := h, toks := tk + 1 } N φ ψ ρ [tv, .int 2 tk] _ at0 (.cons hrv (.cons (.int 2 _) .nil)) fun v2 h2 tk2 N2 φ2 ψ2 a2 g2 rv2 kp => ?_)⟩
    obtain ⟨n1, n2, n3⟩ := hne
    have off3 := off.mem
    have kI := kp I oI (N' _ (.head _)).1 (fun p hp => (off3 p hp).1)
    have kC := kp C oC (N' _ (.tail _ (.head _))).1 (fun p hp => (off3 p hp).2.1)
    have kD := kp D (LCg.lst ys) (N' _ (.tail _ (.tail _ (.head _)))).1 (fun p hp => (off3 p hp).2.2)
    refine ⟨h2, tk2, N2, rfl, a2.F, fun p hp => ?_, LCg.Off3.of fun p hp => ⟨kI.2 p hp, kC.2 p hp, kD.2 p hp⟩, trivial, ?_⟩
    · rcases List.mem_cons.mp hp with rfl | hp
      · exact ⟨kI.1, (N' _ (.head _)).2⟩
      · rcases List.mem_cons.mp hp with rfl | hp
        · exact ⟨kC.1, (N' _ (.tail _ (.head _))).2⟩
        · rcases List.mem_cons.mp hp with rfl | hp
          · exact ⟨kD.1, (N' _ (.tail _ (.tail _ (.head _)))).2⟩
          · exact a2.nw p hp
    · refine ih (ys ++ [v2]) (hs ++ [u]) N2 φ2 ψ2 H2 a2.R a2.L tp2 ?_ (by simp; (first | lia | omega)) (fun t ht => ?_) (i + 1)
      · rw [List.map_append]; exact (VRs.mono hys g2).append (.one rv2)
      · rcases List.mem_append.mp ht with ht | ht
        · exact hok t ht
        · rw [List.mem_singleton.mp ht]; exact ⟨hu, by (first | lia | omega)⟩
/-- heads = [_law_term(tape, 2) for lap in range(_law_digit(tape, 3))] -/
theorem st_heads (Ls : Lks W) (g : GOk W G law_sc 4) {m : Str → Option Value} {s : Shared} {c : Addr} {lp : Str} {scope : Scope} {t sa k : Nat} {N : Led} {φ ψ : List Addr} {H : AH} {ρ : Loc} {iter : Expr} {p p1 p2 p3 p4 p5 p6 pos : Pos} {j : Nat} {Q : Flow → Shared → Prop} {E : Value → Shared → Prop}
    (hc : G.cl.lookup (W.nf 152) = some c) (hk1 : (relabel scope G.env).names.lookup (W.nf 162) = some .globalImplicit) (hk2 : (relabel scope G.env).names.lookup (W.nf 152) = some .cell) (hkd : scope.kind = .function)
    (hsw : swapsWith (.ListComp (.Call (.Name (W.nf 162) p1) [.Name (W.nf 152) p2, .Constant (.int 2) j p3] [] p4) [⟨.Name lp p5, iter, [], 0⟩] scope pos) (some (.Name (W.nf 175) p)) p6.line G.env = pure true)
    (hclos : closureFor scope G.env = pure [(W.nf 152, c)]) (hcell : ∀ z ∈ scope.names, z.2 ≠ .cell) (hnames : ∀ z ∈ scope.names, z.2 = .local → scope.names.lookup z.1 = some .local) (hx : scope.names.lookup lp = some .local)
    (hit : er k iter = X.put W.nf k (.call (.nm 143) [.call (.nm 158) [.nm 152, .int 3]]))
    (a : At W G m s.heap N φ ψ H ρ) (tp : TP H t sa) (r1 : lookN 152 ρ = some (.obj t))
    (hfin : ∀ m' h tk N φ ψ H (hs : List Tm) ho, At W G m' h N φ ψ H (setL 175 (.obj ho) ρ) → TP H t sa → H[ho]? = some (.list (hs.map Tm.av)) → hs.length ≤ 2 → (∀ t ∈ hs, VOk t ∧ t.size ≤ 7) → ho ≠ t ∧ ho ≠ sa → Q .next (up s h tk)) :
    wpAny (model W.prog W.w) G.A (exec (.Assign [.Name (W.nf 175) p] (.ListComp (.Call (.Name (W.nf 162) p1) [.Name (W.nf 152) p2, .Constant (.int 2) j p3] [] p4) [⟨.Name lp p5, iter, [], 0⟩] scope pos) p6) G.env) Q E s := by
  obtain ⟨q, H1, sr, n, rfl, hn, tp1⟩ : WSrc 4 law_sc ρ H (.call (.nm 143) [.call (.nm 158) [.nm 152, .int 3]]) (fun q H1 => ∃ n : Nat, q = .rng n ∧ n ≤ 2 ∧ TP H1 t sa) := by
    refine WSrc.range rfl rfl (WEv.fn rfl rfl (WEvs.cons (WEv.cel rfl r1 (KCons1.mk (WEvs.cons (WEv.int (KCons1.mk (WEvs.nil (KCons2.mk (KCons2.mk (KFn.mk ?_)))))))))))
    refine w_digit (d := 3) (m := 3) (by decide) tp fun H' f h0 h1 tp' _ => KRange.mk ⟨h0, by (first | lia | omega)⟩ ⟨_, rfl, by (first | lia | omega), tp'⟩
  refine LCg.Assign_ListComp_U (L := G.L) (m := m) a.F rfl hsw hclos hcell hkd hnames hx ((g.ks 175).trans rfl) (by show (G.cs.kind == .class || (G.cs.kind == .module && G.L != mainGlobals)) = false; rw [g.hk]; rfl) ?_ (noFold hit)
  refine sr W Ls G k iter g hit m s N φ ψ _ _ a fun v h1 tk1 N1 φ1 ψ1 a1 g1 v1 => ?_
  obtain ⟨r, t', u, t'', rfl, hr, hn1⟩ := v1
  have hs : Builtin.Range.rangeSize 0 (n : Int) 1 = (n : Int) := by
    rw [rangeSize_one]
    split <;> (first | lia | omega)
  refine LCg.CompSrc.range rfl a1.F a1.nw hr ?_ hs (by rw [sizeLine_eq]; (first | lia | omega)) fun gh => ?_
  · unfold Builtin.Range.small
    rw [hs]
    unfold Builtin.Range.rangeFitsLong
    simp
    (first | lia | omega)
  exact heads_rest (s := up s gh tk1) Ls g (sa := sa) hc hk1 hk2 hkd r1 hfin n [] [] N1 φ1 ψ1 H1 a1.R a1.L tp1 .nil (by simpa using hn) (fun _ h => nomatch h) 0
end

section
local macro_rules | `(tactic| keq_hits) => tyHits false
local macro_rules | `(tactic| kp_flats) => tyFlatX
local macro_rules | `(tactic| kct_strs) => tyFrX
local macro_rules | `(tactic| tb_start) => tyXS

section
section
variable {H : AH} {Q : AV → AH → Prop} {d : Nat}

local macro_rules | `(tactic| tb_rel) => tyF "w_digit/Ea/111111"

noncomputable def POk (x : Tm × Tm) : Prop := VOk x.1 ∧ VOk x.2 ∧ x.1.size ≤ 7 ∧ x.2.size ≤ 7
theorem w_equations {t s : Nat} (tp : TP H t s) (hts : t < H.length ∧ s < H.length) (h : ∀ H' r (E : List (Tm × Tm)), H'[r]? = some (.list (E.map pav)) → 1 ≤ E.length → E.length ≤ 4 → (∀ x ∈ E, POk x) → TP H' t s → H.length ≤ r → Fx [t, s] H H' → Q (.obj r) H') : WCal (d + 5) 42 [.obj t] H Q := by
  refine WCal.mk (f := F__law_equations) rfl rfl ?_; dsimp only [F__law_equations]
  (repeat' tb_start)
  rename_i wl H1 e1 h1 f1
  have b1 := lt_of_get h1
  refine WEx1.for rfl (WSrc.range rfl rfl ?_)
  (repeat' tb_start)
  refine w_digit (by constructor <;> decide) (tp.fx f1 List.not_mem_nil List.not_mem_nil) fun H2 f hf0 hf1 tp2 f2 => ?_
  have l1 := f1.len
  have l2 := f2.len
  refine KBin2.mk (v := .int (1 + f)) rfl ⟨1 + f, rfl, ⟨by (first | lia | omega), by (first | lia | omega)⟩, _, rfl, ?_⟩
  refine WFo.rng (fun j ρ H' => lookN 152 ρ = some (.obj t) ∧ lookN 165 ρ = some (.obj wl) ∧ TP H' t s ∧ Fx [t, s] H H' ∧ wl < H'.length ∧ ∃ E : List (Tm × Tm), E.length = j ∧ (∀ x ∈ E, POk x) ∧ H'[wl]? = some (.list (E.map pav))) ?_ ?_ _ 0 _ _ rfl (Nat.zero_le _)
    ⟨rfl, rfl, tp2, by kct_strs, by (first | lia | omega), [], rfl, (fun x hx => by cases hx), f2.get h1 (by simp; (first | lia | omega))⟩
  · rintro j ρ H3 hj ⟨r1, r2, tp3, f3, hwl, E, rfl, hE, h3⟩
    have l3 := f3.len
    have hm : (E.map pav).length = E.length := by simp
    (repeat' tb_start)
    refine w_term 2 _ _ tp3 (by (first | lia | omega)) fun H4 u hu1 hu2 tp4 f4 => ?_
    have l4 := f4.len
    (repeat' tb_start)
    refine w_term 2 _ _ tp4 (by (first | lia | omega)) fun H5 v hv1 hv2 tp5 f5 => ?_
    have l5 := f5.len
    (repeat' tb_start)
    rename_i H6 h6 f6
    have l6 := f6.len
    exact ⟨by kat_tups, by kat_tups, tp5.fx f6 (by simp; (first | lia | omega)) (by simp; (first | lia | omega)), by kct_strs, by (first | lia | omega), E ++ [(u, v)], by simp, fun x hx => by
      rcases List.mem_append.mp hx with hx | hx
      · exact hE x hx
      · rw [List.mem_singleton.mp hx]; exact ⟨hu1, hv1, by show u.size ≤ 7; (first | lia | omega), by show v.size ≤ 7; (first | lia | omega)⟩, by rw [List.map_append]; exact h6⟩
  · rintro ρ H3 ⟨r1, r2, tp3, f3, hwl, E, hEl, hE, h3⟩
    refine ⟨_, rfl, ?_⟩
    (repeat' tb_start)
    exact h _ _ E h3 (by (first | lia | omega)) (by (first | lia | omega)) hE tp3 (by (first | lia | omega)) f3
noncomputable abbrev cav (x : Int × Int) : AV := .tup [.str 114, .int 25, .tup [(Tm.v x.1).av, (Tm.v x.2).av]]
theorem w_calls {t s : Nat} (tp : TP H t s) (hts : t < H.length ∧ s < H.length) (h : ∀ H' r (C : List (Int × Int)), H'[r]? = some (.list (C.map cav)) → 1 ≤ C.length → C.length ≤ 2 → (∀ x ∈ C, (0 ≤ x.1 ∧ x.1 < 5) ∧ 0 ≤ x.2 ∧ x.2 < 5) → TP H' t s → H.length ≤ r → Fx [t, s] H H' → Q (.obj r) H') : WCal (d + 5) 43 [.obj t] H Q := by
  refine WCal.mk (f := F__law_calls) rfl rfl ?_; dsimp only [F__law_calls]
  (repeat' tb_start)
  rename_i wl H1 e1 h1 f1
  have b1 := lt_of_get h1
  refine WEx1.for rfl (WSrc.range rfl rfl ?_)
  (repeat' tb_start)
  refine w_digit (by constructor <;> decide) (tp.fx f1 List.not_mem_nil List.not_mem_nil) fun H2 f hf0 hf1 tp2 f2 => ?_
  have l1 := f1.len
  have l2 := f2.len
  refine KBin2.mk (v := .int (1 + f)) rfl ⟨1 + f, rfl, ⟨by (first | lia | omega), by (first | lia | omega)⟩, _, rfl, ?_⟩
  refine WFo.rng (fun j ρ H' => lookN 152 ρ = some (.obj t) ∧ lookN 165 ρ = some (.obj wl) ∧ TP H' t s ∧ Fx [t, s] H H' ∧ wl < H'.length ∧ ∃ C : List (Int × Int), C.length = j ∧ (∀ x ∈ C, (0 ≤ x.1 ∧ x.1 < 5) ∧ 0 ≤ x.2 ∧ x.2 < 5) ∧ H'[wl]? = some (.list (C.map cav))) ?_ ?_ _ 0 _ _ rfl (Nat.zero_le _)
    ⟨rfl, rfl, tp2, by kct_strs, by (first | lia | omega), [], rfl, (fun x hx => by cases hx), f2.get h1 (by simp; (first | lia | omega))⟩
  · rintro j ρ H3 hj ⟨r1, r2, tp3, f3, hwl, C, rfl, hC, h3⟩
    have l3 := f3.len
    have hm : (C.map cav).length = C.length := by simp
    (repeat' tb_start)
    rename_i H4 a ha0 ha1 tp4 f4 H5 b hb0 hb1 tp5 f5 H6 h6 f6
    have l4 := f4.len
    have l5 := f5.len
    have l6 := f6.len
    exact ⟨by kat_tups, by kat_tups, tp5.fx f6 (by simp; (first | lia | omega)) (by simp; (first | lia | omega)), by kct_strs, by (first | lia | omega), C ++ [(a, b)], by simp, fun x hx => by
      rcases List.mem_append.mp hx with hx | hx
      · exact hC x hx
      · rw [List.mem_singleton.mp hx]; exact ⟨⟨ha0, ha1⟩, hb0, hb1⟩, by rw [List.map_append]; exact h6⟩
  · rintro ρ H3 ⟨r1, r2, tp3, f3, hwl, C, hCl, hC, h3⟩
    refine ⟨_, rfl, ?_⟩
    (repeat' tb_start)
    exact h _ _ C h3 (by (first | lia | omega)) (by (first | lia | omega)) hC tp3 (by (first | lia | omega)) f3
end

end
section
noncomputable abbrev Seg := List (Tm × Tm) × Tm × Tm
noncomputable def segE (P : List Seg) : List (Tm × Tm) := P.flatMap (·.1)
noncomputable def SegOk (P : List Seg) : Prop := ∀ x ∈ P, Joined x.1 x.2.1 x.2.2
theorem seg_start (E : List (Tm × Tm)) : segE (E.map fun x => ([x], x.1, x.2)) = E ∧ SegOk (E.map fun x => ([x], x.1, x.2)) := by
  refine ⟨?_, fun x hx => ?_⟩
  · induction E with
    | nil => rfl
    | cons x E ih => unfold segE at *; simp only [List.map_cons, List.flatMap_cons, ih]; rfl
  · obtain ⟨y, _, rfl⟩ := List.mem_map.mp hx
    exact .one y.1 y.2
noncomputable def segM (d : Bool) (a b : Seg) : Seg := (a.1 ++ b.1, .s2 d a.2.1 b.2.1, .s2 d a.2.2 b.2.2)
theorem split2 {α : Type} {l : List α} {i : Nat} (h : i + 1 < l.length) : ∃ a b, l = l.take i ++ a :: b :: l.drop (i + 2) ∧ l[i]? = some a ∧ l[i + 1]? = some b := by
  refine ⟨l[i], l[i + 1], ?_, List.getElem?_eq_getElem _, List.getElem?_eq_getElem _⟩
  rw [← List.drop_eq_getElem_cons (i := i + 1), ← List.drop_eq_getElem_cons (i := i), List.take_append_drop]
theorem seg_step {P : List Seg} {i : Nat} {a b : Seg} (d : Bool) (e : P = P.take i ++ a :: b :: P.drop (i + 2)) (h : SegOk P) : segE (P.take i ++ segM d a b :: P.drop (i + 2)) = segE P ∧ SegOk (P.take i ++ segM d a b :: P.drop (i + 2)) := by
  refine ⟨?_, fun x hx => ?_⟩
  · conv => rhs; rw [e]
    unfold segE
    simp only [List.flatMap_append, List.flatMap_cons, segM, List.append_assoc]
  · have ha : a ∈ P := by rw [e]; simp
    have hb : b ∈ P := by rw [e]; simp
    rcases List.mem_append.mp hx with hx | hx
    · exact h x (List.mem_of_mem_take hx)
    · rcases List.mem_cons.mp hx with hx | hx
      · rw [hx]; exact .two d (h a ha) (h b hb)
      · exact h x (List.mem_of_mem_drop hx)
/-- the segments, still to be joined -/
structure SI (E : List (Tm × Tm)) (P : List Seg) : Prop where
  all : segE P = E
  ok : SegOk P
  one : 1 ≤ P.length
  four : P.length ≤ 4
theorem SI.step {E : List (Tm × Tm)} {P : List Seg} (h : SI E P) {i : Nat} (hi : i + 1 < P.length) : ∃ a b, P[i]? = some a ∧ P[i + 1]? = some b ∧ ∀ d, SI E (P.take i ++ segM d a b :: P.drop (i + 2)) ∧ (P.take i ++ segM d a b :: P.drop (i + 2)).length < P.length := by
  obtain ⟨a, b, hab, ha, hb⟩ := split2 hi
  refine ⟨a, b, ha, hb, fun d => ?_⟩
  have hl : (P.take i ++ segM d a b :: P.drop (i + 2)).length + 1 = P.length := by
    rw [List.length_append, List.length_cons, List.length_take, List.length_drop]; (first | lia | omega)
  obtain ⟨s1, s2⟩ := seg_step d hab h.ok
  have h4 := h.four
  exact ⟨⟨s1.trans h.all, s2, by (first | lia | omega), by (first | lia | omega)⟩, by (first | lia | omega)⟩
theorem modpick {f : Int} {n : Nat} (h : 1 < n) (h4 : n ≤ 4) : (0 < (n : Int) - 1 ∧ (n : Int) - 1 ≤ 100000000000000000000) ∧ ∃ i : Nat, Int.fmod f ((n : Int) - 1) = (i : Int) ∧ i + 1 < n := by
  have hmp : (0 : Int) < (n : Int) - 1 ∧ (n : Int) - 1 ≤ 100000000000000000000 := by (first | lia | omega)
  refine ⟨hmp, (Int.fmod f ((n : Int) - 1)).toNat, (Int.toNat_of_nonneg (Int.fmod_nonneg_of_pos f hmp.1)).symm, ?_⟩
  have hA0 := Int.fmod_nonneg_of_pos f hmp.1
  have hA1 := Int.fmod_lt_of_pos f hmp.1
  (first | lia | omega)
theorem item_at {L : List AV} {i : Nat} {a : AV} (h : L[i]? = some a) (hl : L.length ≤ 4) : itemAt L (i : Int) = some a := by
  have hi : i < L.length := (List.getElem?_eq_some_iff.mp h).1
  unfold itemAt
  rw [if_pos ⟨Int.natCast_nonneg _, by (first | lia | omega)⟩, Int.toNat_natCast]; exact h
theorem few4 {L : List AV} (h : L.length ≤ 4) (i : Nat) (hi : i + 1 < L.length) : ((0 : Int) ≤ (i : Int) ∧ (i : Int) < 1000000 ∧ L.length ≤ 1000000) ∧ ((0 : Int) ≤ (i : Int) + 2 ∧ (i : Int) + 2 < 1000000 ∧ L.length ≤ 1000000) ∧ (L.take (i : Int).toNat).length ≤ 4 ∧ (L.drop ((i : Int) + 2).toNat).length ≤ 4 := by
  refine ⟨⟨by (first | lia | omega), by (first | lia | omega), by (first | lia | omega)⟩, ⟨by (first | lia | omega), by (first | lia | omega), by (first | lia | omega)⟩, by rw [List.length_take]; exact Nat.le_trans (Nat.min_le_right _ _) h, ?_⟩
  rw [List.length_drop]; exact Nat.le_trans (Nat.sub_le _ _) h
/-- one side, joined at a place -/
inductive JK (x : Nat) (L : List AV) (H0 : AH) (ρ0 ρ : Loc) (H : AH) : Prop
  | mk (w : Nat) (e : ρ = setL x (.obj w) ρ0) (hw : H0.length ≤ w) (g : H[w]? = some (.list L)) (f : Fx [] H0 H)
/-- the loop of _law_joined -/
inductive JL (t s : Nat) (E : List (Tm × Tm)) (H0 : AH) (k : Nat) (ρ : Loc) (H : AH) : Prop
  | mk (lo ro : Nat) (P : List Seg) (r1 : lookN 152 ρ = some (.obj t)) (r2 : lookN 90 ρ = some (.obj lo)) (r3 : lookN 91 ρ = some (.obj ro)) (hlo : H0.length ≤ lo) (hro : H0.length ≤ ro) (g1 : H[lo]? = some (.list (P.map fun x => x.2.1.av))) (g2 : H[ro]? = some (.list (P.map fun x => x.2.2.av)))
      (hi : SI E P) (hk : k = P.length) (tp : TP H t s) (f : Fx [t, s] H0 H)
section
variable {H : AH} {Q : AV → AH → Prop} {d : Nat}

local macro_rules | `(tactic| tb_start) => tyF "WEv.nm/AA KUpto2.mk/kA KFrm2.mk/kA KBin2.cat/kkl KSub2.list/kA"

theorem w_join1 {ρ : Loc} {x o i : Nat} {L : List AV} {c : Int} {u v : AV} (hs : F__law_joined.sc.lookup x = some .local) (r1 : lookN x ρ = some (.obj o)) (r2 : lookN 81 ρ = some (.int i)) (r3 : lookN 169 ρ = some (.int c)) (ho : H[o]? = some (.list L)) (h4 : L.length ≤ 4) (ha : L[i]? = some u) (hb : L[i + 1]? = some v) :
    WEx1 d F__law_joined.sc ρ H (.asg (.nm x) (.bin .Add (.bin .Add (.sub (.nm x) (.upto (.nm 81))) (.lst [.tup [.str 16, .nm 169, .tup [.sub (.nm x) (.nm 81), .sub (.nm x) (.bin .Add (.nm 81) (.int 1))]]])) (.sub (.nm x) (.frm (.bin .Add (.nm 81) (.int 2))))))
      (KN (JK x (L.take (i : Int).toNat ++ [.tup [.str 16, .int c, .tup [u, v]]] ++ L.drop ((i : Int) + 2).toNat) H ρ)) := by
  have ia := item_at ha h4
  have ib : itemAt L ((i : Int) + 1) = some v := item_at hb h4
  have q := few4 h4 i (List.getElem?_eq_some_iff.mp hb).1
  have q1 := q.1
  have q2 := q.2.1
  have q3 := q.2.2.1
  have q4 := q.2.2.2
  dsimp only [F__law_joined] at hs ⊢
  refine WEx1.asg hs ?_
  (repeat' tb_start)
  refine ⟨_, rfl, ?_, by kp_flats, by kct_strs⟩
  rename_i wa Ha ea ga fa wb Hb eb gb fb wc Hc ec gc fc wd Hd ed gd fd we He ee ge fe
  rw [ee]
  exact Nat.le_trans fa.len (Nat.le_trans fb.len (Nat.le_trans fc.len fd.len))
end
section
variable {H : AH} {Q : AV → AH → Prop} {d : Nat}

local macro_rules | `(tactic| tb_start) => tyF "KSub2.list/kA"

theorem col_pairs0 : ∀ E : List (Tm × Tm), colRun 0 (E.map pav) = some (E.map fun x => x.1.av)
  | [] => rfl
  | x :: E => by show ((colRun 0 (E.map pav)).map fun k => x.1.av :: k) = _; rw [col_pairs0 E]; rfl
theorem col_pairs1 : ∀ E : List (Tm × Tm), colRun 1 (E.map pav) = some (E.map fun x => x.2.av)
  | [] => rfl
  | x :: E => by show ((colRun 1 (E.map pav)).map fun k => x.2.av :: k) = _; rw [col_pairs1 E]; rfl
theorem seg_map {P : List Seg} {i : Nat} {y : Seg} (fn : Seg → AV) : (P.take i ++ y :: P.drop (i + 2)).map fn = (P.map fn).take (i : Int).toNat ++ [fn y] ++ (P.map fn).drop ((i : Int) + 2).toNat := by
  rw [show ((i : Int) + 2).toNat = i + 2 from rfl, Int.toNat_natCast, List.map_append, List.map_cons, List.map_take, List.map_drop, List.append_assoc]; rfl
theorem w_joined {t s eo : Nat} {E : List (Tm × Tm)} (tp : TP H t s) (hts : t < H.length ∧ s < H.length) (he : H[eo]? = some (.list (E.map pav))) (h1 : 1 ≤ E.length) (h4 : E.length ≤ 4) (hnt : eo ≠ t ∧ eo ≠ s)
    (h : ∀ H' l r, Joined E l r → TP H' t s → Fx [t, s] H H' → Q (.tup [(Tm.s1 l).av, (Tm.s1 r).av]) H') : WCal (d + 2) 44 [.obj t, .obj eo] H Q := by
  have hel : (E.map pav).length ≤ 10000 := by rw [List.length_map]; exact Nat.le_trans h4 (by decide)
  refine WCal.mk (f := F__law_joined) rfl rfl ?_; dsimp only [F__law_joined]
  refine WEx.cons (WEx1.col rfl rfl rfl he ⟨by decide, by decide, hel⟩ (col_pairs0 E) (KSeq.next (WEx.cons (WEx1.col rfl rfl rfl (l := E.map pav) ?_ ⟨by decide, by decide, hel⟩ (col_pairs1 E) (KSeq.next (WEx.cons (WEx1.whl ?_)))))))
  · rw [List.getElem?_append_left (lt_of_get he)]; exact he
  have f0 : Fx [t, s] H (H ++ [AO.list (E.map fun x => x.1.av)] ++ [AO.list (E.map fun x => x.2.av)]) := by rw [List.append_assoc]; exact Fx.app _
  have hsl : (E.map fun x => (([x], x.1, x.2) : Seg)).length = E.length := List.length_map _
  refine WWh.inv (JL t s E H) ?_ _ E.length _ _ (Nat.lt_succ_self _)
    ⟨H.length, (H ++ [AO.list (E.map fun x => x.1.av)]).length, E.map fun x => ([x], x.1, x.2), rfl, rfl, rfl, Nat.le_refl _, by rw [List.length_append]; exact Nat.le_add_right _ _, ?_, ?_, ⟨(seg_start E).1, (seg_start E).2, by rw [hsl]; exact h1, by rw [hsl]; exact h4⟩, hsl.symm, tp.fx (W := []) (by rw [List.append_assoc]; exact Fx.app _) List.not_mem_nil List.not_mem_nil, f0⟩
  · rintro k ρ' H1 ⟨lo, ro, P, r1, r2, r3, hlo, hro, g1, g2, hi, hk, tp1, f1⟩
    have hl4 : (P.map fun x => x.2.1.av).length ≤ 4 := by rw [List.length_map]; exact hi.four
    have hr4 : (P.map fun x => x.2.2.av).length ≤ 4 := by rw [List.length_map]; exact hi.four
    have hl6 : (P.map fun x => x.2.1.av).length ≤ 1000000 := Nat.le_trans hl4 (by decide)
    by_cases hone : P.length = 1
    · obtain ⟨x, rfl⟩ : ∃ x, P = [x] := List.length_eq_one_iff.mp hone
      have hJ := hi.ok x (.head _)
      have hxE : x.1 = E := by rw [← hi.all]; exact (List.append_nil _).symm
      rw [hxE] at hJ
      (repeat' tb_start)
      exact h H1 x.2.1 x.2.2 hJ tp1 f1
    · have hlt : 1 < (P.map fun x => x.2.1.av).length := by rw [List.length_map]; exact Nat.lt_of_le_of_ne hi.one (Ne.symm hone)
      have hgt : ((P.map fun x => x.2.1.av).length : Int) > 1 := Int.ofNat_lt.mpr hlt
      (repeat' tb_start)
      refine w_digit (by constructor <;> decide) tp1 fun H2 f hf0 hf1 tp2 f2 => ?_
      have g1' := f2.get g1 (notin2 hts hlo)
      have g2' := f2.get g2 (notin2 hts hro)
      (repeat' tb_start)
      obtain ⟨hmp, i, hi0, hi1⟩ := modpick (f := f) hlt hl4
      refine KBin2.mk (bin_mod hmp) ?_
      rw [hi0]
      rw [List.length_map] at hi1
      obtain ⟨a, b, ha, hb, hst⟩ := hi.step hi1
      (repeat' tb_start)
      rename_i w3 H3 e3 g3 f3
      refine w_digit (by constructor <;> decide) (tp2.fx f3 List.not_mem_nil List.not_mem_nil) fun H4 g hg0 hg1 tp4 f4 => ?_
      have pk := pick2 hg0 hg1
      have g1'' := f4.get (f3.get g1' List.not_mem_nil) (notin2 hts hlo)
      have g2'' := f4.get (f3.get g2' List.not_mem_nil) (notin2 hts hro)
      have b3 := f4.get g3 (notin2 hts (by rw [e3]; exact Nat.le_trans f1.len f2.len))
      repeat' ((fail_if_success (with_reducible show WEx _ _ _ _ (S.asg (X.nm 90) _ :: _) _)); tb_start)
      refine WEx.cut _ (w_join1 (i := i) rfl (by kat_tups) (by kat_tups) (by kat_tups) g1'' hl4 (by rw [List.getElem?_map, ha]; rfl) (by rw [List.getElem?_map, hb]; rfl)) ?_
      rintro _ H5 ⟨w5, rfl, hw5, g5, f5⟩
      refine WEx.cut _ (w_join1 (i := i) rfl (by kat_tups) (by kat_tups) (by kat_tups) (f5.get g2'' List.not_mem_nil) hr4 (by rw [List.getElem?_map, ha]; rfl) (by rw [List.getElem?_map, hb]; rfl)) ?_
      rintro _ H6 ⟨w6, rfl, hw6, g6, f6⟩
      (repeat' tb_start)
      have hs4 := hst (decide (g = 0))
      have hn4 : H.length ≤ H4.length := Nat.le_trans f1.len (Nat.le_trans f2.len (Nat.le_trans f3.len f4.len))
      refine ⟨_, by rw [hk]; exact hs4.2, ⟨w5, w6, _, by kat_tups, by kat_tups, by kat_tups, Nat.le_trans hn4 hw5, Nat.le_trans (Nat.le_trans hn4 f5.len) hw6, ?_, ?_, hs4.1, rfl, (tp4.fx f5 List.not_mem_nil List.not_mem_nil).fx f6 List.not_mem_nil List.not_mem_nil, by kct_strs⟩⟩
      · rw [seg_map]; exact f6.get g5 List.not_mem_nil
      · rw [seg_map]; exact g6
  · rw [List.append_assoc, List.getElem?_append_right (Nat.le_refl _), Nat.sub_self, List.map_map]; rfl
  · rw [List.getElem?_append_right (Nat.le_refl _), Nat.sub_self, List.map_map]; rfl
end

end
end
section
local macro_rules | `(tactic| keq_hits) => tyHits true
local macro_rules | `(tactic| kp_flats) => tyFlatV
local macro_rules | `(tactic| kct_strs) => tyFrV
local macro_rules | `(tactic| tb_start) => tyVS

local macro_rules | `(tactic| keq_hits) => tyHits false
local macro_rules | `(tactic| kp_flats) => tyFlatX
local macro_rules | `(tactic| kct_strs) => tyFrX
local macro_rules | `(tactic| tb_start) => tyXS

section
section
variable {H : AH} {Q : AV → AH → Prop} {d : Nat}
theorem new_instX {i c : Nat} {vs : List AV} (h : ∀ w H', w = H.length → H'[w]? = some (.inst c []) → Fx [] H H' → H'.length = H.length + 1 → WCal d i (.obj w :: vs) H' (KNone w Q)) : NewI d c i Q vs H :=
  h _ _ rfl (by rw [List.getElem?_append_right (Nat.le_refl _), Nat.sub_self]; rfl) (Fx.app _) (by simp)
theorem new_setX (h : ∀ w H', w = H.length → H'[w]? = some (.set fun _ => false) → Fx [] H H' → H'.length = H.length + 1 → Q (.obj w) H') : NewS Q H :=
  h _ _ rfl (by rw [List.getElem?_append_right (Nat.le_refl _), Nat.sub_self]; rfl) (Fx.app _) (by simp)
theorem set_attrX {x c a : Nat} {l : List (Nat × AV)} {v : AV} {ρ : Loc} {Qs : Fl → Loc → AH → Prop} (hx : H[x]? = some (.inst c l)) (hc : Tb.attr c a = true) (hl : l.length < 100) (h : ∀ H', H'[x]? = some (.inst c (setL a v l)) → Fx [x] H H' → H'.length = H.length → Qs .next ρ H') : KSet (.obj x) a v ρ Qs H :=
  ⟨_, setAt_inst hx hc hl, h _ (set_get hx) (Fx.set _ List.mem_cons_self) (by simp)⟩
noncomputable def st0 : St := ⟨[], fun _ => false, fun _ => false, 5⟩
noncomputable def hdAt (p : Plan) (hs : List Tm) : Nat → St
  | 0 => st0
  | j + 1 => match hs[j]? with
    | some t => headArg p t (reg 19 (j + 1)) (hdAt p hs j)
    | none => hdAt p hs j
noncomputable abbrev kcL (hs : List Tm) (go : Nat) : List (Nat × AV) := [(111, .int 24), (61, .tup (hs.map Tm.av)), (112, .obj go), (29, .int 5)]
theorem new_listL {r : List AV} (h : ∀ w H', w = H.length → H'[w]? = some (.list r) → Fx [] H H' → H'.length = H.length + 1 → Q (.obj w) H') : NewL Q H r :=
  h _ _ rfl (by rw [List.getElem?_append_right (Nat.le_refl _), Nat.sub_self]; rfl) (Fx.app _) (by simp)
section

local macro_rules | `(tactic| tb_start) => tyF "new_instX//111111 new_setX//111111 new_listL//111111 set_attrX/krb/1111"

theorem w_maker {kc pa go : Nat} {hs : List Tm} {p : Plan} (hk : H[kc]? = some (.inst 1 (kcL hs go))) (hp : PlanAt H pa H.length p) (h : ∀ H', M H' ⟨H.length, kc, pa⟩ p st0 → Fx [] H H' → Q (.obj H.length) H') :
    NewI (d + 1) 0 4 Q [.obj kc, .obj pa] H := by
  refine new_instX fun w H1 e1 h1 f1 z1 => ?_
  subst e1
  have b1 := lt_of_get h1
  have hkc := lt_of_get hk
  refine WCal.mk (f := F_CodeState_init) rfl rfl ?_; dsimp only [F_CodeState_init]
  (repeat' tb_start)
  rename_i Ha ga fa za Hb gb fb zb w1 Hc ec gc fc zc Hd gd fd zd w2 He ee ge fe ze Hf gf ff zf w3 Hg eg gg fg zg Hh gh fh zh Hi gi fi zi
  have q1 : w1 = H.length + 1 := by (first | lia | omega)
  have q2 : w2 = H.length + 2 := by (first | lia | omega)
  have q3 : w3 = H.length + 3 := by (first | lia | omega)
  have kc1 : Hi[w1]? = some (.list []) := by kp_flats
  have kc2 : Hi[w2]? = some (.set fun _ => false) := by kp_flats
  have kc3 : Hi[w3]? = some (.set fun _ => false) := by kp_flats
  have FF : Fx [] H Hi := by kct_strs
  subst q1 q2 q3
  exact h Hi ⟨gi, kc1, kc2, kc3, hp.fr (FF.fr (x := H.length)) fun w hw => by cases hw⟩ FF
end
theorem hdAt_len (p : Plan) (hs : List Tm) (ho : ∀ t ∈ hs, t.Ok p ∧ t.size ≤ 7) : ∀ j, (hdAt p hs j).code.length ≤ 42 * j
  | 0 => Nat.le_refl _
  | j + 1 => by
    have ih := hdAt_len p hs ho j
    unfold hdAt
    split
    · rename_i t ht
      have := headArg_len p t (reg 19 (j + 1)) (hdAt p hs j)
      have := (ho t (List.mem_of_getElem? ht)).2
      (first | lia | omega)
    · (first | lia | omega)

theorem w_behind {kc pa go : Nat} {hs : List Tm} {p : Plan} (hk : H[kc]? = some (.inst 1 (kcL hs go))) (hp : PlanAt H pa H.length p) (ho : ∀ t ∈ hs, t.Ok p ∧ t.size ≤ 7) (hl : hs.length ≤ 3)
    (h : ∀ H', M H' ⟨H.length, kc, pa⟩ p (hdAt p hs hs.length) → Fx [] H H' → Q (.obj H.length) H') : WCal (d + 6) 45 [.obj kc, .obj pa] H Q := by
  have hkc := lt_of_get hk
  refine WCal.mk (f := F__law_behind_head) rfl rfl ?_; dsimp only [F__law_behind_head]
  refine WEx.cons (WEx1.asg rfl (WEv.cls rfl rfl rfl (WEvs.pure rfl (w_maker hk hp (fun H1 m1 f1 => ?_)))))
  generalize hσ : (⟨H.length, kc, pa⟩ : Mk) = σ at m1 h
  have hx : σ.x = H.length := by rw [← hσ]
  rw [← hx]
  have hk1 := f1.get hk List.not_mem_nil
  have b1 := m1.lt
  (repeat' tb_start)
  refine WEx1.for rfl (WSrc.any rfl (WEv.att rfl (WEv.nm rfl rfl ⟨_, getAt_inst hk1 rfl rfl, _, rfl, _, rfl, ?_⟩)))
  refine WFo.tup (fun j ρ H' => lookN 170 ρ = some (.obj σ.x) ∧ lookN 31 ρ = some (.int j) ∧ M H' σ p (hdAt p hs j) ∧ Fr σ.x [] H1 H') ?_ ?_ _ 0 _ _ rfl (Nat.zero_le _) ⟨rfl, rfl, m1, Fr.refl _⟩
  · rintro j v ρ H2 hv ⟨r1, r2, m2, f2⟩
    obtain ⟨t, ht, rfl⟩ := getMap hv
    obtain ⟨ho1, ho2⟩ := ho t (List.mem_of_getElem? ht)
    have hj : j < hs.length := by obtain ⟨q, _⟩ := List.getElem?_eq_some_iff.mp ht; exact q
    have hlj := hdAt_len p hs ho j
    have hjl : j ≤ 3 := by (first | lia | omega)
    have e : hdAt p hs (j + 1) = headArg p t (reg 19 ((j : Int) + 1)) (hdAt p hs j) := by show (match hs[j]? with | some t => _ | none => _) = _; rw [ht]
    (repeat' tb_start)
    refine w_head_argument m2 ho1 (by (first | lia | omega)) fun H3 m3 f3 => ?_
    (repeat' tb_start)
    exact ⟨by kat_tups, by kat_tups, by rw [e]; exact m3, by kct_strs⟩
  · rintro ρ H2 ⟨r1, r2, m2, f2⟩
    rw [List.length_map] at r2 m2
    refine ⟨_, rfl, ?_⟩
    (repeat' tb_start)
    rw [hx]
    exact h _ m2 ⟨Nat.le_trans f1.len f2.len, fun i hi _ => by rw [f2.same i (by have := f1.len; (first | lia | omega)) (.inl (by (first | lia | omega))) List.not_mem_nil, f1.same i hi List.not_mem_nil]⟩
end

end
end
section
local macro_rules | `(tactic| keq_hits) => tyHits false
local macro_rules | `(tactic| kp_flats) => tyFlatX
local macro_rules | `(tactic| kct_strs) => tyFrX
local macro_rules | `(tactic| tb_start) => tyXS

section
/-! classify: that it ends, and what its answer looks like -/
structure Vi where
  var : Int
  kind : Nat
  slot : Int
  first : Nat
  uns : Bool
  lg : Int
  cnt : Int
  fc : Int
  lc : Int
noncomputable abbrev viL (v : Vi) : List (Nat × AV) := [(120, .int v.var), (35, .str v.kind), (40, .int v.slot), (122, .str v.first), (123, .bool v.uns), (124, .int v.lg), (29, .int v.cnt), (125, .int v.fc), (126, .int v.lc)]
/-- the infos of a survey -/
structure IV (n0 : Nat) (H : AH) (io : Nat) (D : List (Int × AV)) (b : Bool) : Prop where
  i : H[io]? = some (.dict D b)
  ok : ∀ k v, lookI k D = some v → (0 ≤ k ∧ k < 5) ∧ ∃ o vi, v = .obj o ∧ n0 ≤ o ∧ H[o]? = some (.inst 2 (viL vi))
  nd : (D.map (·.1)).Nodup
  lo : n0 ≤ io
/-- lists stay, and all below n0 -/
structure Fk (n0 io : Nat) (H H' : AH) : Prop where
  len : H.length ≤ H'.length
  lst : ∀ (i : Nat) (l : List AV), H[i]? = some (.list l) → H'[i]? = some (.list l)
  dct : ∀ (i : Nat) (l : List (Int × AV)) (b : Bool), i ≠ io → H[i]? = some (.dict l b) → H'[i]? = some (.dict l b)
  low : ∀ i, i < n0 → H'[i]? = H[i]?
theorem Fk.refl (n0 io : Nat) (H : AH) : Fk n0 io H H := ⟨Nat.le_refl _, fun _ _ h => h, fun _ _ _ _ h => h, fun _ _ => rfl⟩
theorem Fk.trans {n0 io : Nat} {H H1 H2 : AH} (a : Fk n0 io H H1) (b : Fk n0 io H1 H2) : Fk n0 io H H2 :=
  ⟨Nat.le_trans a.len b.len, fun i l h => b.lst i l (a.lst i l h), fun i l c hi h => b.dct i l c hi (a.dct i l c hi h), fun i h => by rw [b.low i h, a.low i h]⟩
theorem Fx.fk0 {n0 io : Nat} {H H' : AH} (f : Fx [] H H') (hn : n0 ≤ H.length) : Fk n0 io H H' :=
  ⟨f.len, fun _ _ h => f.get h List.not_mem_nil, fun _ _ _ _ h => f.get h List.not_mem_nil, fun i h => f.same i (by (first | lia | omega)) List.not_mem_nil⟩
theorem Fx.fkD {n0 w : Nat} {H H' : AH} {D : List (Int × AV)} {b : Bool} (f : Fx [w] H H') (hw : H[w]? = some (.dict D b)) (hn : n0 ≤ w) : Fk n0 w H H' :=
  ⟨f.len, fun i l h => f.get h (by intro e; rw [List.mem_singleton.mp e, hw] at h; cases h), fun i l c hi h => f.get h (by simpa using hi), fun i h => f.same i (by have := lt_of_get hw; (first | lia | omega)) (by simp; (first | lia | omega))⟩
theorem Fx.fkI {n0 io w c : Nat} {H H' : AH} {l : List (Nat × AV)} (f : Fx [w] H H') (hw : H[w]? = some (.inst c l)) (hn : n0 ≤ w) : Fk n0 io H H' :=
  ⟨f.len, fun i l h => f.get h (by intro e; rw [List.mem_singleton.mp e, hw] at h; cases h), fun i l c hi h => f.get h (by intro e; rw [List.mem_singleton.mp e, hw] at h; cases h), fun i h => f.same i (by have := lt_of_get hw; (first | lia | omega)) (by simp; (first | lia | omega))⟩
theorem nodup_len : ∀ (l m : List Int), l.Nodup → (∀ x ∈ l, x ∈ m) → l.length ≤ m.length
  | [], m, _, _ => Nat.zero_le _
  | x :: l, m, hn, hs => by
    obtain ⟨h1, h2⟩ := List.nodup_cons.mp hn
    have hx := hs x (.head _)
    have h3 := nodup_len l (m.erase x) h2 (fun y hy => (List.mem_erase_of_ne (fun e => h1 (by rw [← e]; exact hy))).mpr (hs y (.tail _ hy)))
    rw [List.length_erase_of_mem hx] at h3
    have h4 := List.length_pos_of_mem hx
    simp only [List.length_cons]
    (first | lia | omega)
section
variable {n0 io : Nat} {H H' : AH} {D : List (Int × AV)} {b : Bool}
theorem IV.fx (v : IV n0 H io D b) (f : Fx [] H H') : IV n0 H' io D b :=
  ⟨f.get v.i List.not_mem_nil, fun k u h => by
    obtain ⟨h1, o, vi, h2, h3, h4⟩ := v.ok k u h
    exact ⟨h1, o, vi, h2, h3, f.get h4 List.not_mem_nil⟩, v.nd, v.lo⟩
/-- one info anew -/
theorem IV.upd (v : IV n0 H io D b) {o : Nat} {vi vi' : Vi} (f : Fx [o] H H') (ho : H[o]? = some (.inst 2 (viL vi))) (ho' : H'[o]? = some (.inst 2 (viL vi'))) : IV n0 H' io D b :=
  ⟨f.get v.i (by intro e; rw [← List.mem_singleton.mp e, v.i] at ho; cases ho), fun k u h => by
    obtain ⟨h1, q, wi, h2, h3, h4⟩ := v.ok k u h
    by_cases e : q = o
    · subst e; exact ⟨h1, q, vi', h2, h3, ho'⟩
    · exact ⟨h1, q, wi, h2, h3, f.get h4 (by simpa using e)⟩, v.nd, v.lo⟩
theorem setD_keys (k : Int) (v : AV) : ∀ D : List (Int × AV), ((setD k v D).map (·.1)) = if (lookI k D).isSome = true then D.map (·.1) else D.map (·.1) ++ [k]
  | [] => rfl
  | (j, u) :: r => by
    unfold setD
    by_cases h : j = k
    · rw [if_pos h]
      have : lookI k ((j, u) :: r) = some u := by show (if j = k then some u else lookI k r) = _; rw [if_pos h]
      rw [this]; rfl
    · rw [if_neg h]
      have : lookI k ((j, u) :: r) = lookI k r := by show (if j = k then some u else lookI k r) = _; rw [if_neg h]
      rw [this, List.map_cons, setD_keys k v r]
      split <;> rfl
theorem lookI_mem {k : Int} : ∀ {D : List (Int × AV)}, k ∈ D.map (·.1) ↔ (lookI k D).isSome = true
  | [] => by simp [lookI]
  | (j, u) :: r => by
    have ih := lookI_mem (k := k) (D := r)
    show k ∈ j :: r.map (·.1) ↔ (if j = k then some u else lookI k r).isSome = true
    rw [List.mem_cons]
    by_cases h : j = k
    · rw [if_pos h]; simp [h]
    · rw [if_neg h, ih]; simp [Ne.symm h]
/-- a new key -/
theorem IV.add (v : IV n0 H io D b) {k : Int} {o : Nat} {vi : Vi} (hk : 0 ≤ k ∧ k < 5) (ho : H[o]? = some (.inst 2 (viL vi))) (hn : n0 ≤ o) (hnew : (lookI k D).isSome = false) (f : Fx [io] H H') (hd : H'[io]? = some (.dict (setD k (.obj o) D) b)) : IV n0 H' io (setD k (.obj o) D) b := by
  refine ⟨hd, fun j u h => ?_, ?_, v.lo⟩
  · rw [lookI_set] at h
    have keep : ∀ (q : Nat) (wi : Vi), H[q]? = some (.inst 2 (viL wi)) → H'[q]? = some (.inst 2 (viL wi)) := fun q wi hq => f.get hq (by intro e; rw [List.mem_singleton.mp e, v.i] at hq; cases hq)
    split at h
    · rename_i e; cases h; subst e; exact ⟨hk, o, vi, rfl, hn, keep o vi ho⟩
    · obtain ⟨h1, q, wi, h2, h3, h4⟩ := v.ok j u h
      exact ⟨h1, q, wi, h2, h3, keep q wi h4⟩
  · rw [setD_keys, hnew]
    simp only [Bool.false_eq_true, if_false]
    rw [List.nodup_append]
    refine ⟨v.nd, by simp, fun x hx y hy e => ?_⟩
    rw [List.mem_singleton.mp hy] at e
    subst e
    rw [lookI_mem, hnew] at hx
    cases hx
theorem IV.len (v : IV n0 H io D b) : D.length ≤ 5 := by
  have hs : ∀ k ∈ D.map (·.1), k ∈ ([0, 1, 2, 3, 4] : List Int) := fun k hk => by
    rw [lookI_mem] at hk
    cases h : lookI k D with
    | none => rw [h] at hk; cases hk
    | some u =>
      obtain ⟨h1, _⟩ := v.ok k u h
      simpa using five h1
  have := nodup_len _ _ v.nd hs
  simpa using this
variable {Q : AV → AH → Prop} {d so : Nat}
structure SV (n0 : Nat) (H : AH) (so io : Nat) (D : List (Int × AV)) : Prop where
  s : H[so]? = some (.inst 4 [(33, .obj io)])
  v : IV n0 H io D false
  hs : n0 ≤ so
theorem SV.upd {D : List (Int × AV)} (v : SV n0 H so io D) {o : Nat} {vi vi' : Vi} (f : Fx [o] H H') (ho : H[o]? = some (.inst 2 (viL vi))) (ho' : H'[o]? = some (.inst 2 (viL vi'))) : SV n0 H' so io D :=
  ⟨f.get v.s (by intro e; rw [← List.mem_singleton.mp e, v.s] at ho; cases ho), v.v.upd f ho ho', v.hs⟩
theorem SV.fx {D : List (Int × AV)} (v : SV n0 H so io D) (f : Fx [] H H') : SV n0 H' so io D := ⟨f.get v.s List.not_mem_nil, v.v.fx f, v.hs⟩
theorem aug_set {op : Operator} {u k r v : AV} {a : Nat} {K : AH → Prop} (ha : augOp op u k = some v) (hs : ∃ H4, setAt Tb H r a v = some H4 ∧ K H4) : ∃ v H4, augOp op u k = some v ∧ setAt Tb H r a v = some H4 ∧ K H4 := by
  obtain ⟨H4, e, h⟩ := hs
  exact ⟨v, H4, ha, e, h⟩
section

local macro_rules | `(tactic| tb_start) => tyF "new_instX//111111 set_attrX/krb/1111"

theorem w_VarInfo {k : Int} {f : Nat} (h : ∀ w H', w = H.length → H'[w]? = some (.inst 2 (viL ⟨k, 121, 0, f, false, -1, 0, 0, 0⟩)) → Fx [] H H' → Q (.obj w) H') : NewI (d + 1) 2 31 Q [.int k, .str f] H := by
  refine new_instX fun w H1 e1 h1 f1 z1 => ?_
  have b1 := lt_of_get h1
  refine WCal.mk (f := F_VarInfo_init) rfl rfl ?_; dsimp only [F_VarInfo_init]
  (repeat' tb_start)
  rename_i h9 _ _
  exact h w _ e1 h9 (by kct_strs)
theorem w_meet_old {D : List (Int × AV)} (v : SV n0 H so io D) {k g c n : Int} {f : Nat} (hk : (lookI k D).isSome = true) (h : ∀ H', SV n0 H' so io D → Fk n0 io H H' → Q .none H') : WEx (d + 1) F_Survey_meet.sc [(22, .obj so), (34, .int k), (122, .str f), (113, .int g), (131, .int c), (29, .int n)] H (F_Survey_meet.body.drop 1) (KRet Q) := by
  cases hl : lookI k D with
  | none => rw [hl] at hk; cases hk
  | some u =>
    obtain ⟨h5, o, vi, rfl, hn, ho⟩ := v.v.ok k u hl
    have hs := v.s
    have hi := v.v.i
    dsimp only [F_Survey_meet, List.drop]
    (repeat' tb_start)
    rename_i Ha ga fa za Hb gb fb zb Hc gc fc zc
    have FF : Fx [o] H Hc := by kct_strs
    exact h _ (v.upd (vi' := { vi with cnt := vi.cnt + n, lg := g, lc := c }) FF ho gc) (FF.fkI ho hn)
end
theorem lookI_self (k : Int) (v : AV) (D : List (Int × AV)) : lookI k (setD k v D) = some v := by rw [lookI_set, if_pos rfl]
section

local macro_rules | `(tactic| tb_start) => tyF "KSub2.dict/kg w_VarInfo//11111 set_attrX/krb/1111"

theorem w_meet {D : List (Int × AV)} (v : SV n0 H so io D) (hn0 : n0 ≤ H.length) {k g c n : Int} {f : Nat} (h5 : 0 ≤ k ∧ k < 5) (h : ∀ H' D', SV n0 H' so io D' → (∀ j, (lookI j D').isSome = true ↔ ((lookI j D).isSome = true ∨ j = k)) → Fk n0 io H H' → Q .none H') : WCal (d + 3) 35 [.obj so, .int k, .str f, .int g, .int c, .int n] H Q := by
  have hs := v.s
  have hi := v.v.i
  have hDl := v.v.len
  have hso := lt_of_get hs
  have hio := lt_of_get hi
  refine WCal.mk (f := F_Survey_meet) rfl rfl ?_; dsimp only [F_Survey_meet]
  cases hk : (lookI k D).isSome with
  | true =>
    repeat' ((fail_if_success (with_reducible show WEx _ _ _ _ (S.asg (X.nm 38) _ :: _) _)); tb_start)
    exact w_meet_old (d := d + 1) v hk fun H' v' f' => h H' D v' (fun j => ⟨.inl, fun hj => hj.elim id fun e => by rw [e]; exact hk⟩) f'
  | false =>
    have hsi : so ≠ io := fun e => by rw [e, hi] at hs; cases hs
    repeat' ((fail_if_success (with_reducible show WEx _ _ _ _ (S.asg (X.nm 38) _ :: _) _)); tb_start)
    rename_i w H1 e1 g1 f1 H2 g2 f2 H3 g3 f3 z3
    have l1 := f1.len
    have hnw : n0 ≤ w := by (first | lia | omega)
    have v1 := v.fx f1
    have hwi : w ≠ io := by (first | lia | omega)
    have gw := f2.get g1 (by simpa using hwi)
    have v2 : SV n0 H2 so io (setD k (.obj w) D) := ⟨f2.get v1.s (by simpa using hsi), v1.v.add h5 g1 hnw hk f2 g2, v.hs⟩
    have v3 : SV n0 H3 so io (setD k (.obj w) D) := v2.upd (vi' := ⟨k, 121, 0, f, false, -1, 0, c, 0⟩) f3 gw g3
    have F := ((f1.fk0 hn0).trans (f2.fkD v1.v.i v.v.lo)).trans (f3.fkI gw hnw)
    refine w_meet_old (d := d + 1) v3 (by rw [lookI_self]; rfl) fun H' v' f' => h H' _ v' (fun j => ?_) (F.trans f')
    rw [lookI_set]
    split
    · rename_i e; exact ⟨fun _ => .inr e.symm, fun _ => rfl⟩
    · rename_i e; exact ⟨.inl, fun hj => hj.elim id fun e2 => absurd e2.symm e⟩
end
end

end
section
section
variable {n0 so io : Nat} {H H' : AH} {D : List (Int × AV)} {Q : AV → AH → Prop} {d : Nat}

/-- the loop over the terms -/
inductive TJ (n0 so io pl : Nat) (g c : Int) (ts : List Tm) (D : List (Int × AV)) (H0 : AH) (j : Nat) (ρ : Loc) (H : AH) : Prop
  | mk (D' : List (Int × AV)) (r1 : lookN 22 ρ = some (.obj so)) (r2 : lookN 44 ρ = some (.str pl)) (r3 : lookN 113 ρ = some (.int g)) (r4 : lookN 131 ρ = some (.int c)) (v : SV n0 H so io D') (hD : ∀ k, (lookI k D).isSome = true → (lookI k D').isSome = true)
      (hT : ∀ i t, i < j → ts[i]? = some t → ∀ k ∈ t.vars, (lookI k D').isSome = true) (f : Fk n0 io H0 H)
/-- the loop over a term's variables -/
inductive TC (n0 so io pl cd ro : Nat) (g c : Int) (S : List (Int × AV)) (L : List Int) (D : List (Int × AV)) (H0 : AH) (i : Nat) (ρ : Loc) (H : AH) : Prop
  | mk (D' : List (Int × AV)) (r1 : lookN 22 ρ = some (.obj so)) (r2 : lookN 44 ρ = some (.str pl)) (r3 : lookN 113 ρ = some (.int g)) (r4 : lookN 131 ρ = some (.int c)) (r5 : lookN 17 ρ = some (.obj cd)) (g1 : H[ro]? = some (.list (L.map AV.int))) (g2 : H[cd]? = some (.dict S false))
      (v : SV n0 H so io D') (hD : ∀ k, (lookI k D).isSome = true → (lookI k D').isSome = true) (hT : ∀ q k, q < i → L[q]? = some k → (lookI k D').isSome = true) (f : Fk n0 io H0 H)
theorem upto_succ {P : Nat → Prop} {j : Nat} (h : ∀ i, i < j → P i) (hj : P j) : ∀ i, i < j + 1 → P i := fun i hi => by
  rcases Nat.lt_or_eq_of_le (Nat.le_of_lt_succ hi) with h1 | h1
  · exact h i h1
  · rw [h1]; exact hj
theorem lt_of_item {α : Type} {l : List α} {i : Nat} {a : α} (h : l[i]? = some a) : i < l.length := (List.getElem?_eq_some_iff.mp h).1
local macro_rules | `(tactic| tb_start) => tyF "KSub2.mk+item_tg KBin2.mk/A"

theorem w_terms (v : SV n0 H so io D) (hn0 : n0 ≤ H.length) {ts : List Tm} {pl : Nat} {g c : Int} (hpl : pl = 142 ∨ pl = 113) (ho : ∀ t ∈ ts, VOk t ∧ t.size < 1000)
    (h : ∀ H' D', SV n0 H' so io D' → (∀ k, (lookI k D).isSome = true → (lookI k D').isSome = true) → (∀ t ∈ ts, ∀ k ∈ t.vars, (lookI k D').isSome = true) → Fk n0 io H H' → Q .none H') : WCal (d + 4) 36 [.obj so, .tup (ts.map Tm.av), .str pl, .int g, .int c] H Q := by
  obtain ⟨c1, hc1⟩ : ∃ x, binOp Tb .Add (.str pl) (.str 134) = some (.str x) := by rcases hpl with rfl | rfl <;> exact ⟨_, rfl⟩
  obtain ⟨c2, hc2⟩ : ∃ x, binOp Tb .Add (.str pl) (.str 136) = some (.str x) := by rcases hpl with rfl | rfl <;> exact ⟨_, rfl⟩
  refine WCal.mk (f := F_Survey_terms) rfl rfl ?_; dsimp only [F_Survey_terms]
  refine WEx.cons (WEx1.for rfl (WSrc.any rfl (WEv.nm rfl rfl ⟨_, rfl, _, rfl, ?_⟩)))
  refine WFo.tup (TJ n0 so io pl g c ts D H) ?_ ?_ _ 0 _ _ rfl (Nat.zero_le _) ⟨D, rfl, rfl, rfl, rfl, v, fun _ h => h, fun _ _ h => absurd h (Nat.not_lt_zero _), Fk.refl _ _ _⟩
  · rintro j u ρ H1 hv ⟨D1, r1, r2, r3, r4, v1, hD1, hT1, f1⟩
    obtain ⟨t, ht, rfl⟩ := getMap hv
    obtain ⟨hto, hts⟩ := ho t (List.mem_of_getElem? ht)
    have l1 : n0 ≤ H1.length := Nat.le_trans hn0 f1.len
    have hs1 := v1.s
    (repeat' tb_start)
    refine KIte.split (fun htv => ?_) fun htv => ?_
    · obtain ⟨k, rfl⟩ := tg_v htv
      (repeat' tb_start)
      refine w_meet v1 l1 (hto k (.head _)) fun H2 D2 v2 hD2 f2 => ?_
      (repeat' tb_start)
      refine ⟨D2, by kat_tups, by kat_tups, by kat_tups, by kat_tups, v2, fun k h => (hD2 k).mpr (.inl (hD1 k h)), fun i t hi => upto_succ (P := fun i => ∀ t, ts[i]? = some t → ∀ k ∈ t.vars, (lookI k D2).isSome = true) (fun i hi t ht k hk => (hD2 k).mpr (.inl (hT1 i t hi ht k hk))) (fun t' ht' k' hk' => ?_) i hi t, f1.trans f2⟩
      rw [ht] at ht'
      rw [← Option.some.inj ht'] at hk'
      exact (hD2 k').mpr (.inr (List.mem_singleton.mp hk'))
    · (repeat' tb_start)
      refine w_occurrences hts fun H2 cd S hcd hS hcl f2 => ?_
      have hcio : cd ≠ io := lt_ne (Nat.lt_of_lt_of_le (lt_of_get v1.v.i) hcl)
      refine KSeq.next (WEx.cons (WEx1.for rfl (WSrc.any rfl (WEv.fn rfl rfl (WEvs.cons (WEv.nm rfl (by kat_tups) (WEvs.nil ?_)))))))
      refine w_variables hts fun H3 ro L h3 hL hLs hrl f3 => ?_
      refine ⟨.lst ro, by unfold srcAt; dsimp only; rw [h3], _, rfl, ?_⟩
      refine WFo.lst (TC n0 so io pl cd ro g c S L D1 H) (fun _ _ _ ⟨_, _, _, _, _, _, g, _, _, _, _, _⟩ => g) ?_ ?_ _ 0 _ _ rfl (Nat.zero_le _)
        ⟨D1, by kat_tups, by kat_tups, by kat_tups, by kat_tups, by kat_tups, h3, f3.get hcd List.not_mem_nil, (v1.fx f2).fx f3, fun _ h => h, fun _ _ h => absurd h (Nat.not_lt_zero _), (f1.trans (f2.fk0 l1)).trans (f3.fk0 (Nat.le_trans l1 f2.len))⟩
      · rintro i u ρ2 H4 hv ⟨D4, s1, s2, s3, s4, s5, g1, g2, v4, hD4, hT4, f4⟩
        obtain ⟨k, hk, rfl⟩ := getMap hv
        have hkv : k ∈ t.vars := (hL k).mp (List.mem_of_getElem? hk)
        obtain ⟨n, hn⟩ := hS k hkv
        have hs4 := v4.s
        (repeat' tb_start)
        refine w_meet v4 (Nat.le_trans hn0 f4.len) (hto k hkv) fun H5 D5 v5 hD5 f5 => ?_
        (repeat' tb_start)
        refine ⟨D5, by kat_tups, by kat_tups, by kat_tups, by kat_tups, by kat_tups, f5.lst _ _ g1, f5.dct _ _ _ hcio g2, v5, fun k h => (hD5 k).mpr (.inl (hD4 k h)), fun q k' hq => upto_succ (P := fun q => ∀ k, L[q]? = some k → (lookI k D5).isSome = true) (fun q hq k hk => (hD5 k).mpr (.inl (hT4 q k hq hk))) (fun k' hk' => ?_) q hq k', f4.trans f5⟩
        rw [hk] at hk'
        exact (hD5 _).mpr (.inr (Option.some.inj hk').symm)
      · rintro ρ2 H4 ⟨D4, s1, s2, s3, s4, s5, g1, g2, v4, hD4, hT4, f4⟩
        rw [List.length_map] at hT4
        refine ⟨_, rfl, KSeq.next (WEx.nil (KSeq.next (WEx.nil (KJ.next ?_))))⟩
        refine ⟨D4, s1, s2, s3, s4, v4, fun k h => hD4 k (hD1 k h), fun i t' hi => upto_succ (P := fun i => ∀ t, ts[i]? = some t → ∀ k ∈ t.vars, (lookI k D4).isSome = true) (fun i hi t ht k hk => hD4 k (hT1 i t hi ht k hk)) (fun t' ht' k' hk' => ?_) i hi t', f4⟩
        rw [ht] at ht'
        rw [← Option.some.inj ht'] at hk'
        obtain ⟨q, hq⟩ := List.mem_iff_getElem?.mp ((hL k').mpr hk')
        exact hT4 q k' (lt_of_item hq) hq
  · rintro ρ H1 ⟨D1, r1, r2, r3, r4, v1, hD1, hT1, f1⟩
    rw [List.length_map] at hT1
    refine ⟨_, rfl, ?_⟩
    (repeat' tb_start)
    refine h _ _ v1 hD1 (fun t ht k hk => ?_) f1
    obtain ⟨q, hq⟩ := List.mem_iff_getElem?.mp ht
    exact hT1 q t (lt_of_item hq) hq k hk
end

end
section
theorem ins_mem {k x : Int} : ∀ {l : List Int}, x ∈ ins k l ↔ x = k ∨ x ∈ l
  | [] => by simp [ins]
  | j :: r => by
    unfold ins
    split
    · simp
    · rw [List.mem_cons, ins_mem, List.mem_cons]; constructor <;> (rintro (h | h | h) <;> simp [h])
theorem insSort_mem {x : Int} : ∀ {l : List Int}, x ∈ insSort l ↔ x ∈ l
  | [] => by simp [insSort]
  | k :: l => by
    show x ∈ ins k (insSort l) ↔ _
    rw [ins_mem, insSort_mem, List.mem_cons]
theorem ins_len (k : Int) : ∀ l : List Int, (ins k l).length = l.length + 1
  | [] => rfl
  | j :: r => by
    unfold ins
    split
    · rfl
    · simp [ins_len k r]
theorem insSort_len : ∀ l : List Int, (insSort l).length = l.length
  | [] => rfl
  | k :: l => by show (ins k (insSort l)).length = _; rw [ins_len, insSort_len l]; rfl
section
variable {n0 so io : Nat} {H H' : AH} {D : List (Int × AV)} {b : Bool} {Q : AV → AH → Prop} {d : Nat}
theorem run_insert {a : Nat} {i : Int} {v : AV} {l : List AV} (h : H[a]? = some (.list l)) (hi : 0 ≤ i ∧ i ≤ l.length ∧ l.length < 1000000) : BmRun .insert a [.int i, v] H .none (H.set a (.list (l.take i.toNat ++ v :: l.drop i.toNat))) := .insert h hi
theorem insert_listX {w : Nat} {l : List AV} {v : AV} {i : Int} (hw : H[w]? = some (.list l)) (hi : 0 ≤ i ∧ i ≤ l.length ∧ l.length < 1000000) (h : ∀ H', H'[w]? = some (.list (l.take i.toNat ++ v :: l.drop i.toNat)) → Fx [w] H H' → Q .none H') : ∃ u H3, BmRun .insert w [.int i, v] H u H3 ∧ Q u H3 :=
  ⟨_, _, run_insert hw hi, h _ (set_get hw) (Fx.set _ List.mem_cons_self)⟩
theorem IV.fxL (v : IV n0 H io D b) {w : Nat} {l : List AV} (f : Fx [w] H H') (hw : H[w]? = some (.list l)) : IV n0 H' io D b :=
  ⟨f.get v.i (by intro e; rw [← List.mem_singleton.mp e, v.i] at hw; cases hw), fun k u h => by
    obtain ⟨h1, o, vi, h2, h3, h4⟩ := v.ok k u h
    exact ⟨h1, o, vi, h2, h3, f.get h4 (by intro e; rw [← List.mem_singleton.mp e, h4] at hw; cases hw)⟩, v.nd, v.lo⟩
theorem IV.get (v : IV n0 H io D b) {k : Int} (h : (lookI k D).isSome = true) : ∃ o vi, lookI k D = some (.obj o) ∧ n0 ≤ o ∧ H[o]? = some (.inst 2 (viL vi)) := by
  cases hl : lookI k D with
  | none => rw [hl] at h; cases h
  | some u => obtain ⟨_, o, vi, rfl, h3, h4⟩ := v.ok k u hl; exact ⟨o, vi, rfl, h3, h4⟩

local macro_rules | `(tactic| tb_start) => tyF "KSorted.mk/kl KBin2.mk+bin_pred KSub2.list/kA"

local macro_rules | `(tactic| keq_hits) => tyD "=A decide_eq_true/A/- decide_eq_false/A/-"

theorem w_kind_of {o : Nat} {vi : Vi} (ho : H[o]? = some (.inst 2 (viL vi))) (h : ∀ s, Q (.str s) H) : WCal (d + 1) 37 [.obj o] H Q := by
  refine WCal.mk (f := F_kind_of) rfl rfl ?_; dsimp only [F_kind_of]
  by_cases h1 : vi.cnt = 1
  · (repeat' tb_start)
    exact h _
  · by_cases h2 : vi.lc > vi.fc
    · (repeat' tb_start)
      exact h _
    · (repeat' tb_start)
      exact h _
theorem WEv.sorted' {sc : Sc} {ρ : Loc} {f x : Nat} (hs : sc.lookup f = some .globalImplicit) (hc : Tb.call f = some .sorted) (h : WEv d sc ρ H (.nm x) fun r H1 => ∃ o l b, r = .obj o ∧ H1[o]? = some (.dict l b) ∧ l.length < 64 ∧ NewL Q H1 ((insSort (l.map (·.1))).map .int)) : WEv d sc ρ H (.call (.nm f) [.nm x]) Q := WEv.sorted hs hc h
theorem IV.few (v : IV n0 H io D false) : D.length < 64 := Nat.lt_of_le_of_lt v.len (by decide)
theorem room9 {n : Nat} {L : List Int} (hn : n ≤ L.length) (hL : L.length ≤ 5) : (0 : Int) ≤ (n : Int) ∧ (n : Int) ≤ (L.map AV.int).length ∧ (L.map AV.int).length < 1000000 := by
  rw [List.length_map]; (first | lia | omega)
theorem ins5 {L : List Int} {n j : Nat} (k : Int) (hn : n ≤ L.length) (hL : L.length ≤ j) : (L.take n ++ k :: L.drop n).length ≤ j + 1 := by
  rw [List.length_append, List.length_cons, List.length_take, List.length_drop]; (first | lia | omega)
/-- the loop over the sorted keys -/
inductive SO (n0 io ol sl : Nat) (D : List (Int × AV)) (H0 : AH) (j : Nat) (ρ : Loc) (H : AH) : Prop
  | mk (L : List Int) (r1 : lookN 33 ρ = some (.obj io)) (r2 : lookN 137 ρ = some (.obj ol)) (g3 : H[sl]? = some (.list ((insSort (D.map (·.1))).map .int))) (v : IV n0 H io D false) (f : Fx [] H0 H) (gL : H[ol]? = some (.list (L.map AV.int))) (hL : ∀ k ∈ L, (lookI k D).isSome = true) (hl : L.length ≤ j)
/-- the search of a place -/
inductive SP (io ol o : Nat) (k : Int) (L : List Int) (H0 : AH) (n : Nat) (ρ : Loc) (H : AH) : Prop
  | mk (e : H = H0) (q1 : lookN 33 ρ = some (.obj io)) (q2 : lookN 137 ρ = some (.obj ol)) (q3 : lookN 34 ρ = some (.int k)) (q4 : lookN 38 ρ = some (.obj o)) (q5 : lookN 81 ρ = some (.int n)) (hn : n ≤ L.length)
theorem SO.put {ol sl j n : Nat} {k : Int} {L : List Int} {ρ : Loc} {H0 : AH} (r1 : lookN 33 ρ = some (.obj io)) (r2 : lookN 137 ρ = some (.obj ol)) (g3 : H[sl]? = some (.list ((insSort (D.map (·.1))).map .int))) (v : IV n0 H io D false) (f : Fx [] H0 H) (gL : H[ol]? = some (.list (L.map AV.int))) (hL : ∀ k ∈ L, (lookI k D).isSome = true) (hl : L.length ≤ j)
    (hj : j < 5) (hn : n ≤ L.length) (hk : (lookI k D).isSome = true) (hol : H0.length ≤ ol) (hsl : sl ≠ ol) : ∃ u H5, BmRun .insert ol [.int n, .int k] H u H5 ∧ SO n0 io ol sl D H0 (j + 1) ρ H5 := by
  refine insert_listX gL (room9 hn (Nat.le_trans hl (Nat.le_of_lt hj))) fun H5 g5 f5 => ?_
  rw [Int.toNat_natCast] at g5
  refine ⟨L.take n ++ k :: L.drop n, r1, r2, f5.get g3 (notOne hsl), v.fxL f5 gL, f.trans f5 (subOne (.inr hol)), by rw [List.map_append, List.map_cons, List.map_take, List.map_drop]; exact g5, fun x hx => ?_, ins5 k hn hl⟩
  rcases List.mem_append.mp hx with hx | hx
  · exact hL x (List.mem_of_mem_take hx)
  · rcases List.mem_cons.mp hx with hx | hx
    · rw [hx]; exact hk
    · exact hL x (List.mem_of_mem_drop hx)
theorem w_slot_order (v : IV n0 H io D false) (hn0 : n0 ≤ H.length) (h : ∀ H' r (L : List Int), H'[r]? = some (.list (L.map AV.int)) → (∀ k ∈ L, (lookI k D).isSome = true) → L.length ≤ 5 → H.length ≤ r → Fx [] H H' → Q (.obj r) H') : WCal (d + 1) 38 [.obj io] H Q := by
  have hi := v.i
  refine WCal.mk (f := F_slot_order) rfl rfl ?_; dsimp only [F_slot_order]
  (repeat' tb_start)
  rename_i ol H1 e1 g1 f1
  have b1 := lt_of_get g1
  have a1 : H.length ≤ ol := Nat.le_of_eq e1.symm
  refine WEx1.for rfl (WSrc.any rfl ?_)
  refine WEv.sorted' rfl rfl ?_
  refine WEv.nm rfl rfl ?_
  refine ⟨io, D, false, rfl, f1.get hi List.not_mem_nil, v.few, ?_⟩
  refine new_listX fun sl H2 e2 g2 f2 => ?_
  refine ⟨.lst sl, by unfold srcAt; dsimp only; rw [g2], _, rfl, ?_⟩
  have hsl : sl ≠ ol := by rw [e2]; exact lt_ne b1
  refine WFo.lst (SO n0 io ol sl D H) (fun _ _ _ ⟨_, _, _, g, _, _, _, _, _⟩ => g) ?_ ?_ _ 0 _ _ rfl (Nat.zero_le _) ⟨[], rfl, rfl, g2, (v.fx f1).fx f2, by kct_strs, f2.get g1 List.not_mem_nil, (fun k hk => by cases hk), Nat.le_refl _⟩
  · rintro j u ρ H3 hv ⟨L, r1, r2, g3, v3, f3, gL, hL, hLl⟩
    obtain ⟨k, hk, rfl⟩ := getMap hv
    have hj : j < 5 := Nat.lt_of_lt_of_le (lt_of_item hk) (by rw [insSort_len, List.length_map]; exact v.len)
    have hkD : (lookI k D).isSome = true := lookI_mem.mp (insSort_mem.mp (List.mem_of_getElem? hk))
    obtain ⟨o, vi, ho1, ho2, ho3⟩ := v3.get hkD
    have hi3 := v3.i
    have hlim : (L.map AV.int).length ≤ 1000000 := by rw [List.length_map]; exact Nat.le_trans hLl (Nat.le_trans (Nat.le_of_lt hj) (by decide))
    (repeat' tb_start)
    refine KIte.split (fun hkd => ?_) fun hkd => ?_
    · (repeat' tb_start)
      refine WEx1.whl ?_
      refine WWh.inv (SP io ol o k L H3) ?_ _ L.length _ _ (Nat.lt_succ_self _) ⟨rfl, by kat_tups, by kat_tups, by kat_tups, by kat_tups, by rw [← List.length_map (as := L) AV.int]; kat_tups, Nat.le_refl _⟩
      rintro n ρ4 _ ⟨rfl, q1, q2, q3, q4, q5, hn⟩
      cases n with
      | zero =>
        have hz : ¬ (((0 : Nat) : Int) > 0) := by decide
        (repeat' tb_start)
        obtain ⟨u, H5, e5, p5⟩ := SO.put q1 q2 g3 v3 f3 gL hL hLl hj hn hkD a1 hsl
        exact ⟨u, H5, e5, KSeq.next (WEx.nil (KSeq.next (WEx.nil (KJ.next p5))))⟩
      | succ m =>
        have hz : ((m + 1 : Nat) : Int) > 0 := Int.ofNat_lt.mpr (Nat.succ_pos m)
        obtain ⟨kk, hkk⟩ : ∃ kk, L[m]? = some kk := ⟨L[m], List.getElem?_eq_getElem hn⟩
        have hit : itemAt (L.map AV.int) (m : Int) = some (.int kk) := by
          unfold itemAt
          rw [if_pos ⟨Int.natCast_nonneg _, Int.ofNat_lt.mpr (Nat.lt_of_lt_of_le hn (Nat.le_trans hLl (Nat.le_trans (Nat.le_of_lt hj) (by decide))))⟩, Int.toNat_natCast, List.getElem?_map, hkk]; rfl
        obtain ⟨o2, vi2, hp1, hp2, hp3⟩ := v3.get (hL kk (List.mem_of_getElem? hkk))
        by_cases hlg : vi2.lg < vi.lg
        · (repeat' tb_start)
          rw [show ((m + 1 : Nat) : Int) - 1 = m from by (first | lia | omega)]
          exact ⟨m, Nat.lt_succ_self _, ⟨rfl, by kat_tups, by kat_tups, by kat_tups, by kat_tups, by kat_tups, Nat.le_of_lt hn⟩⟩
        · (repeat' tb_start)
          obtain ⟨u, H5, e5, p5⟩ := SO.put q1 q2 g3 v3 f3 gL hL hLl hj hn hkD a1 hsl
          exact ⟨u, H5, e5, KSeq.next (WEx.nil (KSeq.next (WEx.nil (KJ.next p5))))⟩
    · (repeat' tb_start)
      exact ⟨L, by kat_tups, by kat_tups, g3, v3, f3, gL, hL, Nat.le_succ_of_le hLl⟩
  · rintro ρ H3 ⟨L, r1, r2, g3, v3, f3, gL, hL, hLl⟩
    rw [List.length_map, insSort_len, List.length_map] at hLl
    refine ⟨_, rfl, ?_⟩
    (repeat' tb_start)
    exact h _ _ L gL hL (Nat.le_trans hLl v.len) a1 f3
end

end
section
noncomputable abbrev Gl := Bool × Tm × Tm
noncomputable def gav : Gl → AV
  | (true, l, r) => .tup [.str 116, l.av, r.av]
  | (false, a, b) => .tup [.str 114, .int 25, .tup [a.av, b.av]]
section
variable {n0 so io : Nat} {H H' : AH} {D : List (Int × AV)} {b : Bool} {Q : AV → AH → Prop} {d : Nat}

theorem w_goal_terms {g : Gl} (h : Q (.tup ([g.2.1, g.2.2].map Tm.av)) H) : WCal (d + 1) 29 [gav g] H Q := by
  obtain ⟨c, x, y⟩ := g
  refine WCal.mk (f := F_goal_terms) rfl rfl ?_; dsimp only [F_goal_terms]
  cases c with
  | true => (repeat' tb_start); exact h
  | false => (repeat' tb_start); exact h
theorem w_goal_special {g : Gl} (h : Q (.int (-1)) H) : WCal (d + 1) 30 [gav g] H Q := by
  obtain ⟨c, x, y⟩ := g
  refine WCal.mk (f := F_goal_special) rfl rfl ?_; dsimp only [F_goal_special]
  cases c with
  | true => (repeat' tb_start); exact h
  | false => (repeat' tb_start); exact h
theorem w_chunks {go : Nat} {gl : List Gl} (hg : H[go]? = some (.list (gl.map gav))) (hl : gl.length ≤ 10) (h : ∀ H' r (L : List Int), H'[r]? = some (.list (L.map AV.int)) → L.length = gl.length → H.length ≤ r → Fx [] H H' → Q (.obj r) H') : WCal (d + 1) 33 [.obj go] H Q := by
  have hgl := lt_of_get hg
  refine WCal.mk (f := F_chunk_numbers) rfl rfl ?_; dsimp only [F_chunk_numbers]
  (repeat' tb_start)
  rename_i cl H1 e1 g1 f1
  have b1 := lt_of_get g1
  have hg1 := f1.get hg List.not_mem_nil
  refine WEx1.for rfl (WSrc.any rfl (WEv.nm rfl rfl ⟨.lst go, by unfold srcAt; dsimp only; rw [hg1], _, rfl, ?_⟩))
  refine WFo.lst (fun j ρ H' => lookN 127 ρ = some (.obj cl) ∧ (∃ c, lookN 131 ρ = some (.int c)) ∧ H'[go]? = some (.list (gl.map gav)) ∧ Fx [] H H' ∧ ∃ L : List Int, L.length = j ∧ H'[cl]? = some (.list (L.map AV.int))) (fun _ _ _ hJ => hJ.2.2.1) ?_ ?_ _ 0 _ _ rfl (Nat.zero_le _)
    ⟨rfl, ⟨0, rfl⟩, hg1, f1, [], rfl, g1⟩
  · rintro j u ρ H2 hv ⟨r1, ⟨c, r2⟩, g2, f2, L, rfl, gL⟩
    obtain ⟨g, hk, rfl⟩ := getMap hv
    have hj : L.length < gl.length := by obtain ⟨z, _⟩ := List.getElem?_eq_some_iff.mp hk; exact z
    have hml : (L.map AV.int).length = L.length := by simp
    have hne : go ≠ cl := by (first | lia | omega)
    obtain ⟨q, x, y⟩ := g
    cases q with
    | true =>
      (repeat' tb_start)
      rename_i H3 g3 f3
      exact ⟨by kat_tups, ⟨c, by kat_tups⟩, f3.get g2 (by simpa using hne), by kct_strs, L ++ [c], by simp, by rw [List.map_append]; exact g3⟩
    | false =>
      (repeat' tb_start)
      rename_i H3 g3 f3
      exact ⟨by kat_tups, ⟨c + 1, by kat_tups⟩, f3.get g2 (by simpa using hne), by kct_strs, L ++ [c], by simp, by rw [List.map_append]; exact g3⟩
  · rintro ρ H2 ⟨r1, _, g2, f2, L, hL, gL⟩
    rw [List.length_map] at hL
    refine ⟨_, rfl, ?_⟩
    (repeat' tb_start)
    exact h _ _ L gL hL (by (first | lia | omega)) f2
end
section
variable {n0 so io : Nat} {H H' : AH} {D : List (Int × AV)} {b : Bool} {Q : AV → AH → Prop} {d : Nat}

local macro_rules | `(tactic| tb_start) => tyF "new_instX//111111 set_attrX/krb/1111"

theorem w_Survey (h : ∀ w i H', w = H.length → i = H.length + 1 → SV H.length H' w i [] → Fx [] H H' → Q (.obj w) H') : NewI (d + 1) 4 34 Q [] H := by
  refine new_instX fun w H1 e1 h1 f1 z1 => ?_
  have b1 := lt_of_get h1
  refine WCal.mk (f := F_Survey_init) rfl rfl ?_; dsimp only [F_Survey_init]
  (repeat' tb_start)
  rename_i i H2 e2 g2 f2 H3 g3 f3 z3
  have b2 := lt_of_get g2
  have hiw : i ≠ w := by (first | lia | omega)
  exact h w i _ e1 (by (first | lia | omega)) ⟨g3, ⟨f3.get g2 (by simpa using hiw), (fun k v h => by cases h), List.nodup_nil, by (first | lia | omega)⟩, by (first | lia | omega)⟩ (by kct_strs)
theorem w_ClausePlan {io c1 c2 : Nat} {ne : Bool} {n : Int} (h : ∀ w H' l, w = H.length → H'[w]? = some (.inst 3 l) → lookN 33 l = some (.obj io) → Fx [] H H' → Q (.obj w) H') : NewI (d + 1) 3 32 Q [.obj io, .obj c1, .bool ne, .int n, .obj c2] H := by
  refine new_instX fun w H1 e1 h1 f1 z1 => ?_
  have b1 := lt_of_get h1
  refine WCal.mk (f := F_ClausePlan_init) rfl rfl ?_; dsimp only [F_ClausePlan_init]
  (repeat' tb_start)
  rename_i h9 _ _
  exact h w _ _ e1 h9 rfl (by kct_strs)
theorem w_Kernel {hs : List Tm} {go : Nat} (h : ∀ w H', w = H.length → H'[w]? = some (.inst 1 (kcL hs go)) → Fx [] H H' → Q (.obj w) H') : NewI (d + 1) 1 28 Q [.int 24, .tup (hs.map Tm.av), .obj go, .int 5] H := by
  refine new_instX fun w H1 e1 h1 f1 z1 => ?_
  have b1 := lt_of_get h1
  refine WCal.mk (f := F_KernelClause_init) rfl rfl ?_; dsimp only [F_KernelClause_init]
  (repeat' tb_start)
  rename_i h9 _ _
  exact h w _ e1 h9 (by kct_strs)
end

end
section
section
variable {n0 so io : Nat} {H H' : AH} {D : List (Int × AV)} {b : Bool} {Q : AV → AH → Prop} {d : Nat}
theorem IV.flip (v : IV n0 H io D b) {c : Bool} (f : Fx [io] H H') (h : H'[io]? = some (.dict D c)) : IV n0 H' io D c :=
  ⟨h, fun k u hk => by
    obtain ⟨h1, o, vi, h2, h3, h4⟩ := v.ok k u hk
    exact ⟨h1, o, vi, h2, h3, f.get h4 (by intro e; rw [List.mem_singleton.mp e, v.i] at h4; cases h4)⟩, v.nd, v.lo⟩
theorem IV.plan (v : IV n0 H io D b) (dom : Int → Bool) (hd : ∀ k, dom k = true → (lookI k D).isSome = true) : ∃ p : Plan, p.dom = dom ∧ ∀ k, p.dom k = true → ∃ o l, o < H.length ∧ lookI k D = some (.obj o) ∧ H[o]? = some (.inst 2 l) ∧ lookN 35 l = some (.str (p.kind k)) ∧ lookN 40 l = some (.int (p.slot k)) := by
  have ex : ∀ k : Int, ∃ q : Nat × Int, dom k = true → ∃ o l, o < H.length ∧ lookI k D = some (.obj o) ∧ H[o]? = some (.inst 2 l) ∧ lookN 35 l = some (.str q.1) ∧ lookN 40 l = some (.int q.2) := fun k => by
    cases hk : dom k with
    | false => exact ⟨(0, 0), fun h => by cases h⟩
    | true =>
      obtain ⟨o, vi, h1, h2, h3⟩ := v.get (hd k hk)
      exact ⟨(vi.kind, vi.slot), fun _ => ⟨o, _, lt_of_get h3, h1, h3, rfl, rfl⟩⟩
  exact ⟨⟨dom, fun k => (Classical.choose (ex k)).1, fun k => (Classical.choose (ex k)).2, fun k hk => by
    cases hl : lookI k D with
    | none => have := hd k hk; rw [hl] at this; cases this
    | some u => exact (v.ok k u hl).1⟩, rfl, fun k hk => Classical.choose_spec (ex k) hk⟩

local macro_rules | `(tactic| tb_start) => tyF "set_attrX/krb/1111 KSub2.list/kA"

local macro_rules | `(tactic| keq_hits) => tyD "=A decide_eq_true/A/- decide_eq_false/A/-"

local macro_rules | `(tactic| tb_start) => tyF "KCmp2.mk+CmpIs.int/r"

theorem item_nat {l : List AV} {j : Nat} {v : AV} (h : l[j]? = some v) (hj : j < 1000000) : itemAt l (j : Int) = some v := by
  unfold itemAt
  rw [if_pos ⟨by (first | lia | omega), by (first | lia | omega)⟩, Int.toNat_natCast, h]
/-- the loop over the goals -/
inductive GJ (n0 so io go cl : Nat) (gl : List Gl) (D : List (Int × AV)) (H0 : AH) (j : Nat) (ρ : Loc) (H : AH) : Prop
  | mk (D' : List (Int × AV)) (ne : Bool) (r1 : lookN 112 ρ = some (.obj go)) (r2 : lookN 127 ρ = some (.obj cl)) (r3 : lookN 140 ρ = some (.obj so)) (r4 : lookN 128 ρ = some (.bool ne)) (v : SV n0 H so io D') (hD : ∀ k, (lookI k D).isSome = true → (lookI k D').isSome = true)
      (hT : ∀ i g, i < j → gl[i]? = some g → ∀ k, k ∈ g.2.1.vars ∨ k ∈ g.2.2.vars → (lookI k D').isSome = true) (f : Fk n0 io H0 H)
theorem w_goals {kc go cl : Nat} {hs : List Tm} {gl : List Gl} {C : List Int} (hg : H[go]? = some (.list (gl.map gav))) (hc : H[cl]? = some (.list (C.map AV.int))) (hC : C.length = gl.length) (hl : gl.length ≤ 3) (v : SV n0 H so io D) (hn0 : n0 ≤ H.length) (hgo : ∀ g ∈ gl, (VOk g.2.1 ∧ g.2.1.size < 1000) ∧ VOk g.2.2 ∧ g.2.2.size < 1000) {ρ : Loc} {ne : Bool}
    (r1 : lookN 112 ρ = some (.obj go)) (r2 : lookN 127 ρ = some (.obj cl)) (r3 : lookN 140 ρ = some (.obj so)) (r4 : lookN 128 ρ = some (.bool ne)) {K : Fl → Loc → AH → Prop}
    (h : ∀ H' ρ' D' ne', SV n0 H' so io D' → (∀ k, (lookI k D).isSome = true → (lookI k D').isSome = true) → (∀ g ∈ gl, ∀ k, k ∈ g.2.1.vars ∨ k ∈ g.2.2.vars → (lookI k D').isSome = true) → Fk n0 io H H' → lookN 112 ρ' = some (.obj go) → lookN 127 ρ' = some (.obj cl) → lookN 140 ρ' = some (.obj so) → lookN 128 ρ' = some (.bool ne') → K .next ρ' H') :
    WEx1 (d + 5) F_classify.sc ρ H (F_classify.body[5]) K := by
  show WEx1 (d + 5) F_classify.sc ρ H (.for 81 (.call (.nm 143) [.call (.nm 51) [.nm 112]]) _) K
  have hml : (gl.map gav).length ≤ 1000000 := by rw [List.length_map]; exact Nat.le_trans hl (by decide)
  dsimp only [F_classify]
  refine WEx1.for rfl (WSrc.range rfl rfl ?_)
  (repeat' tb_start)
  refine ⟨_, rfl, ⟨Int.natCast_nonneg _, Int.ofNat_le.mpr hml⟩, _, rfl, ?_⟩
  rw [show (((gl.map gav).length : Nat) : Int).toNat = gl.length from by rw [Int.toNat_natCast, List.length_map]]
  refine WFo.rng (GJ n0 so io go cl gl D H) ?_ ?_ _ 0 _ _ rfl (Nat.zero_le _) ⟨D, ne, r1, r2, r3, r4, v, fun _ h => h, fun _ _ h => absurd h (Nat.not_lt_zero _), Fk.refl _ _ _⟩
  · rintro j ρ1 H1 hj ⟨D1, ne1, s1, s2, s3, s4, v1, hD1, hT1, f1⟩
    have g1 := f1.lst _ _ hg
    have c1 := f1.lst _ _ hc
    obtain ⟨g, hgm⟩ : ∃ g, gl[j]? = some g := ⟨_, List.getElem?_eq_getElem hj⟩
    obtain ⟨cj, hcm⟩ : ∃ c, C[j]? = some c := ⟨_, List.getElem?_eq_getElem (hC ▸ hj)⟩
    have hj6 : j < 1000000 := Nat.lt_of_lt_of_le hj (Nat.le_trans hl (by decide))
    have ig := item_nat (l := gl.map gav) (v := gav g) (j := j) (by rw [List.getElem?_map, hgm]; rfl) hj6
    have ic := item_nat (l := C.map AV.int) (v := .int cj) (j := j) (by rw [List.getElem?_map, hcm]; rfl) hj6
    obtain ⟨q12, q34⟩ := hgo _ (List.mem_of_getElem? hgm)
    have hs1 := v1.s
    have hm1 : decide ((-1 : Int) ≥ 0) = false := by decide
    (repeat' tb_start)
    refine w_goal_special ?_
    (repeat' tb_start)
    refine w_goal_terms ?_
    (repeat' tb_start)
    refine w_terms v1 (Nat.le_trans hn0 f1.len) (.inr rfl) (fun t ht => (List.mem_cons.mp ht).elim (fun e => e ▸ q12) fun ht => (List.mem_singleton.mp ht) ▸ q34) fun H2 D2 v2 hD2 hT2 f2 => ?_
    have g2 := f2.lst _ _ g1
    have fin : ∀ (ne' : Bool) (ρ4 : Loc), lookN 112 ρ4 = some (.obj go) → lookN 127 ρ4 = some (.obj cl) → lookN 140 ρ4 = some (.obj so) → lookN 128 ρ4 = some (.bool ne') → GJ n0 so io go cl gl D H (j + 1) ρ4 H2 := fun ne' ρ4 p1 p2 p3 p4 =>
      ⟨D2, ne', p1, p2, p3, p4, v2, fun k hk => hD2 k (hD1 k hk), fun i g' hi => upto_succ (P := fun i => ∀ g', gl[i]? = some g' → ∀ k, k ∈ g'.2.1.vars ∨ k ∈ g'.2.2.vars → (lookI k D2).isSome = true) (fun i hi g' hgi k hk => hD2 k (hT1 i g' hi hgi k hk)) (fun g' hgi k hk => by
        rw [hgm] at hgi
        rw [← Option.some.inj hgi] at hk
        exact hk.elim (hT2 _ (.head _) k) (hT2 _ (.tail _ (.head _)) k)) i hi g', f1.trans f2⟩
    obtain ⟨cb, x, y⟩ := g
    cases cb with
    | true =>
      (repeat' tb_start)
      exact fin _ _ (by kat_tups) (by kat_tups) (by kat_tups) (by kat_tups)
    | false =>
      by_cases hlt : (j : Int) + 1 < ((gl.map gav).length : Int)
      · (repeat' tb_start)
        exact fin _ _ (by kat_tups) (by kat_tups) (by kat_tups) (by kat_tups)
      · (repeat' tb_start)
        exact fin _ _ (by kat_tups) (by kat_tups) (by kat_tups) (by kat_tups)
  · rintro ρ1 H1 ⟨D1, ne1, s1, s2, s3, s4, v1, hD1, hT1, f1⟩
    refine ⟨_, rfl, ?_⟩
    refine h _ _ D1 ne1 v1 hD1 (fun g hgm k hk => ?_) f1 s1 s2 s3 s4
    obtain ⟨q, hq⟩ := List.mem_iff_getElem?.mp hgm
    exact hT1 q g (lt_of_item hq) hq k hk
end

end
section
section
variable {d : Nat} {sc : Sc} {Q : Fl → Loc → AH → Prop}
theorem WFo.keys {x : Nat} {b : List (S Nat)} {o : Nat} {D : List (Int × AV)} (J : Nat → Loc → AH → Prop) (hl : ∀ j ρ H, J j ρ H → H[o]? = some (.dict D true)) (step : ∀ j k v ρ H, D[j]? = some (k, v) → J j ρ H → WEx d sc (setL x (.int k) ρ) H b (KJ (J (j + 1)))) (fin : ∀ ρ H, J D.length ρ H → Q .next ρ H) :
    ∀ (n i : Nat) (ρ : Loc) (H : AH), D.length - i = n → i ≤ D.length → J i ρ H → WFo d sc ρ H x b (.keys o D.length) i Q
  | 0, i, ρ, H, hn, hi, hJ => by
    have : i = D.length := by (first | lia | omega)
    subst this
    exact .stop (by unfold nextOf; dsimp only; rw [hl _ _ _ hJ]; dsimp only; rw [if_pos rfl, List.getElem?_eq_none (Nat.le_refl _)]; rfl) (fin _ _ hJ)
  | n + 1, i, ρ, H, hn, hi, hJ => by
    have hlt : i < D.length := by (first | lia | omega)
    have e : D[i]? = some (D[i].1, D[i].2) := List.getElem?_eq_getElem hlt
    exact .turn (v := .int D[i].1) (by unfold nextOf; dsimp only; rw [hl _ _ _ hJ]; dsimp only; rw [if_pos rfl, e]; rfl) ((step i _ _ ρ H e hJ).mono fun f ρ' H' h => KJ.fo (fun ρ2 H2 h2 => WFo.keys J hl step fin n (i + 1) ρ2 H2 (by (first | lia | omega)) (by (first | lia | omega)) h2) h)
end
section
variable {n0 so io : Nat} {H H' : AH} {D : List (Int × AV)} {b : Bool} {d : Nat}
theorem Fk.lockD {w : Nat} {D : List (Int × AV)} {b c : Bool} (hw : H[w]? = some (.dict D b)) (hn : n0 ≤ w) : Fk n0 w H (H.set w (.dict D c)) := (Fx.set (W := [w]) _ List.mem_cons_self).fkD hw hn

local macro_rules | `(tactic| tb_start) => tyF "set_attrX/krb/1111 KSub2.list/kA"

local macro_rules | `(tactic| keq_hits) => tyD "=A decide_eq_true/A/- decide_eq_false/A/-"

theorem w_kinds (v : IV n0 H io D false) (hn0 : n0 ≤ H.length) {ρ : Loc} (r1 : lookN 33 ρ = some (.obj io)) {K : Fl → Loc → AH → Prop} (h : ∀ H' ρ', IV n0 H' io D false → Fk n0 io H H' → (∀ x, x ≠ 34 → lookN x ρ' = lookN x ρ) → K .next ρ' H') : WEx1 (d + 5) F_classify.sc ρ H (F_classify.body[7]) K := by
  show WEx1 (d + 5) F_classify.sc ρ H (.for 34 (.nm 33) _) K
  dsimp only [F_classify]
  have hi := v.i
  have hlt := lt_of_get hi
  refine WEx1.for rfl (WSrc.any rfl (WEv.nm rfl r1 ⟨.keys io D.length, by unfold srcAt; dsimp only; rw [hi], H.set io (.dict D true), by unfold lock; dsimp only; rw [hi], ?_⟩))
  have v0 : IV n0 (H.set io (.dict D true)) io D true := v.flip (Fx.set _ List.mem_cons_self) (set_get hi)
  refine WFo.keys (fun j ρ1 H1 => lookN 33 ρ1 = some (.obj io) ∧ (∀ x, x ≠ 34 → lookN x ρ1 = lookN x ρ) ∧ IV n0 H1 io D true ∧ Fk n0 io H H1) (fun _ _ _ hJ => hJ.2.2.1.i) ?_ ?_ _ 0 _ _ rfl (Nat.zero_le _) ⟨r1, fun _ _ => rfl, v0, Fk.lockD hi v.lo⟩
  · rintro j k u ρ1 H1 hj ⟨s1, s2, v1, f1⟩
    have hk : (lookI k D).isSome = true := lookI_mem.mp (List.mem_map.mpr ⟨_, List.mem_of_getElem? hj, rfl⟩)
    obtain ⟨o, vi, p1, p2, p3⟩ := v1.get hk
    have hi1 := v1.i
    (repeat' tb_start)
    refine w_kind_of p3 fun s => ?_
    (repeat' tb_start)
    rename_i H2 g2 f2 z2
    exact ⟨by kat_tups, fun x hx => by rw [lookN_ne' _ (Ne.symm hx)]; exact s2 x hx, v1.upd (vi' := { vi with kind := s }) f2 p3 g2, f1.trans (f2.fkI p3 p2)⟩
  · rintro ρ1 H1 ⟨s1, s2, v1, f1⟩
    exact ⟨H1.set io (.dict D false), by unfold unlock; dsimp only; rw [v1.i], h _ _ (v1.flip (Fx.set _ List.mem_cons_self) (set_get v1.i)) (f1.trans (Fk.lockD v1.i v1.lo)) s2⟩
theorem w_slots (v : IV n0 H io D false) (hn0 : n0 ≤ H.length) {ol : Nat} {L : List Int} (hL : H[ol]? = some (.list (L.map AV.int))) (hLD : ∀ k ∈ L, (lookI k D).isSome = true) (hLl : L.length ≤ 5) {ρ : Loc} (r1 : lookN 33 ρ = some (.obj io)) (r2 : lookN 137 ρ = some (.obj ol)) {K : Fl → Loc → AH → Prop}
    (h : ∀ H' ρ', IV n0 H' io D false → Fk n0 io H H' → (∀ x, x ≠ 81 → x ≠ 38 → lookN x ρ' = lookN x ρ) → K .next ρ' H') : WEx1 (d + 5) F_classify.sc ρ H (F_classify.body[9]) K := by
  show WEx1 (d + 5) F_classify.sc ρ H (.for 81 (.call (.nm 143) [.call (.nm 51) [.nm 137]]) _) K
  have hml : (L.map AV.int).length = L.length := by simp
  dsimp only [F_classify]
  refine WEx1.for rfl (WSrc.range rfl rfl ?_)
  (repeat' tb_start)
  refine ⟨_, rfl, ⟨by (first | lia | omega), by (first | lia | omega)⟩, _, rfl, ?_⟩
  refine WFo.rng (fun j ρ1 H1 => lookN 33 ρ1 = some (.obj io) ∧ lookN 137 ρ1 = some (.obj ol) ∧ (∀ x, x ≠ 81 → x ≠ 38 → lookN x ρ1 = lookN x ρ) ∧ IV n0 H1 io D false ∧ Fk n0 io H H1) ?_ ?_ _ 0 _ _ rfl (Nat.zero_le _) ⟨r1, r2, fun _ _ _ => rfl, v, Fk.refl _ _ _⟩
  · rintro j ρ1 H1 hj ⟨s1, s2, s3, v1, f1⟩
    have hj : j < L.length := by (first | lia | omega)
    have g1 := f1.lst _ _ hL
    have e : (L.map AV.int)[j]? = some (.int L[j]) := by rw [List.getElem?_map, List.getElem?_eq_getElem hj]; rfl
    have ij := item_nat e (by (first | lia | omega))
    obtain ⟨o, vi, p1, p2, p3⟩ := v1.get (hLD _ (List.getElem_mem hj))
    have hi1 := v1.i
    generalize L[j] = k at *
    (repeat' tb_start)
    rename_i H2 g2 f2 z2 H3 g3 f3 z3
    have FF : Fx [o] H1 H3 := by kct_strs
    exact ⟨by kat_tups, by kat_tups, fun x h1 h2 => by rw [lookN_ne' _ (Ne.symm h2), lookN_ne' _ (Ne.symm h1)]; exact s3 x h1 h2, v1.upd (vi' := { vi with slot := (j : Int) + 1, uns := decide (vi.first = 149) }) FF p3 g3, f1.trans (FF.fkI p3 p2)⟩
  · rintro ρ1 H1 ⟨s1, s2, s3, v1, f1⟩
    exact ⟨_, rfl, h _ _ v1 f1 s3⟩
end

end
section
section
variable {n0 so io : Nat} {H H' : AH} {D : List (Int × AV)} {b : Bool} {d : Nat}

local macro_rules | `(tactic| tb_start) => tyF "KSub2.list/kA"

local macro_rules | `(tactic| keq_hits) => tyD "=A decide_eq_true/A/- decide_eq_false/A/-"

/-- the loop over the goals -/
inductive LJ (n0 io ol la : Nat) (D : List (Int × AV)) (ρ0 : Loc) (H0 : AH) (j : Nat) (ρ : Loc) (H : AH) : Prop
  | mk (A : List Int) (r1 : lookN 33 ρ = some (.obj io)) (r2 : lookN 137 ρ = some (.obj ol)) (r4 : lookN 130 ρ = some (.obj la)) (r3 : ∀ x, x ≠ 81 → x ≠ 150 → lookN x ρ = lookN x ρ0) (v : IV n0 H io D false) (f : Fx [la] H0 H) (hA : A.length = j) (gA : H[la]? = some (.list (A.map AV.int)))
/-- the count of the living -/
inductive LW (io ol la j : Nat) (L : List Int) (ρ0 : Loc) (H0 : AH) (q : Nat) (ρ : Loc) (H : AH) : Prop
  | mk (n : Nat) (e : H = H0) (r1 : lookN 33 ρ = some (.obj io)) (r2 : lookN 137 ρ = some (.obj ol)) (r4 : lookN 130 ρ = some (.obj la)) (r3 : ∀ x, x ≠ 81 → x ≠ 150 → lookN x ρ = lookN x ρ0) (r5 : lookN 81 ρ = some (.int j)) (r6 : lookN 150 ρ = some (.int n)) (hn : n ≤ L.length) (hq : q = L.length - n)
theorem LJ.snoc {n0 io ol la : Nat} {D : List (Int × AV)} {ρ0 ρ : Loc} {H0 H1 H2 : AH} {A : List Int} {n : Nat} (r1 : lookN 33 ρ = some (.obj io)) (r2 : lookN 137 ρ = some (.obj ol)) (r4 : lookN 130 ρ = some (.obj la)) (r3 : ∀ x, x ≠ 81 → x ≠ 150 → lookN x ρ = lookN x ρ0) (v : IV n0 H1 io D false) (f : Fx [la] H0 H1) (gA : H1[la]? = some (.list (A.map AV.int)))
    (g2 : H2[la]? = some (.list (A.map AV.int ++ [AV.int n]))) (f2 : Fx [la] H1 H2) : LJ n0 io ol la D ρ0 H0 (A.length + 1) ρ H2 :=
  ⟨A ++ [(n : Int)], r1, r2, r4, r3, v.fxL f2 gA, f.trans f2 (subOne (.inl List.mem_cons_self)), List.length_append, by rw [List.map_append]; exact g2⟩
theorem w_live (v : IV n0 H io D false) {ol go la : Nat} {L : List Int} {gl : List Gl} (hL : H[ol]? = some (.list (L.map AV.int))) (hLD : ∀ k ∈ L, (lookI k D).isSome = true) (hLl : L.length ≤ 5) (hg : H[go]? = some (.list (gl.map gav))) (hgl : gl.length ≤ 3) (ha : H[la]? = some (.list [])) (hla : la ≠ ol ∧ la ≠ go)
    {ρ : Loc} (r1 : lookN 33 ρ = some (.obj io)) (r2 : lookN 137 ρ = some (.obj ol)) (r3 : lookN 112 ρ = some (.obj go)) (r4 : lookN 130 ρ = some (.obj la)) {K : Fl → Loc → AH → Prop}
    (h : ∀ H' ρ', IV n0 H' io D false → Fx [la] H H' → (∀ x, x ≠ 81 → x ≠ 150 → lookN x ρ' = lookN x ρ) → K .next ρ' H') : WEx1 (d + 5) F_classify.sc ρ H (F_classify.body[11]) K := by
  show WEx1 (d + 5) F_classify.sc ρ H (.for 81 (.call (.nm 143) [.call (.nm 51) [.nm 112]]) _) K
  have hmg : (gl.map gav).length ≤ 3 := by rw [List.length_map]; exact hgl
  have hmg2 : (gl.map gav).length ≤ 1000000 := Nat.le_trans hmg (by decide)
  have hml2 : (L.map AV.int).length ≤ 1000000 := by rw [List.length_map]; exact Nat.le_trans hLl (by decide)
  dsimp only [F_classify]
  refine WEx1.for rfl (WSrc.range rfl rfl ?_)
  (repeat' tb_start)
  refine ⟨_, rfl, ⟨Int.natCast_nonneg _, Int.ofNat_le.mpr hmg2⟩, _, rfl, ?_⟩
  refine WFo.rng (LJ n0 io ol la D ρ H) ?_ ?_ _ 0 _ _ rfl (Nat.zero_le _) ⟨[], r1, r2, r4, fun _ _ _ => rfl, v, Fx.refl _, rfl, ha⟩
  · rintro j ρ1 H1 hj ⟨A, s1, s2, s4, s3, v1, f1, hA, gA⟩
    have g1 := f1.get hL (notOne (Ne.symm hla.1))
    have hi1 := v1.i
    have hA3 : A.length ≤ 3 := by rw [hA]; exact Nat.le_of_lt (Nat.lt_of_lt_of_le hj hmg)
    have hAm : (A.map AV.int).length < 1000000 := by rw [List.length_map]; exact Nat.lt_of_le_of_lt hA3 (by decide)
    refine WEx.cons (WEx1.asg rfl (WEv.int (KSeq.next (WEx.cons (WEx1.whl ?_)))))
    refine WWh.inv (LW io ol la j L ρ H1) ?_ _ L.length _ _ (Nat.lt_succ_self _)
      ⟨0, rfl, by kat_tups, by kat_tups, by kat_tups, fun x h1 h2 => by rw [lookN_ne' _ (Ne.symm h2), lookN_ne' _ (Ne.symm h1)]; exact s3 x h1 h2, by kat_tups, lookN_self _ _ _, Nat.zero_le _, rfl⟩
    rintro q ρ2 _ ⟨n, rfl, p1, p2, p4, p3, p5, p6, hn, hq⟩
    by_cases hlt : (n : Int) < ((L.map AV.int).length : Int)
    · have hn2 : n < L.length := by rw [List.length_map] at hlt; exact Int.ofNat_lt.mp hlt
      obtain ⟨k, hk⟩ : ∃ k, L[n]? = some k := ⟨_, List.getElem?_eq_getElem hn2⟩
      have ij := item_nat (l := L.map AV.int) (v := .int k) (j := n) (by rw [List.getElem?_map, hk]; rfl) (Nat.lt_of_lt_of_le hn2 (Nat.le_trans hLl (by decide)))
      obtain ⟨o, vi, q1, q2, q3⟩ := v1.get (hLD _ (List.mem_of_getElem? hk))
      by_cases hlg : vi.lg > (j : Int)
      · (repeat' tb_start)
        exact ⟨L.length - (n + 1), by rw [hq]; exact Nat.sub_succ_lt_self _ _ hn2, ⟨n + 1, rfl, by kat_tups, by kat_tups, by kat_tups, fun x h1 h2 => by rw [lookN_ne' _ (Ne.symm h2)]; exact p3 x h1 h2, by kat_tups, lookN_self _ _ _, hn2, rfl⟩⟩
      · (repeat' tb_start)
        rename_i H2 g2 f2
        rw [← hA]
        exact .snoc p1 p2 p4 p3 v1 f1 gA g2 f2
    · (repeat' tb_start)
      rename_i H2 g2 f2
      rw [← hA]
      exact .snoc p1 p2 p4 p3 v1 f1 gA g2 f2
  · rintro ρ1 H1 ⟨A, s1, s2, s4, s3, v1, f1, hA, gA⟩
    exact ⟨_, rfl, h _ _ v1 f1 s3⟩
end

end
section
section
variable {H : AH} {Q : AV → AH → Prop} {d : Nat}

theorem w_classify {kc go : Nat} {hs : List Tm} {gl : List Gl} (hk : H[kc]? = some (.inst 1 (kcL hs go))) (hg : H[go]? = some (.list (gl.map gav))) (hl : gl.length ≤ 3) (hho : ∀ t ∈ hs, VOk t ∧ t.size < 1000) (hgo : ∀ g ∈ gl, (VOk g.2.1 ∧ g.2.1.size < 1000) ∧ VOk g.2.2 ∧ g.2.2.size < 1000)
    (h : ∀ H' pa p, PlanAt H' pa H'.length p → (∀ t ∈ hs, ∀ k ∈ t.vars, p.dom k = true) → (∀ g ∈ gl, ∀ k, k ∈ g.2.1.vars ∨ k ∈ g.2.2.vars → p.dom k = true) → Fx [] H H' → Q (.obj pa) H') : WCal (d + 6) 39 [.obj kc] H Q := by
  have hkl := lt_of_get hk
  have hgl := lt_of_get hg
  refine WCal.mk (f := F_classify) rfl rfl ?_; dsimp only [F_classify]
  (repeat' tb_start)
  refine w_chunks hg (by (first | lia | omega)) fun H1 cl C g1 hC hcl f1 => ?_
  have l1 := f1.len
  have hk1 := f1.get hk List.not_mem_nil
  (repeat' tb_start)
  refine w_Survey fun so io H2 eso eio v2 f2 => ?_
  have l2 := f2.len
  have hk2 := f2.get hk1 List.not_mem_nil
  have hs2 := v2.s
  (repeat' tb_start)
  refine w_terms v2 l2 (.inl rfl) hho fun H3 D3 v3 _ hD3 f3 => ?_
  have l3 := f3.len
  have hg3 := f3.lst _ _ (f2.get (f1.get hg List.not_mem_nil) List.not_mem_nil)
  have hc3 := f3.lst _ _ (f2.get g1 List.not_mem_nil)
  (repeat' tb_start)
  refine w_goals (d := d) (kc := 0) (hs := []) hg3 hc3 hC hl v3 (by (first | lia | omega)) hgo (by kat_tups) (by kat_tups) (by kat_tups) (by kat_tups) ?_
  intro H4 ρ4 D4 ne v4 hD4 hG4 f4 r1 r2 r3 r4
  have l4 := f4.len
  have hs4 := v4.s
  (repeat' tb_start)
  refine w_kinds (d := d) v4.v (by (first | lia | omega)) (by kat_tups) ?_
  intro H5 ρ5 v5 f5 hρ5
  have l5 := f5.len
  have q1 : lookN 33 ρ5 = some (.obj io) := by rw [hρ5 _ (by decide)]; kat_tups
  have q2 : lookN 112 ρ5 = some (.obj go) := by rw [hρ5 _ (by decide)]; kat_tups
  have q3 : lookN 127 ρ5 = some (.obj cl) := by rw [hρ5 _ (by decide)]; kat_tups
  have q4 : lookN 128 ρ5 = some (.bool ne) := by rw [hρ5 _ (by decide)]; kat_tups
  (repeat' tb_start)
  refine w_slot_order v5 (by (first | lia | omega)) fun H6 ol L g6 hL hLl hol f6 => ?_
  have l6 := f6.len
  (repeat' tb_start)
  refine w_slots (d := d) (v5.fx f6) (by (first | lia | omega)) g6 hL hLl (by kat_tups) (by kat_tups) ?_
  intro H7 ρ7 v7 f7 hρ7
  have l7 := f7.len
  have p1 : lookN 33 ρ7 = some (.obj io) := by rw [hρ7 _ (by decide) (by decide)]; kat_tups
  have p2 : lookN 112 ρ7 = some (.obj go) := by rw [hρ7 _ (by decide) (by decide)]; kat_tups
  have p3 : lookN 127 ρ7 = some (.obj cl) := by rw [hρ7 _ (by decide) (by decide)]; kat_tups
  have p4 : lookN 128 ρ7 = some (.bool ne) := by rw [hρ7 _ (by decide) (by decide)]; kat_tups
  have p5 : lookN 137 ρ7 = some (.obj ol) := by rw [hρ7 _ (by decide) (by decide)]; kat_tups
  have g7 := f7.lst _ _ g6
  have hg7 := f7.lst _ _ (f6.get (f5.lst _ _ (f4.lst _ _ hg3)) List.not_mem_nil)
  (repeat' tb_start)
  rename_i la H8 e8 g8 f8
  have b8 := lt_of_get g8
  have bo := lt_of_get g7
  have l8 := f8.len
  refine w_live (d := d) (v7.fx f8) (f8.get g7 List.not_mem_nil) hL hLl (f8.get hg7 List.not_mem_nil) hl g8 ⟨by (first | lia | omega), by (first | lia | omega)⟩ (by kat_tups) (by kat_tups) (by kat_tups) (by kat_tups) ?_
  intro H9 ρ9 v9 f9 hρ9
  have l9 := f9.len
  have t1 : lookN 33 ρ9 = some (.obj io) := by rw [hρ9 _ (by decide) (by decide)]; kat_tups
  have t2 : lookN 127 ρ9 = some (.obj cl) := by rw [hρ9 _ (by decide) (by decide)]; kat_tups
  have t3 : lookN 128 ρ9 = some (.bool ne) := by rw [hρ9 _ (by decide) (by decide)]; kat_tups
  have t4 : lookN 137 ρ9 = some (.obj ol) := by rw [hρ9 _ (by decide) (by decide)]; kat_tups
  have t5 : lookN 130 ρ9 = some (.obj la) := by rw [hρ9 _ (by decide) (by decide)]; kat_tups
  have g9 := f9.get (f8.get g7 List.not_mem_nil) (by simp; (first | lia | omega))
  have hLm : (L.map AV.int).length = L.length := by simp
  (repeat' tb_start)
  refine w_ClausePlan fun pa H10 l ep gp hpl f10 => ?_
  have bp := lt_of_get gp
  have l10 := f10.len
  have v10 := v9.fx f10
  obtain ⟨p, hp1, hp2⟩ := v10.plan (fun k => (lookI k D4).isSome) (fun k hk => hk)
  have hlow : Fx [] H H10 := ⟨by (first | lia | omega), fun i hi _ => by
    have hb : i < H1.length := by (first | lia | omega)
    rw [f10.same i (by (first | lia | omega)) List.not_mem_nil, f9.same i (by (first | lia | omega)) (by simp; (first | lia | omega)), f8.same i (by (first | lia | omega)) List.not_mem_nil, f7.low i hb, f6.same i (by (first | lia | omega)) List.not_mem_nil, f5.low i hb, f4.low i hb, f3.low i hb, f2.same i hb List.not_mem_nil, f1.same i hi List.not_mem_nil]⟩
  have hio := lt_of_get v10.i
  refine h _ pa p ⟨l, io, D4, false, gp, hpl, v10.i, bp, hio, fun k hk => by obtain ⟨o, l2, c1, c2, c3, c4, c5⟩ := hp2 k hk; exact ⟨o, l2, c1, c2, c3, c4, c5⟩⟩ (fun t ht k hk => ?_) (fun g hgm k hk => ?_) hlow
  · rw [hp1]; exact hD4 k (hD3 t ht k hk)
  · rw [hp1]; exact hG4 g hgm k hk
end

end
/-! joined terms: size, variables -/
theorem Joined.size {E : List (Tm × Tm)} {a b : Tm} (h : Joined E a b) : a.size + 1 = (E.map fun x => x.1.size + 1).sum ∧ b.size + 1 = (E.map fun x => x.2.size + 1).sum := by
  induction h with
  | one a b => simp
  | two d _ _ i1 i2 =>
    simp only [List.map_append, List.sum_append, Tm.size]
    (first | lia | omega)
theorem Joined.vars {E : List (Tm × Tm)} {a b : Tm} (h : Joined E a b) : (∀ k, k ∈ a.vars ↔ ∃ x ∈ E, k ∈ x.1.vars) ∧ (∀ k, k ∈ b.vars ↔ ∃ x ∈ E, k ∈ x.2.vars) := by
  induction h with
  | one a b => simp
  | two d _ _ i1 i2 =>
    constructor
    · intro k
      simp only [Tm.vars, List.mem_append, i1.1 k, i2.1 k]
      constructor
      · rintro (⟨x, h, h2⟩ | ⟨x, h, h2⟩)
        · exact ⟨x, .inl h, h2⟩
        · exact ⟨x, .inr h, h2⟩
      · rintro ⟨x, h | h, h2⟩
        · exact .inl ⟨x, h, h2⟩
        · exact .inr ⟨x, h, h2⟩
    · intro k
      simp only [Tm.vars, List.mem_append, i1.2 k, i2.2 k]
      constructor
      · rintro (⟨x, h, h2⟩ | ⟨x, h, h2⟩)
        · exact ⟨x, .inl h, h2⟩
        · exact ⟨x, .inr h, h2⟩
      · rintro ⟨x, h | h, h2⟩
        · exact .inl ⟨x, h, h2⟩
        · exact .inr ⟨x, h, h2⟩
theorem ok_of_vars {p : Plan} : ∀ {t : Tm}, (∀ k ∈ t.vars, p.dom k = true) → t.Ok p
  | .v k, h => h k (by simp [Tm.vars])
  | .a _, _ => trivial
  | .i _, _ => trivial
  | .s1 x, h => ok_of_vars (t := x) h
  | .s2 _ x y, h => ⟨ok_of_vars (t := x) fun k hk => h k (by simp [Tm.vars, hk]), ok_of_vars (t := y) fun k hk => h k (by simp [Tm.vars, hk])⟩
theorem sum_le {E : List (Tm × Tm)} (f : Tm × Tm → Nat) (hf : ∀ x ∈ E, f x ≤ 8) : (E.map f).sum ≤ 8 * E.length := by
  induction E with
  | nil => simp
  | cons x E ih =>
    have := hf x (.head _)
    have := ih fun y hy => hf y (.tail _ hy)
    simp only [List.map_cons, List.sum_cons, List.length_cons]
    (first | lia | omega)
/-! code is flat -/
noncomputable def Flat (v : AV) : Prop := AV.flatN 8 v = true

/-! every instruction made is flat -/
theorem flats_append (n : Nat) : ∀ a b : List AV, flatsN n (a ++ b) = (flatsN n a && flatsN n b)
  | [], b => by simp [flatsN]
  | x :: a, b => by
    show (x.flatN n && flatsN n (a ++ b)) = ((x.flatN n && flatsN n a) && flatsN n b)
    rw [flats_append n a b, Bool.and_assoc]
noncomputable def FS (st : St) : Prop := flatsN 8 st.code = true
noncomputable def FV (v : AV) : Prop := v.flatN 7 = true
theorem FV.place (p : Plan) (k : Int) : FV (place p k) := by unfold FV Mine.place; split <;> rfl
theorem FV.reg (k : Nat) (n : Int) : FV (reg k n) := rfl
theorem FV.int (n : Int) : FV (.int n) := rfl
theorem FV.cell (t : Tm) : FV (cell t) := by cases t <;> rfl
theorem FS.emit {st : St} (h : FS st) {n : Nat} {l : List AV} (hl : ∀ v ∈ l, FV v) : FS (st.emit (cmd n l)) := by
  have hf : ∀ l : List AV, (∀ v ∈ l, FV v) → flatsN 7 l = true := fun l => by
    induction l with
    | nil => intro _; simp [flatsN]
    | cons v l ih => intro hl; unfold flatsN; rw [show v.flatN 7 = true from hl v (.head _), ih fun w hw => hl w (.tail _ hw)]; rfl
  unfold FS St.emit
  rw [flats_append, show flatsN 8 st.code = true from h, Bool.true_and]
  simp only [flatsN, AV.flatN, hf l hl, Bool.and_true, Bool.true_and]
theorem FS.same {st st' : St} (h : FS st) (e : st'.code = st.code) : FS st' := by unfold FS; rw [e]; exact h
theorem fv1 {a : AV} (ha : FV a) : ∀ v ∈ [a], FV v := fun v hv => by rw [List.mem_singleton.mp hv]; exact ha
theorem fv2 {a b : AV} (ha : FV a) (hb : FV b) : ∀ v ∈ [a, b], FV v := fun v hv => by
  rcases List.mem_cons.mp hv with e | hv
  · rw [e]; exact ha
  · exact fv1 hb v hv
variable {p : Plan} {st : St}
theorem fs_matchVar (h : FS st) (k : Int) : FS (matchVar p k st) := by
  unfold matchVar
  split
  · split <;> exact h.emit (fv1 (.place p k))
  · exact (h.same (st' := st.see k) rfl).emit (fv1 (.place p k))
theorem fs_setVar (h : FS st) (k : Int) : FS (setVar p k st) := by
  unfold setVar
  split
  · split
    · split
      · exact h.emit (fv1 (.place p k))
      · exact (h.emit (fv1 (.place p k)) : FS (st.emit (cmd 87 [place p k]))).same rfl
    · exact h.emit (fv1 (.place p k))
  · exact (h.same (st' := st.see k) rfl).emit (fv1 (.place p k))
theorem fs_fresh (h : FS st) (k : Int) : FS (freshSt p k st) := by unfold freshSt; split; exact h.same rfl; exact h
theorem fs_settle (h : FS st) (k n : Int) : FS (settle p k n st) := by
  unfold settle
  split
  · exact (h.same (st' := st.see k) rfl).emit (fv2 (.place p k) (.reg _ _))
  · exact h.same rfl
theorem fs_load (h : FS st) (k n : Int) : FS (loadSlot p k n st) := by unfold loadSlot; split <;> exact h.emit (fv2 (.place p k) (.reg _ _))
theorem fs_regOf (h : FS st) (k : Int) : FS (regOfSt p k st) := by
  unfold regOfSt
  split
  · exact fs_load (h.same (st' := st.bump) rfl) _ _
  · exact h
theorem fs_introduce (h : FS st) (k : Int) : FS (introduce p k st) := by
  unfold introduce
  split
  · exact h
  · exact fs_settle ((fs_fresh h k).emit (fv1 (.reg _ _))) _ _
theorem fs_alias (h : FS st) (k o : Int) : FS (alias p k o st) := by
  unfold alias alias1
  split
  · exact h
  · split
    · exact fs_settle (fs_load (fs_fresh h k) _ _) _ _
    · have h2 : FS ((if st.loc o = true then st.addLoc k else st).see k) := by split <;> exact h.same rfl
      split <;> exact h2.emit (fv2 (.place _ _) (.place _ _))
theorem fs_unifyVars (h : FS st) (j k : Int) : FS (unifyVars p j k st) := by
  unfold unifyVars
  repeat' split
  · exact h
  · exact (fs_regOf h k).emit (fv2 (.place _ _) (.reg _ _))
  · exact h.emit (fv2 (.place _ _) (.place _ _))
  · exact fs_alias h _ _
  · exact fs_alias h _ _
  · exact fs_introduce h _
  · exact fs_alias (fs_introduce h _) _ _
  · exact fs_introduce (fs_introduce h _) _
theorem fs_flushU (h : FS st) (v : Int) : FS (flushU v st) := by unfold flushU; split; exact h.emit (fv1 (.int _)); exact h
theorem fs_maStep {A : List WI × Int × St} (h : FS A.2.2 ∧ ∀ x ∈ A.1, FV x.2) (t : Tm) : FS (maStep p A t).2.2 ∧ ∀ x ∈ (maStep p A t).1, FV x.2 := by
  have hu := fs_flushU h.1 A.2.1
  unfold maStep
  split
  · split
    · exact h
    · exact ⟨fs_matchVar hu _, h.2⟩
  · exact ⟨hu.emit (fv1 (.cell _)), h.2⟩
  · exact ⟨hu.emit (fv1 (.cell _)), h.2⟩
  · refine ⟨(hu.same (st' := (flushU A.2.1 A.2.2).bump) rfl).emit (fv1 (.reg _ _)), fun x hx => ?_⟩
    rcases List.mem_append.mp hx with hx | hx
    · exact h.2 x hx
    · rw [List.mem_singleton.mp hx]; exact .reg _ _
theorem fs_maFold : ∀ (ts : List Tm) (A : List WI × Int × St), (FS A.2.2 ∧ ∀ x ∈ A.1, FV x.2) → FS (ts.foldl (maStep p) A).2.2 ∧ ∀ x ∈ (ts.foldl (maStep p) A).1, FV x.2
  | [], _, h => h
  | t :: ts, A, h => fs_maFold ts _ (fs_maStep h t)
theorem fs_matchArgs (h : FS st) (ts : List Tm) : FS (matchArgs p ts st).2 ∧ ∀ x ∈ (matchArgs p ts st).1, FV x.2 := by
  have := fs_maFold (p := p) ts ([], 0, st) ⟨h, fun _ h => by cases h⟩
  exact ⟨fs_flushU this.1 _, this.2⟩
theorem fs_headIns (h : FS st) {t : Tm} {r : AV} (_ : t.isS = true) (hr : FV r) : FS (st.emit (headIns t r)) := by
  unfold headIns
  split
  · exact h.emit (fv1 hr)
  · exact h.emit (fv2 (.int _) hr)
theorem fs_matchLoop : ∀ (n : Nat) (W : List WI) (st : St), FS st → (∀ x ∈ W, x.1.isS = true ∧ FV x.2) → (∀ x ∈ W, True) → FS (matchLoop p n W st)
  | 0, _, _, h, _, _ => h
  | _ + 1, [], _, h, _, _ => h
  | n + 1, x :: W, st, h, hW, _ => by
    have h1 := fs_headIns h (hW x (.head _)).1 (hW x (.head _)).2
    have h2 := fs_matchArgs (p := p) h1 x.1.args
    rw [matchLoop]
    refine fs_matchLoop n _ _ h2.1 (fun y hy => ?_) fun _ _ => trivial
    rcases List.mem_append.mp hy with hy | hy
    · refine ⟨?_, h2.2 y hy⟩
      have : ∀ (ts : List Tm) (A : List WI × Int × St), (∀ x ∈ A.1, x.1.isS = true) → ∀ x ∈ (ts.foldl (maStep p) A).1, x.1.isS = true := fun ts => by
        induction ts with
        | nil => intro A hA; exact hA
        | cons t ts ih =>
          intro A hA
          refine ih _ fun z hz => ?_
          cases t with
          | v k => unfold maStep at hz; dsimp only at hz; split at hz <;> exact hA z hz
          | a _ => exact hA z hz
          | i _ => exact hA z hz
          | s1 x =>
            rcases List.mem_append.mp hz with hz | hz
            · exact hA z hz
            · rw [List.mem_singleton.mp hz]; rfl
          | s2 b x y =>
            rcases List.mem_append.mp hz with hz | hz
            · exact hA z hz
            · rw [List.mem_singleton.mp hz]; rfl
      exact this _ _ (fun _ h => by cases h) y hy
    · exact hW y (.tail _ hy)

variable {p : Plan} {st : St}
theorem fs_headArg (h : FS st) {t : Tm} {r : AV} (hr : FV r) : FS (headArg p t r st) := by
  cases t with
  | v k =>
    unfold headArg
    dsimp only
    split
    · exact h
    · split
      · exact h.emit (fv2 (.place _ _) hr)
      · exact (h.same (st' := (st.see k).addLoc k) rfl).emit (fv2 (.place _ _) hr)
  | a n => exact h.emit (fv2 (.cell _) hr)
  | i n => exact h.emit (fv2 (.cell _) hr)
  | s1 x => exact fs_matchLoop _ _ _ h (fun y hy => by rw [List.mem_singleton.mp hy]; exact ⟨rfl, hr⟩) fun _ _ => trivial
  | s2 b x y => exact fs_matchLoop _ _ _ h (fun y hy => by rw [List.mem_singleton.mp hy]; exact ⟨rfl, hr⟩) fun _ _ => trivial
theorem fs_hdAt (hs : List Tm) : ∀ j, FS (hdAt p hs j)
  | 0 => rfl
  | j + 1 => by
    unfold hdAt
    split
    · exact fs_headArg (fs_hdAt hs j) (.reg _ _)
    · exact fs_hdAt hs j
theorem fs_flushS (h : FS st) (v : Int) : FS (flushS v st) := by unfold flushS; split; exact h.emit (fv1 (.int _)); exact h
theorem fs_saFold : ∀ (cs : List Pc) (A : Int × St), FS A.2 → FS (cs.foldl (saStep p) A).2
  | [], _, h => h
  | c :: cs, A, h => by
    refine fs_saFold cs _ ?_
    have hu := fs_flushS h A.1
    unfold saStep
    split
    · split
      · exact h
      · exact fs_setVar hu _
    · exact hu.emit (fv1 (.cell _))
    · exact hu.emit (fv1 (.reg _ _))
theorem fs_setArgs (h : FS st) (cs : List Pc) : FS (setArgs p cs st) := fs_flushS (fs_saFold cs (0, st) h) _
theorem fs_putIns (h : FS st) {t : Tm} (r : Int) : FS (st.emit (putIns t r)) := by
  unfold putIns
  split
  · exact h.emit (fv1 (.reg _ _))
  · exact h.emit (fv2 (.int _) (.reg _ _))
theorem fs_buildLoop (tgt : Int) : ∀ (n : Nat) (W : List BW) (B : List Int) (st : St), FS st → (∀ x ∈ W, x.2.isS = true) → FS (buildLoop p tgt n W B st)
  | 0, _, _, _, h, _ => h
  | _ + 1, [], _, _, h, _ => h
  | n + 1, (false, t) :: W, B, st, h, hW => by
    rw [buildLoop]
    refine fs_buildLoop tgt n _ _ _ h fun x hx => ?_
    rcases List.mem_append.mp hx with hx | hx
    · obtain ⟨z, hz, rfl⟩ := List.mem_map.mp (List.mem_reverse.mp hx)
      exact (List.mem_filter.mp hz).2
    · rcases List.mem_cons.mp hx with e | hx
      · rw [e]; exact hW (false, t) (.head _)
      · exact hW _ (.tail _ hx)
  | n + 1, (true, t) :: W, B, st, h, hW => by
    rw [buildLoop]
    refine fs_buildLoop tgt n _ _ _ ?_ fun x hx => hW x (.tail _ hx)
    unfold bStep
    have h2 : FS (bSt W st) := by unfold bSt; split; exact h; exact h.same rfl
    exact fs_setArgs (fs_putIns h2 _) _
theorem fs_build (h : FS st) {t : Tm} (hs : t.isS = true) (tgt : Int) : FS (build p t tgt st) := fs_buildLoop tgt _ _ _ _ h fun x hx => by rw [List.mem_singleton.mp hx]; exact hs
theorem fs_uwOn (h : FS st) (k : Int) (t : Tm) : FS (uwOn p k t st) := by
  unfold uwOn uwSeen uwVoid uwNew
  split
  · split
    · rename_i hs
      exact fs_matchLoop _ _ _ (fs_regOf h k) (fun y hy => by rw [List.mem_singleton.mp hy]; exact ⟨hs, .reg _ _⟩) fun _ _ => trivial
    · exact (fs_regOf h k).emit (fv2 (.cell _) (.reg _ _))
  · split
    · split
      · rename_i hs; exact fs_build (h.same (st' := st.bump) rfl) hs _
      · exact h
    · refine fs_settle ?_ _ _
      split
      · rename_i hs; exact fs_build (fs_fresh h k) hs _
      · exact (fs_fresh h k).emit (fv2 (.cell _) (.reg _ _))
theorem fs_unifyWV (h : FS st) (k : Int) (t : Tm) : FS (unifyWV p k t st) := by
  have h2 : FS (preWV p k t st) := by unfold preWV; split; exact fs_introduce h _; exact h
  cases t with
  | v j => exact fs_unifyVars h _ _
  | _ => exact fs_uwOn h2 _ _
theorem fs_unifyOne (h : FS st) (a b : Tm) : FS (unifyOne p a b st) := by
  unfold unifyOne
  split
  · exact fs_unifyWV h _ _
  · exact fs_unifyWV h _ _
  · split
    · exact h
    · exact h.emit (fun _ hv => by cases hv)
theorem fs_unifyLoop : ∀ (n : Nat) (W : List (Tm × Tm)) (st : St), FS st → FS (unifyLoop p n W st)
  | 0, _, _, h => h
  | _ + 1, [], _, h => h
  | n + 1, (a, b) :: W, st, h => by
    unfold unifyLoop
    split
    · exact fs_unifyLoop n _ _ h
    · exact fs_unifyLoop n _ _ (fs_unifyOne h _ _)
theorem fs_unifyGoal (h : FS st) (a b : Tm) : FS (unifyGoal p a b st) := fs_unifyLoop _ _ _ h

section
theorem PlanAt.up {H H' : AH} {pa x x' : Nat} {p : Plan} (h : PlanAt H pa x p) (hs : ∀ i, i < x → H'[i]? = H[i]?) (hx : x ≤ x') : PlanAt H' pa x' p := by
  obtain ⟨l, ia, D, lk, h1, h2, h3, h4, h5, h6⟩ := h
  refine ⟨l, ia, D, lk, by rw [hs _ h4]; exact h1, h2, by rw [hs _ h5]; exact h3, by (first | lia | omega), by (first | lia | omega), fun k hk => ?_⟩
  obtain ⟨o, l', g0, g1, g2, g3, g4⟩ := h6 k hk
  exact ⟨o, l', by (first | lia | omega), g1, by rw [hs _ g0]; exact g2, g3, g4⟩
noncomputable def glOf (l r : Tm) (C : List (Int × Int)) : List Gl := (true, .s1 l, .s1 r) :: C.map fun c => (false, .v c.1, .v c.2)
theorem glOf_av (l r : Tm) (C : List (Int × Int)) : (glOf l r C).map gav = [.tup [.str 116, (Tm.s1 l).av, (Tm.s1 r).av]] ++ C.map cav := by
  unfold glOf
  rw [List.map_cons, List.map_map]; rfl
section
variable {H : AH} {Q : AV → AH → Prop} {d : Nat}

local macro_rules | `(tactic| tb_start) => tyF "WEv.cel/rK KTuple.mk/kl KBin2.cat/kkl"

/-- the law's run behind the drawn heads, up to the plan -/
theorem w_law1 {t s ho : Nat} (tp : TP H t s) (hts : t < H.length ∧ s < H.length) {hs : List Tm} (hh : H[ho]? = some (.list (hs.map Tm.av))) (hl : hs.length ≤ 2) (hho : ∀ t ∈ hs, VOk t ∧ t.size ≤ 7) (hne : ho ≠ t ∧ ho ≠ s) {ρ : Loc} (r1 : lookN 152 ρ = some (.obj t)) (r2 : lookN 175 ρ = some (.obj ho)) {K : Fl → Loc → AH → Prop}
    (h : ∀ H' ρ' eo E l r kc go pa p, H'[eo]? = some (.list (E.map pav)) → E.length ≤ 4 → (∀ x ∈ E, POk x) → Joined E l r → H'[kc]? = some (.inst 1 (kcL hs go)) → PlanAt H' pa H'.length p → (∀ t ∈ hs, t.Ok p) → (Tm.s1 l).Ok p → (Tm.s1 r).Ok p →
      lookN 168 ρ' = some (.obj eo) → lookN 90 ρ' = some (Tm.s1 l).av → lookN 91 ρ' = some (Tm.s1 r).av → lookN 172 ρ' = some (.obj kc) → lookN 24 ρ' = some (.obj pa) → WEx (d + 8) law_sc ρ' H' (law_rest.drop 5) K) : WEx (d + 8) law_sc ρ H law_rest K := by
  obtain ⟨hn1, hn2⟩ := hne
  have hhl : (hs.map Tm.av).length = hs.length := by simp
  have bh := lt_of_get hh
  dsimp only [law_rest, law_sc] at h ⊢
  (repeat' tb_start)
  refine w_equations tp hts fun H1 eo E g1 hE1 hE4 hEO tp1 heo f1 => ?_
  have l1 := f1.len
  (repeat' tb_start)
  refine w_calls tp1 (by (first | lia | omega)) fun H2 co C g2 hC1 hC2 hCO tp2 hco f2 => ?_
  have l2 := f2.len
  have be := lt_of_get g1
  have g1' := f2.get g1 (by simp; (first | lia | omega))
  (repeat' tb_start)
  refine w_joined tp2 (by (first | lia | omega)) g1' hE1 hE4 (by (first | lia | omega)) fun H3 l r hJ tp3 f3 => ?_
  have l3 := f3.len
  have bc := lt_of_get g2
  have g2' := f3.get g2 (by simp; (first | lia | omega))
  have hh3 := f3.get (f2.get (f1.get hh (by simp; (first | lia | omega))) (by simp; (first | lia | omega))) (by simp; (first | lia | omega))
  have g1'' := f3.get g1' (by simp; (first | lia | omega))
  have hCm : (C.map cav).length = C.length := by simp
  (repeat' tb_start)
  rename_i wa Ha ea ga fa wg Hg eg gg fg
  have ba := lt_of_get ga
  have bg := lt_of_get gg
  have lg := fg.len
  have la := fa.len
  have g3 := fg.get (fa.get g1'' List.not_mem_nil) List.not_mem_nil
  refine w_Kernel fun kc H4 ek gk f4 => ?_
  have l4 := f4.len
  have bk := lt_of_get gk
  have sJ := hJ.size
  have vJ := hJ.vars
  have s1 := sum_le (E := E) (fun x => x.1.size + 1) (fun x hx => by have := (hEO x hx).2.2.1; (first | lia | omega))
  have s2 := sum_le (E := E) (fun x => x.2.size + 1) (fun x hx => by have := (hEO x hx).2.2.2; (first | lia | omega))
  have vl : VOk (.s1 l) := fun k hk => by obtain ⟨x, hx, hk⟩ := (vJ.1 k).mp hk; exact (hEO x hx).1 k hk
  have vr : VOk (.s1 r) := fun k hk => by obtain ⟨x, hx, hk⟩ := (vJ.2 k).mp hk; exact (hEO x hx).2.1 k hk
  have hgl : (glOf l r C).length = C.length + 1 := by unfold glOf; simp
  (repeat' tb_start)
  refine w_classify (gl := glOf l r C) gk (by rw [glOf_av]; exact f4.get gg List.not_mem_nil) (by (first | lia | omega)) (fun t ht => ⟨(hho t ht).1, by have := (hho t ht).2; (first | lia | omega)⟩) (fun g hg => ?_) fun H5 pa p hp hd1 hd2 f5 => ?_
  · rcases List.mem_cons.mp hg with e | hg
    · rw [e]; exact ⟨⟨vl, by simp only [Tm.size]; (first | lia | omega)⟩, vr, by simp only [Tm.size]; (first | lia | omega)⟩
    · obtain ⟨c, hc, rfl⟩ := List.mem_map.mp hg
      obtain ⟨c1, c2⟩ := hCO c hc
      exact ⟨⟨fun k hk => by rw [List.mem_singleton.mp hk]; exact c1, by simp [Tm.size]⟩, fun k hk => by rw [List.mem_singleton.mp hk]; exact c2, by simp [Tm.size]⟩
  have hh0 := hd2 (true, .s1 l, .s1 r) (by unfold glOf; exact .head _)
  refine KSeq.next (h H5 _ eo E l r kc _ pa p (f5.get (f4.get g3 List.not_mem_nil) List.not_mem_nil) hE4 hEO hJ (f5.get gk List.not_mem_nil) hp (fun t ht => ok_of_vars (hd1 t ht)) (ok_of_vars fun k hk => hh0 k (.inl hk)) (ok_of_vars fun k hk => hh0 k (.inr hk)) ?_ ?_ ?_ ?_ ?_)
  all_goals kat_tups
end

end
section
theorem unifyLoop_len (p : Plan) : ∀ (n : Nat) (W : List (Tm × Tm)) (st : St), psum W ≤ n → (unifyLoop p n W st).code.length ≤ st.code.length + 24 * psum W
  | 0, _, st, _ => by simp [unifyLoop]
  | _ + 1, [], st, _ => by simp [unifyLoop]
  | n + 1, (a, b) :: W, st, h => by
    have p1 := a.size_pos
    have p2 := b.size_pos
    simp only [psum] at h ⊢
    cases e : argPairs a b with
    | some l =>
      have hl := argPairs_sum e
      have hs := psum_append l W
      simp only [unifyLoop, e]
      have := unifyLoop_len p n (l ++ W) st (by (first | lia | omega))
      (first | lia | omega)
    | none =>
      simp only [unifyLoop, e]
      have := unifyLoop_len p n W (unifyOne p a b st) (by (first | lia | omega))
      have := unifyOne_len p a b st
      (first | lia | omega)
theorem unifyGoal_len (p : Plan) (a b : Tm) (st : St) : (unifyGoal p a b st).code.length ≤ st.code.length + 24 * (a.size + b.size) := by
  have := unifyLoop_len p (a.size + b.size) [(a, b)] st (by simp [psum])
  simpa [psum, unifyGoal] using this
theorem unifyAll_snoc (p : Plan) (E : List (Tm × Tm)) (st : St) {j : Nat} {x : Tm × Tm} (h : E[j]? = some x) : unifyAll p (E.take (j + 1)) st = unifyGoal p x.1 x.2 (unifyAll p (E.take j) st) := by
  unfold unifyAll
  rw [List.take_add_one, h]
  simp
theorem unifyAll_len (p : Plan) {E : List (Tm × Tm)} (hE : ∀ x ∈ E, POk x) (st : St) : ∀ j, (unifyAll p (E.take j) st).code.length ≤ st.code.length + 336 * j
  | 0 => by simp [unifyAll]
  | j + 1 => by
    have ih := unifyAll_len p hE st j
    cases h : E[j]? with
    | none => rw [List.take_add_one, h]; simp only [Option.toList_none, List.append_nil]; (first | lia | omega)
    | some x =>
      rw [unifyAll_snoc p E st h]
      have := unifyGoal_len p x.1 x.2 (unifyAll p (E.take j) st)
      have := hE x (List.mem_of_getElem? h)
      have := this.2.2
      (first | lia | omega)
theorem ints_ne {H : AH} {i : Int} : CmpIs H .NotEq (.int i) (.int i) false := .int (by show some (!decide (i = i)) = _; rw [decide_eq_true rfl]; rfl)
section
variable {H : AH} {d : Nat}

local macro_rules | `(tactic| tb_start) => tyF "KCmp2.mk+CmpIs.lne/AAA KCmp2.mk+CmpIs.seqq/AA KCmp2.mk+ints_ne"

theorem w_law2 {eo kc go pa : Nat} {E : List (Tm × Tm)} {l r : Tm} {hs : List Tm} {p : Plan} (he : H[eo]? = some (.list (E.map pav))) (hE4 : E.length ≤ 4) (hEO : ∀ x ∈ E, POk x) (hJ : Joined E l r) (hk : H[kc]? = some (.inst 1 (kcL hs go))) (hp : PlanAt H pa H.length p)
    (hhs : ∀ t ∈ hs, t.Ok p ∧ t.size ≤ 7) (hl2 : hs.length ≤ 2) (hol : (Tm.s1 l).Ok p) (hor : (Tm.s1 r).Ok p) (hEok : ∀ x ∈ E, x.1.Ok p ∧ x.2.Ok p) {ρ : Loc} (r1 : lookN 168 ρ = some (.obj eo)) (r2 : lookN 90 ρ = some (Tm.s1 l).av) (r3 : lookN 91 ρ = some (Tm.s1 r).av) (r4 : lookN 172 ρ = some (.obj kc)) (r5 : lookN 24 ρ = some (.obj pa)) :
    WEx (d + 8) law_sc ρ H (law_rest.drop 5) (fun f _ _ => f = .ret (.bool true)) := by
  have sJ := hJ.size
  have s1 := sum_le (E := E) (fun x => x.1.size + 1) (fun x hx => by have := (hEO x hx).2.2.1; (first | lia | omega))
  have s2 := sum_le (E := E) (fun x => x.2.size + 1) (fun x hx => by have := (hEO x hx).2.2.2; (first | lia | omega))
  have z1 : (Tm.s1 l).size = l.size + 1 := rfl
  have z2 : (Tm.s1 r).size = r.size + 1 := rfl
  have hdl := hdAt_len p hs hhs hs.length
  have hpl := plain_law p hJ (hdAt p hs hs.length)
  have hfs := fs_unifyGoal (p := p) (fs_hdAt (p := p) hs hs.length) (.s1 l) (.s1 r)
  have bk := lt_of_get hk
  have be := lt_of_get he
  dsimp only [law_rest, law_sc, List.drop]
  (repeat' tb_start)
  refine w_behind hk hp hhs (by (first | lia | omega)) fun H1 m1 f1 => ?_
  have l1 := f1.len
  have hi1 : H1[H.length]? = some (.inst 0 (mkL ⟨H.length, kc, pa⟩ (hdAt p hs hs.length))) := m1.inst
  generalize hh : hdAt p hs hs.length = st0 at *
  (repeat' tb_start)
  refine w_unify_goal m1 hol hor (by (first | lia | omega)) (by (first | lia | omega)) fun H2 m2 f2 => ?_
  have l2 := f2.len
  have m2l := m2.lt
  have low2 : ∀ i, i < H.length → H2[i]? = H[i]? := fun i hi => by rw [f2.same i (by (first | lia | omega)) (.inl hi) List.not_mem_nil, f1.same i hi List.not_mem_nil]
  have hk2 : H2[kc]? = some (.inst 1 (kcL hs go)) := by rw [low2 _ bk]; exact hk
  have hp2 : PlanAt H2 pa H2.length p := hp.up low2 (by (first | lia | omega))
  (repeat' tb_start)
  refine w_behind hk2 hp2 hhs (by (first | lia | omega)) fun H3 m3 f3 => ?_
  rw [hh] at m3
  have l3 := f3.len
  have he3 : H3[eo]? = some (.list (E.map pav)) := by rw [f3.same _ (by (first | lia | omega)) List.not_mem_nil, low2 _ be]; exact he
  refine KSeq.next (WEx.cons (WEx1.for rfl (WSrc.any rfl ?_)))
  (repeat' tb_start)
  refine ⟨.lst eo, by unfold srcAt; dsimp only; rw [he3], _, rfl, ?_⟩
  have hone : ∀ ρ, lookN 177 ρ = some (.obj H.length) → True := fun _ _ => trivial
  generalize hσ2 : (⟨H2.length, kc, pa⟩ : Mk) = σ2 at m3
  have hx2 : σ2.x = H2.length := by rw [← hσ2]
  refine WFo.lst (fun j ρ1 H' => lookN 177 ρ1 = some (.obj H.length) ∧ lookN 178 ρ1 = some (.obj σ2.x) ∧ H'[eo]? = some (.list (E.map pav)) ∧ M H' σ2 p (unifyAll p (E.take j) st0) ∧ Fr σ2.x [] H3 H') (fun _ _ _ hJ' => hJ'.2.2.1) ?_ ?_ _ 0 _ _ rfl (Nat.zero_le _)
    ⟨by kat_tups, by rw [hx2]; kat_tups, he3, m3, Fr.refl _⟩
  · rintro j u ρ1 H4 hv ⟨q1, q2, q3, m4, f4⟩
    obtain ⟨x, hx, rfl⟩ := getMap hv
    have hxm := List.mem_of_getElem? hx
    have hj : j < E.length := by obtain ⟨z, _⟩ := List.getElem?_eq_some_iff.mp hx; exact z
    obtain ⟨x1, x2⟩ := hEok x hxm
    have hxo := (hEO x hxm).2.2
    have hal := unifyAll_len p hEO st0 j
    have hi4 : H4[σ2.x]? = some (.inst 0 (mkL σ2 (unifyAll p (E.take j) st0))) := m4.inst
    (repeat' tb_start)
    refine w_unify_goal m4 x1 x2 (by (first | lia | omega)) (by (first | lia | omega)) fun H5 m5 f5 => ?_
    refine KSeq.next (WEx.nil (KJ.next ⟨by kat_tups, by kat_tups, ?_, by rw [unifyAll_snoc p E st0 hx]; exact m5, ?_⟩))
    · rw [f5.same _ (lt_of_get q3) (.inl (by (first | lia | omega))) List.not_mem_nil]; exact q3
    · exact f4.trans f5 fun w hw => absurd hw List.not_mem_nil
  · rintro ρ1 H4 ⟨q1, q2, q3, m4, f4⟩
    rw [List.length_map, List.take_length, ← hpl] at m4
    refine ⟨_, rfl, ?_⟩
    have low4 : ∀ i, i < H2.length → H4[i]? = H2[i]? := fun i hi => by rw [f4.same i (by (first | lia | omega)) (.inl (by (first | lia | omega))) List.not_mem_nil, f3.same i hi List.not_mem_nil]
    have a0 : H4[H.length]? = some (.inst 0 (mkL ⟨H.length, kc, pa⟩ (unifyGoal p (.s1 l) (.s1 r) st0))) := by rw [low4 _ (by have : H.length + 4 ≤ H2.length := m2l; (first | lia | omega))]; exact m2.inst
    have a1 : H4[H.length + 1]? = some (.list (unifyGoal p (.s1 l) (.s1 r) st0).code) := by rw [low4 _ (by have : H.length + 4 ≤ H2.length := m2l; (first | lia | omega))]; exact m2.code
    have a2 : H4[H.length + 2]? = some (.set (unifyGoal p (.s1 l) (.s1 r) st0).seen) := by rw [low4 _ (by have : H.length + 4 ≤ H2.length := m2l; (first | lia | omega))]; exact m2.seen
    have a3 : H4[H.length + 3]? = some (.set (unifyGoal p (.s1 l) (.s1 r) st0).loc) := by rw [low4 _ (by have : H.length + 4 ≤ H2.length := m2l; (first | lia | omega))]; exact m2.loc
    have b0 := m4.inst
    have b1 := m4.code
    have b2 := m4.seen
    have b3 := m4.loc
    have hfs : flatsN 8 (unifyGoal p (.s1 l) (.s1 r) st0).code = true := hfs
    (repeat' tb_start)
    rfl
end

end
/-- the law's run behind the drawn heads answers True -/
theorem w_law {d : Nat} {H : AH} {t s ho : Nat} (tp : TP H t s) (hts : t < H.length ∧ s < H.length) {hs : List Tm} (hh : H[ho]? = some (.list (hs.map Tm.av))) (hl : hs.length ≤ 2) (hho : ∀ t ∈ hs, VOk t ∧ t.size ≤ 7) (hne : ho ≠ t ∧ ho ≠ s) {ρ : Loc} (r1 : lookN 152 ρ = some (.obj t)) (r2 : lookN 175 ρ = some (.obj ho)) :
    ∃ ρ' H', Exs (d + 8) law_sc ρ H law_rest (.ret (.bool true)) ρ' H' := by
  have h : WEx (d + 8) law_sc ρ H law_rest (fun f _ _ => f = .ret (.bool true)) := by
    refine w_law1 tp hts hh hl hho hne r1 r2 fun H' ρ' eo E l r kc go pa p he hE4 hEO hJ hk hp hhs hol hor q1 q2 q3 q4 q5 => ?_
    refine w_law2 he hE4 hEO hJ hk hp (fun t ht => ⟨hhs t ht, (hho t ht).2⟩) hl hol hor (fun x hx => ?_) q1 q2 q3 q4 q5
    have v := hJ.vars
    have okl : ∀ {t : Tm}, t.Ok p → ∀ k ∈ t.vars, p.dom k = true := fun {t} => by
      induction t with
      | v k => intro h j hj; rw [List.mem_singleton.mp hj]; exact h
      | a _ => intro _ j hj; cases hj
      | i _ => intro _ j hj; cases hj
      | s1 x ih => intro h j hj; exact ih h j hj
      | s2 b x y ih1 ih2 => intro h j hj; rcases List.mem_append.mp hj with hj | hj; exact ih1 h.1 j hj; exact ih2 h.2 j hj
    exact ⟨ok_of_vars fun k hk => okl (t := l) hol k ((v.1 k).mpr ⟨x, hx, hk⟩), ok_of_vars fun k hk => okl (t := r) hor k ((v.2 k).mpr ⟨x, hx, hk⟩)⟩
  obtain ⟨f, ρ', H', e, rfl⟩ := h
  exact ⟨ρ', H', e⟩

end
section
variable {W : Wd} {G : Gd}
/-- the law's run -/
theorem law_go (Ls : Lks W) (g : GOk W G law_sc 8) {m : Str → Option Value} {s : Shared} {c a : Addr} {o : Obj} {vs : List Value} {ns : List Int} {lp : Str} {scope : Scope} {k k' : Nat} {iter : Expr} {rest : List Stmt} {p p1 p2 p3 p4 p5 p6 p7 p8 q q1 q2 q3 q4 q5 q6 pos : Pos} {j j2 j5 j6 : Nat} {Q : Flow → Shared → Prop} {E : Value → Shared → Prop}
    (F : PyProof.Rows.Fr G.h₀ G.L s.heap m) (nw : News G.h₀ G.L s.heap [(c, o)]) (hc : G.cl.lookup (W.nf 152) = some c) (ho : o.data = .cell none)
    (hm : m (W.nf 174) = some (.ref a)) (hL : G.h₀.IsList a vs.toArray) (hI : IntsAre vs ns) (hlen : ns.length ≤ 63)
    (hk1 : (relabel scope G.env).names.lookup (W.nf 162) = some .globalImplicit) (hk2 : (relabel scope G.env).names.lookup (W.nf 152) = some .cell) (hkd : scope.kind = .function)
    (hsw : swapsWith (.ListComp (.Call (.Name (W.nf 162) q1) [.Name (W.nf 152) q2, .Constant (.int 2) j q3] [] q4) [⟨.Name lp q5, iter, [], 0⟩] scope pos) (some (.Name (W.nf 175) q)) q6.line G.env = pure true)
    (hclos : closureFor scope G.env = pure [(W.nf 152, c)]) (hcell : ∀ z ∈ scope.names, z.2 ≠ .cell) (hnames : ∀ z ∈ scope.names, z.2 = .local → scope.names.lookup z.1 = some .local) (hx : scope.names.lookup lp = some .local)
    (hit : er k iter = X.put W.nf k (.call (.nm 143) [.call (.nm 158) [.nm 152, .int 3]]))
    (hrest : rest.map (erS k') = law_rest.map (S.put W.nf k'))
    (hQ : ∀ m' h tk, PyProof.Rows.Fr G.h₀ G.L h m' → Q (.ret (.bool true)) (up s h tk)) :
    wpAny (model W.prog W.w) G.A (execs (.Assign [.Name (W.nf 152) p] (.List [.Subscript (.Name (W.nf 174) p1) (.Slice none (some (.Constant (.int 60) j2 p2)) none p3) p4, .Constant (.int 0) j5 p5, .Constant (.int 0) j6 p6] p7) p8 ::
      .Assign [.Name (W.nf 175) q] (.ListComp (.Call (.Name (W.nf 162) q1) [.Name (W.nf 152) q2, .Constant (.int 2) j q3] [] q4) [⟨.Name lp q5, iter, [], 0⟩] scope pos) q6 :: rest) G.env) Q E s := by
  have g4 : GOk W G law_sc 4 := ⟨g.B, g.X, g.T, g.hk, g.ks, by have := g.hd; (first | lia | omega), by have := g.hu; (first | lia | omega)⟩
  refine wpAny_execs_cons (st_tape Ls g4 F nw hc ho hm hL hI hlen fun h1 tk1 N1 φ1 ψ1 a1 => ?_)
  have tp : TP [.list ((ns.take 60).map .int), .list [.obj 0, .int 0, .int 0]] 1 0 := .mk (ns.take 60) 0 0 rfl rfl (Int.le_refl _) (by rw [List.length_take]; (first | lia | omega)) (by decide)
  refine wpAny_execs_cons (st_heads (s := up s h1 tk1) Ls g4 hc hk1 hk2 hkd hsw hclos hcell hnames hx hit a1 tp rfl fun m' h tk N φ ψ H hs ho a2 tp2 hh hl hok hne => ?_)
  obtain ⟨l, ti, tj, t1, t2, _, _, _⟩ := id tp2
  obtain ⟨ρ', H', e⟩ := w_law (d := 0) tp2 ⟨lt_of_some t1, lt_of_some t2⟩ hh hl hok hne (ρ := setL 175 (.obj ho) [(152, .obj 1)]) rfl rfl
  refine e W Ls G k' rest g hrest m' (up s h tk) N φ ψ _ _ a2 fun f m3 h3 tk3 N3 φ3 ψ3 a3 _ rf => ?_
  cases rf with
  | ret rv => cases rv; exact hQ m3 h3 tk3 a3.F
end

/-! binding of plain parameters -/
theorem zip_lookup_mem {names : List Str} : ∀ {vs : List Value}, names.length = vs.length → names.Nodup → names.filterMap (fun n => ((names.zip vs).lookup n).map (n, ·)) = names.zip vs ∧ ∀ n ∈ names, ((names.zip vs).lookup n).isSome = true := by
  induction names with
  | nil => intro vs h _; cases vs with
    | nil => exact ⟨rfl, fun _ h => by cases h⟩
    | cons _ _ => cases h
  | cons x names ih =>
    intro vs h hn
    cases vs with
    | nil => cases h
    | cons v vs =>
      obtain ⟨h1, h2⟩ := List.nodup_cons.mp hn
      obtain ⟨i1, i2⟩ := ih (vs := vs) (Nat.succ.inj h) h2
      have hb : ∀ n ∈ names, (((x, v) :: names.zip vs).lookup n) = (names.zip vs).lookup n := fun n hnm => by
        rw [List.lookup_cons]
        have : (n == x) = false := by
          rw [beq_eq_false_iff_ne]; intro e; subst e; exact h1 hnm
        rw [this]
      refine ⟨?_, ?_⟩
      · rw [List.zip_cons_cons, List.filterMap_cons, List.lookup_cons, beq_self_eq_true]
        show _ :: List.filterMap (fun n => (((x, v) :: names.zip vs).lookup n).map (n, ·)) names = _
        have hc : ∀ l : List Str, (∀ n ∈ l, n ∈ names) → l.filterMap (fun n => (((x, v) :: names.zip vs).lookup n).map (n, ·)) = l.filterMap (fun n => ((names.zip vs).lookup n).map (n, ·)) := by
          intro l hl
          induction l with
          | nil => rfl
          | cons y l ih => rw [List.filterMap_cons, List.filterMap_cons, hb y (hl y (.head _)), ih fun n h => hl n (.tail _ h)]
        rw [hc names fun _ h => h, i1]
      · intro n hnm
        rcases List.mem_cons.mp hnm with e | hnm
        · subst e; rw [List.zip_cons_cons, List.lookup_cons, beq_self_eq_true]; rfl
        · rw [List.zip_cons_cons, hb n hnm]; exact i2 n hnm
theorem binds_plain {fd : FuncData} {args : List Arg} (hp : fd.params = ⟨[], args, none, [], [], none, []⟩) (hd : fd.defaults = .none) {vs : List Value} (hl : args.length = vs.length) (hn : (args.map (·.arg)).Nodup) :
    bindArgs fd ⟨vs, []⟩ = pure ((args.map (·.arg)).zip vs) := by
  obtain ⟨e1, e2⟩ := zip_lookup_mem (names := args.map (·.arg)) (vs := vs) (by simpa using hl) hn
  have hm : ((args.map (·.arg)).filter fun n => (((args.map (·.arg)).zip vs).lookup n).isNone) = [] := by
    rw [List.filter_eq_nil_iff]
    intro n hn
    have := e2 n hn
    cases h : ((args.map (·.arg)).zip vs).lookup n with
    | none => rw [h] at this; cases this
    | some _ => simp
  obtain ⟨name, qual, params, fbody, scope, gl, cl, dV, kV, doc, pm, an, cdv, ct, bi⟩ := fd
  dsimp only at hp hd
  subst hp hd
  have e4 : List.take ((args.map (·.arg)).length - (List.drop (0 - (args.map (·.arg)).length) ([] : List Value)).length) (args.map (·.arg)) = args.map (·.arg) := by rw [List.drop_nil]; exact List.take_of_length_le (Nat.le_refl _)
  have e5 : (List.drop ((args.map (·.arg)).length - (List.drop (0 - (args.map (·.arg)).length) ([] : List Value)).length) (args.map (·.arg))).zip (List.drop (0 - (args.map (·.arg)).length) ([] : List Value)) = [] := by rw [List.drop_nil, List.zip_nil_right]
  refine Eq.trans (if_neg ?_) ?_
  · show ¬ (decide (vs.length > (args.map (·.arg)).length) && true) = true
    rw [decide_eq_false (by rw [List.length_map, hl]; exact Nat.lt_irrefl _)]; decide
  refine Eq.trans (if_neg ?_) ?_
  · show ¬ (!((List.take ((args.map (·.arg)).length - (List.drop (0 - (args.map (·.arg)).length) ([] : List Value)).length) (args.map (·.arg))).filter fun n => (((args.map (·.arg)).zip vs).lookup n).isNone).isEmpty) = true
    rw [e4, hm]; decide
  refine Eq.trans (congrArg (fun l => forIn l _ _ >>= _) e5) ?_
  show (pure (((args.map fun a : Arg => a.arg) ++ []).filterMap fun n => (((args.map fun a : Arg => a.arg).zip vs).lookup n).map (n, ·)) : Sem (List (Str × Value))) = _
  rw [List.append_nil, e1]

/-! the names -/
noncomputable def nf (n : Nat) : Str := match nameL[n]? with
  | some s => Str.ofString s
  | none => ⟨Array.replicate (n + 30) 97⟩
noncomputable def enc (s : Str) : Nat := s.cps.toList.foldl (fun h c => h * 256 + c + 1) 0
theorem nf_lt {n : Nat} (h : n < nameL.length) : nf n = Str.ofString nameL[n] := by unfold nf; rw [List.getElem?_eq_getElem h]
theorem nf_ge {n : Nat} (h : ¬ n < nameL.length) : nf n = ⟨Array.replicate (n + 30) 97⟩ := by unfold nf; rw [List.getElem?_eq_none (by (first | lia | omega))]
theorem nameL_len : nameL.length = 192 := by kernel_rfl
theorem names_nodup : (nameL.map fun s => enc (Str.ofString s)).Nodup := by decide +kernel
theorem names_ok : (nameL.all fun s => PyData.strOk (Str.ofString s) && !(Str.ofString s == Str.ofString "__debug__") && decide ((Str.ofString s).cps.size < 30)) = true := by decide +kernel
theorem names_at {n : Nat} (h : n < nameL.length) : PyData.strOk (nf n) = true ∧ (nf n == Str.ofString "__debug__") = false ∧ (nf n).cps.size < 30 := by
  have := List.all_eq_true.mp names_ok nameL[n] (List.getElem_mem h)
  rw [nf_lt h]
  simp only [Bool.and_eq_true, decide_eq_true_eq, Bool.not_eq_true'] at this
  exact ⟨this.1.1, this.1.2, this.2⟩
theorem nf_inj (x y : Nat) (h : nf x = nf y) : x = y := by
  by_cases hx : x < nameL.length
  · by_cases hy : y < nameL.length
    · rw [nf_lt hx, nf_lt hy] at h
      refine (List.getElem?_inj (l := nameL.map fun s => enc (Str.ofString s)) (by rw [List.length_map]; exact hx) names_nodup).mp ?_
      rw [List.getElem?_map, List.getElem?_map, List.getElem?_eq_getElem hx, List.getElem?_eq_getElem hy]
      simp only [Option.map_some, h]
    · have := (names_at hx).2.2
      rw [h, nf_ge hy] at this
      simp at this
      (first | lia | omega)
  · by_cases hy : y < nameL.length
    · have := (names_at hy).2.2
      rw [← h, nf_ge hx] at this
      simp at this
      (first | lia | omega)
    · rw [nf_ge hx, nf_ge hy] at h
      have := congrArg (fun s => s.cps.size) h
      simp at this
      (first | lia | omega)
theorem nf_dbg (x : Nat) : (nf x == Str.ofString "__debug__") = false := by
  by_cases hx : x < nameL.length
  · exact (names_at hx).2.1
  · rw [nf_ge hx, beq_eq_false_iff_ne]
    intro e
    have := congrArg (fun s => s.cps.size) e
    rw [show (Str.ofString "__debug__").cps.size = 9 from by decide +kernel] at this
    simp at this
theorem nf_ok (x : Nat) : PyData.strOk (nf x) = true := by
  by_cases hx : x < nameL.length
  · exact (names_at hx).1
  · rw [nf_ge hx]
    unfold PyData.strOk
    rw [Array.all_eq_true]
    intro i hi
    simp
theorem mem_of_lookup {α β : Type} [BEq α] [LawfulBEq α] {a : α} {b : β} : ∀ {l : List (α × β)}, l.lookup a = some b → (a, b) ∈ l
  | [], h => by cases h
  | (c, e) :: l, h => by
    rw [List.lookup_cons] at h
    split at h
    · rename_i hc; cases h; rw [eq_of_beq hc]; exact .head _
    · exact .tail _ (mem_of_lookup h)
theorem map_eq_at {α β : Type} {f g : α → β} : ∀ {l : List α}, l.map f = l.map g → ∀ a ∈ l, f a = g a
  | [], _, _, h => by cases h
  | b :: l, e, a, h => by
    rw [List.map_cons, List.map_cons] at e
    injection e with e1 e2
    rcases List.mem_cons.mp h with h | h
    · rw [h]; exact e1
    · exact map_eq_at e2 a h

/-! the tables hold of the head's heap -/
noncomputable def plainArgsD : (p : Arguments) → Option { l : List Str // ∃ args, p = ⟨[], args, none, [], [], none, []⟩ ∧ args.map (·.arg) = l }
  | ⟨[], args, none, [], [], none, []⟩ => some ⟨args.map (·.arg), args, rfl, rfl⟩
  | _ => none
noncomputable def plainArgs (p : Arguments) : Option (List Str) := (plainArgsD p).map (·.1)
noncomputable def fnSum (K : Frag) (a : Addr) : Option (List (S Str) × List (Str × NameKind) × ScopeKind × Bool × Bool × Bool × Option (List Str) × Addr × List (Str × Addr) × Value × Addr) :=
  match K.lookup a with
  | some ⟨_, _, .func fd, _⟩ => match fd.body with
    | .stmts body => some (body.map (erS 30), fd.scope.names, fd.scope.kind, fd.scope.isCoroutine, fd.scope.isGenerator, codeIn K fd.code fd.qualname, plainArgs fd.params, fd.globals, fd.closure, fd.defaults, fd.builtins)
    | _ => none
  | _ => none
noncomputable def fnWant (f : Fn) : Option (List (S Str) × List (Str × NameKind) × ScopeKind × Bool × Bool × Bool × Option (List Str) × Addr × List (Str × Addr) × Value × Addr) :=
  some (f.body.map (S.put nf 30), f.sc.map (fun p => (nf p.1, p.2)), .function, false, false, true, some (f.ps.map nf), mainGlobals, [], .none, builtinsNs)
noncomputable def gInt : Option (Option Value) → Option Int
  | some (some (.int i _)) => some i
  | _ => none
structure KFacts (K : Frag) : Prop where
  k_fns : faL.map (fnSum K) = fnL.map fnWant
  k_fkeep : faL.map (fun a => (keepIn K (.ref a), isFn K (.ref a))) = faL.map (fun _ => (true, true))
  k_callsF : callsF.map (fun p => nsIn K mainGlobals (nf p.1)) = callsF.map (fun p => some (some (.ref (faL.getD p.2 0))))
  k_callsC : callsC.map (fun p => (nsIn K mainGlobals (nf p.1), keepIn K (.ref (caL.getD p.2 0)), makesIn K (caL.getD p.2 0))) = callsC.map (fun p => (some (some (.ref (caL.getD p.2 0))), true, true))
  k_callsB : callsB.map (fun p => nsIn K mainGlobals (nf p.1)) = callsB.map (fun _ => some none)
  k_globs : globs.map (fun p => gInt (nsIn K mainGlobals (nf p.1))) = globs.map (fun p => some p.2)
  k_meths : meths.map (fun p => (plainGet K (caL.getD p.1.1 0) (nf p.1.2), findIn K (.ref (caL.getD p.1.1 0)) (nf p.1.2))) = meths.map (fun p => (true, some (some (.ref (faL.getD p.2 0)))))
  k_inits : inits.map (fun p => findIn K (.ref (caL.getD p.1 0)) (Str.ofString "__init__")) = inits.map (fun p => some (some (.ref (faL.getD p.2 0))))
  k_attrs : attrL.map (fun p => (plainGet K (caL.getD p.1 0) (nf p.2), hasDictIn K (caL.getD p.1 0), findIn K (.ref (caL.getD p.1 0)) (nf p.2), findIn K (.ref (caL.getD p.1 0)) (Str.ofString "__setattr__"), plainOver K (caL.getD p.1 0), takerIn K (caL.getD p.1 0) (nf p.2))) =
    attrL.map (fun _ => (true, true, some none, some (some (.builtin "object.__setattr__")), true, some none))
theorem tabs_ok : (fnL.all fun f => decide f.ps.Nodup && f.ps.all (fun x => f.sc.lookup x == some .local) && f.sc.all fun p => p.2 != .cell) = true := by decide +kernel
theorem lookup_map (sc : Sc) (x : Nat) : (sc.map fun p => (nf p.1, p.2)).lookup (nf x) = sc.lookup x := by
  induction sc with
  | nil => rfl
  | cons p l ih =>
    obtain ⟨y, k⟩ := p
    rw [List.map_cons, List.lookup_cons, List.lookup_cons, ih]
    by_cases h : x = y
    · subst h; rw [beq_self_eq_true, beq_self_eq_true]
    · have h1 : (nf x == nf y) = false := by rw [beq_eq_false_iff_ne]; exact fun e => h (nf_inj _ _ e)
      have h2 : (x == y) = false := by rw [beq_eq_false_iff_ne]; exact h
      rw [h1, h2]
theorem plainArgs_some {p : Arguments} {l : List Str} (h : plainArgs p = some l) : ∃ args, p = ⟨[], args, none, [], [], none, []⟩ ∧ args.map (·.arg) = l := sub_some (P := fun (l : List Str) => ∃ args, p = ⟨[], args, none, [], [], none, []⟩ ∧ args.map (·.arg) = l) (o := plainArgsD p) h
theorem fn_at {K : Frag} (kf : KFacts K) {i : Nat} {f : Fn} (hf : fnL[i]? = some f) : FnAt K nf (faL.getD i 0) f := by
  have hlen : faL.length = fnL.length := by kernel_rfl
  have hi : i < fnL.length := by obtain ⟨h, _⟩ := List.getElem?_eq_some_iff.mp hf; exact h
  have e := congrArg (fun l => l[i]?) kf.k_fns
  simp only [List.getElem?_map, hf, List.getElem?_eq_getElem (show i < faL.length by (first | lia | omega)), Option.map_some, Option.some.injEq] at e
  have hg : faL.getD i 0 = faL[i]'(by (first | lia | omega)) := by rw [List.getD_eq_getElem?_getD, List.getElem?_eq_getElem (show i < faL.length by (first | lia | omega))]; rfl
  rw [hg]
  have ht := List.all_eq_true.mp tabs_ok f (List.mem_of_getElem? hf)
  simp only [Bool.and_eq_true, decide_eq_true_eq, List.all_eq_true, beq_iff_eq, bne_iff_ne] at ht
  obtain ⟨⟨t1, t2⟩, t3⟩ := ht
  generalize faL[i]'(by (first | lia | omega)) = a at e
  unfold fnSum at e
  split at e
  · rename_i oc od fd osl ho
    split at e
    · rename_i body hb
      unfold fnWant at e
      injection e with e
      simp only [Prod.mk.injEq] at e
      obtain ⟨e1, e2, e3, e4, e5, e6, e7, e8, e9, e10, e11⟩ := e
      obtain ⟨args, ea, eb⟩ := plainArgs_some e7
      obtain ⟨name, qual, params, fbody, scope, gl, cl, dV, kV, doc, pm, an, cdv, ct, bi⟩ := fd
      dsimp only at hb e2 e3 e4 e5 e6 ea e8 e9 e10 e11
      subst hb e8 e9 e11
      refine ⟨⟨name, qual, params, body, scope, dV, kV, doc, pm, an, cdv, ct, oc, od, osl, ho, e6, ⟨30, e1⟩, ?_, e3, e4, e5, ?_, ?_⟩, t1, t2⟩
      · intro x; rw [e2]; exact lookup_map f.sc x
      · intro x hx
        rw [e2] at hx
        obtain ⟨q, hq, rfl⟩ := List.mem_map.mp hx
        exact t3 q hq
      · intro vs s hvs
        refine BindsTo.of_eq ?_
        rw [← eb]
        have hal : args.length = f.ps.length := by have := congrArg List.length eb; simpa using this
        exact binds_plain (fd := fnOf name qual params body scope dV kV doc pm an cdv ct) ea e10 (by (first | lia | omega)) (by rw [eb]; exact List.Pairwise.map nf (fun x y hn e => hn (nf_inj x y e)) t1)
    · cases e
  · cases e
structure IsW (W : Wd) : Prop where
  K : KFacts W.K
  fa : W.fa = fun i => faL.getD i 0
  ca : W.ca = fun i => caL.getD i 0
  nf : W.nf = Mine.nf
theorem call_cases {x : Nat} {c : Callee} (h : Tb.call x = some c) : (∃ i, c = .fn i ∧ (x, i) ∈ callsF) ∨ (∃ i, c = .cls i ∧ (x, i) ∈ callsC) ∨ (x, c) ∈ callsB := by
  have h : (match callsF.lookup x with | some i => some (Callee.fn i) | none => match callsC.lookup x with | some c => some (.cls c) | none => callsB.lookup x) = some c := h
  split at h
  · rename_i i e; cases h; exact .inl ⟨i, rfl, mem_of_lookup e⟩
  · split at h
    · rename_i i e; cases h; exact .inr (.inl ⟨i, rfl, mem_of_lookup e⟩)
    · exact .inr (.inr (mem_of_lookup h))
theorem callsB_only : (callsB.all fun p => match p.2 with | .fn _ => false | .cls _ => false | _ => true) = true := by decide +kernel
noncomputable def bnOf : Callee → Nat
  | .len => 51 | .rev => 13 | .list => 12 | .tuple => 185 | .sorted => 138 | .set => 26 | .range => 143 | _ => 0
theorem callsB_num : (callsB.all fun p => Nat.beq (bnOf p.2) p.1) = true := by decide +kernel
theorem callsB_at {b : Callee} {n : Nat} (h : (n, b) ∈ callsB) : (b = .len → n = 51) ∧ (b = .rev → n = 13) ∧ (b = .list → n = 12) ∧ (b = .tuple → n = 185) ∧ (b = .sorted → n = 138) ∧ (b = .set → n = 26) ∧ (b = .range → n = 143) := by
  have e : bnOf b = n := Nat.eq_of_beq_eq_true (List.all_eq_true.mp callsB_num _ h)
  have k : ∀ c, b = c → n = bnOf c := fun c q => by rw [← e, q]
  exact ⟨k _, k _, k _, k _, k _, k _, k _⟩

theorem gInt_some {o : Option (Option Value)} {i : Int} (h : gInt o = some i) : ∃ t, o = some (some (.int i t)) := by
  unfold gInt at h
  split at h
  · cases h; exact ⟨_, rfl⟩
  · cases h
theorem boot_ok : bootBuiltins (nf 51) = some (.builtin "len") ∧ bootBuiltins (nf 185) = some (.type "tuple") ∧ bootBuiltins (nf 12) = some (.type "list") ∧ bootBuiltins (nf 26) = some (.type "set") ∧ bootBuiltins (nf 143) = some (.type "range") ∧ bootBuiltins (nf 13) = some (.type "reversed") ∧ bootBuiltins (nf 138) = some (.builtin "sorted") :=
  ⟨by kernel_rfl, by kernel_rfl, by kernel_rfl, by kernel_rfl, by kernel_rfl, by kernel_rfl, by kernel_rfl⟩
theorem noname (n : Nat) (h : n < nameL.length) (hn : decide (nf n = Str.ofString "__name__") = false) : nf n ≠ Str.ofString "__name__" := of_decide_eq_false hn
theorem names_noname : ([51, 185, 12, 26, 143, 13, 138].all fun n => !decide (nf n = Str.ofString "__name__")) = true := by decide +kernel
theorem noname_of {n : Nat} (h : n ∈ [51, 185, 12, 26, 143, 13, 138]) : nf n ≠ Str.ofString "__name__" := by
  have := List.all_eq_true.mp names_noname n h
  simpa using this
theorem cats_ok : (cats.all fun p => decide (nf p.1.1 ++ nf p.1.2 = nf p.2) && decide ((nf p.1.1).length + (nf p.1.2).length ≤ 1000)) = true := by decide +kernel
theorem lks {W : Wd} (h : IsW W) : Lks W := by
  obtain ⟨prog, w, K, V, loose, mean, mg, mb, fa, ca, f⟩ := W
  obtain ⟨kf, hfa, hca, hnf⟩ := h
  dsimp only at kf hfa hca hnf
  subst hfa hca hnf
  have cB : ∀ {x : Nat} {c : Callee}, Tb.call x = some c → (∀ i, c ≠ .fn i) → (∀ i, c ≠ .cls i) → (x, c) ∈ callsB := fun {x c} hc h1 h2 => by
    rcases call_cases hc with ⟨i, e, _⟩ | ⟨i, e, _⟩ | hm
    · exact absurd e (h1 i)
    · exact absurd e (h2 i)
    · exact hm
  have nB : ∀ {x : Nat} {c : Callee}, (x, c) ∈ callsB → nsIn K mainGlobals (nf x) = some none := fun hm => map_eq_at kf.k_callsB _ hm
  refine ⟨⟨nf_inj, nf_dbg, fun x i hx => ?_⟩, ⟨fun c x hx => ?_⟩, ⟨nf_ok, fun i j k hx => ?_⟩, ⟨fun i g hf => ?_, fun x i hx => ?_, fun c x i hx => ?_, ?_⟩, ⟨?_, ?_, ?_, ?_, ?_, ?_⟩, ⟨?_, ?_, ?_⟩⟩
  · exact gInt_some (map_eq_at kf.k_globs (x, i) (mem_of_lookup hx))
  · have hm : (c, x) ∈ attrL := by
      have hx : attrL.contains (c, x) = true := hx
      simpa using hx
    have := map_eq_at kf.k_attrs _ hm
    simp only [Prod.mk.injEq] at this
    obtain ⟨a1, a2, a3, a4, a5, a6⟩ := this
    exact ⟨a1, a2, a3, a4, a5, a6⟩
  · have := List.all_eq_true.mp cats_ok _ (mem_of_lookup (show cats.lookup (i, j) = some k from hx))
    simp only [Bool.and_eq_true, decide_eq_true_eq] at this
    exact ⟨this.1, by rw [sizeLine_eq]; exact Nat.le_trans this.2 (by decide)⟩
  · have hf : fnL[i]? = some g := hf
    refine ⟨fn_at kf hf, ?_⟩
    have hlen : faL.length = fnL.length := by kernel_rfl
    have hi : i < faL.length := by rw [hlen]; obtain ⟨z, _⟩ := List.getElem?_eq_some_iff.mp hf; exact z
    have hg : faL.getD i 0 = faL[i] := by rw [List.getD_eq_getElem?_getD, List.getElem?_eq_getElem hi]; rfl
    have := map_eq_at kf.k_fkeep _ (List.getElem_mem hi)
    simp only [Prod.mk.injEq] at this
    show keepIn K (.ref (faL.getD i 0)) = true ∧ isFn K (.ref (faL.getD i 0)) = true
    rw [hg]
    exact this
  · rcases call_cases hx with ⟨j, e, hm⟩ | ⟨j, e, _⟩ | hm
    · cases e; exact map_eq_at kf.k_callsF _ hm
    · cases e
    · have := List.all_eq_true.mp callsB_only _ hm; cases this
  · have := map_eq_at kf.k_meths _ (mem_of_lookup (show meths.lookup (c, x) = some i from hx))
    simp only [Prod.mk.injEq] at this
    exact this
  · exact ⟨by kernel_rfl, by kernel_rfl, by kernel_rfl, by kernel_rfl, by kernel_rfl, by kernel_rfl, by kernel_rfl⟩
  · intro x hx
    have hm := cB hx (fun _ e => by cases e) (fun _ e => by cases e)
    have e := (callsB_at hm).1 rfl
    subst e
    exact ⟨nB hm, boot_ok.1, noname_of (n := 51) (by simp)⟩
  · intro x hx
    have hm := cB hx (fun _ e => by cases e) (fun _ e => by cases e)
    have e := (callsB_at hm).2.2.2.1 rfl
    subst e
    exact ⟨nB hm, boot_ok.2.1, noname_of (n := 185) (by simp)⟩
  · intro x hx
    have hm := cB hx (fun _ e => by cases e) (fun _ e => by cases e)
    have e := (callsB_at hm).2.2.1 rfl
    subst e
    exact ⟨nB hm, boot_ok.2.2.1, noname_of (n := 12) (by simp)⟩
  · intro x hx
    have hm := cB hx (fun _ e => by cases e) (fun _ e => by cases e)
    have e := (callsB_at hm).2.2.2.2.2.1 rfl
    subst e
    exact ⟨nB hm, boot_ok.2.2.2.1, noname_of (n := 26) (by simp)⟩
  · intro x c hx
    rcases call_cases hx with ⟨j, e, hm⟩ | ⟨j, e, hm⟩ | hm
    · cases e
    · cases e
      have := map_eq_at kf.k_callsC _ hm
      simp only [Prod.mk.injEq] at this
      exact this
    · have := List.all_eq_true.mp callsB_only _ hm; cases this
  · intro c i hx
    exact map_eq_at kf.k_inits (c, i) (mem_of_lookup (show inits.lookup c = some i from hx))
  · intro x hx
    have hm := cB hx (fun _ e => by cases e) (fun _ e => by cases e)
    have e := (callsB_at hm).2.2.2.2.2.2 rfl
    subst e
    exact ⟨nB hm, boot_ok.2.2.2.2.1, noname_of (n := 143) (by simp)⟩
  · intro x hx
    have hm := cB hx (fun _ e => by cases e) (fun _ e => by cases e)
    have e := (callsB_at hm).2.1 rfl
    subst e
    exact ⟨nB hm, boot_ok.2.2.2.2.2.1, noname_of (n := 13) (by simp)⟩
  · intro x hx
    have hm := cB hx (fun _ e => by cases e) (fun _ e => by cases e)
    have e := (callsB_at hm).2.2.2.2.1 rfl
    subst e
    exact ⟨nB hm, boot_ok.2.2.2.2.2.2, noname_of (n := 138) (by simp)⟩

end Mine

namespace Mine
theorem hd.tw728904010328947111 : True := trivial
theorem hd.tw10727248033764811480 : True := trivial
theorem hd.tw16393493315030741486 : True := trivial
theorem hd.tw14032303710251760311 : True := trivial
theorem hd.tw26425463804135960 : True := trivial
theorem hd.tw2350349309619206374 : True := trivial
theorem hd.tw16244189857310113590 : True := trivial
theorem hd.tw16039824993472781790 : True := trivial
theorem hd.tw8189064311535668238 : True := trivial
theorem hd.tw12043420723688870331 : True := trivial
theorem hd.tw9762872527117769658 : True := trivial
theorem hd.tw5089235407568680550 : True := trivial
theorem hd.tw17502677235029458409 : True := trivial
theorem hd.tw4068933124894957555 : True := trivial
theorem hd.tw17379287091283010612 : True := trivial
theorem hd.tw7854111351294004744 : True := trivial
theorem hd.tw359313982320049065 : True := trivial
theorem hd.tw8609351116199087170 : True := trivial
theorem hd.tw13285133528070534704 : True := trivial
theorem hd.tw2304311442786299043 : True := trivial
theorem hd.tw17843490464661113860 : True := trivial
theorem hd.tw9244321171653502345 : True := trivial
theorem hd.tw16240987189780228909 : True := trivial
theorem hd.tw49274679934790565 : True := trivial
theorem hd.tw7366208706002141716 : True := trivial
theorem hd.tw16640546478005224243 : True := trivial
theorem hd.tw8268277133935991078 : True := trivial
theorem hd.tw402640490398009360 : True := trivial
theorem hd.tw7540655947842036084 : True := trivial
theorem hd.tw2386827423013361158 : True := trivial
theorem hd.tw10403243965636340961 : True := trivial
theorem hd.tw9533747618267967006 : True := trivial
theorem hd.tw10216474801634566288 : True := trivial
theorem hd.tw4971549296188076032 : True := trivial
theorem hd.tw14478148883734587675 : True := trivial
theorem hd.tw17919194246423945575 : True := trivial
theorem hd.tw15967140613478806237 : True := trivial
theorem hd.tw15642763164714097627 : True := trivial
theorem hd.tw8025032847418708242 : True := trivial
theorem hd.tw2216850387143573719 : True := trivial
theorem hd.tw9960721518486171458 : True := trivial
theorem hd.tw13220430256171166289 : True := trivial
theorem hd.tw12112201142124510154 : True := trivial
theorem hd.tw5147079676372830966 : True := trivial
theorem hd.tw7355570028127101125 : True := trivial
theorem hd.tw8381844023166312768 : True := trivial
theorem hd.tw17213754286329925777 : True := trivial
theorem hd.tw11955717195305443320 : True := trivial
theorem hd.tw991583007596301734 : True := trivial
theorem hd.tw1129884963351977449 : True := trivial
theorem hd.tw17252143746492648416 : True := trivial
theorem hd.tw4851647983119433812 : True := trivial
theorem hd.tw15220180469806662145 : True := trivial
theorem hd.tw3451239065008710300 : True := trivial
theorem hd.tw15833661619300960221 : True := trivial
theorem hd.tw6291416237084387574 : True := trivial
theorem hd.tw4702841417184801058 : True := trivial
theorem hd.tw7270182246851987180 : True := trivial
theorem hd.tw8716120427605611371 : True := trivial
theorem hd.tw12070051907170230399 : True := trivial
theorem hd.tw13483081372092288885 : True := trivial
theorem hd.tw10458740792067480800 : True := trivial
theorem hd.tw15910714762333108613 : True := trivial
theorem hd.tw1800889605409440832 : True := trivial
theorem hd.tw10012880186880212623 : True := trivial
theorem hd.tw7289634563603522867 : True := trivial
theorem hd.tw4272726840584523970 : True := trivial
theorem hd.tw15643275761693703936 : True := trivial
theorem hd.tw14768889098011018680 : True := trivial
theorem hd.tw15238134620097496406 : True := trivial
theorem hd.tw3759623122121258479 : True := trivial
theorem hd.tw17001982702790524580 : True := trivial
theorem hd.tw10603584201595350602 : True := trivial
theorem hd.tw5987830557187376847 : True := trivial
theorem hd.tw13267510147771200024 : True := trivial
theorem hd.tw10752148897807903841 : True := trivial
theorem hd.tw4275282108206863653 : True := trivial
theorem hd.tw2457190517430149469 : True := trivial
theorem hd.tw11631947586910100387 : True := trivial
theorem hd.tw7028611270464810887 : True := trivial
theorem hd.tw16211521421427940678 : True := trivial
theorem hd.tw7082855905992002993 : True := trivial
theorem hd.tw8184699220007379433 : True := trivial
theorem hd.tw15948780112781908787 : True := trivial
theorem hd.tw17901334829092211166 : True := trivial
theorem hd.tw6547078798241139092 : True := trivial
theorem hd.tw5373601922739893978 : True := trivial
theorem hd.tw17258206423299326598 : True := trivial
theorem hd.tw6785817131721698500 : True := trivial
theorem hd.tw6423634429210846174 : True := trivial
theorem hd.tw9345676750909349944 : True := trivial
theorem hd.tw3694398316872202419 : True := trivial
theorem hd.tw1359830224848277088 : True := trivial
theorem hd.tw16259696140248634718 : True := trivial
theorem hd.tw14705683404202351889 : True := trivial
theorem hd.tw11713075325732132258 : True := trivial
theorem hd.tw3480954088277226078 : True := trivial
theorem hd.tw3109861748172591687 : True := trivial
theorem hd.tw11117797201346649052 : True := trivial
theorem hd.tw395138700845864316 : True := trivial
theorem hd.tw12647368939536790636 : True := trivial
theorem hd.tw11754176132448286083 : True := trivial
theorem hd.tw8134915037123179040 : True := trivial
theorem hd.tw6990203504111849199 : True := trivial
theorem hd.tw22551697357593593 : True := trivial
theorem hd.tw13181700845877081190 : True := trivial
theorem hd.tw13855946660403688772 : True := trivial
theorem hd.tw3381375190539634487 : True := trivial
theorem hd.tw16713699803418581334 : True := trivial
theorem hd.tw4402725079659364252 : True := trivial
theorem hd.tw13903934854276604550 : True := trivial
theorem hd.tw8458067239894703972 : True := trivial
theorem hd.tw11213053971927718326 : True := trivial
theorem hd.tw9641152695372364146 : True := trivial
theorem hd.tw3953601041324332601 : True := trivial
theorem hd.tw13893168526513508166 : True := trivial
theorem hd.tw17183224562656869120 : True := trivial
theorem hd.tw3915529967508079626 : True := trivial
theorem hd.tw8727321023445011275 : True := trivial
theorem hd.tw6982297934935202809 : True := trivial
theorem hd.tw7746578258024575070 : True := trivial
theorem hd.tw15367242080415987702 : True := trivial
theorem hd.tw6276725880618359904 : True := trivial
theorem hd.tw6411954120941647267 : True := trivial
theorem hd.tw18219297243305740317 : True := trivial
theorem hd.tw6820862383352777685 : True := trivial
theorem hd.tw10111801491309104144 : True := trivial
theorem hd.tw2603259988358896889 : True := trivial
theorem hd.tw5716766192118558609 : True := trivial
theorem hd.tw3646829019195819677 : True := trivial
theorem hd.tw1506431575118746342 : True := trivial
theorem hd.tw6407587892757256292 : True := trivial
theorem hd.tw16970440968685349367 : True := trivial
theorem hd.tw16794629799341752650 : True := trivial
theorem hd.tw1409312971732116557 : True := trivial
theorem hd.tw18300207936620678264 : True := trivial
theorem hd.tw6082411064634330575 : True := trivial
theorem hd.tw15852365999677673905 : True := trivial
theorem hd.tw15615420239508185596 : True := trivial
theorem hd.tw15416985209724490359 : True := trivial
theorem hd.tw7494724483528729301 : True := trivial
theorem hd.tw16171809288044610508 : True := trivial
theorem hd.tw11893437276241958245 : True := trivial
theorem hd.tw1382963296337349011 : True := trivial
theorem hd.tw3182187488490625086 : True := trivial
theorem hd.tw10879034167726328663 : True := trivial
theorem hd.tw14400467628812073631 : True := trivial
theorem hd.tw15683763237869141255 : True := trivial
theorem hd.tw13321331477185743149 : True := trivial
theorem hd.tw13225837485096350037 : True := trivial
theorem hd.tw12050417470231563642 : True := trivial
theorem hd.tw3443669649825651883 : True := trivial
theorem hd.tw3442329435671937591 : True := trivial
theorem hd.tw2845679848157327705 : True := trivial
theorem hd.tw17681399029576232318 : True := trivial
theorem hd.tw15083628210047938546 : True := trivial
theorem hd.tw6123773746684550334 : True := trivial
theorem hd.tw3795277891434052102 : True := trivial
theorem hd.tw3309697970292668127 : True := trivial
theorem hd.tw5635641802508607975 : True := trivial
theorem hd.tw2114630138375439770 : True := trivial
theorem hd.tw17574625026820762457 : True := trivial
theorem hd.tw6305734824756694309 : True := trivial
theorem hd.tw15837987909243819085 : True := trivial
theorem hd.tw6998783941825042932 : True := trivial
theorem hd.tw5343241284826551009 : True := trivial
theorem hd.tw9657781627882305391 : True := trivial
theorem hd.tw11953376511379268794 : True := trivial
theorem hd.tw12023040214023829324 : True := trivial
theorem hd.tw701787995468756871 : True := trivial
theorem hd.tw18343703819029505601 : True := trivial
theorem hd.tw10424393626065333798 : True := trivial
theorem hd.tw11402939732021071671 : True := trivial
theorem hd.tw6164396464334811476 : True := trivial
theorem hd.tw4014540891139286612 : True := trivial
theorem hd.tw18293732401869909652 : True := trivial
theorem hd.tw13431754692932380062 : True := trivial
theorem hd.tw13770079208771991547 : True := trivial
theorem hd.tw4706079058837389440 : True := trivial
theorem hd.tw6038821095411175016 : True := trivial
theorem hd.tw4225703048834024713 : True := trivial
theorem hd.tw13277076834127875243 : True := trivial
theorem hd.tw2708950531961675432 : True := trivial
theorem hd.tw1760603350576429475 : True := trivial
theorem hd.tw16722109127936396110 : True := trivial
theorem hd.tw5282504435634884242 : True := trivial
theorem hd.tw9741134391959003819 : True := trivial
theorem hd.tw4065347644161347641 : True := trivial
theorem hd.tw13217225542625558698 : True := trivial
theorem hd.tw7540741092611519060 : True := trivial
theorem hd.tw978945382295711627 : True := trivial
theorem hd.tw1882180444382439491 : True := trivial
theorem hd.tw9763420282994701918 : True := trivial
theorem hd.tw4377701919642642989 : True := trivial
theorem hd.tw922143313871775805 : True := trivial
theorem hd.tw16772102934027710169 : True := trivial
theorem hd.tw8516288146210602744 : True := trivial
theorem hd.tw6293948785866598258 : True := trivial
theorem hd.tw16302227732802510677 : True := trivial
theorem hd.tw12631932088317031055 : True := trivial
theorem hd.tw4478964076566166474 : True := trivial
theorem hd.tw14103535550066685397 : True := trivial
theorem hd.tw1222794163293265305 : True := trivial
theorem hd.tw7891253978561527248 : True := trivial
theorem hd.tw7654286748164834634 : True := trivial
theorem hd.tw11660266114150955751 : True := trivial
theorem hd.tw8960069828448710407 : True := trivial
theorem hd.tw5292301768408028288 : True := trivial
theorem hd.tw13466754112058979494 : True := trivial
theorem hd.tw14598272352848978880 : True := trivial
theorem hd.tw7534799579077118603 : True := trivial
theorem hd.tw8879563391730754479 : True := trivial
theorem hd.tw9908193460736022307 : True := trivial
theorem hd.tw6767318904944593275 : True := trivial
theorem hd.tw9430268157657104642 : True := trivial
theorem hd.tw5245234834050458271 : True := trivial
theorem hd.tw18245042118932799458 : True := trivial
theorem hd.tw11917015161858427179 : True := trivial
theorem hd.tw9421340871869096474 : True := trivial
theorem hd.tw5480042469492414594 : True := trivial
theorem hd.tw16194383521188589630 : True := trivial
theorem hd.tw6906073325868019850 : True := trivial
theorem hd.tw7628703163842673926 : True := trivial
theorem hd.tw8493152586797012548 : True := trivial
theorem hd.tw9496365245306024149 : True := trivial
theorem hd.tw15279998641719260112 : True := trivial
theorem hd.tw4297731678662094536 : True := trivial
theorem hd.tw6924109203229866365 : True := trivial
theorem hd.tw6819123309680001836 : True := trivial
theorem hd.tw8226494294326810461 : True := trivial
theorem hd.tw13866372431405929976 : True := trivial
theorem hd.tw7914949630228597729 : True := trivial
theorem hd.tw15529170255622000948 : True := trivial
theorem hd.tw1589133516308662214 : True := trivial
theorem hd.tw4172343393113369950 : True := trivial
theorem hd.tw1452849714261714991 : True := trivial
theorem hd.tw17542962492245011380 : True := trivial
theorem hd.tw10246146449241189800 : True := trivial
theorem hd.tw11128854368766332075 : True := trivial
theorem hd.tw7519716089354478335 : True := trivial
theorem hd.tw14353793391729792155 : True := trivial
theorem hd.tw15595854959937240912 : True := trivial
theorem hd.tw9719896912496429819 : True := trivial
theorem hd.tw18166333605607142505 : True := trivial
theorem hd.tw5657824000916062451 : True := trivial
theorem hd.tw11319892378374348655 : True := trivial
theorem hd.tw15103106377680225435 : True := trivial
theorem hd.tw6578402527460240241 : True := trivial
theorem hd.tw1600037746751723098 : True := trivial
theorem hd.tw16154546982801380032 : True := trivial
theorem hd.tw17177331786930743035 : True := trivial
theorem hd.tw17588044629489971554 : True := trivial
theorem hd.tw10170382586518783626 : True := trivial
theorem hd.tw2323474266016966308 : True := trivial
theorem hd.tw190519026028168232 : True := trivial
theorem hd.tw5148922909946612681 : True := trivial
theorem hd.tw15010094358375428861 : True := trivial
end Mine
namespace Mine
theorem law_names : ([("script", .local), ("tape", .cell), ("heads", .local), ("equations", .local), ("calls", .local), ("left", .local), ("right", .local), ("clause_", .local), ("plan", .local), ("once", .local), ("often", .local), ("pair", .local), ("range", .globalImplicit), ("_law_digit", .globalImplicit), ("_law_equations", .globalImplicit), ("_law_calls", .globalImplicit), ("_law_joined", .globalImplicit), ("KernelClause", .globalImplicit), ("F_CALL1", .globalImplicit), ("tuple", .globalImplicit), ("classify", .globalImplicit), ("_law_behind_head", .globalImplicit)] : List (String × NameKind)).map (fun p => (Str.ofString p.1, p.2)) = law_sc.map (fun p => (nf p.1, p.2)) := by kernel_rfl
end Mine
set_option Elab.async true
theorem Mine.hd : PySem.Challenge.rw_rh0089_01.Holds := by
  w_on; o_law; k_head
  (case hw => w_witness2)
  k_go0
  all_goals try k_fold
  rename_i w s₀ s₁ mg mb G Y fa o pm doc ho hg KX X V GL T B TE TW w10 w9 M w8 w7 hcd w6 hs hlay0 hL1 hr1 hl2 w5 w4 w3 w2 w1 hL ra w1' r0 hI hr hcond1 hcond' K0 hD h1 tk1 F ww right N0 X0
  let W : Mine.Wd := ⟨PySem.Challenge.rw_rh0089_01.prog, w, Mine.hd.heap_1_39 w.params, Mine.hd.view_1_40, looseW Mine.hd.view_1_40 [], ExcName.means s₀.heap, mg, mb, fun i => Mine.faL.getD i 0, fun i => Mine.caL.getD i 0, Mine.nf⟩
  have kf : Mine.KFacts (Mine.hd.heap_1_39 w.params) := ⟨by kernel_rfl, by kernel_rfl, by kernel_rfl, by kernel_rfl, by kernel_rfl, by kernel_rfl, by kernel_rfl, by kernel_rfl, by kernel_rfl⟩
  have Ls : Mine.Lks W := Mine.lks ⟨kf, rfl, rfl, rfl⟩
  refine Mine.law_go (W := W) (G := ⟨_, _, _, _, _, _, fa, _, [], callerA, s₁.heap, s₁.heap, fun _ => 0, _⟩) (k := 30) (k' := 30) (vs := w2) (ns := w6) (c := s₁.heap.objs.size + 1) Ls ?g F N0 ?zc ?ho ?hm hL hI ?hlen ?hk1 ?hk2 rfl ?hsw ?hclos ?hcell ?hnames ?hx ?hit ?hrest ?hQ
  case hlen => omega
  case g =>
    refine ⟨K0, KX, T, rfl, fun x => ?_, by show callerA.depth + 1 + 8 < recursionLimit; decide, by show callerA.units + 3 + 8 * 8 + 80 < cLine; decide⟩
    refine Eq.trans (congrArg (List.lookup (Mine.nf x)) (?_ : _ = Mine.law_sc.map fun p => (Mine.nf p.1, p.2))) (Mine.lookup_map Mine.law_sc x)
    exact Mine.law_names
  case zc => kernel_rfl
  case ho => exact right.trans (congrArg Data.cell (by kernel_rfl))
  case hm => kernel_rfl
  case hk1 => kernel_rfl
  case hk2 => kernel_rfl
  case hx => kernel_rfl
  case hcell => decide
  case hnames => decide
  case hit => kernel_rfl
  case hrest => kernel_rfl
  case hsw => kernel_rfl
  case hclos => kernel_rfl
  case hQ =>
    intro m' h tk F'
    show GoodW _ _ _ _ _ (.ok (.ret (.bool true))) _
    refine goodW_bool F' hg (raisesW_false ?_) ?_
    · wrow_none_raised
    · kc_post

set_option Elab.async false
theorem PySem.Challenge.cw_rh0089_01_holds : PySem.Challenge.rw_rh0089_01.Holds :=
  Mine.hd
