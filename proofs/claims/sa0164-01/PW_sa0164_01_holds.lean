import PyProof.Rows.All
import Wide.All
import OpenK.AllK
import Wide.FinOn
import KE.KEqDict
import KE.KItem
import PyProof.SliceMore
import KE.KRevSl
import KE.KDictSum
import KE.KDictOf
import KE.KSortedM
import PyProof.IsiPairs
import PyProof.IsInstanceH
import KE.KTryMore
import OpenK.KOwn
import PyProof.InstStoreFacts
import PyProof.CompFree
import PyProof.WalksMore
import PyProof.DictCompW
import PyProof.DictWalks
import Lean
import PySem.Challenge.RW_sa0164_01
open PySem PySem.W PyProof.Rows
set_option Elab.async false
set_option linter.all false
set_option maxRecDepth 100000
section
set_option backward.match.sparseCases false
namespace Mine
set_option genInjectivity false in
set_option genSizeOf false in
inductive Y2 {T0 : Sort _} {T1 : Sort _} (p : T0 → T1 → Prop) : Prop | mk (x0 : T0) (x1 : T1) (h : p x0 x1)
set_option genInjectivity false in
set_option genSizeOf false in
inductive Y3 {T0 : Sort _} {T1 : Sort _} {T2 : Sort _} (p : T0 → T1 → T2 → Prop) : Prop | mk (x0 : T0) (x1 : T1) (x2 : T2) (h : p x0 x1 x2)
set_option genInjectivity false in
set_option genSizeOf false in
inductive Y4 {T0 : Sort _} {T1 : Sort _} {T2 : Sort _} {T3 : Sort _} (p : T0 → T1 → T2 → T3 → Prop) : Prop | mk (x0 : T0) (x1 : T1) (x2 : T2) (x3 : T3) (h : p x0 x1 x2 x3)
set_option genInjectivity false in
set_option genSizeOf false in
inductive Y5 {T0 : Sort _} {T1 : Sort _} {T2 : Sort _} {T3 : Sort _} {T4 : Sort _} (p : T0 → T1 → T2 → T3 → T4 → Prop) : Prop | mk (x0 : T0) (x1 : T1) (x2 : T2) (x3 : T3) (x4 : T4) (h : p x0 x1 x2 x3 x4)
set_option genInjectivity false in
set_option genSizeOf false in
inductive Y6 {T0 : Sort _} {T1 : Sort _} {T2 : Sort _} {T3 : Sort _} {T4 : Sort _} {T5 : Sort _} (p : T0 → T1 → T2 → T3 → T4 → T5 → Prop) : Prop | mk (x0 : T0) (x1 : T1) (x2 : T2) (x3 : T3) (x4 : T4) (x5 : T5) (h : p x0 x1 x2 x3 x4 x5)
set_option genInjectivity false in
set_option genSizeOf false in
inductive Y8 {T0 : Sort _} {T1 : Sort _} {T2 : Sort _} {T3 : Sort _} {T4 : Sort _} {T5 : Sort _} {T6 : Sort _} {T7 : Sort _} (p : T0 → T1 → T2 → T3 → T4 → T5 → T6 → T7 → Prop) : Prop | mk (x0 : T0) (x1 : T1) (x2 : T2) (x3 : T3) (x4 : T4) (x5 : T5) (x6 : T6) (x7 : T7) (h : p x0 x1 x2 x3 x4 x5 x6 x7)
set_option genInjectivity false in
set_option genSizeOf false in
inductive C3 (p0 p1 p2 : Prop) : Prop | mk (h0 : p0) (h1 : p1) (h2 : p2)
set_option genInjectivity false in
set_option genSizeOf false in
inductive C4 (p0 p1 p2 p3 : Prop) : Prop | mk (h0 : p0) (h1 : p1) (h2 : p2) (h3 : p3)
set_option genInjectivity false in
set_option genSizeOf false in
inductive C5 (p0 p1 p2 p3 p4 : Prop) : Prop | mk (h0 : p0) (h1 : p1) (h2 : p2) (h3 : p3) (h4 : p4)
set_option genInjectivity false in
set_option genSizeOf false in
inductive C6 (p0 p1 p2 p3 p4 p5 : Prop) : Prop | mk (h0 : p0) (h1 : p1) (h2 : p2) (h3 : p3) (h4 : p4) (h5 : p5)
set_option genInjectivity false in
set_option genSizeOf false in
inductive C7 (p0 p1 p2 p3 p4 p5 p6 : Prop) : Prop | mk (h0 : p0) (h1 : p1) (h2 : p2) (h3 : p3) (h4 : p4) (h5 : p5) (h6 : p6)
set_option genInjectivity false in
set_option genSizeOf false in
inductive C8 (p0 p1 p2 p3 p4 p5 p6 p7 : Prop) : Prop | mk (h0 : p0) (h1 : p1) (h2 : p2) (h3 : p3) (h4 : p4) (h5 : p5) (h6 : p6) (h7 : p7)
set_option genInjectivity false
set_option genSizeOf false
theorem cps {G : Prop} (h : ∀ Q : Prop, (G → Q) → Q) : G := h G id
theorem nn {α : Type _} {a : α} {P : Prop} (h : none = some a) : P := nomatch h
theorem ns {α : Type _} {a : α} {P : Prop} (h : some a = none) : P := nomatch h
theorem tf {P : Prop} (h : true = false) : P := nomatch h
theorem ft {P : Prop} (h : false = true) : P := nomatch h
theorem C3.h0 {p q r : Prop} (h : C3 p q r) : p := h.casesOn fun a _ _ => a
theorem C3.h1 {p q r : Prop} (h : C3 p q r) : q := h.casesOn fun _ a _ => a
theorem C3.h2 {p q r : Prop} (h : C3 p q r) : r := h.casesOn fun _ _ a => a
inductive VV where
  | none
  | bool (b : Bool)
  | int (i : Int)
  | str (s : Str)
  | tup (xs : List VV)
  | ref (i : Nat)
  | val (v : Value)
  | rng (a b c : Int)
  | junk
  deriving Inhabited
inductive VO where
  | list (xs : List VV)
  | edict
  | idict (es : List (Int × VV))
  | sdict (es : List (Str × VV))
  | tdict (es : List (List Int × VV))
  | attrs (fs : List (Str × VV))
  | inst (C : Addr) (d : Nat) (e : Bool)
  | exc0 (C : Addr)
  | set (xs : List Int)
  | dead
  deriving Inhabited
noncomputable def okLen (n : Nat) : Bool := Nat.ble n 16000000
noncomputable abbrev VH := List VO
noncomputable abbrev VE := List (Str × VV)
inductive Res (α : Type) where
  | ok (a : α) (σ : VH)
  | exc (i : Nat) (σ : VH)
  | stuck
theorem rso {α : Type} {a : α} {s : VH} {P : Prop} (h : Res.stuck = .ok a s) : P := nomatch h
theorem reo {α : Type} {a : α} {i : Nat} {s t : VH} {P : Prop} (h : Res.exc i t = .ok a s) : P := nomatch h
noncomputable def Res.bind {α β : Type} (r : Res α) (f : α → VH → Res β) : Res β := match r with
  | .ok a σ => f a σ
  | .exc i σ => .exc i σ
  | .stuck => .stuck
noncomputable def Res.of {α : Type} (o : Option α) (σ : VH) : Res α := match o with
  | some a => .ok a σ
  | none => .stuck
noncomputable def assocSet {K V : Type} [DecidableEq K] (k : K) (v : V) : List (K × V) → List (K × V)
  | [] => [(k, v)]
  | (y, u) :: r => if y = k then (y, v) :: r else (y, u) :: assocSet k v r
noncomputable def assocGet {K V : Type} [DecidableEq K] (k : K) : List (K × V) → Option V
  | [] => none
  | (y, u) :: r => if y = k then some u else assocGet k r
noncomputable def assocDel {K V : Type} [DecidableEq K] (k : K) : List (K × V) → List (K × V)
  | [] => []
  | (y, u) :: r => if y = k then r else (y, u) :: assocDel k r
inductive VF where
  | next | brk | cont
  | ret (v : VV)
inductive It where
  | lst (i : Nat) (k : Nat)
  | tup (xs : List VV)
  | rng (i stop step : Int)
  | keys (i : Nat) (k : Nat)
set_option genInjectivity false in
set_option genSizeOf false in
set_option genCtorIdx false in
inductive XE where
  | const (c : Const) (k : Nat) (p : Pos)
  | name (x : Str) (p : Pos)
  | tuple (es : List XE) (k : Nat) (p : Pos)
  | list (es : List XE) (p : Pos)
  | dict0 (p : Pos)
  | dict1 (i : Int) (k : Nat) (q : Pos) (v : XE) (p : Pos)
  | bin (l : XE) (op : Operator) (r : XE) (p : Pos)
  | neg (x : XE) (p : Pos)
  | cmp (l : XE) (op : CmpOp) (r : XE) (p : Pos)
  | or (x y : XE) (p : Pos)
  | and (x y : XE) (p : Pos)
  | ifx (c x y : XE) (p : Pos)
  | attr (x : XE) (a : Str) (p : Pos)
  | sub (x i : XE) (p : Pos)
  | take (x : Str) (px : Pos) (k kk : Nat) (pp p2 p : Pos)
  | drop (x : Str) (px : Pos) (lo : XE) (p2 p : Pos)
  | rev (x : Str) (px : Pos) (kk : Nat) (pp p1 p2 p : Pos)
  | callM (x : XE) (name : Str) (q : Pos) (args : List XE) (p : Pos)
  | callN (f : Str) (q : Pos) (args : List XE) (p : Pos)
  | comp (e : XE) (x : Str) (px : Pos) (it : XE) (ifs : List XE) (csc : Scope) (p : Pos)
  deriving Inhabited
set_option genInjectivity false in
set_option genSizeOf false in
set_option genCtorIdx false in
inductive XT where
  | name (x : Str) (p : Pos)
  | attr (x : XE) (a : Str) (p : Pos)
  | sub (x i : XE) (p : Pos)
  | tup (x : Str) (px : Pos) (y : Str) (py : Pos) (k : Nat) (p : Pos)
set_option genInjectivity false in
set_option genSizeOf false in
set_option genCtorIdx false in
inductive XS where
  | expr (e : XE) (p : Pos)
  | pass (p : Pos)
  | cont (p : Pos)
  | ret0 (p : Pos)
  | ret (e : XE) (p : Pos)
  | asg (t : XT) (e : XE) (p : Pos)
  | asgL (y : Str) (py : Pos) (e : XE) (x : Str) (px : Pos) (it : XE) (ifs : List XE) (csc : Scope) (q p : Pos)
  | asgD (y : Str) (py kp : Pos) (w : XE) (x : Str) (px : Pos) (it a b : XE) (cp : Pos) (csc : Scope) (q p : Pos)
  | augN (x : Str) (px : Pos) (e : XE) (p : Pos)
  | augA (x : XE) (a : Str) (px : Pos) (e : XE) (p : Pos)
  | augS (x k : XE) (px : Pos) (e : XE) (p : Pos)
  | del (x i : XE) (px p : Pos)
  | delF (x : Str) (q : Pos) (lo : XE) (p2 px p : Pos)
  | ite (c : XE) (a b : List XS) (p : Pos)
  | whl (c : XE) (a : List XS) (p : Pos)
  | for (x : Str) (px : Pos) (it : XE) (body : List XS) (p : Pos)
  | raise (e : XE) (p : Pos)
  | try (e : XE) (p1 : Pos) (c : Str) (cp : Pos) (n : Str) (np ap p2 p3 p : Pos)
  deriving Inhabited
noncomputable def src (e : XE) : Expr := XE.rec (motive_1 := fun _ => Expr) (motive_2 := fun _ => List Expr) .Constant .Name (fun _ k p es => .Tuple es k p) (fun _ p es => .List es p) (fun p => .Dict [] [] p) (fun i k q _ p v => .Dict [some (.Constant (.int i) k q)] [v] p)
  (fun _ op _ p l r => .BinOp l op r p) (fun _ p x => .UnaryOp .USub x p) (fun _ op _ p l r => .Compare l [op] [r] p) (fun _ _ p x y => .BoolOp .Or [x, y] p) (fun _ _ p x y => .BoolOp .And [x, y] p) (fun _ _ _ p c x y => .IfExp c x y p)
  (fun _ a p x => .Attribute x a p) (fun _ _ p x i => .Subscript x i p) (fun x px k kk pp p2 p => .Subscript (.Name x px) (.Slice none (some (.Constant (.int (.ofNat k)) kk pp)) none p2) p) (fun x px _ p2 p lo => .Subscript (.Name x px) (.Slice (some lo) none none p2) p)
  (fun x px kk pp p1 p2 p => .Subscript (.Name x px) (.Slice none none (some (.UnaryOp .USub (.Constant (.int 1) kk pp) p1)) p2) p) (fun _ m q _ p x as => .Call (.Attribute x m q) as [] p) (fun f q _ p as => .Call (.Name f q) as [] p)
  (fun _ x px _ _ csc p e it ifs => .ListComp e [⟨.Name x px, it, ifs, 0⟩] csc p) [] (fun _ _ e es => e :: es) e
noncomputable def srcs (l : List XE) : List Expr := XE.rec_1 (motive_1 := fun _ => Expr) (motive_2 := fun _ => List Expr) .Constant .Name (fun _ k p es => .Tuple es k p) (fun _ p es => .List es p) (fun p => .Dict [] [] p) (fun i k q _ p v => .Dict [some (.Constant (.int i) k q)] [v] p)
  (fun _ op _ p l r => .BinOp l op r p) (fun _ p x => .UnaryOp .USub x p) (fun _ op _ p l r => .Compare l [op] [r] p) (fun _ _ p x y => .BoolOp .Or [x, y] p) (fun _ _ p x y => .BoolOp .And [x, y] p) (fun _ _ _ p c x y => .IfExp c x y p)
  (fun _ a p x => .Attribute x a p) (fun _ _ p x i => .Subscript x i p) (fun x px k kk pp p2 p => .Subscript (.Name x px) (.Slice none (some (.Constant (.int (.ofNat k)) kk pp)) none p2) p) (fun x px _ p2 p lo => .Subscript (.Name x px) (.Slice (some lo) none none p2) p)
  (fun x px kk pp p1 p2 p => .Subscript (.Name x px) (.Slice none none (some (.UnaryOp .USub (.Constant (.int 1) kk pp) p1)) p2) p) (fun _ m q _ p x as => .Call (.Attribute x m q) as [] p) (fun f q _ p as => .Call (.Name f q) as [] p)
  (fun _ x px _ _ csc p e it ifs => .ListComp e [⟨.Name x px, it, ifs, 0⟩] csc p) [] (fun _ _ e es => e :: es) l
noncomputable def srcT : XT → Expr
  | .name x p => .Name x p
  | .attr x a p => .Attribute (src x) a p
  | .sub x i p => .Subscript (src x) (src i) p
  | .tup x px y py k p => .Tuple [.Name x px, .Name y py] k p
noncomputable def srcS (s : XS) : Stmt := XS.rec (motive_1 := fun _ => Stmt) (motive_2 := fun _ => List Stmt) (fun e p => .Expr (src e) p) .Pass .Continue (.Return none) (fun e p => .Return (some (src e)) p) (fun t e p => .Assign [srcT t] (src e) p)
  (fun y py e x px it ifs csc q p => .Assign [.Name y py] (.ListComp (src e) [⟨.Name x px, src it, srcs ifs, 0⟩] csc q) p) (fun y py kp w x px it a b cp csc q p => .Assign [.Name y py] (.DictComp (.Name x kp) (src w) [⟨.Name x px, src it, [.Compare (src a) [.NotEq] [src b] cp], 0⟩] csc q) p)
  (fun x px e p => .AugAssign (.Name x px) .Add (src e) p) (fun x a px e p => .AugAssign (.Attribute (src x) a px) .Add (src e) p) (fun x k px e p => .AugAssign (.Subscript (src x) (src k) px) .Add (src e) p)
  (fun x i px p => .Delete [.Subscript (src x) (src i) px] p) (fun x q lo p2 px p => .Delete [.Subscript (.Name x q) (.Slice (some (src lo)) none none p2) px] p) (fun c _ _ p a b => .If (src c) a b p) (fun c _ p a => .While (src c) a [] p)
  (fun x px it _ p b => .For (.Name x px) (src it) b [] p) (fun e p => .Raise (some (src e)) none p) (fun e p1 c cp n np ap p2 p3 p => .Try [.Return (some (src e)) p1] [.ExceptHandler (some (.Name c cp)) (some n) [.Return (some (.Attribute (.Name n np) "ball" ap)) p2] p3] [] [] p) [] (fun _ _ s ss => s :: ss) s
noncomputable def srcSs (l : List XS) : List Stmt := XS.rec_1 (motive_1 := fun _ => Stmt) (motive_2 := fun _ => List Stmt) (fun e p => .Expr (src e) p) .Pass .Continue (.Return none) (fun e p => .Return (some (src e)) p) (fun t e p => .Assign [srcT t] (src e) p)
  (fun y py e x px it ifs csc q p => .Assign [.Name y py] (.ListComp (src e) [⟨.Name x px, src it, srcs ifs, 0⟩] csc q) p) (fun y py kp w x px it a b cp csc q p => .Assign [.Name y py] (.DictComp (.Name x kp) (src w) [⟨.Name x px, src it, [.Compare (src a) [.NotEq] [src b] cp], 0⟩] csc q) p)
  (fun x px e p => .AugAssign (.Name x px) .Add (src e) p) (fun x a px e p => .AugAssign (.Attribute (src x) a px) .Add (src e) p) (fun x k px e p => .AugAssign (.Subscript (src x) (src k) px) .Add (src e) p)
  (fun x i px p => .Delete [.Subscript (src x) (src i) px] p) (fun x q lo p2 px p => .Delete [.Subscript (.Name x q) (.Slice (some (src lo)) none none p2) px] p) (fun c _ _ p a b => .If (src c) a b p) (fun c _ p a => .While (src c) a [] p)
  (fun x px it _ p b => .For (.Name x px) (src it) b [] p) (fun e p => .Raise (some (src e)) none p) (fun e p1 c cp n np ap p2 p3 p => .Try [.Return (some (src e)) p1] [.ExceptHandler (some (.Name c cp)) (some n) [.Return (some (.Attribute (.Name n np) "ball" ap)) p2] p3] [] [] p) [] (fun _ _ s ss => s :: ss) l
noncomputable def dumE : XE := .dict0 ⟨0, 0, 0, 0⟩
noncomputable def dumS : XS := .pass ⟨0, 0, 0, 0⟩
noncomputable def ofSl (g : Expr → XE) (x : Str) (px : Pos) (a b c : Option Expr) (p2 p : Pos) : XE := match a with
  | some lo => .drop x px (g lo) p2 p
  | none => match b with
    | some hi => (match g hi with
      | .const (.int (.ofNat k)) kk pp => .take x px k kk pp p2 p
      | _ => dumE)
    | none => match c.map g with
      | some (.neg (.const _ kk pp) p1) => .rev x px kk pp p1 p2 p
      | _ => dumE
noncomputable def ofSubE (g : Expr → XE) (x i : Expr) (p : Pos) : XE := match i with
  | .Slice a b c p2 => (match g x with
    | .name x px => ofSl g x px a b c p2 p
    | _ => dumE)
  | i => .sub (g x) (g i) p
noncomputable def ofCall (f : XE) (as : List XE) (p : Pos) : XE := match f with
  | .attr x m q => .callM x m q as p
  | .name f q => .callN f q as p
  | _ => dumE
noncomputable def nmOf : XE → Str × Pos
  | .name x p => (x, p)
  | _ => ("", ⟨0, 0, 0, 0⟩)
noncomputable def ofGen (g : Expr → XE) (gs : List Comprehension) : (Str × Pos) × XE × List XE := match gs with
  | c :: _ => (nmOf (g c.target), g c.iter, c.ifs.map g)
  | [] => (("", ⟨0, 0, 0, 0⟩), dumE, [])
noncomputable def ofComp (e : XE) (r : (Str × Pos) × XE × List XE) (csc : Scope) (p : Pos) : XE := .comp e r.1.1 r.1.2 r.2.1 r.2.2 csc p
noncomputable def ofDict (g : Expr → XE) (ks : List (Option Expr)) (vs : List Expr) (p : Pos) : XE := match ks, vs with
  | some k :: _, v :: _ => (match g k with
    | .const (.int i) kk q => .dict1 i kk q (g v) p
    | _ => dumE)
  | _, _ => .dict0 p
noncomputable def ofBool (op : BoolOp) (vs : List XE) (p : Pos) : XE := match op with
  | .Or => .or (vs.getD 0 dumE) (vs.getD 1 dumE) p
  | .And => .and (vs.getD 0 dumE) (vs.getD 1 dumE) p
noncomputable def ofE : Nat → Expr → XE
  | 0, _ => dumE
  | n + 1, e => match e with
    | .Constant c k p => .const c k p
    | .Name x p => .name x p
    | .Tuple es k p => .tuple (es.map (ofE n)) k p
    | .List es p => .list (es.map (ofE n)) p
    | .Dict ks vs p => ofDict (ofE n) ks vs p
    | .BinOp l op r p => .bin (ofE n l) op (ofE n r) p
    | .UnaryOp _ x p => .neg (ofE n x) p
    | .Compare l ops rs p => .cmp (ofE n l) (ops.headD .Eq) ((rs.map (ofE n)).headD dumE) p
    | .BoolOp op vs p => ofBool op (vs.map (ofE n)) p
    | .IfExp c x y p => .ifx (ofE n c) (ofE n x) (ofE n y) p
    | .Attribute x a p => .attr (ofE n x) a p
    | .Subscript x i p => ofSubE (ofE n) x i p
    | .Call f as _ p => ofCall (ofE n f) (as.map (ofE n)) p
    | .ListComp e gs csc p => ofComp (ofE n e) (ofGen (ofE n) gs) csc p
    | _ => dumE
noncomputable def toT : Expr → XT
  | .Attribute x a p => .attr (ofE 40 x) a p
  | .Subscript x i p => .sub (ofE 40 x) (ofE 40 i) p
  | .Tuple es k p => .tup (nmOf (ofE 40 (es.getD 0 default))).1 (nmOf (ofE 40 (es.getD 0 default))).2 (nmOf (ofE 40 (es.getD 1 default))).1 (nmOf (ofE 40 (es.getD 1 default))).2 k p
  | e => .name (nmOf (ofE 40 e)).1 (nmOf (ofE 40 e)).2
noncomputable def asgL (n : Str × Pos) (t : XT) (e : XE) (p : Pos) : XS := match e with
  | .comp e x px it ifs csc q => .asgL n.1 n.2 e x px it ifs csc q p
  | e => .asg t e p
noncomputable def asgD (n kn : Str × Pos) (w : XE) (r : (Str × Pos) × XE × List XE) (csc : Scope) (q p : Pos) : XS := match r.2.2 with
  | .cmp a _ b cp :: _ => .asgD n.1 n.2 kn.2 w r.1.1 r.1.2 r.2.1 a b cp csc q p
  | _ => dumS
noncomputable def ofAsg (t e : Expr) (p : Pos) : XS := match e with
  | .DictComp k w gs csc q => asgD (nmOf (ofE 40 t)) (nmOf (ofE 40 k)) (ofE 40 w) (ofGen (ofE 40) gs) csc q p
  | e => asgL (nmOf (ofE 40 t)) (toT t) (ofE 40 e) p
noncomputable def ofAug (t e : XE) (p : Pos) : XS := match t with
  | .name x px => .augN x px e p
  | .attr x a px => .augA x a px e p
  | .sub x k px => .augS x k px e p
  | _ => dumS
noncomputable def ofDel (t : XE) (p : Pos) : XS := match t with
  | .sub x i px => .del x i px p
  | .drop x q lo p2 px => .delF x q lo p2 px p
  | _ => dumS
noncomputable def ofTry (b : XS) (ty : XE) (n : Option Str) (h : XS) (p3 p : Pos) : XS := match b, h with
  | .ret e p1, .ret (.attr y _ ap) p2 => .try e p1 (nmOf ty).1 (nmOf ty).2 (n.getD "") (nmOf y).2 ap p2 p3 p
  | _, _ => dumS
noncomputable def ofS : Nat → Stmt → XS
  | 0, _ => dumS
  | n + 1, s => match s with
    | .Expr e p => .expr (ofE 40 e) p
    | .Continue p => .cont p
    | .Return x p => (match x with
      | some e => .ret (ofE 40 e) p
      | none => .ret0 p)
    | .Assign ts e p => ofAsg (ts.getD 0 default) e p
    | .AugAssign t _ e p => ofAug (ofE 40 t) (ofE 40 e) p
    | .Delete ts p => ofDel (ofE 40 (ts.getD 0 default)) p
    | .If c a b p => .ite (ofE 40 c) (a.map (ofS n)) (b.map (ofS n)) p
    | .While c a _ p => .whl (ofE 40 c) (a.map (ofS n)) p
    | .For t it b _ p => .for (nmOf (ofE 40 t)).1 (nmOf (ofE 40 t)).2 (ofE 40 it) (b.map (ofS n)) p
    | .Raise e _ p => .raise (ofE 40 (e.getD default)) p
    | .Try b hs _ _ p => (match hs with
      | .ExceptHandler ty nm hb p3 :: _ => ofTry (ofS n (b.getD 0 default)) (ofE 40 (ty.getD default)) nm (ofS n (hb.getD 0 default)) p3 p
      | [] => dumS)
    | .Pass p => .pass p
    | _ => dumS
noncomputable def ofSs (l : List Stmt) : List XS := l.map (ofS 40)
structure FnRec where
  params : List Str
  body : List XS
  scope : Scope
  dflt : List VV := []
structure Top' where
  gl : Str → Option VV
  meth : Addr → Str → Option Addr
  field : Addr → Str → Bool
  cmeth : Addr → Str → Option Addr
  init : Addr → Option Addr
  fn : Addr → Option FnRec
  exc : Addr → Bool
noncomputable abbrev CallO := Addr → List VV → VH → Res VV
structure Ops where
  ev : Scope → XE → VE → VH → Res VV
  cd : Scope → XE → VE → VH → Res Bool
  evs : Scope → List XE → VE → VH → Res (List VV)
  ex : Scope → XS → VE → VH → Res (VF × VE)
  exs : Scope → List XS → VE → VH → Res (VF × VE)
  loop : Scope → Str → It → List XS → VE → VH → Res (VF × VE)
  whl : Scope → XE → List XS → VE → VH → Res (VF × VE)
  comp : Scope → XE → Str → It → List XE → Nat → VE → VH → Res Unit
noncomputable def Ops.none : Ops := ⟨fun _ _ _ _ => .stuck, fun _ _ _ _ => .stuck, fun _ _ _ _ => .stuck, fun _ _ _ _ => .stuck, fun _ _ _ _ => .stuck, fun _ _ _ _ _ _ => .stuck, fun _ _ _ _ _ => .stuck, fun _ _ _ _ _ _ _ _ => .stuck⟩
noncomputable def eqZ (f : VV → VV → Option Bool) : List VV → List VV → Option Bool
  | x :: r, y :: t => match f x y, eqZ f r t with
    | some a, some b => some (a && b)
    | _, _ => none
  | _, _ => some true
noncomputable def eqRows (f : VV → VV → Option Bool) (ds : List (Str × VV)) : List (Str × VV) → Option Bool
  | [] => some true
  | (k, v) :: r => match assocGet k ds with
    | none => some false
    | some u => match f v u, eqRows f ds r with
      | some a, some b => some (a && b)
      | _, _ => none
noncomputable def dictS : VO → Option (List (Str × VV))
  | .edict => some []
  | .sdict es => some es
  | _ => none
noncomputable def dictI : VO → Option (List (Int × VV))
  | .edict => some []
  | .idict es => some es
  | _ => none
noncomputable def dictT : VO → Option (List (List Int × VV))
  | .edict => some []
  | .tdict es => some es
  | _ => none
noncomputable def eqV (σ : VH) : Nat → VV → VV → Option Bool
  | 0, _, _ => none
  | n + 1, a, b => match a, b with
    | .none, .none => some true
    | .int i, .int j => some (decide (i = j))
    | .str x, .str y => some (decide (x = y))
    | .tup xs, .tup ys => match eqZ (eqV σ n) xs ys with
      | some b => some (b && decide (xs.length = ys.length))
      | none => none
    | .int _, .str _ => some false
    | .str _, .int _ => some false
    | .str _, .tup _ => some false
    | .tup _, .str _ => some false
    | .tup _, .int _ => some false
    | .int _, .tup _ => some false
    | .none, .tup _ => some false
    | .tup _, .none => some false
    | .ref i, .ref j => if i = j then none else match σ[i]?, σ[j]? with
      | some (.list xs), some (.list ys) => if xs.length = ys.length then eqZ (eqV σ n) xs ys else some false
      | _, _ => none
    | _, _ => none
noncomputable def eqD (σ : VH) (a b : VV) : Option Bool := match a, b with
  | .ref i, .ref j => match σ[i]?.bind dictS, σ[j]?.bind dictS with
    | some es, some ds => if i = j then none else if es.length = ds.length then eqRows (eqV σ 30) ds es else some false
    | _, _ => eqV σ 30 (.ref i) (.ref j)
  | a, b => eqV σ 30 a b
noncomputable def eqW (σ : VH) (a b : VV) : Option Bool := match a, b with
  | .tup xs, .tup ys => match eqZ (eqD σ) xs ys with
    | some b => some (b && decide (xs.length = ys.length))
    | none => none
  | a, b => eqD σ a b
noncomputable def intV : VV → Option Int
  | .int i => some i
  | _ => none
noncomputable def arith (f : Int → Int → Option Int) (a b : VV) : Option VV := (intV a).bind fun i => (intV b).bind fun j => (f i j).map .int
noncomputable def small63 (j r : Int) : Option Int := if 0 < j ∧ j < 2 ^ 63 then some r else none
noncomputable def binV (op : Operator) (a b : VV) : Option VV := match op with
  | .Add => arith (fun i j => some (i + j)) a b
  | .Sub => arith (fun i j => some (i - j)) a b
  | .Mod => arith (fun i j => small63 j (Int.fmod i j)) a b
  | .FloorDiv => arith (fun i j => small63 j (Int.fdiv i j)) a b
  | _ => none
noncomputable def intsOf : List VV → Option (List Int)
  | [] => some []
  | x :: r => (intV x).bind fun i => (intsOf r).map (i :: ·)
noncomputable def intKeys : VV → Option (List Int)
  | .tup xs => intsOf xs
  | _ => none
noncomputable def anyEq (σ : VH) (a : VV) : List VV → Option Bool
  | [] => some false
  | y :: r => match eqV σ 30 y a, anyEq σ a r with
    | some p, some q => some (p || q)
    | _, _ => none
noncomputable def dinV (o : VO) (a : VV) : Option Bool := match a with
  | .int k => (dictI o).map fun es => (assocGet k es).isSome
  | .str k => (dictS o).map fun es => (assocGet k es).isSome
  | _ => none
noncomputable def oinD (o : VO) (a : VV) : Option Bool := match o with
  | .list _ => none
  | .set xs => (match a with
    | .int k => some (decide (k ∈ xs))
    | _ => none)
  | o => dinV o a
noncomputable def oinL (σ : VH) (o : VO) (a : VV) : Option Bool := match o with
  | .list ys => anyEq σ a ys
  | _ => none
noncomputable def inV (σ : VH) (a b : VV) : Option Bool := match b with
  | .tup ys => anyEq σ a ys
  | .ref i => σ[i]?.bind fun ob => (oinD ob a).or (oinL σ ob a)
  | _ => none
noncomputable def intsV (f : Int → Int → Bool) (a b : VV) : Option Bool := (intV a).bind fun i => (intV b).map fun j => f i j
noncomputable def isV (a b : VV) : Option Bool := match b with
  | .none => (match a with
    | .none => some true
    | .tup _ => some false
    | _ => none)
  | _ => none
noncomputable def cmpV (σ : VH) (op : CmpOp) (a b : VV) : Option Bool := match op with
  | .Eq => eqW σ a b
  | .NotEq => (eqW σ a b).map (!·)
  | .Lt => intsV (fun i j => decide (i < j)) a b
  | .LtE => intsV (fun i j => decide (i ≤ j)) a b
  | .Gt => intsV (fun i j => decide (j < i)) a b
  | .GtE => intsV (fun i j => decide (j ≤ i)) a b
  | .In => inV σ a b
  | .NotIn => (inV σ a b).map (!·)
  | .Is => isV a b
  | _ => none
noncomputable def idxV (i : Int) (n : Nat) : Option Nat := match i with
  | .ofNat k => if Nat.blt k n && okLen k then some k else none
  | _ => none
noncomputable def lget (xs : List VV) (k : Int) : Option VV := (idxV k xs.length).bind fun j => xs[j]?
noncomputable def dgetV (o : VO) (i : VV) : Option VV := match i with
  | .int k => (dictI o).bind fun es => assocGet k es
  | .str k => (dictS o).bind fun es => assocGet k es
  | _ => none
noncomputable def oget (ob : VO) (i : VV) : Option VV := match ob with
  | .list xs => (match i with
    | .int k => lget xs k
    | _ => none)
  | o => dgetV o i
noncomputable def getV (σ : VH) (o i : VV) : Option VV := match o with
  | .tup xs => (match i with
    | .int k => lget xs k
    | _ => none)
  | .ref r => σ[r]?.bind fun ob => oget ob i
  | _ => none
noncomputable def dsetV (o : VO) (i v : VV) : Option VO := match i with
  | .int k => (dictI o).bind fun es => if okLen es.length then some (.idict (assocSet k v es)) else none
  | .str k => (dictS o).bind fun es => if okLen es.length then some (.sdict (assocSet k v es)) else none
  | .tup xs => (dictT o).bind fun es => (intKeys (.tup xs)).bind fun ks => if okLen es.length then some (.tdict (assocSet ks v es)) else none
  | _ => none
noncomputable def oset (ob : VO) (i v : VV) : Option VO := match ob with
  | .list xs => (match i with
    | .int k => (idxV k xs.length).map fun j => .list (xs.set j v)
    | _ => none)
  | o => dsetV o i v
noncomputable def setV (σ : VH) (o i v : VV) : Option VH := match o with
  | .ref r => σ[r]?.bind fun ob => (oset ob i v).map fun p => σ.set r p
  | _ => none
noncomputable def odel (o : VO) (i : VV) : Option VO := match i with
  | .int k => (dictI o).bind fun es => if (assocGet k es).isSome && okLen es.length then some (.idict (assocDel k es)) else none
  | .str k => (dictS o).bind fun es => if (assocGet k es).isSome && okLen es.length then some (.sdict (assocDel k es)) else none
  | _ => none
noncomputable def delV (σ : VH) (o i : VV) : Option VH := match o with
  | .ref r => σ[r]?.bind fun ob => (odel ob i).map fun p => σ.set r p
  | _ => none
noncomputable def handV : VV → Bool
  | .val _ => false
  | .junk => false
  | _ => true
noncomputable def refV : VV → Option Nat
  | .ref r => some r
  | _ => none
noncomputable def instO : Option VO → Option (Addr × Nat)
  | some (.inst C d false) => some (C, d)
  | _ => none
noncomputable def attrsO : Option VO → Option (List (Str × VV))
  | some (.attrs fs) => some fs
  | _ => none
noncomputable def handO (v : VV) : Option VV := if handV v then some v else none
noncomputable def fieldO (G : Top') (σ : VH) (o : VV) (a : Str) : Option (Nat × List (Str × VV)) := (refV o).bind fun r => (instO σ[r]?).bind fun q => (attrsO σ[q.2]?).bind fun fs => if G.field q.1 a then some (q.2, fs) else none
noncomputable def attrV (G : Top') (σ : VH) (o : VV) (a : Str) : Option VV := (fieldO G σ o a).bind fun p => (assocGet a p.2).bind handO
noncomputable def setAttrV (G : Top') (σ : VH) (o : VV) (a : Str) (v : VV) : Option VH := (fieldO G σ o a).bind fun p => if okLen p.2.length then some (σ.set p.1 (.attrs (assocSet a v p.2))) else none
noncomputable def insI (x : Int) : List Int → List Int
  | [] => [x]
  | y :: r => if x ≤ y then x :: y :: r else y :: insI x r
noncomputable def sortI : List Int → List Int
  | [] => []
  | x :: r => insI x (sortI r)
noncomputable def sortS : List Str → Option (List Str)
  | [] => some []
  | [x] => some [x]
  | [x, y] => some (if PySem.Spec.ltCps y.cps.toList x.cps.toList then [y, x] else [x, y])
  | _ => none
noncomputable def smallI (i : Int) : Bool := Nat.ble i.natAbs 1000000
noncomputable def alloc (σ : VH) (o : VO) : Res VV := .ok (.ref σ.length) (σ ++ [o])
inductive BR where
  | v (x : VV)
  | o (x : VV) (p : VO)
noncomputable def omap (f : List VV → List VV) (ob : VO) : Option VO := match ob with
  | .list xs => if okLen xs.length then some (.list (f xs)) else none
  | _ => none
noncomputable def olen (ob : VO) : Option BR := match ob with
  | .list xs => if okLen xs.length then some (.v (.int xs.length)) else none
  | o => (dictI o).bind fun es => if okLen es.length then some (.v (.int es.length)) else none
noncomputable def otup (ob : VO) : Option BR := match ob with
  | .list xs => if okLen xs.length then some (.v (.tup xs)) else none
  | _ => none
noncomputable def olist (ob : VO) : Option BR := match ob with
  | .list xs => if okLen xs.length then some (.o .none (.list xs)) else none
  | o => (dictI o).bind fun es => if okLen es.length then some (.o .none (.list (es.map fun e => .int e.1))) else none
noncomputable def osort (ob : VO) : Option BR := match ob with
  | .idict es => if Nat.blt es.length 64 then some (.o .none (.list ((sortI (es.map (·.1))).map .int))) else none
  | o => ((dictS o).bind fun es => sortS (es.map (·.1))).map fun ks => .o .none (.list (ks.map .str))
noncomputable def odict (ob : VO) : Option BR := (dictS ob).bind fun es => if okLen es.length then some (.o .none (.sdict es)) else none
noncomputable def blt1 (id : Value) (ob : VO) : Option BR := match id with
  | .builtin n => if n = "len" then olen ob else if n = "sorted" then osort ob else none
  | .type n => if n = "list" then olist ob else if n = "tuple" then otup ob else if n = "dict" then odict ob else none
  | _ => none
noncomputable def isStrT : VV → Bool
  | .val v => v == .type "str"
  | _ => false
noncomputable def isiA : VV → Option Bool
  | .str _ => some true
  | .tup _ => some false
  | _ => none
noncomputable def isiV : List VV → Option Bool
  | [a, b] => bif isStrT b then isiA a else none
  | _ => none
noncomputable def rng1 (k : Int) : Option VV := if smallI k then some (.rng 0 k 1) else none
noncomputable def rng3 (a b c : Int) : Option VV := if c = -1 ∧ smallI a ∧ smallI b then some (.rng a b c) else none
noncomputable def rngV : List VV → Option VV
  | [a] => (intV a).bind rng1
  | [a, b, c] => (intV a).bind fun a => (intV b).bind fun b => (intV c).bind (rng3 a b)
  | _ => none
noncomputable def absV : List VV → Option VV
  | [a] => (intV a).map fun i => .int i.natAbs
  | _ => none
noncomputable def setNew (σ : VH) : List VV → Res VV
  | [] => alloc σ (.set [])
  | _ => .stuck
noncomputable def blt0 (id : Value) (as : List VV) (σ : VH) : Res VV := match id with
  | .builtin n => if n = "abs" then Res.of (absV as) σ else if n = "isinstance" then Res.of ((isiV as).map .bool) σ else .stuck
  | .type n => if n = "range" then Res.of (rngV as) σ else if n = "set" then setNew σ as else .stuck
  | _ => .stuck
noncomputable def brNew (r : Option BR) (σ : VH) : Res VV := match r with
  | some (.v x) => .ok x σ
  | some (.o _ p) => alloc σ p
  | none => .stuck
noncomputable def ref1 : List VV → Option Nat
  | [a] => refV a
  | _ => none
noncomputable def bltV (id : Value) (as : List VV) (σ : VH) : Res VV := match ref1 as with
  | some r => brNew (σ[r]?.bind (blt1 id)) σ
  | none => blt0 id as σ
noncomputable def getDV (o : VO) (k d : VV) : Option VV := match k with
  | .int k => (dictI o).map fun es => (assocGet k es).getD d
  | .str k => (dictS o).map fun es => (assocGet k es).getD d
  | .tup xs => (dictT o).bind fun es => (intKeys (.tup xs)).map fun ks => (assocGet ks es).getD d
  | _ => none
noncomputable def mthId (o : VO) (name : Str) : Option String := match o with
  | .list _ => if name = ("append" : Str) then some "list.append" else if name = ("pop" : Str) then some "list.pop" else none
  | .set _ => if name = ("add" : Str) then some "set.add" else none
  | .edict => if name = ("get" : Str) then some "dict.get" else none
  | .idict _ => if name = ("get" : Str) then some "dict.get" else none
  | .sdict _ => if name = ("get" : Str) then some "dict.get" else none
  | .tdict _ => if name = ("get" : Str) then some "dict.get" else none
  | _ => none
noncomputable def mApp (ob : VO) : List VV → Option BR
  | [v] => (omap (· ++ [v]) ob).map (.o .none)
  | _ => none
noncomputable def opop : VO → Option BR
  | .list xs => if okLen xs.length then xs.getLast?.map fun v => .o v (.list xs.dropLast) else none
  | _ => none
noncomputable def mPop (ob : VO) : List VV → Option BR
  | [] => opop ob
  | _ => none
noncomputable def oadd (k : Int) : VO → Option BR
  | .set xs => if Nat.ble xs.length 100 then some (.o .none (.set (if k ∈ xs then xs else xs ++ [k]))) else none
  | _ => none
noncomputable def mAdd (ob : VO) : List VV → Option BR
  | [.int k] => oadd k ob
  | _ => none
noncomputable def mGet (ob : VO) : List VV → Option BR
  | [k, d] => (getDV ob k d).map .v
  | _ => none
noncomputable def omth (id : String) (ob : VO) (as : List VV) : Option BR := if id = "list.append" then mApp ob as else if id = "list.pop" then mPop ob as else if id = "set.add" then mAdd ob as else if id = "dict.get" then mGet ob as else none
noncomputable def brSet (r : Nat) (b : Option BR) (σ : VH) : Res VV := match b with
  | some (.v x) => .ok x σ
  | some (.o x p) => .ok x (σ.set r p)
  | none => .stuck
noncomputable def mthRun (id : String) (r : Nat) (as : List VV) (σ : VH) : Res VV := brSet r (σ[r]?.bind fun ob => omth id ob as) σ
noncomputable def initFin (r : Nat) (x : Res VV) : Res VV := match x with
  | .ok .none τ => .ok (.ref r) τ
  | _ => .stuck
noncomputable def excNewV (C : Addr) (as : List VV) (σ : VH) : Res VV := match as with
  | [b] => .ok (.ref σ.length) (σ ++ [.inst C (σ.length + 1) true, .attrs [(("ball" : Str), b)]])
  | _ => .stuck
noncomputable def newBy (cl : CallO) (C : Addr) (as : List VV) (σ : VH) (f : Option Addr) : Res VV := match f with
  | some f => initFin (σ.length + 1) (cl f (.ref (σ.length + 1) :: as) (σ ++ [.attrs [], .inst C σ.length false]))
  | none => .stuck
noncomputable def newInst (G : Top') (cl : CallO) (C : Addr) (as : List VV) (σ : VH) : Res VV := bif G.exc C then excNewV C as σ else newBy cl C as σ (G.init C)
noncomputable def isCls (G : Top') (a : Addr) : Bool := (G.init a).isSome || G.exc a
noncomputable def callB (G : Top') (cl : CallO) (b : Value) (as : List VV) (σ : VH) : Res VV := match b with
  | .ref a => bif isCls G a then newInst G cl a as σ else cl a as σ
  | b => bltV b as σ
noncomputable def callVal (G : Top') (cl : CallO) (f : VV) (as : List VV) (σ : VH) : Res VV := match f with
  | .val b => callB G cl b as σ
  | _ => .stuck
noncomputable def methDef (G : Top') (cl : CallO) (r : Nat) (name : Str) (f : Option Addr) (d : Option VO) (σ : VH) (args : VH → Res (List VV)) : Res VV := match f with
  | some f => (match d with
    | some (.attrs fs) => if (assocGet name fs).isNone then (args σ).bind fun as τ => cl f (.ref r :: as) τ else .stuck
    | _ => .stuck)
  | none => .stuck
noncomputable def methIn' (G : Top') (cl : CallO) (r : Nat) (name : Str) (ob : VO) (σ : VH) (args : VH → Res (List VV)) : Res VV := match ob with
  | .inst C d false => methDef G cl r name (G.meth C name) σ[d]? σ args
  | _ => .stuck
noncomputable def methOb (G : Top') (cl : CallO) (r : Nat) (name : Str) (g : Option String) (ob : VO) (σ : VH) (args : VH → Res (List VV)) : Res VV := match g with
  | some id => (args σ).bind fun as τ => mthRun id r as τ
  | none => methIn' G cl r name ob σ args
noncomputable def methRef (G : Top') (cl : CallO) (r : Nat) (name : Str) (c : Option VO) (σ : VH) (args : VH → Res (List VV)) : Res VV := match c with
  | some ob => methOb G cl r name (mthId ob name) ob σ args
  | none => .stuck
noncomputable def methCls (cl : CallO) (f : Option Addr) (σ : VH) (args : VH → Res (List VV)) : Res VV := match f with
  | some f => (args σ).bind fun as τ => cl f as τ
  | none => .stuck
noncomputable def methVal (G : Top') (cl : CallO) (ov : VV) (name : Str) (σ : VH) (args : VH → Res (List VV)) : Res VV := match ov with
  | .ref r => methRef G cl r name σ[r]? σ args
  | .val (.ref C) => methCls cl (G.cmeth C name) σ args
  | _ => .stuck
noncomputable def constV : Const → Option VV
  | .none => some .none
  | .bool b => some (.bool b)
  | .int i => some (.int i)
  | .str s => some (.str s)
  | _ => none
noncomputable def okE : VV → Option VV
  | .junk => none
  | v => some v
noncomputable def lookE (x : Str) (ρ : VE) : Option VV := (assocGet x ρ).bind okE
noncomputable def nameV (G : Top') (sc : Scope) (id : Str) (ρ : VE) : Option VV := if id = ("__debug__" : Str) then none else match sc.names.lookup id with
  | some .globalImplicit => G.gl id
  | some .local | some .cell | some .free => lookE id ρ
  | _ => none
noncomputable def itOf (σ : VH) : VV → Option It
  | .tup xs => some (.tup xs)
  | .rng a b c => if smallI a && smallI b && (c == 1 || c == -1) then some (.rng a b c) else none
  | .ref i => match σ[i]? with
    | some (.list _) => some (.lst i 0)
    | some .edict => some (.keys i 0)
    | some (.sdict _) => some (.keys i 0)
    | _ => none
  | _ => none
noncomputable def nextV (σ : VH) : It → Option (Option (VV × It))
  | .tup [] => some none
  | .tup (x :: r) => some (some (x, .tup r))
  | .lst i k => match σ[i]? with
    | some (.list xs) => match xs[k]? with
      | some x => some (some (x, .lst i (k + 1)))
      | none => some none
    | _ => none
  | .rng a b c => if c = 1 then (if a < b then some (some (.int a, .rng (a + 1) b c)) else some none)
    else if c = -1 then (if b < a then some (some (.int a, .rng (a - 1) b c)) else some none) else none
  | .keys i k => match σ[i]? with
    | some .edict => some none
    | some (.sdict es) => match es[k]? with
      | some e => some (some (.str e.1, .keys i (k + 1)))
      | none => some none
    | _ => none
noncomputable def truthV : VV → Option Bool
  | .bool b => some b
  | _ => none
noncomputable def chkR (c : Bool) : Res Unit := bif c then .ok () [] else .stuck
noncomputable def Res.guard {α : Type} (c : Bool) (r : Res α) : Res α := (chkR c).bind fun _ _ => r
noncomputable def newO (τ : VH) (p : Option VO) : Res VV := match p with
  | some p => alloc τ p
  | none => .stuck
noncomputable def sliceV (τ : VH) (v : VV) (f : List VV → List VV) : Res VV := match v with
  | .ref r => newO τ (τ[r]?.bind (omap f))
  | _ => .stuck
noncomputable def notComp : XE → Bool
  | .comp .. => false
  | _ => true
noncomputable def notTup : XE → Bool
  | .tuple .. => false
  | _ => true
noncomputable def baseOK : XE → Bool
  | .callN _ _ as _ => !as.isEmpty
  | _ => true
noncomputable def argsOK (args : List XE) : Bool := Nat.ble args.length 20
noncomputable def callOK (x : XE) (apos pos : Pos) (args : List XE) : Bool := baseOK x && (apos.endLine == pos.line) && argsOK args
noncomputable def compEnv (csc : Scope) (ρ : VE) : VE := ρ.filter fun p => csc.names.lookup p.1 == some .free
noncomputable def csOK (sc csc : Scope) (x : Str) (ρ : VE) : Bool := (csc.kind == .function) && (csc.names.lookup x == some .local) && csc.names.all fun p =>
  (p.2 != .cell) && (p.2 != .local || csc.names.lookup p.1 == some .local) && (p.2 != .free || ((sc.names.lookup p.1 == some .cell || sc.names.lookup p.1 == some .free) && (lookE p.1 ρ).isSome && csc.names.lookup p.1 == some .free))
noncomputable def pev (G : Top') (sc : Scope) : Nat → XE → VE → VH → Option VV
  | 0, _, _, _ => none
  | n + 1, e, ρ, σ => match e with
    | .name x _ => nameV G sc x ρ
    | .const c _ _ => constV c
    | .sub x i _ => (pev G sc n x ρ σ).bind fun o => (pev G sc n i ρ σ).bind fun k => getV σ o k
    | _ => none
noncomputable def pI (G : Top') (csc : Scope) (x : Str) (e : XE) (ρ : VE) (σ : VH) (k : Str) : Option Int := (pev G csc 3 e (assocSet x (.str k) ρ) σ).bind intV
noncomputable def dRow (G : Top') (csc : Scope) (x : Str) (w a b : XE) (ρ : VE) (σ : VH) (k : Str) : Option (Option Int) := (pI G csc x a ρ σ k).bind fun i => (pI G csc x b ρ σ k).bind fun j => if i = j then some none else (pI G csc x w ρ σ k).map some
noncomputable def addRow (k : Str) (z : Option Int) (l : List (Str × VV)) : List (Str × VV) := match z with
  | some z => (k, .int z) :: l
  | none => l
noncomputable def dcomp (G : Top') (csc : Scope) (x : Str) (w a b : XE) (ρ : VE) (σ : VH) : List (Str × VV) → Option (List (Str × VV))
  | [] => some []
  | p :: r => (dRow G csc x w a b ρ σ p.1).bind fun z => (dcomp G csc x w a b ρ σ r).map (addRow p.1 z)
noncomputable def compEnd (d : Nat) (r : Res Unit) : Res VV := match r with
  | .ok _ τ => .ok (.ref d) τ
  | _ => .stuck
noncomputable def notKeys : It → Option It
  | .keys .. => none
  | i => some i
noncomputable def compIt (o : Ops) (elt : XE) (x : Str) (ifs : List XE) (csc : Scope) (ρ : VE) (i : Option It) (τ : VH) : Res VV := match i with
  | some i => compEnd τ.length (o.comp csc elt x i ifs τ.length (compEnv csc ρ) (τ ++ [.list []]))
  | none => .stuck
noncomputable def compL' (o : Ops) (sc : Scope) (elt : XE) (x : Str) (it : XE) (ifs : List XE) (csc : Scope) (ρ : VE) (σ : VH) : Res VV := .guard (csOK sc csc x ρ) ((o.ev sc it ρ σ).bind fun v τ => compIt o elt x ifs csc ρ ((itOf τ v).bind notKeys) τ)
noncomputable def dictRows (G : Top') (csc : Scope) (x : Str) (w a b : XE) (ρ : VE) (σ : VH) (es : Option (List (Str × VV))) : Res VV := match es with
  | some es => .guard (okLen es.length) ((Res.of (dcomp G csc x w a b (compEnv csc ρ) σ es) σ).bind fun ds τ => alloc τ (.sdict ds))
  | none => .stuck
noncomputable def dictOf (G : Top') (csc : Scope) (x : Str) (w a b : XE) (ρ : VE) (v : VV) (σ : VH) : Res VV := match v with
  | .ref i => dictRows G csc x w a b ρ σ (σ[i]?.bind dictS)
  | _ => .stuck
noncomputable def compD' (G : Top') (o : Ops) (sc : Scope) (w : XE) (x : Str) (it a b : XE) (csc : Scope) (ρ : VE) (σ : VH) : Res VV := .guard (csOK sc csc x ρ && !(x == ("__debug__" : Str))) ((o.ev sc it ρ σ).bind (dictOf G csc x w a b ρ))
noncomputable def tupV (vs : List VV) (τ : VH) : Res VV := .guard (okLen vs.length) (.ok (.tup vs) τ)
noncomputable def lstV (vs : List VV) (τ : VH) : Res VV := .guard (okLen vs.length) (alloc τ (.list vs))
noncomputable def dict0 (σ : VH) (k : Int) (v : VV) (c : Option VO) (n : Nat) : Res VV := match c with
  | some .edict => .ok (.ref n) (σ.set n (.idict [(k, v)]))
  | _ => .stuck
noncomputable def negV (a : VV) (τ : VH) : Res VV := match a with
  | .int i => .ok (.int (-i)) τ
  | _ => .stuck
noncomputable def orR {α : Type} (b : Option Bool) (x y : Res α) : Res α := match b with
  | some true => x
  | some false => y
  | none => .stuck
noncomputable def natV : VV → Option Nat
  | .int (.ofNat k) => some k
  | _ => none
noncomputable def sliceBy (τ : VH) (v : VV) (k : Option Nat) : Res VV := match k with
  | some k => sliceV τ v (·.drop k)
  | none => .stuck
noncomputable def constT (c : Const) (σ : VH) : Res Bool := match c with
  | .bool true => .ok true σ
  | _ => .stuck
noncomputable def isLocal : Option NameKind → Bool
  | some .local => true
  | _ => false
noncomputable def isLocCell : Option NameKind → Bool
  | some .local => true
  | some .cell => true
  | _ => false
noncomputable def pairV : VV → Option (VV × VV)
  | .tup [a, b] => some (a, b)
  | _ => none
noncomputable def setBy (c : Option VH) (ρ : VE) : Res (VF × VE) := match c with
  | some τ => .ok (.next, ρ) τ
  | none => .stuck
noncomputable def setE (c : Option VH) (ρ : VE) : Res VE := match c with
  | some τ => .ok ρ τ
  | none => .stuck
noncomputable def assignV (G : Top') (o : Ops) (sc : Scope) (t : XT) (v : VV) (ρ : VE) (σ : VH) : Res VE := match t with
  | .name x _ => .guard (isLocCell (sc.names.lookup x)) (.ok (assocSet x v ρ) σ)
  | .attr x a _ => (o.ev sc x ρ σ).bind fun ov τ => setE (setAttrV G τ ov a v) ρ
  | .sub x i _ => (o.ev sc x ρ σ).bind fun ov σ₁ => (o.ev sc i ρ σ₁).bind fun k τ => setE (setV τ ov k v) ρ
  | .tup x _ y _ _ _ => .guard (isLocal (sc.names.lookup x) && isLocal (sc.names.lookup y)) ((Res.of (pairV v) σ).bind fun p τ => .ok (assocSet y p.2 (assocSet x p.1 ρ)) τ)
noncomputable def asgOK (t : XT) (e : XE) : Bool := notComp e && (match t with
  | .tup .. => notTup e
  | _ => true)
noncomputable def swapTo (sc csc : Scope) (x : Str) (px q : Pos) : Bool := (sc.names.lookup x == some NameKind.local) && (px.line == q.line) && !(csc.names.any fun p => p.1 == x && (p.2 == .local || p.2 == .cell))
noncomputable def dropOK : VV → Bool
  | .none => true
  | .int _ => true
  | .bool _ => true
  | .str _ => true
  | _ => false
noncomputable def listO : Option VO → Option (List VV)
  | some (.list xs) => some xs
  | _ => none
noncomputable def catR (x : Str) (ρ : VE) (τ : VH) (r : Nat) (c : Bool) (z : List VV) : Res (VF × VE) := .guard c (.ok (.next, assocSet x (.ref r) ρ) (τ.set r (.list z)))
noncomputable def catOb (x : Str) (ρ : VE) (τ : VH) (r q : Nat) (a b : Option VO) : Res (VF × VE) := (Res.of (listO a) τ).bind fun xs _ => (Res.of (listO b) τ).bind fun ys _ => catR x ρ τ r (!Nat.beq r q && okLen (xs.length + ys.length)) (xs ++ ys)
noncomputable def iadd (a b : VV) (x : Str) (ρ : VE) (τ : VH) : Res (VF × VE) := match a with
  | .int i => (Res.of (intV b) τ).bind fun j _ => .ok (.next, assocSet x (.int (i + j)) ρ) τ
  | .ref r => (match b with
    | .ref q => catOb x ρ τ r q τ[r]? τ[q]?
    | _ => .stuck)
  | _ => .stuck
noncomputable def addI (a b : VV) : Option VV := (intV a).bind fun i => (intV b).map fun j => .int (i + j)
noncomputable def setO (τ : VH) (r : Nat) (ρ : VE) (p : Option VO) : Res (VF × VE) := match p with
  | some p => .ok (.next, ρ) (τ.set r p)
  | none => .stuck
noncomputable def delBy (τ : VH) (v : VV) (ρ : VE) (k : Option Nat) : Res (VF × VE) := match k with
  | some k => (match v with
    | .ref r => setO τ r ρ (τ[r]?.bind (omap (·.take k)))
    | _ => .stuck)
  | none => .stuck
noncomputable def forIt (o : Ops) (sc : Scope) (x : Str) (body : List XS) (ρ : VE) (i : Option It) (τ : VH) : Res (VF × VE) := match i with
  | some i => o.loop sc x i body ρ τ
  | none => .stuck
noncomputable def whlOk (r : Res (VF × VE)) : Res (VF × VE) := match r with
  | .ok p τ => .ok p τ
  | _ => .stuck
noncomputable def excO : Option VO → Option (Addr × Nat)
  | some (.inst D d true) => some (D, d)
  | _ => none
noncomputable def raiseD (G : Top') (r : Nat) (τ : VH) (D : Option (Addr × Nat)) : Res (VF × VE) := match D with
  | some D => .guard (G.exc D.1) (.exc r τ)
  | none => .stuck
noncomputable def raiseOb (G : Top') (r : Nat) (c : Option VO) (τ : VH) : Res (VF × VE) := raiseD G r τ (excO c)
noncomputable def raiseV (G : Top') (v : VV) (τ : VH) : Res (VF × VE) := match v with
  | .ref r => raiseOb G r τ[r]? τ
  | _ => .stuck
noncomputable def ballO : Option VO → Option VV
  | some (.attrs [(b, v)]) => if b = ("ball" : Str) then some v else none
  | _ => none
noncomputable def caughtB (i : Nat) (τ : VH) (v : Option VV) : Res (VF × VE) := match v with
  | some v => .guard (handV v) (.ok (.ret v, []) (τ.set i .dead))
  | none => .stuck
noncomputable def caughtD (i : Nat) (c : Option VO) (τ : VH) : Res (VF × VE) := caughtB i τ (ballO c)
noncomputable def clsV : VV → Option Addr
  | .val (.ref C) => some C
  | _ => none
noncomputable def caughtC (G : Top') (i : Nat) (τ : VH) (D : Addr × Nat) (C : Option Addr) : Res (VF × VE) := match C with
  | some C => .guard (Nat.beq D.1 C && G.exc D.1) (caughtD i τ[D.2]? τ)
  | none => .stuck
noncomputable def caughtO (G : Top') (i : Nat) (n : Option VV) (τ : VH) (D : Option (Addr × Nat)) : Res (VF × VE) := match D with
  | some D => caughtC G i τ D (n.bind clsV)
  | none => .stuck
noncomputable def tryR (G : Top') (n : Option VV) (ρ : VE) (r : Res VV) : Res (VF × VE) := match r with
  | .ok v τ => .ok (.ret v, ρ) τ
  | .exc i τ => caughtO G i n τ (excO τ[i]?)
  | .stuck => .stuck
noncomputable def aft (go : VE → VH → Res (VF × VE)) (p : VF × VE) (τ : VH) : Res (VF × VE) := match p.1 with
  | .next => go p.2 τ
  | .cont => go p.2 τ
  | .brk => .ok (.next, p.2) τ
  | .ret w => .ok (.ret w, p.2) τ
noncomputable def loopAft (o : Ops) (sc : Scope) (x : Str) (i : It) (body : List XS) : VF × VE → VH → Res (VF × VE) := aft (o.loop sc x i body)
noncomputable def loopBy (o : Ops) (sc : Scope) (x : Str) (body : List XS) (ρ : VE) (c : Option (Option (VV × It))) (σ : VH) : Res (VF × VE) := match c with
  | none => .stuck
  | some none => .ok (.next, ρ) σ
  | some (some q) => .guard (isLocal (sc.names.lookup x)) ((o.exs sc body (assocSet x q.1 ρ) σ).bind (loopAft o sc x q.2 body))
noncomputable def loopF (o : Ops) (sc : Scope) (x : Str) (i : It) (body : List XS) (ρ : VE) (σ : VH) : Res (VF × VE) := loopBy o sc x body ρ (nextV σ i) σ
noncomputable def whlAft (o : Ops) (sc : Scope) (c : XE) (body : List XS) : VF × VE → VH → Res (VF × VE) := aft (o.whl sc c body)
noncomputable def whlBy (o : Ops) (sc : Scope) (c : XE) (body : List XS) (ρ : VE) (b : Bool) (τ : VH) : Res (VF × VE) := match b with
  | true => (o.exs sc body ρ τ).bind (whlAft o sc c body)
  | false => .ok (.next, ρ) τ
noncomputable def whlF (o : Ops) (sc : Scope) (c : XE) (body : List XS) (ρ : VE) (σ : VH) : Res (VF × VE) := (o.cd sc c ρ σ).bind (whlBy o sc c body ρ)
noncomputable def exsAft (o : Ops) (sc : Scope) (r : List XS) (p : VF × VE) (τ : VH) : Res (VF × VE) := match p.1 with
  | .next => o.exs sc r p.2 τ
  | _ => .ok p τ
noncomputable def compXs (o : Ops) (sc : Scope) (elt : XE) (x : Str) (i : It) (ifs : List XE) (d : Nat) (ρ : VE) (w : VV) (τ : VH) (xs : Option (List VV)) : Res Unit := match xs with
  | some xs => .guard (okLen xs.length) (o.comp sc elt x i ifs d ρ (τ.set d (.list (xs ++ [w]))))
  | none => .stuck
noncomputable def compOb (o : Ops) (sc : Scope) (elt : XE) (x : Str) (i : It) (ifs : List XE) (d : Nat) (ρ : VE) (w : VV) (c : Option VO) (τ : VH) : Res Unit := compXs o sc elt x i ifs d ρ w τ (listO c)
noncomputable def compIf (o : Ops) (sc : Scope) (ifs : List XE) (ρ : VE) (σ : VH) : Res Bool := match ifs with
  | [] => .ok true σ
  | [c] => o.cd sc c ρ σ
  | _ => .stuck
noncomputable def compGo (o : Ops) (sc : Scope) (elt : XE) (x : Str) (i : It) (ifs : List XE) (d : Nat) (ρ : VE) (b : Bool) (τ : VH) : Res Unit := match b with
  | true => (o.ev sc elt ρ τ).bind fun w τ => compOb o sc elt x i ifs d ρ w τ[d]? τ
  | false => o.comp sc elt x i ifs d ρ τ
noncomputable def compBy (o : Ops) (sc : Scope) (elt : XE) (x : Str) (ifs : List XE) (d : Nat) (ρ : VE) (c : Option (Option (VV × It))) (σ : VH) : Res Unit := match c with
  | none => .stuck
  | some none => .ok () σ
  | some (some q) => (compIf o sc ifs (assocSet x q.1 ρ) σ).bind (compGo o sc elt x q.2 ifs d (assocSet x q.1 ρ))
noncomputable def compF (o : Ops) (sc : Scope) (elt : XE) (x : Str) (i : It) (ifs : List XE) (d : Nat) (ρ : VE) (σ : VH) : Res Unit := compBy o sc elt x ifs d ρ (nextV σ i) σ
noncomputable def junks (r : FnRec) : VE := (r.scope.names.filter fun p => isLocCell (some p.2) && !r.params.contains p.1).map fun p => (p.1, .junk)
noncomputable def retBy (p : VF) (τ : VH) : Res VV := match p with
  | .ret v => .ok v τ
  | .next => .ok .none τ
  | _ => .stuck
noncomputable def retR (x : Res (VF × VE)) : Res VV := x.bind fun p τ => retBy p.1 τ
noncomputable def runBody (o : Ops) (r : FnRec) (as : List VV) (σ : VH) : Res VV := retR (o.exs r.scope r.body (r.params.zip as ++ junks r) σ)
noncomputable def runOpt (o : Ops) (r : FnRec) (σ : VH) (as : Option (List VV)) : Res VV := match as with
  | some as => runBody o r as σ
  | none => .stuck
noncomputable def argsOf (r : FnRec) (as : List VV) : Option (List VV) := bif Nat.beq as.length r.params.length then some as else bif Nat.beq (as.length + r.dflt.length) r.params.length then some (as ++ r.dflt) else none
noncomputable def callR (o : Ops) (as : List VV) (σ : VH) (r : Option FnRec) : Res VV := match r with
  | some r => runOpt o r σ (argsOf r as)
  | none => .stuck
noncomputable def callF (G : Top') (o : Ops) : CallO := fun f as σ => callR o as σ (G.fn f)
end Mine
end
section
set_option genInjectivity false
set_option genSizeOf false
set_option genCtorIdx false
set_option backward.match.sparseCases false
namespace Mine
inductive Vl where
  | b (x : Bool)
  | v (x : Option VV)
  | o (x : Option VO)
  | t (x : List VO)
  | q (x : Option Bool)
  | g (x : Option String)
  | w (x : Option BR)
  | r (x : Res VV)
  | f (x : Res (VF × VE))
  | u (x : Res Unit)
set_option genInjectivity false in
set_option genSizeOf false in
inductive MT : Type → Type 1 where
  | lift {α : Type} (r : Res α) : MT α
  | ask {α : Type} (q : Vl) (k : Vl → MT α) : MT α
  | bnd {α β : Type} (m : MT β) (k : β → VH → MT α) : MT α
  | tr {α β : Type} (m : MT β) (k : Res β → MT α) : MT α
  | sub {α : Type} (w : Res α → Vl) (u : Vl → Res α) (h : ∀ r, u (w r) = r) (m : MT α) : MT α
noncomputable def MT.out {α : Type} (m : MT α) : Res α := MT.rec (motive := fun α _ => Res α) (fun r => r) (fun q _ ih => ih q) (fun _ _ ihm ihk => ihm.bind fun a σ => ihk a σ) (fun _ _ ihm ihk => ihk ihm) (fun _ _ _ _ ihm => ihm) m
noncomputable abbrev TCall := Addr → List VV → VH → MT VV
structure TOps : Type 1 where
  ev : Scope → XE → VE → VH → MT VV
  cd : Scope → XE → VE → VH → MT Bool
  evs : Scope → List XE → VE → VH → MT (List VV)
  ex : Scope → XS → VE → VH → MT (VF × VE)
  exs : Scope → List XS → VE → VH → MT (VF × VE)
  loop : Scope → Str → It → List XS → VE → VH → MT (VF × VE)
  whl : Scope → XE → List XS → VE → VH → MT (VF × VE)
  comp : Scope → XE → Str → It → List XE → Nat → VE → VH → MT Unit
noncomputable def TOps.out (o : TOps) : Ops := ⟨fun sc e ρ σ => (o.ev sc e ρ σ).out, fun sc e ρ σ => (o.cd sc e ρ σ).out, fun sc e ρ σ => (o.evs sc e ρ σ).out, fun sc e ρ σ => (o.ex sc e ρ σ).out, fun sc e ρ σ => (o.exs sc e ρ σ).out, fun sc x i b ρ σ => (o.loop sc x i b ρ σ).out, fun sc c b ρ σ => (o.whl sc c b ρ σ).out, fun sc e x i fs d ρ σ => (o.comp sc e x i fs d ρ σ).out⟩
noncomputable abbrev outC (cl : TCall) : CallO := fun f as σ => (cl f as σ).out
section
variable {α : Type}
noncomputable def MT.no : MT α := .lift .stuck
noncomputable def askB (b : Bool) (k : Bool → MT α) : MT α := .ask (.b b) fun c => match c with | .b c => k c | _ => .no
noncomputable def askV (b : Option VV) (k : Option VV → MT α) : MT α := .ask (.v b) fun c => match c with | .v c => k c | _ => .no
noncomputable def askO (b : Option VO) (k : Option VO → MT α) : MT α := .ask (.o b) fun c => match c with | .o c => k c | _ => .no
noncomputable def askT (b : List VO) (k : List VO → MT α) : MT α := .ask (.t b) fun c => match c with | .t c => k c | _ => .no
noncomputable def askQ (b : Option Bool) (k : Option Bool → MT α) : MT α := .ask (.q b) fun c => match c with | .q c => k c | _ => .no
noncomputable def askG (b : Option String) (k : Option String → MT α) : MT α := .ask (.g b) fun c => match c with | .g c => k c | _ => .no
noncomputable def askW (b : Option BR) (k : Option BR → MT α) : MT α := .ask (.w b) fun c => match c with | .w c => k c | _ => .no
noncomputable def subR (m : MT VV) : MT VV := .sub .r (fun c => match c with | .r c => c | _ => .stuck) (fun _ => rfl) m
noncomputable def subF (m : MT (VF × VE)) : MT (VF × VE) := .sub .f (fun c => match c with | .f c => c | _ => .stuck) (fun _ => rfl) m
noncomputable def subU (m : MT Unit) : MT Unit := .sub .u (fun c => match c with | .u c => c | _ => .stuck) (fun _ => rfl) m
noncomputable def MT.guard (c : Bool) (m : MT α) : MT α := .bnd (.lift (chkR c)) fun _ _ => m
theorem bnd_out {β : Type} {m : MT β} {k : β → VH → MT α} {f : β → VH → Res α} (h : ∀ a σ, (k a σ).out = f a σ) : (MT.bnd m k).out = m.out.bind f := congrArg (Res.bind m.out) (funext fun a => funext fun σ => h a σ)
theorem guard_out {c : Bool} {m : MT α} {r : Res α} (h : m.out = r) : (MT.guard c m).out = .guard c r := congrArg (Res.guard c) h
noncomputable def tobj (σ : VH) (r : Nat) (k : Option VO → MT α) : MT α := bif Nat.ble 32 r then askO (σ.drop 32)[r - 32]? k else k σ[r]?
noncomputable def tupd (σ : VH) (r : Nat) (o : VO) (k : VH → MT α) : MT α := bif Nat.ble 32 r then askT ((σ.drop 32).set (r - 32) o) fun T => k (σ.take 32 ++ T) else k (σ.set r o)
theorem obj_out {σ : VH} {r : Nat} {k : Option VO → MT α} : (tobj σ r k).out = (k σ[r]?).out := by
  unfold tobj
  cases q : Nat.ble 32 r with
  | false => rfl
  | true =>
    have e : (σ.drop 32)[r - 32]? = σ[r]? := by
      rw [List.getElem?_drop]
      exact congrArg (σ[·]?) (Nat.add_sub_cancel' (Nat.le_of_ble_eq_true q))
    exact congrArg (fun c => (k c).out) e
theorem set_drop {σ : VH} {r : Nat} {o : VO} (h : 32 ≤ r) : σ.take 32 ++ (σ.drop 32).set (r - 32) o = σ.set r o := by
  obtain ⟨n, rfl⟩ : ∃ n, r = 32 + n := ⟨r - 32, (Nat.add_sub_cancel' h).symm⟩
  rw [Nat.add_sub_cancel_left]
  have key : ∀ (k n : Nat) (l : List VO), l.take k ++ (l.drop k).set n o = l.set (k + n) o := by
    intro k
    induction k with
    | zero => intro n l; rw [Nat.zero_add]; rfl
    | succ k ih =>
      intro n l
      induction l with
      | nil => rfl
      | cons a l =>
        rw [Nat.succ_add]
        exact congrArg (List.cons a) (ih n l)
  exact key 32 n σ
theorem upd_out {σ : VH} {r : Nat} {o : VO} {k : VH → MT α} : (tupd σ r o k).out = (k (σ.set r o)).out := by
  unfold tupd
  cases q : Nat.ble 32 r with
  | false => rfl
  | true => exact congrArg (fun c => (k c).out) (set_drop (Nat.le_of_ble_eq_true q))
noncomputable def tobS (σ : VH) (r : Nat) (k : VO → MT α) (e : MT α) : MT α := tobj σ r fun c => match c with
  | some ob => k ob
  | none => e
noncomputable def tset' (σ : VH) (r : Nat) (p : Option VO) (k : Option VH → MT α) : MT α := match p with
  | some p => tupd σ r p fun τ => k (some τ)
  | none => k none
theorem set_out' {σ : VH} {r : Nat} {p : Option VO} {k : Option VH → MT α} : (tset' σ r p k).out = (k (p.map fun p => σ.set r p)).out := by
  induction p
  · rfl
  · exact upd_out (k := fun τ => k (some τ))
noncomputable def tget (σ : VH) (o i : VV) (k : Option VV → MT α) : MT α := match o with
  | .tup xs => (match i with
    | .int j => k (lget xs j)
    | _ => k none)
  | .ref r => tobS σ r (fun ob => askV (oget ob i) k) (k none)
  | _ => k none
theorem obS_out {β : Type} {σ : VH} {r : Nat} {g : VO → Option β} {h : VO → MT α} {κ : Option β → Res α} {e : MT α} (h1 : e.out = κ none) (h2 : ∀ ob, (h ob).out = κ (g ob)) : (tobS σ r h e).out = κ (σ[r]?.bind g) := by
  refine obj_out.trans ?_
  cases σ[r]? with
  | none => exact h1
  | some ob => exact h2 ob
theorem get_out {σ : VH} {o i : VV} {k : Option VV → MT α} : (tget σ o i k).out = (k (getV σ o i)).out := by
  cases o with
  | ref r => exact obS_out (κ := fun c => (k c).out) rfl fun ob => rfl
  | tup xs => cases i <;> rfl
  | _ => rfl
noncomputable def tset (σ : VH) (o i v : VV) (k : Option VH → MT α) : MT α := match o with
  | .ref r => tobS σ r (fun ob => askO (oset ob i v) fun p => tset' σ r p k) (k none)
  | _ => k none
theorem set_out {σ : VH} {o i v : VV} {k : Option VH → MT α} : (tset σ o i v k).out = (k (setV σ o i v)).out := by
  cases o with
  | ref r => exact obS_out (κ := fun c => (k c).out) rfl fun ob => set_out'
  | _ => rfl
noncomputable def tdel (σ : VH) (o i : VV) (k : Option VH → MT α) : MT α := match o with
  | .ref r => tobS σ r (fun ob => askO (odel ob i) fun p => tset' σ r p k) (k none)
  | _ => k none
theorem del_out {σ : VH} {o i : VV} {k : Option VH → MT α} : (tdel σ o i k).out = (k (delV σ o i)).out := by
  cases o with
  | ref r => exact obS_out (κ := fun c => (k c).out) rfl fun ob => set_out'
  | _ => rfl
noncomputable def torQ (p : Option Bool) (k : Option Bool → MT α) (m : MT α) : MT α := match p with
  | some b => k (some b)
  | none => m
noncomputable def tin (σ : VH) (a b : VV) (k : Option Bool → MT α) : MT α := match b with
  | .tup ys => askQ (anyEq σ a ys) k
  | .ref i => tobS σ i (fun ob => askQ (oinD ob a) fun q => torQ q k (askQ (oinL σ ob a) k)) (k none)
  | _ => k none
theorem orQ_out {p q : Option Bool} {k : Option Bool → MT α} : (torQ p k (askQ q k)).out = (k (p.or q)).out := by induction p <;> rfl
theorem in_out {σ : VH} {a b : VV} {k : Option Bool → MT α} : (tin σ a b k).out = (k (inV σ a b)).out := by
  cases b with
  | ref r => exact obS_out (κ := fun c => (k c).out) rfl fun ob => orQ_out
  | _ => rfl
noncomputable def tcmp (σ : VH) (op : CmpOp) (a b : VV) (k : Option Bool → MT α) : MT α := match op with
  | .In => tin σ a b k
  | .NotIn => tin σ a b fun q => k (q.map (!·))
  | op => askQ (cmpV σ op a b) k
theorem cmp_out {σ : VH} {op : CmpOp} {a b : VV} {k : Option Bool → MT α} : (tcmp σ op a b k).out = (k (cmpV σ op a b)).out := by
  induction op <;> first | rfl | exact in_out
end
noncomputable def tbr (f : VV → VO → VH → MT VV) (σ : VH) (b : Option BR) : MT VV := match b with
  | some (.v x) => .lift (.ok x σ)
  | some (.o x p) => f x p σ
  | none => .no
noncomputable def tblt (id : Value) (as : List VV) (σ : VH) : MT VV := match ref1 as with
  | some r => tobS σ r (fun ob => askW (blt1 id ob) (tbr (fun _ p σ => .lift (alloc σ p)) σ)) .no
  | none => .lift (blt0 id as σ)
theorem br_out {f : VV → VO → VH → MT VV} {σ : VH} {b : Option BR} {g : Option BR → Res VV} (h0 : g none = .stuck) (h1 : ∀ x, g (some (.v x)) = .ok x σ) (h2 : ∀ x p, (f x p σ).out = g (some (.o x p))) : (tbr f σ b).out = g b := by
  induction b with
  | none => exact h0.symm
  | some b =>
    induction b with
    | v x => exact (h1 x).symm
    | o x p => exact h2 x p
theorem blt_out {id : Value} {as : List VV} {σ : VH} : (tblt id as σ).out = bltV id as σ := by
  delta tblt bltV
  cases ref1 as with
  | none => rfl
  | some r => exact obS_out (κ := fun c => brNew c σ) rfl fun ob => br_out (g := fun c => brNew c σ) rfl (fun _ => rfl) fun _ _ => rfl
noncomputable def tmth (id : String) (r : Nat) (as : List VV) (σ : VH) : MT VV := tobS σ r (fun ob => askW (omth id ob as) (tbr (fun x p σ => tupd σ r p fun τ => .lift (.ok x τ)) σ)) .no
theorem mth_out {id : String} {r : Nat} {as : List VV} {σ : VH} : (tmth id r as σ).out = mthRun id r as σ := obS_out (κ := fun c => brSet r c σ) rfl fun ob => br_out (g := fun c => brSet r c σ) rfl (fun _ => rfl) fun _ _ => upd_out
noncomputable def tnewBy (cl : TCall) (C : Addr) (as : List VV) (σ : VH) (f : Option Addr) : MT VV := match f with
  | some f => .tr (subR (cl f (.ref (σ.length + 1) :: as) (σ ++ [.attrs [], .inst C σ.length false]))) fun r => .lift (initFin (σ.length + 1) r)
  | none => .no
noncomputable def tnewInst (G : Top') (cl : TCall) (C : Addr) (as : List VV) (σ : VH) : MT VV := bif G.exc C then .lift (excNewV C as σ) else tnewBy cl C as σ (G.init C)
theorem newInst_out {G : Top'} {cl : TCall} {C : Addr} {as : List VV} {σ : VH} : (tnewInst G cl C as σ).out = newInst G (outC cl) C as σ := by
  delta tnewInst newInst
  cases G.exc C with
  | true => rfl
  | false => cases G.init C <;> rfl
noncomputable def tcallB (G : Top') (cl : TCall) (b : Value) (as : List VV) (σ : VH) : MT VV := match b with
  | .ref a => bif isCls G a then tnewInst G cl a as σ else subR (cl a as σ)
  | b => tblt b as σ
noncomputable def tcallVal (G : Top') (cl : TCall) (f : VV) (as : List VV) (σ : VH) : MT VV := match f with
  | .val b => tcallB G cl b as σ
  | _ => .no
theorem bif_out {α : Type} {c : Bool} {x y : MT α} {a b : Res α} (h : x.out = a) (k : y.out = b) : (bif c then x else y).out = bif c then a else b := by induction c <;> assumption
theorem callVal_out {G : Top'} {cl : TCall} {f : VV} {as : List VV} {σ : VH} : (tcallVal G cl f as σ).out = callVal G (outC cl) f as σ := by
  cases f with
  | val b =>
    induction b with
    | ref a =>
      have h : ∀ c, (bif c then tnewInst G cl a as σ else subR (cl a as σ)).out = bif c then newInst G (outC cl) a as σ else outC cl a as σ := fun c => bif_out newInst_out rfl
      exact h (isCls G a)
    | _ => exact blt_out
  | _ => rfl
noncomputable def tmArgs (cl : TCall) (f : Addr) (as : List VV) (m : MT (List VV)) : MT VV := .bnd m fun bs τ => subR (cl f (as ++ bs) τ)
noncomputable def tmDef (cl : TCall) (r : Nat) (name : Str) (f : Option Addr) (d : Option VO) (σ : VH) (args : VH → MT (List VV)) : MT VV := match f with
  | some f => (match d with
    | some (.attrs fs) => bif (assocGet name fs).isNone then tmArgs cl f [.ref r] (args σ) else .no
    | _ => .no)
  | none => .no
noncomputable def tmIn (G : Top') (cl : TCall) (r : Nat) (name : Str) (ob : VO) (σ : VH) (args : VH → MT (List VV)) : MT VV := match ob with
  | .inst C d false => tmDef cl r name (G.meth C name) σ[d]? σ args
  | _ => .no
noncomputable def tmOb (G : Top') (cl : TCall) (r : Nat) (name : Str) (g : Option String) (ob : VO) (σ : VH) (args : VH → MT (List VV)) : MT VV := match g with
  | some id => .bnd (args σ) fun as τ => tmth id r as τ
  | none => tmIn G cl r name ob σ args
noncomputable def tmCls (cl : TCall) (f : Option Addr) (σ : VH) (args : VH → MT (List VV)) : MT VV := match f with
  | some f => tmArgs cl f [] (args σ)
  | none => .no
noncomputable def tmeth (G : Top') (cl : TCall) (ov : VV) (name : Str) (σ : VH) (args : VH → MT (List VV)) : MT VV := match ov with
  | .ref r => tobS σ r (fun ob => askG (mthId ob name) fun g => tmOb G cl r name g ob σ args) .no
  | .val (.ref C) => tmCls cl (G.cmeth C name) σ args
  | _ => .no
theorem mDef_out {G : Top'} {cl : TCall} {r : Nat} {name : Str} {f : Option Addr} {d : Option VO} {σ : VH} {args : VH → MT (List VV)} : (tmDef cl r name f d σ args).out = methDef G (outC cl) r name f d σ fun τ => (args τ).out := by
  induction f with
  | none => rfl
  | some f =>
    induction d with
    | none => rfl
    | some d =>
      induction d with
      | attrs fs =>
        unfold tmDef methDef
        dsimp only
        cases (assocGet name fs).isNone <;> rfl
      | _ => rfl
theorem mIn_out {G : Top'} {cl : TCall} {r : Nat} {name : Str} {ob : VO} {σ : VH} {args : VH → MT (List VV)} : (tmIn G cl r name ob σ args).out = methIn' G (outC cl) r name ob σ fun τ => (args τ).out := by
  induction ob with
  | inst C d e =>
    induction e
    · exact mDef_out (G := G)
    · rfl
  | _ => rfl
theorem mOb_out {G : Top'} {cl : TCall} {r : Nat} {name : Str} {g : Option String} {ob : VO} {σ : VH} {args : VH → MT (List VV)} : (tmOb G cl r name g ob σ args).out = methOb G (outC cl) r name g ob σ fun τ => (args τ).out := by
  induction g with
  | some id => exact bnd_out fun _ _ => mth_out
  | none => exact mIn_out
theorem meth_out {G : Top'} {cl : TCall} {ov : VV} {name : Str} {σ : VH} {args : VH → MT (List VV)} : (tmeth G cl ov name σ args).out = methVal G (outC cl) ov name σ fun τ => (args τ).out := by
  cases ov with
  | ref r =>
    refine obj_out.trans ?_
    show _ = methRef G (outC cl) r name σ[r]? σ fun τ => (args τ).out
    cases σ[r]? with
    | none => rfl
    | some ob => exact mOb_out
  | val b =>
    induction b with
    | ref C =>
      have h : ∀ f, (tmCls cl f σ args).out = methCls (outC cl) f σ fun τ => (args τ).out := fun f => by induction f <;> rfl
      exact h _
    | _ => rfl
  | _ => rfl
noncomputable def modOp : Operator → Bool
  | .Mod | .FloorDiv => true
  | _ => false
noncomputable def tbin (op : Operator) (a b : VV) (σ : VH) : MT VV := bif modOp op then askV (binV op a b) fun c => .lift (Res.of c σ) else .lift (Res.of (binV op a b) σ)
theorem bin_out {op : Operator} {a b : VV} {σ : VH} : (tbin op a b σ).out = Res.of (binV op a b) σ := by
  unfold tbin
  cases modOp op <;> rfl
noncomputable def tslice (τ : VH) (v : VV) (f : List VV → List VV) : MT VV := match v with
  | .ref r => tobS τ r (fun ob => askO (omap f ob) fun p => .lift (newO τ p)) .no
  | _ => .no
theorem slice_out {τ : VH} {v : VV} {f : List VV → List VV} : (tslice τ v f).out = sliceV τ v f := by
  cases v with
  | ref r => exact obS_out (κ := newO τ) rfl fun ob => rfl
  | _ => rfl
noncomputable def natO : Option VV → Option Nat
  | some v => natV v
  | none => none
noncomputable def tsliceBy (τ : VH) (v : VV) (k : Option Nat) : MT VV := match k with
  | some k => tslice τ v (·.drop k)
  | none => .no
theorem sliceBy_out {τ : VH} {v : VV} {k : Option Nat} : (tsliceBy τ v k).out = sliceBy τ v k := by
  induction k
  · rfl
  · exact slice_out
noncomputable def tdict0 (σ : VH) (k : Int) (v : VV) (n : Nat) (c : Option VO) : MT VV := match c with
  | some .edict => tupd σ n (.idict [(k, v)]) fun τ => .lift (.ok (.ref n) τ)
  | _ => .no
theorem dict0_out {σ : VH} {k : Int} {v : VV} {n : Nat} {c : Option VO} : (tdict0 σ k v n c).out = dict0 σ k v c n := by
  induction c with
  | none => rfl
  | some c =>
    induction c with
    | edict => exact upd_out (k := fun τ => MT.lift (Res.ok (VV.ref n) τ))
    | _ => rfl
noncomputable def orT {α : Type} (b : Option Bool) (x y : MT α) : MT α := match b with
  | some true => x
  | some false => y
  | none => .no
theorem or_out {α : Type} {b : Option Bool} {x y : MT α} : (orT b x y).out = orR b x.out y.out := by
  induction b with
  | none => rfl
  | some b => induction b <;> rfl
noncomputable def itOb (i : Nat) : Option VO → Option It
  | some (.list _) => some (.lst i 0)
  | some .edict => some (.keys i 0)
  | some (.sdict _) => some (.keys i 0)
  | _ => none
noncomputable def tit {α : Type} (σ : VH) (v : VV) (k : Option It → MT α) : MT α := match v with
  | .tup xs => k (some (.tup xs))
  | .rng a b c => askB (smallI a && smallI b && (c == 1 || c == -1)) fun q => k (if q then some (.rng a b c) else none)
  | .ref i => tobj σ i fun c => k (itOb i c)
  | _ => k none
theorem itOf_ref {σ : VH} {i : Nat} : itOf σ (.ref i) = itOb i σ[i]? := by
  show (match σ[i]? with | some (.list _) => _ | some .edict => _ | some (.sdict _) => _ | _ => _) = _
  cases σ[i]? with
  | none => rfl
  | some o => induction o <;> rfl
theorem it_out {α : Type} {σ : VH} {v : VV} {k : Option It → MT α} : (tit σ v k).out = (k (itOf σ v)).out := by
  cases v with
  | ref i => rw [itOf_ref]; exact obj_out
  | _ => rfl
noncomputable def tcompIt (o : TOps) (elt : XE) (x : Str) (ifs : List XE) (csc : Scope) (ρ : VE) (i : Option It) (τ : VH) : MT VV := match i with
  | some i => .tr (subU (o.comp csc elt x i ifs τ.length (compEnv csc ρ) (τ ++ [.list []]))) fun r => .lift (compEnd τ.length r)
  | none => .no
noncomputable def tcompL (o : TOps) (sc : Scope) (elt : XE) (x : Str) (it : XE) (ifs : List XE) (csc : Scope) (ρ : VE) (σ : VH) : MT VV := .guard (csOK sc csc x ρ) (.bnd (o.ev sc it ρ σ) fun v τ => tit τ v fun i => tcompIt o elt x ifs csc ρ (i.bind notKeys) τ)
theorem compL_out {o : TOps} {sc : Scope} {elt : XE} {x : Str} {it : XE} {ifs : List XE} {csc : Scope} {ρ : VE} {σ : VH} : (tcompL o sc elt x it ifs csc ρ σ).out = compL' o.out sc elt x it ifs csc ρ σ := guard_out (bnd_out fun v τ => it_out.trans (by cases (itOf τ v).bind notKeys <;> rfl))
noncomputable def tev (G : Top') (cl : TCall) (o : TOps) (sc : Scope) (e : XE) (ρ : VE) (σ : VH) : MT VV := match e with
  | .const c _ _ => .lift (Res.of (constV c) σ)
  | .name x _ => .lift (Res.of (nameV G sc x ρ) σ)
  | .tuple es _ _ => .bnd (o.evs sc es ρ σ) fun vs τ => .lift (tupV vs τ)
  | .list es _ => .bnd (o.evs sc es ρ σ) fun vs τ => .lift (lstV vs τ)
  | .dict0 _ => .lift (alloc σ .edict)
  | .dict1 i _ _ v _ => .bnd (o.ev sc v ρ (σ ++ [.edict])) fun x τ => tobj τ σ.length (tdict0 τ i x σ.length)
  | .bin l op r _ => .bnd (o.ev sc l ρ σ) fun a σ₁ => .bnd (o.ev sc r ρ σ₁) fun b σ₂ => tbin op a b σ₂
  | .neg x _ => .bnd (o.ev sc x ρ σ) fun a τ => .lift (negV a τ)
  | .cmp l op r _ => .bnd (o.ev sc l ρ σ) fun a σ₁ => .bnd (o.ev sc r ρ σ₁) fun b σ₂ => tcmp σ₂ op a b fun c => .lift (Res.of (c.map .bool) σ₂)
  | .or x y _ => .bnd (o.ev sc x ρ σ) fun a τ => orT (truthV a) (.lift (.ok a τ)) (o.ev sc y ρ τ)
  | .and x y _ => .bnd (o.ev sc x ρ σ) fun a τ => orT (truthV a) (o.ev sc y ρ τ) (.lift (.ok a τ))
  | .ifx c x y _ => .bnd (o.cd sc c ρ σ) fun b τ => o.ev sc (bif b then x else y) ρ τ
  | .attr x a _ => .guard (baseOK x) (.bnd (o.ev sc x ρ σ) fun v τ => .lift (Res.of (attrV G τ v a) τ))
  | .sub x i _ => .bnd (o.ev sc x ρ σ) fun v σ₁ => .bnd (o.ev sc i ρ σ₁) fun k τ => tget τ v k fun c => .lift (Res.of c τ)
  | .take x px k _ _ _ _ => .bnd (o.ev sc (.name x px) ρ σ) fun v τ => tslice τ v (·.take k)
  | .drop x px lo _ _ => .bnd (o.ev sc (.name x px) ρ σ) fun v σ₁ => .bnd (o.ev sc lo ρ σ₁) fun i τ => askV (some i) fun i => tsliceBy τ v (natO i)
  | .rev x px _ _ _ _ _ => .bnd (o.ev sc (.name x px) ρ σ) fun v τ => tslice τ v List.reverse
  | .callM x name q as p => .guard (callOK x q p as) (.bnd (o.ev sc x ρ σ) fun v τ => tmeth G cl v name τ fun τ' => o.evs sc as ρ τ')
  | .callN f _ as _ => .guard (argsOK as) (.bnd (.lift (Res.of (nameV G sc f ρ) σ)) fun fv τ => .bnd (o.evs sc as ρ τ) fun as τ' => tcallVal G cl fv as τ')
  | .comp e x _ it ifs csc _ => tcompL o sc e x it ifs csc ρ σ
noncomputable def tevs (o : TOps) (sc : Scope) (es : List XE) (ρ : VE) (σ : VH) : MT (List VV) := match es with
  | [] => .lift (.ok [] σ)
  | e :: r => .bnd (o.ev sc e ρ σ) fun v τ => .bnd (o.evs sc r ρ τ) fun vs τ' => .lift (.ok (v :: vs) τ')
noncomputable def tcd (o : TOps) (sc : Scope) (e : XE) (ρ : VE) (σ : VH) : MT Bool := match e with
  | .cmp l op r _ => .bnd (o.ev sc l ρ σ) fun a σ₁ => .bnd (o.ev sc r ρ σ₁) fun b σ₂ => tcmp σ₂ op a b fun c => .lift (Res.of c σ₂)
  | .or x y _ => .bnd (o.cd sc x ρ σ) fun a τ => orT (some a) (.lift (.ok true τ)) (o.cd sc y ρ τ)
  | .and x y _ => .bnd (o.cd sc x ρ σ) fun a τ => orT (some a) (o.cd sc y ρ τ) (.lift (.ok false τ))
  | .callM x m q as p => .bnd (o.ev sc (.callM x m q as p) ρ σ) fun a τ => .lift (Res.of (truthV a) τ)
  | .callN f q as p => .bnd (o.ev sc (.callN f q as p) ρ σ) fun a τ => .lift (Res.of (truthV a) τ)
  | .const c _ _ => .lift (constT c σ)
  | _ => .no
noncomputable def tassign (G : Top') (o : TOps) (sc : Scope) (t : XT) (v : VV) (ρ : VE) (σ : VH) : MT VE := match t with
  | .name x _ => .guard (isLocCell (sc.names.lookup x)) (.lift (.ok (assocSet x v ρ) σ))
  | .attr x a _ => .bnd (o.ev sc x ρ σ) fun ov τ => .lift (setE (setAttrV G τ ov a v) ρ)
  | .sub x i _ => .bnd (o.ev sc x ρ σ) fun ov σ₁ => .bnd (o.ev sc i ρ σ₁) fun k τ => tset τ ov k v fun c => .lift (setE c ρ)
  | .tup x _ y _ _ _ => .guard (isLocal (sc.names.lookup x) && isLocal (sc.names.lookup y)) (.bnd (.lift (Res.of (pairV v) σ)) fun p τ => .lift (.ok (assocSet y p.2 (assocSet x p.1 ρ)) τ))
theorem assign_out {G : Top'} {o : TOps} {sc : Scope} {t : XT} {v : VV} {ρ : VE} {σ : VH} : (tassign G o sc t v ρ σ).out = assignV G o.out sc t v ρ σ := by
  induction t with
  | sub => exact bnd_out fun _ _ => bnd_out fun _ _ => set_out
  | _ => rfl
noncomputable def tcat (x : Str) (ρ : VE) (τ : VH) (r : Nat) (c : Bool) (z : List VV) : MT (VF × VE) := askB c fun c => .guard c (tupd τ r (.list z) fun τ => .lift (.ok (.next, assocSet x (.ref r) ρ) τ))
noncomputable def tcatOb (x : Str) (ρ : VE) (τ : VH) (r q : Nat) (a b : Option VO) : MT (VF × VE) := .bnd (.lift (Res.of (listO a) τ)) fun xs _ => .bnd (.lift (Res.of (listO b) τ)) fun ys _ => tcat x ρ τ r (!Nat.beq r q && okLen (xs.length + ys.length)) (xs ++ ys)
noncomputable def tiadd (a b : VV) (x : Str) (ρ : VE) (τ : VH) : MT (VF × VE) := match a with
  | .int i => .bnd (.lift (Res.of (intV b) τ)) fun j _ => .lift (.ok (.next, assocSet x (.int (i + j)) ρ) τ)
  | .ref r => (match b with
    | .ref q => tobj τ r fun c => tobj τ q fun d => tcatOb x ρ τ r q c d
    | _ => .no)
  | _ => .no
theorem iadd_out {a b : VV} {x : Str} {ρ : VE} {τ : VH} : (tiadd a b x ρ τ).out = iadd a b x ρ τ := by
  cases a with
  | ref r =>
    cases b with
    | ref q => exact obj_out.trans (obj_out.trans (bnd_out fun xs _ => bnd_out fun ys _ => guard_out upd_out))
    | _ => rfl
  | _ => rfl
noncomputable def taugS (o : TOps) (τ : VH) (ov kv : VV) (w : Option VV) (ρ : VE) : MT (VF × VE) := match w with
  | some w => tset τ ov kv w fun c => .lift (setBy c ρ)
  | none => .no
theorem augS_out {o : TOps} {τ : VH} {ov kv : VV} {w : Option VV} {ρ : VE} : (taugS o τ ov kv w ρ).out = setBy (w.bind fun w => setV τ ov kv w) ρ := by
  induction w
  · rfl
  · exact set_out
noncomputable def tdelBy (τ : VH) (v : VV) (ρ : VE) (k : Option Nat) : MT (VF × VE) := match k with
  | some k => (match v with
    | .ref r => tobS τ r (fun ob => askO (omap (·.take k) ob) fun p => tset' τ r p fun c => .lift (setBy c ρ)) .no
    | _ => .no)
  | none => .no
theorem delBy_out {τ : VH} {v : VV} {ρ : VE} {k : Option Nat} : (tdelBy τ v ρ k).out = delBy τ v ρ k := by
  induction k with
  | none => rfl
  | some k =>
    cases v with
    | ref r => exact obS_out (κ := setO τ r ρ) rfl fun ob => set_out'.trans (by show setBy (Option.map _ (omap (·.take k) ob)) ρ = _; cases omap (·.take k) ob <;> rfl)
    | _ => rfl
noncomputable def tforIt (o : TOps) (sc : Scope) (x : Str) (body : List XS) (ρ : VE) (i : Option It) (τ : VH) : MT (VF × VE) := match i with
  | some i => subF (o.loop sc x i body ρ τ)
  | none => .no
noncomputable def traise (G : Top') (v : VV) (τ : VH) : MT (VF × VE) := match v with
  | .ref r => tobj τ r fun c => .lift (raiseOb G r c τ)
  | _ => .no
theorem raise_out {G : Top'} {v : VV} {τ : VH} : (traise G v τ).out = raiseV G v τ := by
  cases v with
  | ref r => exact obj_out
  | _ => rfl
noncomputable def tcaughtD (i : Nat) (τ : VH) (v : Option VV) : MT (VF × VE) := match v with
  | some v => .guard (handV v) (tupd τ i .dead fun τ => .lift (.ok (.ret v, []) τ))
  | none => .no
theorem caughtD_out {i : Nat} {v : Option VV} {τ : VH} : (tcaughtD i τ v).out = caughtB i τ v := by
  induction v
  · rfl
  · exact guard_out upd_out
noncomputable def tcaughtC (G : Top') (i : Nat) (τ : VH) (D : Addr × Nat) (C : Option Addr) : MT (VF × VE) := match C with
  | some C => .guard (Nat.beq D.1 C && G.exc D.1) (tobj τ D.2 fun c => tcaughtD i τ (ballO c))
  | none => .no
noncomputable def tcaught (G : Top') (i : Nat) (n : Option VV) (τ : VH) (D : Option (Addr × Nat)) : MT (VF × VE) := match D with
  | some D => tcaughtC G i τ D (n.bind clsV)
  | none => .no
theorem caughtC_out {G : Top'} {i : Nat} {τ : VH} {D : Addr × Nat} {C : Option Addr} : (tcaughtC G i τ D C).out = caughtC G i τ D C := by
  induction C
  · rfl
  · exact guard_out (obj_out.trans caughtD_out)
theorem caught_out {G : Top'} {i : Nat} {n : Option VV} {τ : VH} {D : Option (Addr × Nat)} : (tcaught G i n τ D).out = caughtO G i n τ D := by
  induction D
  · rfl
  · exact caughtC_out
noncomputable def ttry (G : Top') (n : Option VV) (ρ : VE) (r : Res VV) : MT (VF × VE) := match r with
  | .ok v τ => .lift (.ok (.ret v, ρ) τ)
  | .exc i τ => tobj τ i fun c => tcaught G i n τ (excO c)
  | .stuck => .no
theorem try_out {G : Top'} {n : Option VV} {ρ : VE} {r : Res VV} : (ttry G n ρ r).out = tryR G n ρ r := by
  induction r with
  | exc i τ => exact obj_out.trans caught_out
  | _ => rfl
noncomputable def tex (G : Top') (o : TOps) (sc : Scope) (s : XS) (ρ : VE) (σ : VH) : MT (VF × VE) := match s with
  | .expr e _ => .guard (notComp e) (.bnd (o.ev sc e ρ σ) fun v τ => .lift (.guard (dropOK v) (.ok (.next, ρ) τ)))
  | .pass _ => .lift (.ok (.next, ρ) σ)
  | .cont _ => .lift (.ok (.cont, ρ) σ)
  | .ret0 _ => .lift (.ok (.ret .none, ρ) σ)
  | .ret e _ => .bnd (o.ev sc e ρ σ) fun v τ => .lift (.ok (.ret v, ρ) τ)
  | .asg t e _ => .guard (asgOK t e) (.bnd (o.ev sc e ρ σ) fun v τ => .bnd (tassign G o sc t v ρ τ) fun ρ' τ' => .lift (.ok (.next, ρ') τ'))
  | .asgL y py e x _ it ifs csc q _ => .guard (swapTo sc csc y py q) (.bnd (subR (tcompL o sc e x it ifs csc ρ σ)) fun v τ => .lift (.ok (.next, assocSet y v ρ) τ))
  | .asgD y py _ w x _ it a b _ csc q _ => .guard (swapTo sc csc y py q) (.bnd (subR (.lift (compD' G o.out sc w x it a b csc ρ σ))) fun v τ => .lift (.ok (.next, assocSet y v ρ) τ))
  | .augN x _ e _ => .guard (isLocal (sc.names.lookup x)) (.bnd (.lift (Res.of (nameV G sc x ρ) σ)) fun a σ₁ => .bnd (o.ev sc e ρ σ₁) fun b τ => tiadd a b x ρ τ)
  | .augA x a _ e _ => .bnd (o.ev sc x ρ σ) fun ov σ₁ => .bnd (.lift (Res.of (attrV G σ₁ ov a) σ₁)) fun old σ₂ => .bnd (o.ev sc e ρ σ₂) fun b τ => .lift (setBy ((addI old b).bind fun w => setAttrV G τ ov a w) ρ)
  | .augS x k _ e _ => .bnd (o.ev sc x ρ σ) fun ov σ₁ => .bnd (o.ev sc k ρ σ₁) fun kv σ₂ => tget σ₂ ov kv fun c => .bnd (.lift (Res.of c σ₂)) fun old σ₃ => .bnd (o.ev sc e ρ σ₃) fun b τ => taugS o τ ov kv (addI old b) ρ
  | .del x i _ _ => .bnd (o.ev sc x ρ σ) fun ov σ₁ => .bnd (o.ev sc i ρ σ₁) fun k τ => tdel τ ov k fun c => .lift (setBy c ρ)
  | .delF x q lo _ _ _ => .bnd (o.ev sc (.name x q) ρ σ) fun ov σ₁ => .bnd (o.ev sc lo ρ σ₁) fun k τ => askV (some k) fun k => tdelBy τ ov ρ (natO k)
  | .ite c a b _ => .bnd (o.cd sc c ρ σ) fun t τ => o.exs sc (bif t then a else b) ρ τ
  | .whl c a _ => .tr (subF (o.whl sc c a ρ σ)) fun r => .lift (whlOk r)
  | .for x _ it b _ => .bnd (o.ev sc it ρ σ) fun v τ => tit τ v fun i => tforIt o sc x b ρ (i.bind notKeys) τ
  | .raise e _ => .bnd (o.ev sc e ρ σ) fun v τ => traise G v τ
  | .try e _ c _ n _ _ _ _ _ => .guard (isLocal (sc.names.lookup n) && !(n == ("__debug__" : Str))) (.tr (o.ev sc e ρ σ) (ttry G (nameV G sc c ρ) ρ))
noncomputable def texsAft (o : TOps) (sc : Scope) (r : List XS) (p : VF × VE) (τ : VH) : MT (VF × VE) := match p.1 with
  | .next => o.exs sc r p.2 τ
  | _ => .lift (.ok p τ)
noncomputable def texs (o : TOps) (sc : Scope) (ss : List XS) (ρ : VE) (σ : VH) : MT (VF × VE) := match ss with
  | [] => .lift (.ok (.next, ρ) σ)
  | s :: r => .bnd (o.ex sc s ρ σ) (texsAft o sc r)
theorem exsAft_out {o : TOps} {sc : Scope} {r : List XS} {p : VF × VE} {τ : VH} : (texsAft o sc r p τ).out = exsAft o.out sc r p τ := by
  obtain ⟨f, ρ⟩ := p
  induction f <;> rfl
noncomputable def nxOb (i k : Nat) (c : Option VV) : Option (VV × It) := match c with
  | some x => some (x, .lst i (k + 1))
  | none => none
noncomputable def tnextOb {α : Type} (i k : Nat) (c : Option VO) (f : Option (Option (VV × It)) → MT α) : MT α := match c with
  | some (.list xs) => askV xs[k]? fun c => f (some (nxOb i k c))
  | _ => f none
noncomputable def tnext {α : Type} (σ : VH) (i : It) (k : Option (Option (VV × It)) → MT α) : MT α := match i with
  | .tup [] => k (some none)
  | .tup (x :: r) => k (some (some (x, .tup r)))
  | .lst i j => tobj σ i fun c => tnextOb i j c k
  | .rng a b c => if c = 1 then askB (decide (a < b)) fun q => k (some (if q then some (.int a, .rng (a + 1) b c) else none))
    else if c = -1 then askB (decide (b < a)) fun q => k (some (if q then some (.int a, .rng (a - 1) b c) else none)) else k none
  | .keys i j => k (nextV σ (.keys i j))
theorem next_out {α : Type} {σ : VH} {i : It} {k : Option (Option (VV × It)) → MT α} : (tnext σ i k).out = (k (nextV σ i)).out := by
  induction i with
  | tup xs => induction xs <;> rfl
  | lst i j =>
    refine obj_out.trans ?_
    show (tnextOb i j σ[i]? k).out = (k (match σ[i]? with | some (.list xs) => _ | _ => _)).out
    cases σ[i]? with
    | none => rfl
    | some q =>
      induction q with
      | list xs =>
        show (k (some (nxOb i j xs[j]?))).out = (k (match xs[j]? with | some x => _ | none => _)).out
        cases xs[j]? <;> rfl
      | _ => rfl
  | rng a b c =>
    have f1 (v : VV × It) (P : Prop) [Decidable P] : (k (some (if decide P then some v else none))).out = (k (if P then some (some v) else some none)).out := by
      by_cases z : P
      · rw [if_pos z, if_pos (decide_eq_true z)]
      · rw [if_neg z, decide_eq_false z]; rfl
    show (if c = 1 then _ else if c = -1 then _ else _ : MT α).out = (k (if c = 1 then _ else if c = -1 then _ else _)).out
    by_cases q : c = 1
    · rw [if_pos q, if_pos q]; exact f1 _ _
    · rw [if_neg q, if_neg q]
      by_cases q : c = -1
      · rw [if_pos q, if_pos q]; exact f1 _ _
      · rw [if_neg q, if_neg q]
  | keys => rfl
noncomputable def taft (go : VE → VH → MT (VF × VE)) (p : VF × VE) (τ : VH) : MT (VF × VE) := match p.1 with
  | .next => subF (go p.2 τ)
  | .cont => subF (go p.2 τ)
  | .brk => .lift (.ok (.next, p.2) τ)
  | .ret w => .lift (.ok (.ret w, p.2) τ)
theorem aft_out {go : VE → VH → MT (VF × VE)} (p : VF × VE) (τ : VH) : (taft go p τ).out = aft (fun ρ σ => (go ρ σ).out) p τ := by
  obtain ⟨f, ρ⟩ := p
  induction f <;> rfl
noncomputable def tloopAft (o : TOps) (sc : Scope) (x : Str) (i : It) (body : List XS) : VF × VE → VH → MT (VF × VE) := taft (o.loop sc x i body)
noncomputable def tloopBy (o : TOps) (sc : Scope) (x : Str) (body : List XS) (ρ : VE) (c : Option (Option (VV × It))) (σ : VH) : MT (VF × VE) := match c with
  | none => .no
  | some none => .lift (.ok (.next, ρ) σ)
  | some (some q) => .guard (isLocal (sc.names.lookup x)) (.bnd (o.exs sc body (assocSet x q.1 ρ) σ) (tloopAft o sc x q.2 body))
noncomputable def tloop (o : TOps) (sc : Scope) (x : Str) (i : It) (body : List XS) (ρ : VE) (σ : VH) : MT (VF × VE) := tnext σ i fun c => tloopBy o sc x body ρ c σ
theorem loop_out {o : TOps} {sc : Scope} {x : Str} {i : It} {body : List XS} {ρ : VE} {σ : VH} : (tloop o sc x i body ρ σ).out = loopF o.out sc x i body ρ σ := by
  refine next_out.trans ?_
  unfold loopF
  cases nextV σ i with
  | none => rfl
  | some c =>
    induction c with
    | none => rfl
    | some q => exact guard_out (bnd_out aft_out)
noncomputable def twhlAft (o : TOps) (sc : Scope) (c : XE) (body : List XS) : VF × VE → VH → MT (VF × VE) := taft (o.whl sc c body)
noncomputable def twhlBy (o : TOps) (sc : Scope) (c : XE) (body : List XS) (ρ : VE) (b : Bool) (τ : VH) : MT (VF × VE) := match b with
  | true => .bnd (o.exs sc body ρ τ) (twhlAft o sc c body)
  | false => .lift (.ok (.next, ρ) τ)
noncomputable def twhl (o : TOps) (sc : Scope) (c : XE) (body : List XS) (ρ : VE) (σ : VH) : MT (VF × VE) := .bnd (o.cd sc c ρ σ) (twhlBy o sc c body ρ)
theorem whl_out {o : TOps} {sc : Scope} {c : XE} {body : List XS} {ρ : VE} {σ : VH} : (twhl o sc c body ρ σ).out = whlF o.out sc c body ρ σ := bnd_out fun b τ => by
  induction b with
  | false => rfl
  | true => exact bnd_out aft_out
noncomputable def tcompXs (o : TOps) (sc : Scope) (elt : XE) (x : Str) (i : It) (ifs : List XE) (d : Nat) (ρ : VE) (w : VV) (τ : VH) (xs : Option (List VV)) : MT Unit := match xs with
  | some xs => askB (okLen xs.length) fun q => .guard q (tupd τ d (.list (xs ++ [w])) fun τ => subU (o.comp sc elt x i ifs d ρ τ))
  | none => .no
noncomputable def tcompOb (o : TOps) (sc : Scope) (elt : XE) (x : Str) (i : It) (ifs : List XE) (d : Nat) (ρ : VE) (w : VV) (c : Option VO) (τ : VH) : MT Unit := tcompXs o sc elt x i ifs d ρ w τ (listO c)
noncomputable def tcompIf (o : TOps) (sc : Scope) (ifs : List XE) (ρ : VE) (σ : VH) : MT Bool := match ifs with
  | [] => .lift (.ok true σ)
  | [c] => o.cd sc c ρ σ
  | _ => .no
noncomputable def tcompGo (o : TOps) (sc : Scope) (elt : XE) (x : Str) (i : It) (ifs : List XE) (d : Nat) (ρ : VE) (b : Bool) (τ : VH) : MT Unit := match b with
  | true => .bnd (o.ev sc elt ρ τ) fun w τ => tobj τ d fun c => tcompOb o sc elt x i ifs d ρ w c τ
  | false => subU (o.comp sc elt x i ifs d ρ τ)
noncomputable def tcompBy (o : TOps) (sc : Scope) (elt : XE) (x : Str) (ifs : List XE) (d : Nat) (ρ : VE) (c : Option (Option (VV × It))) (σ : VH) : MT Unit := match c with
  | none => .no
  | some none => .lift (.ok () σ)
  | some (some q) => .bnd (tcompIf o sc ifs (assocSet x q.1 ρ) σ) (tcompGo o sc elt x q.2 ifs d (assocSet x q.1 ρ))
noncomputable def tcomp (o : TOps) (sc : Scope) (elt : XE) (x : Str) (i : It) (ifs : List XE) (d : Nat) (ρ : VE) (σ : VH) : MT Unit := tnext σ i fun c => tcompBy o sc elt x ifs d ρ c σ
theorem compXs_out {o : TOps} {sc : Scope} {elt : XE} {x : Str} {i : It} {ifs : List XE} {d : Nat} {ρ : VE} {w : VV} {τ : VH} {xs : Option (List VV)} : (tcompXs o sc elt x i ifs d ρ w τ xs).out = compXs o.out sc elt x i ifs d ρ w τ xs := by
  induction xs
  · rfl
  · exact guard_out upd_out
theorem comp_out {o : TOps} {sc : Scope} {elt : XE} {x : Str} {i : It} {ifs : List XE} {d : Nat} {ρ : VE} {σ : VH} : (tcomp o sc elt x i ifs d ρ σ).out = compF o.out sc elt x i ifs d ρ σ := by
  refine next_out.trans ?_
  unfold compF
  cases nextV σ i with
  | none => rfl
  | some c =>
    induction c with
    | none => rfl
    | some q =>
      have h : (tcompIf o sc ifs (assocSet x q.1 ρ) σ).out = compIf o.out sc ifs (assocSet x q.1 ρ) σ := by
        cases ifs with
        | nil => rfl
        | cons c r => induction r <;> rfl
      refine (bnd_out (f := compGo o.out sc elt x q.2 ifs d (assocSet x q.1 ρ)) fun b τ => ?_).trans (congrArg (fun r => Res.bind r (compGo o.out sc elt x q.2 ifs d (assocSet x q.1 ρ))) h)
      induction b with
      | false => rfl
      | true => exact bnd_out fun w τ => obj_out.trans compXs_out
noncomputable def TOps.none : TOps := ⟨fun _ _ _ _ => .no, fun _ _ _ _ => .no, fun _ _ _ _ => .no, fun _ _ _ _ => .no, fun _ _ _ _ => .no, fun _ _ _ _ _ _ => .no, fun _ _ _ _ _ => .no, fun _ _ _ _ _ _ _ _ => .no⟩
noncomputable def stepT (G : Top') (cl : TCall) (o : TOps) : TOps where
  ev := tev G cl o
  cd := tcd o
  evs := tevs o
  ex := tex G o
  exs := texs o
  loop := tloop o
  whl := twhl o
  comp := tcomp o
noncomputable def tops (G : Top') (cl : TCall) : Nat → TOps
  | 0 => TOps.none
  | n + 1 => stepT G cl (tops G cl n)
noncomputable def trun (o : TOps) (r : FnRec) (as : List VV) (σ : VH) : MT VV := .bnd (o.exs r.scope r.body (r.params.zip as ++ junks r) σ) fun p τ => .lift (retBy p.1 τ)
noncomputable def trunOpt (o : TOps) (r : FnRec) (σ : VH) (as : Option (List VV)) : MT VV := match as with
  | some as => trun o r as σ
  | none => .no
noncomputable def tcallR (o : TOps) (as : List VV) (σ : VH) (r : Option FnRec) : MT VV := match r with
  | some r => trunOpt o r σ (argsOf r as)
  | none => .no
theorem call_out {o : TOps} {as : List VV} {σ : VH} {r : Option FnRec} : (tcallR o as σ r).out = callR o.out as σ r := by
  induction r with
  | none => rfl
  | some r =>
    have h : ∀ as, (trunOpt o r σ as).out = runOpt o.out r σ as := fun as => by induction as <;> rfl
    exact h _
noncomputable def tcallG (G : Top') : Nat → TCall
  | 0 => fun _ _ _ => .no
  | d + 1 => fun f as σ => tcallR (tops G (tcallG G d) 400) as σ (G.fn f)
end Mine
end
section
set_option backward.match.sparseCases false
namespace Mine
noncomputable def topBody : List Stmt := PySem.Challenge.pw_sa0164_01.main.body
noncomputable def fnOfStmt : Stmt → FnRec
  | .FunctionDef _ a b _ _ _ sc _ _ _ => ⟨a.args.map (·.arg), ofSs b, sc, []⟩
  | _ => ⟨[], [], ⟨.module, [], false, false, []⟩, []⟩
noncomputable def clsBody : Stmt → List Stmt
  | .ClassDef _ _ _ b _ _ _ _ _ _ _ => b
  | _ => []
noncomputable def topAt (i : Nat) : FnRec := fnOfStmt (topBody.getD i (.Pass ⟨0, 0, 0, 0⟩))
noncomputable def methAt (i j : Nat) : FnRec := fnOfStmt ((clsBody (topBody.getD i (.Pass ⟨0, 0, 0, 0⟩))).getD j (.Pass ⟨0, 0, 0, 0⟩))
noncomputable def f_PrologError_init : FnRec := methAt 3 0
noncomputable def f_fixed_atoms : FnRec := topAt 8
noncomputable def f_fixed_functors : FnRec := topAt 9
noncomputable def f_Symbols_init : FnRec := methAt 10 0
noncomputable def f_Symbols_atom : FnRec := methAt 10 1
noncomputable def f_Symbols_text : FnRec := methAt 10 2
noncomputable def f_Symbols_functor : FnRec := methAt 10 3
noncomputable def f_Symbols_func : FnRec := methAt 10 4
noncomputable def f_Symbols_name : FnRec := methAt 10 5
noncomputable def f_Symbols_arity : FnRec := methAt 10 6
noncomputable def f_system_error : FnRec := topAt 12
noncomputable def f_formal_of : FnRec := topAt 13
noncomputable def f_instantiation_error : FnRec := topAt 14
noncomputable def f_type_error : FnRec := topAt 15
noncomputable def f_domain_error : FnRec := topAt 16
noncomputable def f_existence_error : FnRec := topAt 17
noncomputable def f_Cells_init : FnRec := methAt 30 0
noncomputable def f_Cells_push : FnRec := methAt 30 1
noncomputable def f_Cells_new_var : FnRec := methAt 30 2
noncomputable def f_Cells_reserve : FnRec := methAt 30 3
noncomputable def f_Cells_deref : FnRec := methAt 30 5
noncomputable def f_Cells_is_unbound : FnRec := methAt 30 6
noncomputable def f_Cells_bind : FnRec := methAt 30 7
noncomputable def f_Cells_globalise : FnRec := methAt 30 9
noncomputable def f_Cells_is_compound : FnRec := methAt 30 13
noncomputable def f_Cells_functor_of : FnRec := methAt 30 14
noncomputable def f_Cells_width : FnRec := methAt 30 15
noncomputable def f_Cells_base : FnRec := methAt 30 16
noncomputable def f_Cells_arg : FnRec := methAt 30 17
noncomputable def f_Cells_new_block : FnRec := methAt 30 18
noncomputable def f_Store_list_cells : FnRec := methAt 31 2
noncomputable def f_Store_put_term : FnRec := methAt 31 3
noncomputable def f_Store_whole_size : FnRec := methAt 31 4
noncomputable def f_Store_take_term : FnRec := methAt 31 5
noncomputable def f_stream_of : FnRec := topAt 33
noncomputable def f_open_stream : FnRec := topAt 34
noncomputable def f_option_cells : FnRec := topAt 35
noncomputable def f_option_parts : FnRec := topAt 36
noncomputable def f_option_value : FnRec := topAt 37
noncomputable def f_close_two : FnRec := topAt 39
noncomputable def f_Streams_init : FnRec := methAt 42 0
noncomputable def f_Streams_fresh : FnRec := methAt 42 1
noncomputable def f_Streams_open_input : FnRec := methAt 42 2
noncomputable def f_Streams_open_output : FnRec := methAt 42 3
noncomputable def f_Streams_close : FnRec := methAt 42 5
noncomputable def f_Areas_init : FnRec := { methAt 45 0 with dflt := [.int 100000, .bool true, .int 4096] }
noncomputable def f_Areas_reset : FnRec := methAt 45 1
noncomputable def f_Areas_set_x : FnRec := methAt 45 2
noncomputable def f_Areas_set_arguments : FnRec := methAt 45 3
noncomputable def f_Areas_arg : FnRec := methAt 45 4
noncomputable def f_Areas_take : FnRec := methAt 45 6
noncomputable def f_Areas_put : FnRec := methAt 45 7
noncomputable def f_Surroundings_init : FnRec := methAt 47 0
noncomputable def f_HostedAreas_init : FnRec := methAt 48 0
noncomputable def f__law_draw : FnRec := topAt 50
noncomputable def f__law_begun : FnRec := topAt 51
noncomputable def f__law_option : FnRec := topAt 52
noncomputable def f__law_flaw : FnRec := topAt 53
noncomputable def f__law_done : FnRec := topAt 54
noncomputable def f__law_seen : FnRec := topAt 55
noncomputable def f_law : FnRec := topAt 56
noncomputable def fnT0 : List (Addr × FnRec) := [(48, f_PrologError_init), (60, f_fixed_atoms), (67, f_fixed_functors), (81, f_Symbols_init), (88, f_Symbols_atom), (95, f_Symbols_text), (102, f_Symbols_functor), (109, f_Symbols_func), (116, f_Symbols_name), (123, f_Symbols_arity), (165, f_system_error), (172, f_formal_of), (179, f_instantiation_error), (186, f_type_error), (193, f_domain_error), (200, f_existence_error), (223, f_Cells_init), (230, f_Cells_push), (237, f_Cells_new_var), (244, f_Cells_reserve)]
noncomputable def fnT1 : List (Addr × FnRec) := [(258, f_Cells_deref), (265, f_Cells_is_unbound), (272, f_Cells_bind), (286, f_Cells_globalise), (314, f_Cells_is_compound), (321, f_Cells_functor_of), (328, f_Cells_width), (335, f_Cells_base), (342, f_Cells_arg), (349, f_Cells_new_block), (385, f_Store_list_cells), (392, f_Store_put_term), (399, f_Store_whole_size), (406, f_Store_take_term), (418, f_stream_of), (425, f_open_stream), (432, f_option_cells), (439, f_option_parts), (446, f_option_value), (453, f_close_two)]
noncomputable def fnT2 : List (Addr × FnRec) := [(467, f_Streams_init), (474, f_Streams_fresh), (481, f_Streams_open_input), (488, f_Streams_open_output), (502, f_Streams_close), (581, f_Areas_init), (588, f_Areas_reset), (595, f_Areas_set_x), (602, f_Areas_set_arguments), (609, f_Areas_arg), (623, f_Areas_take), (630, f_Areas_put), (742, f_Surroundings_init), (763, f_HostedAreas_init), (775, f__law_draw), (782, f__law_begun), (789, f__law_option), (796, f__law_flaw), (803, f__law_done), (810, f__law_seen)]
noncomputable def fnT : List (Addr × FnRec) := fnT0 ++ fnT1 ++ fnT2
noncomputable def gFn (a : Addr) : Option FnRec := assocGet a fnT
noncomputable def glT0 : List (Str × VV) := [("_wall", .val (.ref 21)), ("ClausemillError", .val (.ref 31)), ("PrologError", .val (.ref 51)), ("A_NIL", .int 0), ("A_SYSTEM", .int 25), ("F_DOT", .int 0), ("F_ERROR", .int 16), ("fixed_atoms", .val (.ref 60)), ("fixed_functors", .val (.ref 67)), ("Symbols", .val (.ref 154)), ("system_error", .val (.ref 165)), ("formal_of", .val (.ref 172)), ("instantiation_error", .val (.ref 179)), ("type_error", .val (.ref 186)), ("domain_error", .val (.ref 193)), ("existence_error", .val (.ref 200)), ("resource_error", .val (.ref 207)), ("REF", .int 0), ("SRF", .int 1), ("STR", .int 2)]
noncomputable def glT1 : List (Str × VV) := [("LIS", .int 3), ("CON", .int 4), ("INT", .int 5), ("FUN", .int 6), ("VOID", .tup [.int 5, .int 0]), ("VISIT", .int 0), ("BUILD", .int 1), ("Cells", .val (.ref 352)), ("Store", .val (.ref 409)), ("stream_of", .val (.ref 418)), ("open_stream", .val (.ref 425)), ("option_cells", .val (.ref 432)), ("option_parts", .val (.ref 439)), ("option_value", .val (.ref 446)), ("close_two", .val (.ref 453)), ("END_CODE", .int (-1)), ("Streams", .val (.ref 562)), ("READ", .str "read"), ("Areas", .val (.ref 724)), ("Surroundings", .val (.ref 745))]
noncomputable def glT2 : List (Str × VV) := [("HostedAreas", .val (.ref 766)), ("_law_draw", .val (.ref 775)), ("_law_begun", .val (.ref 782)), ("_law_option", .val (.ref 789)), ("_law_flaw", .val (.ref 796)), ("_law_done", .val (.ref 803)), ("_law_seen", .val (.ref 810)), ("law", .val (.ref 815)), ("len", .val (.builtin "len")), ("abs", .val (.builtin "abs")), ("isinstance", .val (.builtin "isinstance")), ("sorted", .val (.builtin "sorted")), ("range", .val (.type "range")), ("list", .val (.type "list")), ("tuple", .val (.type "tuple")), ("dict", .val (.type "dict")), ("set", .val (.type "set")), ("str", .val (.type "str"))]
noncomputable def glT : List (Str × VV) := glT0 ++ glT1 ++ glT2
noncomputable def gGl (x : Str) : Option VV := assocGet x glT
noncomputable def methT : List (Addr × List (Str × Addr)) := [(154, [("atom", 88), ("text", 95), ("functor", 102), ("func", 109), ("name", 116), ("arity", 123)]), (409, [("push", 230), ("new_var", 237), ("reserve", 244), ("deref", 258), ("is_unbound", 265), ("bind", 272), ("globalise", 286), ("is_compound", 314), ("functor_of", 321), ("width", 328), ("base", 335), ("arg", 342), ("new_block", 349), ("list_cells", 385), ("put_term", 392), ("whole_size", 399), ("take_term", 406)]), (562, [("fresh", 474), ("open_input", 481), ("open_output", 488), ("close", 502)]), (745, []), (766, [("reset", 588), ("set_x", 595), ("set_arguments", 602), ("arg", 609), ("take", 623), ("put", 630)])]
noncomputable def gMeth (C : Addr) (x : Str) : Option Addr := (assocGet C methT).bind (assocGet x)
noncomputable def gCmeth (C : Addr) (x : Str) : Option Addr := if C = 724 ∧ x = ("__init__" : Str) then some 581 else none
noncomputable def fieldT : List (Addr × List Str) := [(154, ["texts", "atom_numbers", "functors", "functor_numbers"]), (409, ["symbols", "max_heap", "heap", "stack", "trail", "hb", "bb"]), (562, ["inputs", "outputs", "current_input", "current_output", "files", "aliases", "actions", "past", "next_number"]), (745, ["streams", "operators", "flags"]), (766, ["database", "symbols", "code", "max_heap", "occurs", "max_bits", "store", "x", "p", "cp", "e", "b", "b0", "mode", "s", "guard", "roots", "bags", "collect_wanted"])]
noncomputable def hasIn (x : Str) : Option (List Str) → Bool
  | some l => l.contains x
  | none => false
noncomputable def gField (C : Addr) (x : Str) : Bool := hasIn x (assocGet C fieldT)
noncomputable def initT : List (Addr × Addr) := [(154, 81), (409, 223), (562, 467), (745, 742), (766, 763)]
noncomputable def gInit (C : Addr) : Option Addr := assocGet C initT
noncomputable def gExc (C : Addr) : Bool := C == 51
noncomputable def G : Top' := ⟨gGl, gMeth, gField, gCmeth, gInit, gFn, gExc⟩
noncomputable def noSpec : Unit := ()
noncomputable abbrev tcallD (d : Nat) : TCall := tcallG G d
noncomputable def callD (_ : Top') (_ : Unit) (d : Nat) : CallO := fun f as σ => (tcallG G d f as σ).out
noncomputable def Td (d n : Nat) : TOps := tops G (tcallG G d) n
noncomputable abbrev Od (d n : Nat) : Ops := (Td d n).out
end Mine
end
section
open PySem.Calls
set_option genInjectivity false
set_option genSizeOf false
set_option genCtorIdx false
namespace Mine
noncomputable abbrev PG : Program := PySem.Challenge.pw_sa0164_01
structure Cx where
  w : World
  vp : Program
  K : Frag
  H : Heap
  loose : List Str
  mg : Str → Option Value
  mb : Str → Option Value
  inK : K.In H
  top : TopRead vp loose mg mb H
  seer : H.NoSeer
noncomputable abbrev Cx.M (C : Cx) : Model := model PG C.w
noncomputable abbrev iK (C : Cx) := intKind PG C.w
noncomputable abbrev sK (C : Cx) := strKind PG C.w
mutual
inductive RelV (h : Heap) (α : Nat → Addr) (n : Nat) : VV → Value → Prop
  | none : RelV h α n .none .none
  | bool (b) : RelV h α n (.bool b) (.bool b)
  | int (i t) : RelV h α n (.int i) (.int i t)
  | str (s t) : RelV h α n (.str s) (.str s t)
  | tup {xs a vs} : IsTup h a vs → RelVs h α n xs vs.toList → RelV h α n (.tup xs) (.ref a)
  | ref {i} : i < n → RelV h α n (.ref i) (.ref (α i))
  | val (v) : RelV h α n (.val v) v
  | rng {a b c r t u v} : IsRange h r a b c t u v → RelV h α n (.rng a b c) (.ref r)
inductive RelVs (h : Heap) (α : Nat → Addr) (n : Nat) : List VV → List Value → Prop
  | nil : RelVs h α n [] []
  | cons {x v xs vs} : RelV h α n x v → RelVs h α n xs vs → RelVs h α n (x :: xs) (v :: vs)
end
noncomputable def RInv (h : Heap) (α : Nat → Addr) (n : Nat) (x : VV) (v : Value) : Prop := match x with
  | .none => v = .none
  | .bool b => v = .bool b
  | .int i => ∃ t, v = .int i t
  | .str s => ∃ t, v = .str s t
  | .tup xs => Y2 fun a vs => C3 (v = .ref a) (IsTup h a vs) (RelVs h α n xs vs.toList)
  | .ref i => i < n ∧ v = .ref (α i)
  | .val w => v = w
  | .rng a b c => Y4 fun r t u w => v = .ref r ∧ IsRange h r a b c t u w
  | .junk => False
theorem RelV.inv {h : Heap} {α : Nat → Addr} {n : Nat} {x : VV} {v : Value} (r : RelV h α n x v) : RInv h α n x v :=
  RelV.casesOn (motive_1 := fun x v _ => RInv h α n x v) r rfl (fun _ => rfl) (fun _ t => ⟨t, rfl⟩) (fun _ t => ⟨t, rfl⟩) (fun ht r => ⟨_, _, rfl, ht, r⟩) (fun hi => ⟨hi, rfl⟩) (fun _ => rfl) fun r => ⟨_, _, _, _, rfl, r⟩
theorem RelV.okE {h : Heap} {α : Nat → Addr} {n : Nat} {x : VV} {v : Value} (r : RelV h α n x v) : okE x = some x :=
  RelV.casesOn (motive_1 := fun x _ _ => Mine.okE x = some x) r rfl (fun _ => rfl) (fun _ _ => rfl) (fun _ _ => rfl) (fun _ _ => rfl) (fun _ => rfl) (fun _ => rfl) fun _ => rfl
noncomputable def RsInv (h : Heap) (α : Nat → Addr) (n : Nat) (xs : List VV) (vs : List Value) : Prop := match xs with
  | [] => vs = []
  | x :: r => Y2 fun v t => C3 (vs = v :: t) (RelV h α n x v) (RelVs h α n r t)
theorem RelVs.inv {h : Heap} {α : Nat → Addr} {n : Nat} {xs : List VV} {vs : List Value} (r : RelVs h α n xs vs) : RsInv h α n xs vs :=
  RelVs.casesOn (motive_2 := fun xs vs _ => RsInv h α n xs vs) r rfl fun a b => ⟨_, _, rfl, a, b⟩
noncomputable def AtR (h : Heap) (α : Nat → Addr) (n : Nat) (o : Option VV) (w : Option Value) : Prop := match o with
  | some v => ∃ y, w = some y ∧ RelV h α n v y
  | none => w = none
theorem AtR.isSome {h : Heap} {α : Nat → Addr} {n : Nat} {o : Option VV} {w : Option Value} (r : AtR h α n o w) : w.isSome = o.isSome := by
  induction o with
  | none => exact congrArg Option.isSome r
  | some v => obtain ⟨y, rfl, _⟩ := r; rfl
noncomputable def ExcNew (o : Obj) : Prop := ∃ vs, C3 (o.data = .fields vs) (vs[0]? ≠ none) (vs[1]? = some .none)
noncomputable def ObjRel (C : Cx) (h : Heap) (α : Nat → Addr) (n : Nat) (a : Addr) : VO → Prop
  | .list xs => Y2 fun items k => h.get? a = some (W.listOf items k) ∧ RelVs h α n xs items.toList
  | .edict => ∃ k, h.get? a = some { cls := .type "dict", data := .dict #[] k }
  | .idict es => ∃ kvs : List (Int × Value), h.DictOf (iK C) a kvs ∧ kvs.map (·.1) = es.map (·.1) ∧ RelVs h α n (es.map (·.2)) (kvs.map (·.2))
  | .sdict es => ∃ kvs : List (Str × Value), h.DictOf (sK C) a kvs ∧ kvs.map (·.1) = es.map (·.1) ∧ RelVs h α n (es.map (·.2)) (kvs.map (·.2))
  | .tdict es => ∃ xs : List (List Int × Addr × Value), h.DictOfH (tupleKind (iK C)) a xs ∧ xs.map (·.1) = es.map (·.1) ∧ RelVs h α n (es.map (·.2)) (xs.map (·.2.2))
  | .attrs fs => ∃ m, C3 (h.Ns a m) (∃ o, h.get? a = some o ∧ o.cls = .type "dict" ∧ Y2 fun es ep => o.data = .dict es ep ∧ es.size ≤ fs.length) (∀ x, AtR h α n (assocGet x fs) (m x))
  | .inst cl d e => d < n ∧ ∃ o, C4 (h.get? a = some o) (o.cls = .ref cl) (o.dict = some (α d)) (if e then ExcNew o else o.data = .plain)
  | .exc0 cl => ∃ o, C4 (h.get? a = some o) (o.cls = .ref cl) (o.dict = none) (ExcNew o)
  | .set xs => h.SetOf (iK C) a (fun k => decide (k ∈ xs)) xs.length
  | .dead => Y2 fun o c => h.get? a = some o ∧ o.cls = .ref c
noncomputable abbrev frs (l : List Env) : List Addr := l.filterMap (·.frame)
structure FrOK (C : Cx) (h : Heap) (env : Env) : Prop where
  fn : env.scope.kind ≠ .module
  obj : Y4 fun L o es ep => C4 (env.frame = some L) (C.H.get? L = none) (h.get? L = some o) (o.data = .dict es ep)
structure St (C : Cx) (l : List Env) (α : Nat → Addr) (σ : VH) (h : Heap) : Prop where
  stay : C.H.StaysIn h
  objs : ∀ i o, σ[i]? = some o → ObjRel C h α σ.length (α i) o
  inj : ∀ i j, i < σ.length → j < σ.length → α i = α j → i = j
  new : ∀ i, i < σ.length → C.H.get? (α i) = none
  frames : ∀ env ∈ l, FrOK C h env
  apart : ∀ i, i < σ.length → α i ∉ frs l
structure Nx (X : Addr → Prop) (l : List Env) (n : Nat) (α : Nat → Addr) (h : Heap) (n' : Nat) (α' : Nat → Addr) (h' : Heap) : Prop where
  le : n ≤ n'
  ext : ∀ i, i < n → α' i = α i
  alive : ∀ b, h'.get? b = none → h.get? b = none
  fresh : ∀ i, n ≤ i → i < n' → h.get? (α' i) = none
  keep : ∀ b o, h.get? b = some o → (∀ i, i < n → α i ≠ b) → ¬ X b → b ∉ frs l → h'.get? b = some o
  slots : ∀ b o, h.get? b = some o → (∀ i, i < n → α i ≠ b) → ¬ X b → b ∈ frs l → ∃ sl, h'.get? b = some { o with slots := sl }
noncomputable abbrev noX : Addr → Prop := fun _ => False
theorem Nx.refl {X : Addr → Prop} {l n α h} : Nx X l n α h n α h :=
  ⟨Nat.le_refl _, fun _ _ => rfl, fun _ e => e, fun _ a b => absurd b (Nat.not_lt_of_le a), fun _ _ e _ _ _ => e, fun _ o e _ _ _ => ⟨o.slots, e⟩⟩
theorem Nx.trans {X : Addr → Prop} {l n α h n' α' h' n'' α'' h''} (a : Nx X l n α h n' α' h') (b : Nx X l n' α' h' n'' α'' h'') : Nx X l n α h n'' α'' h'' := by
  have ne : ∀ c, (∃ o, h.get? c = some o) → (∀ i, i < n → α i ≠ c) → ∀ i, i < n' → α' i ≠ c := by
    rintro c ⟨o, e⟩ hc i hi
    by_cases q : i < n
    · rw [a.ext i q]; exact hc i q
    · intro z
      have := a.fresh i (Nat.le_of_not_lt q) hi
      rw [z, e] at this; exact ns this
  refine ⟨Nat.le_trans a.le b.le, fun i hi => (b.ext i (Nat.lt_of_lt_of_le hi a.le)).trans (a.ext i hi), fun c e => a.alive c (b.alive c e), fun i h1 h2 => ?_, fun c o e hc hx hf => ?_, fun c o e hc hx hf => ?_⟩
  · by_cases q : i < n'
    · rw [b.ext i q]; exact a.fresh i h1 q
    · exact a.alive _ (b.fresh i (Nat.le_of_not_lt q) h2)
  · exact b.keep c o (a.keep c o e hc hx hf) (ne c ⟨o, e⟩ hc) hx hf
  · obtain ⟨sl, e'⟩ := a.slots c o e hc hx hf
    obtain ⟨sl', e''⟩ := b.slots c _ e' (ne c ⟨o, e⟩ hc) hx hf
    exact ⟨sl', e''⟩
theorem Nx.weaken {X Y : Addr → Prop} {l n α h n' α' h'} (a : Nx X l n α h n' α' h') (hxy : ∀ b, X b → Y b) : Nx Y l n α h n' α' h' :=
  ⟨a.le, a.ext, a.alive, a.fresh, fun b o e h1 h2 h3 => a.keep b o e h1 (fun x => h2 (hxy b x)) h3, fun b o e h1 h2 h3 => a.slots b o e h1 (fun x => h2 (hxy b x)) h3⟩
theorem alive_of {h h' : Heap} (k : ∀ b o, h.get? b = some o → h'.get? b = some o) : ∀ b, h'.get? b = none → h.get? b = none := fun b e => by
  cases q : h.get? b with
  | none => rfl
  | some o => rw [k b o q] at e; exact ns e
theorem Nx.grown {X : Addr → Prop} {l n α h h'} (k : ∀ b o, h.get? b = some o → h'.get? b = some o) : Nx X l n α h n α h' :=
  ⟨Nat.le_refl _, fun _ _ => rfl, alive_of k, fun _ a b => absurd b (Nat.not_lt_of_le a), fun b o e _ _ _ => k b o e, fun b o e _ _ _ => ⟨o.slots, k b o e⟩⟩
theorem Nx.changed {X : Addr → Prop} {l n α h h' a} (s : Heap.SameBut a h h') (t : ∃ o, h'.get? a = some o) (ha : (∃ i, i < n ∧ α i = a) ∨ X a) : Nx X l n α h n α h' :=
  ⟨Nat.le_refl _, fun _ _ => rfl, fun b e => by
    by_cases q : b = a
    · obtain ⟨o, e'⟩ := t; rw [q, e'] at e; exact ns e
    · rw [← s.2 b q]; exact e,
   fun _ a b => absurd b (Nat.not_lt_of_le a),
   fun b o e h1 h2 _ => (s.2 b fun q => by subst q; rcases ha with ⟨i, hi, e'⟩ | x; exact h1 i hi e'; exact h2 x).trans e,
   fun b o e h1 h2 _ => ⟨o.slots, (s.2 b fun q => by subst q; rcases ha with ⟨i, hi, e'⟩ | x; exact h1 i hi e'; exact h2 x).trans e⟩⟩
theorem IsTup.same {h h' : Heap} {a : Addr} {vs : Array Value} (x : IsTup h a vs) (e : ∀ o, h.get? a = some o → h'.get? a = some o) : IsTup h' a vs :=
  let ⟨o, ho, r⟩ := x; ⟨o, e o ho, r⟩
structure Keeps (h h' : Heap) : Prop where
  tup : ∀ a vs, IsTup h a vs → IsTup h' a vs
  rng : ∀ r a b c t u v, IsRange h r a b c t u v → IsRange h' r a b c t u v
theorem RelV.keeps {h h' : Heap} {α α' : Nat → Addr} {n n' : Nat} (k : Keeps h h') (hn : n ≤ n') (ha : ∀ i, i < n → α' i = α i) {x v} (r : RelV h α n x v) : RelV h' α' n' x v :=
  RelV.rec (motive_1 := fun x v _ => RelV h' α' n' x v) (motive_2 := fun xs vs _ => RelVs h' α' n' xs vs) .none .bool .int .str (fun ht _ ih => .tup (k.tup _ _ ht) ih) (fun hi => ha _ hi ▸ .ref (Nat.lt_of_lt_of_le hi hn)) .val (fun r => .rng (k.rng _ _ _ _ _ _ _ r)) .nil (fun _ _ a b => .cons a b) r
theorem RelVs.keeps {h h' : Heap} {α α' : Nat → Addr} {n n' : Nat} (k : Keeps h h') (hn : n ≤ n') (ha : ∀ i, i < n → α' i = α i) {xs vs} (r : RelVs h α n xs vs) : RelVs h' α' n' xs vs := by
  induction xs generalizing vs with
  | nil => obtain rfl := r.inv; exact .nil
  | cons x xs ih => obtain ⟨v, t, rfl, a, b⟩ := r.inv; exact .cons (a.keeps k hn ha) (ih b)
theorem AtR.keeps {h h' : Heap} {α α' : Nat → Addr} {n n' : Nat} (k : Keeps h h') (hn : n ≤ n') (ha : ∀ i, i < n → α' i = α i) {o : Option VV} {w : Option Value} (r : AtR h α n o w) : AtR h' α' n' o w := by
  induction o with
  | none => exact r
  | some v => obtain ⟨y, e, rv⟩ := r; exact ⟨y, e, rv.keeps k hn ha⟩
theorem RelVs.length {h α n xs vs} (r : RelVs h α n xs vs) : vs.length = xs.length := by
  induction xs generalizing vs with
  | nil => obtain rfl := r.inv; rfl
  | cons x xs ih => obtain ⟨v, t, rfl, a, b⟩ := r.inv; exact congrArg (· + 1) (ih b)
theorem RelVs.get {h α n xs vs} {j : Nat} {x} (r : RelVs h α n xs vs) (e : xs[j]? = some x) : ∃ v, vs[j]? = some v ∧ RelV h α n x v := by
  induction xs generalizing vs j with
  | nil => exact nn e
  | cons y xs ih =>
    obtain ⟨v, t, rfl, a, b⟩ := r.inv
    induction j with
    | zero => obtain rfl := Option.some.inj e; exact ⟨v, rfl, a⟩
    | succ j _ => exact ih (j := j) b e
theorem RelVs.append {h α n xs vs ys ws} (r : RelVs h α n xs vs) (b : RelVs h α n ys ws) : RelVs h α n (xs ++ ys) (vs ++ ws) := by
  induction xs generalizing vs with
  | nil => obtain rfl := r.inv; exact b
  | cons x xs ih => obtain ⟨v, t, rfl, a, q⟩ := r.inv; exact .cons a (ih q)
theorem RelVs.set {h α n xs vs} {j : Nat} {x v} (r : RelVs h α n xs vs) (a : RelV h α n x v) : RelVs h α n (xs.set j x) (vs.set j v) := by
  induction xs generalizing vs j with
  | nil => obtain rfl := r.inv; exact .nil
  | cons y xs ih =>
    obtain ⟨v, t, rfl, b, q⟩ := r.inv
    induction j with
    | zero => exact .cons a q
    | succ j _ => exact .cons b (ih q)
theorem RelVs.take {h α n xs vs} (j : Nat) (r : RelVs h α n xs vs) : RelVs h α n (xs.take j) (vs.take j) := by
  induction xs generalizing vs j with
  | nil => obtain rfl := r.inv; rw [List.take_nil, List.take_nil]; exact .nil
  | cons y xs ih =>
    obtain ⟨v, t, rfl, b, q⟩ := r.inv
    induction j with
    | zero => exact .nil
    | succ j _ => exact .cons b (ih j q)
theorem RelVs.drop {h α n xs vs} (j : Nat) (r : RelVs h α n xs vs) : RelVs h α n (xs.drop j) (vs.drop j) := by
  induction xs generalizing vs j with
  | nil => obtain rfl := r.inv; rw [List.drop_nil, List.drop_nil]; exact .nil
  | cons y xs ih =>
    obtain ⟨v, t, rfl, b, q⟩ := r.inv
    induction j with
    | zero => exact .cons b q
    | succ j _ => exact ih j q
theorem RelVs.reverse {h α n xs vs} (r : RelVs h α n xs vs) : RelVs h α n xs.reverse vs.reverse := by
  induction xs generalizing vs with
  | nil => obtain rfl := r.inv; exact .nil
  | cons y xs ih =>
    obtain ⟨v, t, rfl, b, q⟩ := r.inv
    rw [List.reverse_cons, List.reverse_cons]
    exact (ih q).append (.cons b .nil)
end Mine
end
section
open PySem.Calls
namespace Mine
noncomputable def NTR (h : Heap) (b : Addr) : Prop := (∀ vs, ¬ IsTup h b vs) ∧ ∀ x y z t u v, ¬ IsRange h b x y z t u v
theorem ntr_of {h : Heap} {b : Addr} {o : Obj} (e : h.get? b = some o) (h1 : o.cls ≠ .type "tuple" ∨ ∀ vs k, o.data ≠ .seq vs k) (h2 : o.cls ≠ .type "range" ∨ ∀ vs, o.data ≠ .fields vs) : NTR h b := by
  refine ⟨fun vs ⟨o', e', c, n, d⟩ => ?_, fun x y z t u v q => ?_⟩
  · rw [e] at e'; obtain rfl := Option.some.inj e'
    rcases h1 with q | q
    · exact q c
    · exact q _ _ d
  · unfold IsRange at q
    rw [e] at q; obtain rfl := Option.some.inj q
    rcases h2 with q | q
    · exact q rfl
    · exact q _ rfl
theorem type_ne {a b : String} (h : a ≠ b) : Value.type a ≠ Value.type b := fun e => h (Value.type.inj e)
section
variable {C : Cx} {l : List Env} {α : Nat → Addr} {σ : VH} {h h' : Heap} {X : Addr → Prop}
inductive Kd1 (ob : Obj) : Prop
  | own (c : Addr) (h : ob.cls = .ref c)
  | blt (T : String) (h : ob.cls = .type T) (h1 : T ≠ "tuple") (h2 : T ≠ "range") (h3 : T ≠ "traceback") (h4 : ∀ vs, ob.data ≠ .fields vs)
theorem ObjRel.kind {n : Nat} {a : Addr} {o : VO} (r : ObjRel C h α n a o) : ∃ ob, h.get? a = some ob ∧ Kd1 ob := by
  have dct : ∀ {ob : Obj} {es ep}, ob.cls = .type "dict" → ob.data = .dict es ep → Kd1 ob := fun c d => .blt _ c (by decide) (by decide) (by decide) fun _ q => nomatch d.symm.trans q
  cases o with
  | list xs => obtain ⟨i, k, e, _⟩ := r; exact ⟨_, e, .blt _ rfl (by decide) (by decide) (by decide) fun _ q => nomatch q⟩
  | edict => obtain ⟨k, e⟩ := r; exact ⟨_, e, dct rfl rfl⟩
  | idict es => obtain ⟨kvs, ⟨o, _, _, e, c, d, _⟩, _⟩ := r; exact ⟨_, e, dct c.1 d⟩
  | sdict es => obtain ⟨kvs, ⟨o, _, _, e, c, d, _⟩, _⟩ := r; exact ⟨_, e, dct c.1 d⟩
  | tdict es => obtain ⟨kvs, ⟨o, _, _, e, c, d, _⟩, _⟩ := r; exact ⟨_, e, dct c.1 d⟩
  | attrs fs => obtain ⟨m, _, ⟨o, e, c, es, ep, d, _⟩, _⟩ := r; exact ⟨_, e, dct c d⟩
  | inst cl d ex => obtain ⟨_, o, e, hc, _⟩ := r; exact ⟨_, e, .own _ hc⟩
  | exc0 cl => obtain ⟨o, e, hc, _⟩ := r; exact ⟨_, e, .own _ hc⟩
  | set xs => obtain ⟨o, _, _, _, e, c, d, _⟩ := r; exact ⟨_, e, .blt _ c.1 (by decide) (by decide) (by decide) fun _ q => nomatch d.symm.trans q⟩
  | dead => obtain ⟨o, c, e, hc⟩ := r; exact ⟨_, e, .own _ hc⟩
theorem ObjRel.there {n : Nat} {a : Addr} {o : VO} (r : ObjRel C h α n a o) : (∃ ob, h.get? a = some ob) ∧ NTR h a := by
  obtain ⟨ob, e, k⟩ := r.kind
  induction k with
  | own c hc => exact ⟨⟨_, e⟩, ntr_of e (.inl (hc ▸ fun q => nomatch q)) (.inl (hc ▸ fun q => nomatch q))⟩
  | blt T hc h1 h2 h3 h4 => exact ⟨⟨_, e⟩, ntr_of e (.inl (hc ▸ type_ne h1)) (.inl (hc ▸ type_ne h2))⟩
theorem St.kind (S : St C l α σ h) {i : Nat} (hi : i < σ.length) : ∃ ob, h.get? (α i) = some ob ∧ Kd1 ob := (S.objs i σ[i] (List.getElem?_eq_getElem hi)).kind
theorem St.at (S : St C l α σ h) {i : Nat} (hi : i < σ.length) : (∃ ob, h.get? (α i) = some ob) ∧ NTR h (α i) :=
  (S.objs i σ[i] (by simp [hi])).there
theorem St.fr (S : St C l α σ h) {b : Addr} (hb : b ∈ frs l) : C.H.get? b = none ∧ (Y3 fun o es ep => h.get? b = some o ∧ o.data = .dict es ep) ∧ NTR h b := by
  obtain ⟨env, he, hf⟩ := List.mem_filterMap.mp hb
  obtain ⟨_, L, o, es, ep, hL, hn, ho, hd⟩ := S.frames env he
  rw [hL] at hf; obtain rfl := Option.some.inj hf
  exact ⟨hn, ⟨o, es, ep, ho, hd⟩, ntr_of ho (.inr fun _ _ q => nomatch hd.symm.trans q) (.inr fun _ q => nomatch hd.symm.trans q)⟩
theorem Nx.keeps {n' α'} (S : St C l α σ h) (hX : ∀ b, X b → NTR h b) (nx : Nx X l σ.length α h n' α' h') : Keeps h h' := by
  refine ⟨fun a vs x => ?_, fun r a b c t u v x => ?_⟩
  · have x' := x
    obtain ⟨o, e, _⟩ := x
    exact IsTup.same x' fun o' e' => nx.keep a o' e' (fun i hi q => (S.at hi).2.1 vs (q ▸ x')) (fun q => (hX a q).1 vs x') fun q => (S.fr q).2.2.1 vs x'
  · exact nx.keep r _ x (fun i hi q => (S.at hi).2.2 _ _ _ _ _ _ (q ▸ x)) (fun q => (hX r q).2 _ _ _ _ _ _ x) fun q => (S.fr q).2.2.2 _ _ _ _ _ _ x
theorem Nx.keeps0 {n' α'} (S : St C l α σ h) (nx : Nx noX l σ.length α h n' α' h') : Keeps h h' := nx.keeps S fun _ q => q.elim
theorem RelV.nx {n' α' x v} (S : St C l α σ h) (nx : Nx noX l σ.length α h n' α' h') (r : RelV h α σ.length x v) : RelV h' α' n' x v := r.keeps (nx.keeps0 S) nx.le nx.ext
theorem RelVs.nx {n' α' x v} (S : St C l α σ h) (nx : Nx noX l σ.length α h n' α' h') (r : RelVs h α σ.length x v) : RelVs h' α' n' x v := RelVs.keeps (nx.keeps0 S) nx.le nx.ext r
theorem Keeps.of {h h' : Heap} (k : ∀ b o, h.get? b = some o → h'.get? b = some o) : Keeps h h' := ⟨fun _ _ x => IsTup.same x fun o e => k _ o e, fun _ _ _ _ _ _ _ x => k _ _ x⟩
theorem Keeps.but {h h' : Heap} {a : Addr} (s : Heap.SameBut a h h') (n : NTR h a) : Keeps h h' :=
  ⟨fun b vs x => IsTup.same x fun o e => (s.2 b fun q => n.1 vs (q ▸ x)).trans e, fun b _ _ _ _ _ _ x => (s.2 b fun q => n.2 _ _ _ _ _ _ (q ▸ x)).trans x⟩
theorem tupKey_keeps {K : Type} [DecidableEq K] {prog : Program} {w : World} {knd : KeyKind prog w K} (k : Keeps h h') {ks : List K} {a : Addr} (x : IsTupleKey knd h ks a) : IsTupleKey knd h' ks a := by
  refine cps fun G k_ => ?_
  obtain ⟨o, items, n, e, c, d, r⟩ := x
  obtain ⟨o', e', c', n', d'⟩ := k.tup a items ⟨o, e, c, n, d⟩
  refine k_ ?_
  exact ⟨o', items, n', e', c', d', r⟩
theorem ObjRel.same {n n' : Nat} {α' : Nat → Addr} {a : Addr} {o : VO} (k : Keeps h h') (hn : n ≤ n') (ha : ∀ i, i < n → α' i = α i) (e : ∀ ob, h.get? a = some ob → h'.get? a = some ob) (r : ObjRel C h α n a o) : ObjRel C h' α' n' a o := by
  induction o with
  | list xs => obtain ⟨i, j, x, y⟩ := r; exact ⟨i, j, e _ x, RelVs.keeps k hn ha y⟩
  | edict => obtain ⟨j, x⟩ := r; exact ⟨j, e _ x⟩
  | idict es => obtain ⟨kvs, ⟨ob, es', ep, x, r⟩, y, z⟩ := r; exact ⟨kvs, ⟨ob, es', ep, e _ x, r⟩, y, RelVs.keeps k hn ha z⟩
  | sdict es => obtain ⟨kvs, ⟨ob, es', ep, x, r⟩, y, z⟩ := r; exact ⟨kvs, ⟨ob, es', ep, e _ x, r⟩, y, RelVs.keeps k hn ha z⟩
  | tdict es => obtain ⟨kvs, ⟨ob, es', ep, x, r1, r2, r3, r4, r5⟩, y, z⟩ := r; exact ⟨kvs, ⟨ob, es', ep, e _ x, r1, r2, r3, fun q hq => tupKey_keeps k (r4 q hq), r5⟩, y, RelVs.keeps k hn ha z⟩
  | attrs fs =>
    refine cps fun G k_ => ?_
    obtain ⟨m, ⟨ob, es, ep, x, r⟩, ⟨o', x', c⟩, y⟩ := r
    refine k_ ?_
    exact ⟨m, ⟨ob, es, ep, e _ x, r⟩, ⟨o', e _ x', c⟩, fun s => (y s).keeps k hn ha⟩
  | inst cl d ex => obtain ⟨hd, ob, x, y, z, u⟩ := r; exact ⟨Nat.lt_of_lt_of_le hd hn, ob, e _ x, y, by rw [ha d hd]; exact z, u⟩
  | exc0 cl => obtain ⟨ob, x, y, z, u⟩ := r; exact ⟨ob, e _ x, y, z, u⟩
  | set xs => obtain ⟨ob, es, ep, t, x, r⟩ := r; exact ⟨ob, es, ep, t, e _ x, r⟩
  | dead => obtain ⟨ob, c, x, y⟩ := r; exact ⟨ob, c, e _ x, y⟩
theorem St.grown (S : St C l α σ h) (k : ∀ b o, h.get? b = some o → h'.get? b = some o) : St C l α σ h' where
  stay := fun b o e => k b o (S.stay b o e)
  objs := fun i o e => (S.objs i o e).same (Keeps.of k) (Nat.le_refl _) (fun _ _ => rfl) fun ob x => k _ ob x
  inj := S.inj
  new := S.new
  frames := fun env he => by
    refine cps fun G k_ => ?_
    obtain ⟨fn, L, o, es, ep, hf, hn, ho, hd⟩ := S.frames env he
    refine k_ ?_
    exact ⟨fn, L, o, es, ep, hf, hn, k _ _ ho, hd⟩
  apart := S.apart
theorem St.changed {a : Addr} (S : St C l α σ h) (s : Heap.SameBut a h h') (hn : NTR h a) (hH : C.H.get? a = none) (ha : ∀ i, i < σ.length → α i ≠ a)
    (hf : a ∈ frs l → Y3 fun o es ep => h'.get? a = some o ∧ o.data = .dict es ep) : St C l α σ h' where
  stay := fun b o e => (s.2 b fun q => by rw [q, hH] at e; exact nn e).trans (S.stay b o e)
  objs := fun i o e => (S.objs i o e).same (Keeps.but s hn) (Nat.le_refl _) (fun _ _ => rfl) fun ob x => (s.2 _ (ha i (List.getElem?_eq_some_iff.mp e).1)).trans x
  inj := S.inj
  new := S.new
  frames := fun env he => by
    obtain ⟨fn, L, o, es, ep, hL, hN, ho, hd⟩ := S.frames env he
    by_cases q : L = a
    · subst q
      obtain ⟨o', es', ep', ho', hd'⟩ := hf (List.mem_filterMap.mpr ⟨env, he, hL⟩)
      exact ⟨fn, L, o', es', ep', hL, hN, ho', hd'⟩
    · exact ⟨fn, L, o, es, ep, hL, hN, (s.2 _ q).trans ho, hd⟩
  apart := S.apart
theorem St.upd {i : Nat} {o : VO} (S : St C l α σ h) (hi : i < σ.length) (s : Heap.SameBut (α i) h h') (r : ObjRel C h' α σ.length (α i) o) : St C l α (σ.set i o) h' where
  stay := fun b o' e => (s.2 b fun q => by rw [q, S.new i hi] at e; exact nn e).trans (S.stay b o' e)
  objs := fun j o' e => by
    rw [List.length_set]
    by_cases q : i = j
    · subst q
      rw [List.getElem?_set_self hi] at e
      obtain rfl := Option.some.inj e
      exact r
    · replace e := (List.getElem?_set_ne q) ▸ e
      have hj := (List.getElem?_eq_some_iff.mp e).1
      exact (S.objs j o' e).same (Keeps.but s (S.at hi).2) (Nat.le_refl _) (fun _ _ => rfl) fun ob x => (s.2 _ fun z => q (S.inj i j hi hj z.symm)).trans x
  inj := by simpa using S.inj
  new := by simpa using S.new
  frames := fun env he => by
    obtain ⟨fn, L, ob, es, ep, hL, hN, ho, hd⟩ := S.frames env he
    exact ⟨fn, L, ob, es, ep, hL, hN, (s.2 _ fun q => S.apart i hi (q ▸ List.mem_filterMap.mpr ⟨env, he, hL⟩)).trans ho, hd⟩
  apart := by simpa using S.apart
noncomputable def aext (α : Nat → Addr) (n : Nat) (a : Addr) : Nat → Addr := fun i => if i = n then a else α i
theorem aext_old {α : Nat → Addr} {n : Nat} {a : Addr} : ∀ i, i < n → aext α n a i = α i := fun i hi => if_neg (Nat.ne_of_lt hi)
theorem aext_new {α : Nat → Addr} {n : Nat} {a : Addr} : aext α n a n = a := if_pos rfl
theorem St.alloc {a : Addr} {o : VO} (S : St C l α σ h) (k : ∀ b o, h.get? b = some o → h'.get? b = some o) (ha : h.get? a = none)
    (r : ObjRel C h' (aext α σ.length a) (σ.length + 1) a o) : St C l (aext α σ.length a) (σ ++ [o]) h' where
  stay := fun b o e => k b o (S.stay b o e)
  objs := fun j o' e => by
    rw [List.length_append, List.length_singleton]
    by_cases q : j < σ.length
    · rw [List.getElem?_append_left q] at e
      refine (aext_old j q) ▸ ?_
      exact (S.objs j o' e).same (Keeps.of k) (Nat.le_succ _) aext_old fun ob x => k _ ob x
    · have hj : j = σ.length := by
        have := (List.getElem?_eq_some_iff.mp e).1
        rw [List.length_append, List.length_singleton] at this
        lia
      subst hj
      simp at e
      subst e
      refine aext_new ▸ ?_; exact r
  inj := fun i j hi hj e => by
    rw [List.length_append, List.length_singleton] at hi hj
    have lt : ∀ i, i < σ.length → α i ≠ a := fun i hi q => by
      obtain ⟨_, e⟩ := (S.at hi).1
      rw [q, ha] at e; exact nn e
    by_cases p : i = σ.length <;> by_cases q : j = σ.length
    · exact p ▸ q ▸ rfl
    · subst p
      rw [aext_new, aext_old j (by lia)] at e
      exact absurd e.symm (lt j (by lia))
    · subst q
      rw [aext_new, aext_old i (by lia)] at e
      exact absurd e (lt i (by lia))
    · rw [aext_old i (by lia), aext_old j (by lia)] at e
      exact S.inj i j (by lia) (by lia) e
  new := fun i hi => by
    replace hi := List.length_singleton ▸ List.length_append ▸ hi
    by_cases p : i = σ.length
    · subst p
      refine aext_new ▸ ?_
      cases q : C.H.get? a with
      | none => rfl
      | some o => have := S.stay _ _ q; rw [ha] at this; exact nn this
    · rw [aext_old i (by lia)]; exact S.new i (by lia)
  frames := fun env he => by
    obtain ⟨fn, L, o, es, ep, hf, hn, ho, hd⟩ := S.frames env he
    exact ⟨fn, L, o, es, ep, hf, hn, k _ _ ho, hd⟩
  apart := fun i hi hm => by
    rw [List.length_append, List.length_singleton] at hi
    by_cases p : i = σ.length
    · subst p
      rw [aext_new] at hm
      obtain ⟨_, ⟨_, _, _, e, _⟩, _⟩ := S.fr hm
      rw [ha] at e; exact nn e
    · rw [aext_old i (by lia)] at hm; exact S.apart i (by lia) hm
theorem Nx.alloc {n : Nat} {a : Addr} (k : ∀ b o, h.get? b = some o → h'.get? b = some o) (ha : h.get? a = none) : Nx X l n α h (n + 1) (aext α n a) h' :=
  ⟨Nat.le_succ _, aext_old, alive_of k, fun i h1 h2 => by rw [show i = n by lia, aext_new]; exact ha, fun b o e _ _ _ => k b o e, fun b o e _ _ _ => ⟨o.slots, k b o e⟩⟩
theorem fresh_size (h : Heap) : h.get? h.objs.size = none := by
  cases q : h.get? h.objs.size with
  | none => rfl
  | some o => exact absurd (Heap.lt_size q) (Nat.lt_irrefl _)
theorem fresh_of {h h' : Heap} {a : Addr} (k : ∀ b o, h.get? b = some o → h'.get? b = some o) (e : h'.get? a = none) : h.get? a = none := alive_of k a e
theorem push_keeps (h : Heap) (o : Obj) : ∀ b ob, h.get? b = some ob → (h.push o).get? b = some ob := fun _ _ e => Heap.get?_push_of_some o e
end
structure EnvR (C : Cx) (sc : Scope) (env : Env) (l : List Env) (h : Heap) (α : Nat → Addr) (n : Nat) (ρ : VE) : Prop where
  glob : env.globals = mainGlobals
  blt : env.builtins = builtinsNs
  kind : env.scope.kind = .function
  head : Y2 fun e0 r => l = e0 :: r ∧ e0.frame = env.frame ∧ e0.scope.isGenerator = false ∧ e0.scope.isCoroutine = false ∧ e0.builtins = builtinsNs ∧ e0.globals = mainGlobals
  names : ∀ x, match sc.names.lookup x with
    | some .globalImplicit => env.kindOf x = some .globalImplicit
    | some .local => env.kindOf x = some .local
    | some .cell => env.kindOf x = some .cell
    | some .free => env.kindOf x = some .cell
    | _ => True
  ns : ∃ m, h.Ns env.locals m ∧ ∀ x v, lookE x ρ = some v → ∃ val, RelV h α n v val ∧ ((env.kindOf x = some .local ∧ m x = some val) ∨
    (env.kindOf x = some .cell ∧ Y2 fun c o => C3 (env.cells.lookup x = some c) (h.get? c = some o) (o.data = .cell (some val))))
  locNew : C.H.get? env.locals = none
  locApart : ∀ i, i < n → α i ≠ env.locals
  cells : ∀ x c, env.cells.lookup x = some c → C.H.get? c = none ∧ (∀ i, i < n → α i ≠ c) ∧ c ∉ frs l ∧ c ≠ env.locals ∧ Y2 fun o v => h.get? c = some o ∧ o.data = .cell v
  cinj : ∀ x y c, env.cells.lookup x = some c → env.cells.lookup y = some c → x = y
  has : ∀ x, sc.names.lookup x = some .cell → ∃ c, env.cells.lookup x = some c
noncomputable def Own (env : Env) (b : Addr) : Prop := b = env.locals ∨ ∃ x, env.cells.lookup x = some b
section
variable {C : Cx} {l : List Env} {α : Nat → Addr} {σ : VH} {h h' : Heap} {X : Addr → Prop} {sc : Scope} {env : Env} {ρ : VE} {n : Nat}
theorem EnvR.ntr (R : EnvR C sc env l h α n ρ) : ∀ b, Own env b → NTR h b := by
  rintro b (rfl | ⟨x, hx⟩)
  · obtain ⟨m, ⟨o, es, ep, e, d, _⟩, _⟩ := R.ns
    exact ntr_of e (.inr fun _ _ q => nomatch d.symm.trans q) (.inr fun _ q => nomatch d.symm.trans q)
  · obtain ⟨_, _, _, _, o, v, e, d⟩ := R.cells x b hx
    exact ntr_of e (.inr fun _ _ q => nomatch d.symm.trans q) (.inr fun _ q => nomatch d.symm.trans q)
theorem Nx.ns {n' α' a m} (nx : Nx noX l n α h n' α' h') (ha : ∀ i, i < n → α i ≠ a) (x : h.Ns a m) : h'.Ns a m := by
  obtain ⟨o, es, ep, e, d, r⟩ := x
  by_cases q : a ∈ frs l
  · obtain ⟨sl, e'⟩ := nx.slots a o e ha (fun z => z) q
    exact ⟨_, es, ep, e', d, r⟩
  · exact ⟨o, es, ep, nx.keep a o e ha (fun z => z) q, d, r⟩
theorem apart_nx {n' α' a o} (nx : Nx X l n α h n' α' h') (ha : ∀ i, i < n → α i ≠ a) (e : h.get? a = some o) : ∀ i, i < n' → α' i ≠ a := fun i hi z => by
  by_cases q : i < n
  · exact ha i q ((nx.ext i q).symm.trans z)
  · have := nx.fresh i (Nat.le_of_not_lt q) hi
    rw [z, e] at this; exact ns this
theorem EnvR.nx {n' α'} (S : St C l α σ h) (R : EnvR C sc env l h α σ.length ρ) (nx : Nx noX l σ.length α h n' α' h') : EnvR C sc env l h' α' n' ρ where
  glob := R.glob
  blt := R.blt
  kind := R.kind
  head := R.head
  names := R.names
  ns := by
    obtain ⟨m, hm, hv⟩ := R.ns
    refine ⟨m, nx.ns R.locApart hm, fun x v e => ?_⟩
    obtain ⟨val, r, q⟩ := hv x v e
    refine ⟨val, r.nx S nx, q.imp id fun ⟨k, c, o, hc, ho, hd⟩ => ⟨k, c, o, hc, ?_, hd⟩⟩
    obtain ⟨_, a2, a3, _⟩ := R.cells x c hc
    exact nx.keep c o ho a2 (fun z => z) a3
  locNew := R.locNew
  locApart := by
    obtain ⟨m, ⟨o, es, ep, e, _⟩, _⟩ := R.ns
    exact apart_nx nx R.locApart e
  cells := fun x c hc => by
    refine cps fun G k_ => ?_
    obtain ⟨a1, a2, a3, a4, o, v, e, d⟩ := R.cells x c hc
    refine k_ ?_
    exact ⟨a1, apart_nx nx a2 e, a3, a4, o, v, nx.keep c o e a2 (fun z => z) a3, d⟩
  cinj := R.cinj
  has := R.has
end
end Mine
end
section
open PySem.Calls
namespace Mine
structure Room (d : Nat) (l : List Env) (A : Around) : Prop where
  frames : A.frames = some l
  handled : A.handled = none
  depth : A.depth + 2 * d ≤ 890
  units : A.units + 60 * d ≤ 9000
noncomputable def FlAt (h : Heap) (x : Addr) (lo : Heap) (vs : Array Value) : Option Value → Prop
  | none => vs[1]? = some .none
  | some v => Y3 fun T oT ts => C7 (vs[1]? = some (.ref T)) (T ≠ x) (lo.get? T = none) (h.get? T = some oT) (oT.cls = .type "traceback") (oT.data = .fields ts) (ts[3]? = some v)
noncomputable def ExcAt (h : Heap) (x cl dx : Addr) (lo : Heap) (fl : Option Value) : Prop :=
  Y3 fun oe vs a0 => C6 (h.get? x = some oe) (oe.cls = .ref cl) (oe.dict = some dx) (oe.data = .fields vs) (vs[0]? = some a0) (FlAt h x lo vs fl)
theorem ExcAt.lo {h x cl dx lo lo' fl} (e : ExcAt h x cl dx lo fl) (k : ∀ b, lo.get? b = none → lo'.get? b = none) : ExcAt h x cl dx lo' fl := by
  obtain ⟨oe, vs, a0, h1, h2, h3, h4, h5, h6⟩ := e
  refine ⟨oe, vs, a0, h1, h2, h3, h4, h5, ?_⟩
  induction fl with
  | none => exact h6
  | some v =>
    obtain ⟨T, oT, ts, i1, i2, i3, i4, i5, i6, i7⟩ := h6
    exact ⟨T, oT, ts, i1, i2, k _ i3, i4, i5, i6, i7⟩
noncomputable def FlOK (env : Env) (fl : Option Value) : Prop := fl = none ∨ fl = some .none ∨ ∃ L, env.frame = some L ∧ fl = some (rawInt L)
noncomputable abbrev FlOut (fl : Option Value) : Prop := fl = none ∨ fl = some .none
structure Cont (C : Cx) (X : Addr → Prop) (FL : Option Value → Prop) (l : List Env) {β γ : Type} (Rel : List Env → Heap → (Nat → Addr) → Nat → β → γ → Prop) (r : Res β) (n : Nat) (α : Nat → Addr) (s : Shared)
    (Q : γ → Shared → Prop) (E : Value → Shared → Prop) : Prop where
  ns : r ≠ .stuck
  ok : ∀ a σ' α' c h' t', r = .ok a σ' → St C l α' σ' h' → Nx X l n α s.heap σ'.length α' h' → Rel l h' α' σ'.length a c → Q c ⟨h', s.gens, s.drawn, t', s.os⟩
  ex : ∀ i cl dd σ' α' h' t' fl, r = .exc i σ' → σ'[i]? = some (.inst cl dd true) → St C l α' (σ'.set i .dead) h' → Nx X l n α s.heap σ'.length α' h' →
    ExcAt h' (α' i) cl (α' dd) s.heap fl → FL fl → E (.ref (α' i)) ⟨h', s.gens, s.drawn, t', s.os⟩
noncomputable def Tri (C : Cx) (d : Nat) (X : Addr → Prop) {β γ : Type} (Rel : List Env → Heap → (Nat → Addr) → Nat → β → γ → Prop) (t : Sem γ) (sc : Scope) (env : Env) (ρ : VE) (σ : VH) (r : Res β) : Prop :=
  ∀ l A s α Q E, Room d l A → St C l α σ s.heap → EnvR C sc env l s.heap α σ.length ρ → Cont C X (FlOK env) l Rel r σ.length α s Q E → wpAny C.M A t Q E s
noncomputable abbrev RelE (l : List Env) (h : Heap) (α : Nat → Addr) (n : Nat) : VV → Value → Prop := RelV h α n
noncomputable abbrev RelEs (l : List Env) (h : Heap) (α : Nat → Addr) (n : Nat) : List VV → List Value → Prop := RelVs h α n
noncomputable abbrev RelB (l : List Env) (h : Heap) (α : Nat → Addr) (n : Nat) : Bool → Bool → Prop := Eq
noncomputable def RelFl (h : Heap) (α : Nat → Addr) (n : Nat) : VF → Flow → Prop
  | .next, .next => True
  | .brk, .brk => True
  | .cont, .cont => True
  | .ret v, .ret w => RelV h α n v w
  | _, _ => False
noncomputable abbrev RelX (C : Cx) (sc : Scope) (env : Env) (l : List Env) (h : Heap) (α : Nat → Addr) (n : Nat) (p : VF × VE) (f : Flow) : Prop := RelFl h α n p.1 f ∧ EnvR C sc env l h α n p.2
noncomputable abbrev RelS (C : Cx) (sc : Scope) (env : Env) (l : List Env) (h : Heap) (α : Nat → Addr) (n : Nat) (ρ : VE) (_ : Unit) : Prop := EnvR C sc env l h α n ρ
noncomputable abbrev Ev (C : Cx) (d : Nat) (t : Sem Value) (sc : Scope) (env : Env) (ρ : VE) (σ : VH) (r : Res VV) : Prop := Tri C d noX RelE t sc env ρ σ r
noncomputable abbrev Cd (C : Cx) (d : Nat) (t : Sem Bool) (sc : Scope) (env : Env) (ρ : VE) (σ : VH) (r : Res Bool) : Prop := Tri C d noX RelB t sc env ρ σ r
noncomputable abbrev Evs (C : Cx) (d : Nat) (t : Sem (List Value)) (sc : Scope) (env : Env) (ρ : VE) (σ : VH) (r : Res (List VV)) : Prop := Tri C d noX RelEs t sc env ρ σ r
noncomputable abbrev Ex (C : Cx) (d : Nat) (t : Sem Flow) (sc : Scope) (env : Env) (ρ : VE) (σ : VH) (r : Res (VF × VE)) : Prop := Tri C d (Own env) (RelX C sc env) t sc env ρ σ r
section
variable {C : Cx} {d : Nat} {X : Addr → Prop} {FL : Option Value → Prop} {env : Env} {sc : Scope} {l : List Env} {A : Around} {β γ β' γ' : Type} {Rel : List Env → Heap → (Nat → Addr) → Nat → β → γ → Prop} {Rel' : List Env → Heap → (Nat → Addr) → Nat → β' → γ' → Prop}
  {r : Res β} {k : β → VH → Res β'} {α : Nat → Addr} {s : Shared} {σ : VH} {ρ : VE} {E : Value → Shared → Prop}
theorem Cont.bind {n : Nat} {Q : γ' → Shared → Prop} (K : Cont C X FL l Rel' (r.bind k) n α s Q E) {a : β} {σ' : VH} {α' : Nat → Addr} {h' : Heap} {t' : Tok} (e : r = .ok a σ') (nx : Nx X l n α s.heap σ'.length α' h') :
    Cont C X FL l Rel' (k a σ') σ'.length α' ⟨h', s.gens, s.drawn, t', s.os⟩ Q E := by
  subst e
  refine ⟨K.ns, fun a' σ'' α'' c h'' t'' e st nx' rel => K.ok a' σ'' α'' c h'' t'' e st (nx.trans nx') rel, fun i cl dd σ'' α'' h'' t'' fl e hi st nx' ea hf => K.ex i cl dd σ'' α'' h'' t'' fl e hi st (nx.trans nx') (ea.lo nx.alive) hf⟩
theorem Cont.from {n : Nat} {Q : γ → Shared → Prop} (K : Cont C X FL l Rel r n α s Q E) {σ' : VH} {α' : Nat → Addr} {h' : Heap} {t' : Tok} (nx : Nx X l n α s.heap σ'.length α' h') :
    Cont C X FL l Rel r σ'.length α' ⟨h', s.gens, s.drawn, t', s.os⟩ Q E :=
  ⟨K.ns, fun a' σ'' α'' c h'' t'' e st nx' rel => K.ok a' σ'' α'' c h'' t'' e st (nx.trans nx') rel, fun i cl dd σ'' α'' h'' t'' fl e hi st nx' ea hf => K.ex i cl dd σ'' α'' h'' t'' fl e hi st (nx.trans nx') (ea.lo nx.alive) hf⟩
theorem Tri.useX {X' : Addr → Prop} {t : Sem γ} {Q : γ → Shared → Prop} {Q' : γ' → Shared → Prop} (T : Tri C d X' Rel t sc env ρ σ r) (rm : Room d l A) (st : St C l α σ s.heap) (er : EnvR C sc env l s.heap α σ.length ρ)
    (hX : ∀ b, X' b → X b) (K : Cont C X (FlOK env) l Rel' (r.bind k) σ.length α s Q' E)
    (h : ∀ a σ' α' c h' t', r = .ok a σ' → St C l α' σ' h' → Nx X' l σ.length α s.heap σ'.length α' h' → Rel l h' α' σ'.length a c →
      Cont C X (FlOK env) l Rel' (k a σ') σ'.length α' ⟨h', s.gens, s.drawn, t', s.os⟩ Q' E → Q c ⟨h', s.gens, s.drawn, t', s.os⟩) : wpAny C.M A t Q E s := by
  refine T l A s α Q E rm st er ⟨fun e => K.ns (by rw [e]; rfl), fun a σ' α' c h' t' e st' nx rel => ?_, fun i cl dd σ' α' h' t' fl e hi st' nx ea hf => ?_⟩
  · exact h a σ' α' c h' t' e st' nx rel (K.bind e (nx.weaken hX))
  · exact K.ex i cl dd σ' α' h' t' fl (by rw [e]; rfl) hi st' (nx.weaken hX) ea hf
theorem Tri.use {t : Sem γ} {Q : γ → Shared → Prop} {Q' : γ' → Shared → Prop} (T : Tri C d noX Rel t sc env ρ σ r) (rm : Room d l A) (st : St C l α σ s.heap) (er : EnvR C sc env l s.heap α σ.length ρ)
    (K : Cont C X (FlOK env) l Rel' (r.bind k) σ.length α s Q' E)
    (h : ∀ a σ' α' c h' t', r = .ok a σ' → St C l α' σ' h' → EnvR C sc env l h' α' σ'.length ρ → Nx noX l σ.length α s.heap σ'.length α' h' → Rel l h' α' σ'.length a c →
      Cont C X (FlOK env) l Rel' (k a σ') σ'.length α' ⟨h', s.gens, s.drawn, t', s.os⟩ Q' E → Q c ⟨h', s.gens, s.drawn, t', s.os⟩) : wpAny C.M A t Q E s :=
  T.useX rm st er (fun _ q => q.elim) K fun a σ' α' c h' t' e st' nx rel K' => h a σ' α' c h' t' e st' (er.nx st nx) nx rel K'
theorem pylong_ok {n : Nat} (rm : Room d l A) (st : St C l α σ s.heap) (er : EnvR C sc env l s.heap α n ρ) : PylongRoom C.M A s := by
  refine cps fun G k_ => ?_
  obtain ⟨e0, r, e1, e2, e3, e4, e5, e6⟩ := er.head
  refine k_ ?_
  have := rm.depth
  refine PylongRoom.of (C.top.nolimit.keeps st.stay) ?_ (SeerAt.of (env := e0) (l := r) (C.seer.keeps st.stay) rfl (by exact rm.frames ▸ e1 ▸ rfl) e3 e4 e5 e6)
  show A.depth + 100 < 1000
  lia
theorem Cont.pure {Q : γ → Shared → Prop} {a : β} {c : γ} {t' : Tok} (K : Cont C X FL l Rel (.ok a σ) σ.length α s Q E) (st : St C l α σ s.heap) (rel : Rel l s.heap α σ.length a c) : Q c ⟨s.heap, s.gens, s.drawn, t', s.os⟩ :=
  K.ok a σ α c s.heap t' rfl st .refl rel
theorem Cont.grown {Q : γ → Shared → Prop} {a : β} {c : γ} {h' : Heap} {t' : Tok} (K : Cont C X FL l Rel (.ok a σ) σ.length α s Q E) (st : St C l α σ s.heap) (k : ∀ b o, s.heap.get? b = some o → h'.get? b = some o)
    (rel : Rel l h' α σ.length a c) : Q c ⟨h', s.gens, s.drawn, t', s.os⟩ := K.ok a σ α c h' t' rfl (st.grown k) (.grown k) rel
theorem Cont.alloc {Q : γ → Shared → Prop} {b : β} {c : γ} {h' : Heap} {t' : Tok} {a : Addr} {o : VO} (K : Cont C X FL l Rel (.ok b (σ ++ [o])) σ.length α s Q E) (st : St C l α σ s.heap) (k : ∀ b o, s.heap.get? b = some o → h'.get? b = some o)
    (ha : s.heap.get? a = none) (r : ObjRel C h' (aext α σ.length a) (σ.length + 1) a o) (rel : Rel l h' (aext α σ.length a) (σ.length + 1) b c) : Q c ⟨h', s.gens, s.drawn, t', s.os⟩ :=
  K.ok b (σ ++ [o]) (aext α σ.length a) c h' t' rfl (st.alloc k ha r) (by rw [List.length_append]; exact .alloc k ha) (by rw [List.length_append]; exact rel)
theorem Cont.upd {Q : γ → Shared → Prop} {b : β} {c : γ} {h' : Heap} {t' : Tok} {i : Nat} {o : VO} (K : Cont C X FL l Rel (.ok b (σ.set i o)) σ.length α s Q E) (st : St C l α σ s.heap) (hi : i < σ.length) (sb : Heap.SameBut (α i) s.heap h')
    (r : ObjRel C h' α σ.length (α i) o) (rel : Rel l h' α σ.length b c) : Q c ⟨h', s.gens, s.drawn, t', s.os⟩ :=
  K.ok b (σ.set i o) α c h' t' rfl (st.upd hi sb r) (by rw [List.length_set]; exact .changed sb r.there.1 (.inl ⟨i, hi, rfl⟩)) (by rw [List.length_set]; exact rel)
theorem Cont.guard {Q : γ → Shared → Prop} {n : Nat} {c : Bool} (K : Cont C X FL l Rel (.guard c r) n α s Q E) {P : Prop} (k : c = true → Cont C X FL l Rel r n α s Q E → P) : P := by
  induction c with
  | true => exact k rfl K
  | false => exact (K.ns rfl).elim
theorem Cont.sm {Q : γ → Shared → Prop} {n : Nat} {δ : Type} {o : Option δ} {k : δ → VH → Res β} (K : Cont C X FL l Rel ((Res.of o σ).bind k) n α s Q E) {P : Prop} (h : ∀ a, o = Option.some a → Cont C X FL l Rel (k a σ) n α s Q E → P) : P := by
  induction o with
  | some a => exact h a rfl K
  | none => exact (K.ns rfl).elim
theorem Cont.one {Q : γ → Shared → Prop} {n : Nat} {o : Option β} (K : Cont C X FL l Rel (Res.of o σ) n α s Q E) {P : Prop} (h : ∀ a, o = Option.some a → Cont C X FL l Rel (.ok a σ) n α s Q E → P) : P := by
  induction o with
  | some a => exact h a rfl K
  | none => exact (K.ns rfl).elim
theorem Cont.opt {Q : γ → Shared → Prop} {n : Nat} {δ : Type} {f : Option δ → Res β} {o : Option δ} (K : Cont C X FL l Rel (f o) n α s Q E) (h0 : f none = .stuck) {P : Prop} (h : ∀ a, o = Option.some a → Cont C X FL l Rel (f (.some a)) n α s Q E → P) : P := by
  induction o with
  | some a => exact h a rfl K
  | none => exact (K.ns h0).elim
theorem Cont.bif {Q : γ → Shared → Prop} {n : Nat} {c : Bool} {r r' : Res β} (K : Cont C X FL l Rel (bif c then r else r') n α s Q E) {P : Prop} (h : c = true → Cont C X FL l Rel r n α s Q E → P) (k : c = false → Cont C X FL l Rel r' n α s Q E → P) : P := by
  induction c with
  | true => exact h rfl K
  | false => exact k rfl K
theorem Tri.okay {X : Addr → Prop} {t : Sem γ} {Q : γ → Shared → Prop} (T : Tri C d X Rel t sc env ρ σ r) (rm : Room d l A) (st : St C l α σ s.heap) (er : EnvR C sc env l s.heap α σ.length ρ) {a : β} {σ' : VH} (e : r = .ok a σ')
    (h : ∀ α' c h' t', St C l α' σ' h' → Nx X l σ.length α s.heap σ'.length α' h' → Rel l h' α' σ'.length a c → Q c ⟨h', s.gens, s.drawn, t', s.os⟩) : wpAny C.M A t Q E s := by
  subst e
  refine T l A s α Q E rm st er ⟨(fun q => nomatch q), fun a' σ'' α' c h' t' e' st' nx rel => ?_, fun i cl dd σ' α' h' t' fl e => nomatch e⟩
  injection e' with e1 e2
  subst e1 e2
  exact h α' c h' t' st' nx rel
theorem Cont.eq {Q : γ → Shared → Prop} {n : Nat} {r' : Res β} (K : Cont C X FL l Rel r n α s Q E) (e : r = r') : Cont C X FL l Rel r' n α s Q E := e ▸ K
theorem Tri.eq {t : Sem γ} {r' : Res β} (T : Tri C d X Rel t sc env ρ σ r) (e : r' = r) : Tri C d X Rel t sc env ρ σ r' := e ▸ T
theorem Cont.dead {Q : γ → Shared → Prop} {n : Nat} (K : Cont C X FL l Rel (.stuck : Res β) n α s Q E) {P : Prop} : P := (K.ns rfl).elim
theorem Cont.deadOf {Q : γ → Shared → Prop} {n : Nat} (K : Cont C X FL l Rel (Res.of (none : Option β) σ) n α s Q E) {P : Prop} : P := (K.ns rfl).elim
end
structure Facts (C : Cx) (G : Top') : Prop where
  gl : ∀ x v, G.gl x = some v → (∃ val, C.mg x = some val ∧ ∀ h, C.H.StaysIn h → ∀ α n, RelV h α n v val) ∨ (C.mg x = none ∧ ∃ b, C.mb x = some b ∧ v = .val b)
structure Rd (sc : Scope) (env : Env) (h : Heap) (α : Nat → Addr) (n : Nat) (ρ : VE) : Prop where
  glob : env.globals = mainGlobals
  blt : env.builtins = builtinsNs
  kind : env.scope.kind = .function
  names : ∀ x, match sc.names.lookup x with
    | some .globalImplicit => env.kindOf x = some .globalImplicit
    | some .local => env.kindOf x = some .local
    | some .cell => env.kindOf x = some .cell
    | some .free => env.kindOf x = some .cell
    | _ => True
  ns : ∃ m, h.Ns env.locals m ∧ ∀ x v, lookE x ρ = some v → ∃ val, RelV h α n v val ∧ ((env.kindOf x = some .local ∧ m x = some val) ∨
    (env.kindOf x = some .cell ∧ Y2 fun c o => C3 (env.cells.lookup x = some c) (h.get? c = some o) (o.data = .cell (some val))))
section
variable {C : Cx} {d : Nat} {env : Env} {sc : Scope} {l : List Env} {A : Around} {s : Shared} {σ : VH} {ρ : VE}
theorem ev_const (c : Const) (k : Nat) (p : Pos) : Ev C d (eval (.Constant c k p) env) sc env ρ σ (Res.of (constV c) σ) := by
  intro l A s α Q E rm st er K
  rw [arm_eval_Constant]
  induction c with
  | none => exact wpAny_pure (K.pure st .none)
  | bool b => exact wpAny_pure (K.pure st (.bool b))
  | int i => exact fun _ _ _ => K.pure st (.int i s.toks)
  | str x => exact fun _ _ _ => K.pure st (.str x s.toks)
  | _ => exact K.deadOf
theorem rd_name {G : Top'} {α : Nat → Addr} {E : Value → Shared → Prop} (F : Facts C G) {x : Str} {v : VV} {Q : Value → Shared → Prop} (e : nameV G sc x ρ = some v) (st : St C l α σ s.heap) (er : Rd sc env s.heap α σ.length ρ)
    (h : ∀ val, RelV s.heap α σ.length v val → Q val s) : wpAny C.M A (loadName env x) Q E s ∧ (x == ("__debug__" : Str)) = false := by
  unfold nameV at e
  split at e
  · exact nn e
  rename_i hd
  refine ⟨?_, by simpa using hd⟩
  have hn := er.names x
  have stored : ∀ k, (k = NameKind.local ∨ k = NameKind.cell ∨ k = NameKind.free) → env.kindOf x = some k → lookE x ρ = some v → wpAny C.M A (loadName env x) Q E s := by
    intro k hk hkind e
    obtain ⟨m, hm, hv⟩ := er.ns
    obtain ⟨val, r, q | ⟨q, c, o, hc, ho, hd'⟩⟩ := hv x v e
    · exact wpAny_loadName_local er.kind q.1 hm q.2 (h val r)
    · exact wpAny_loadName_cell er.kind q hc ⟨o, ho, hd'⟩ (h val r)
  split at e
  · rename_i q
    replace hn := q ▸ hn
    have key : wpAny C.M A (loadGlobal env x) Q E s := by
      have g0 : s.heap.Ns env.globals C.mg := by rw [er.glob]; exact C.top.g.keeps st.stay
      have b0 : s.heap.Ns env.builtins C.mb := by rw [er.blt]; exact C.top.b.keeps st.stay
      rcases F.gl x v e with ⟨val, e1, e2⟩ | ⟨e1, b, e2, rfl⟩
      · exact loadGlobal_global g0 e1 (h val (e2 _ st.stay _ _))
      · exact loadGlobal_builtin g0 e1 b0 e2 (h b (.val b))
    unfold loadName
    simp only [Env.blockKind, er.kind, hn, ScopeKind.isAnnotationScope, Bool.false_and, Bool.false_eq_true, if_false]
    exact key
  · rename_i q; rw [q] at hn; exact stored _ (.inl rfl) hn e
  · rename_i q; rw [q] at hn; exact stored _ (.inr (.inl rfl)) hn e
  · rename_i q; rw [q] at hn; exact stored _ (.inr (.inl rfl)) hn e
  · exact nn e
theorem EnvR.rd {α : Nat → Addr} {h : Heap} {n : Nat} (er : EnvR C sc env l h α n ρ) : Rd sc env h α n ρ := ⟨er.glob, er.blt, er.kind, er.names, er.ns⟩
theorem name_ok {G : Top'} (F : Facts C G) {x : Str} {v : VV} {α : Nat → Addr} {Q : Value → Shared → Prop} {E : Value → Shared → Prop} (e : nameV G sc x ρ = some v) (st : St C l α σ s.heap) (er : EnvR C sc env l s.heap α σ.length ρ)
    (h : ∀ val, RelV s.heap α σ.length v val → Q val s) : wpAny C.M A (loadName env x) Q E s ∧ (x == ("__debug__" : Str)) = false := rd_name F e st er.rd h
theorem ev_name {G : Top'} (F : Facts C G) (x : Str) (p : Pos) : Ev C d (eval (.Name x p) env) sc env ρ σ (Res.of (nameV G sc x ρ) σ) := by
  intro l A s α Q E rm st er K
  cases e : nameV G sc x ρ with
  | none => rw [e] at K; exact K.deadOf
  | some v =>
    replace K := e ▸ K
    have q := name_ok (A := A) (E := E) (Q := Q) F e st er fun val r => K.pure st r
    exact wpAny_Name q.1 q.2
end
end Mine
end
section
open PySem.Calls
namespace Mine
structure OpsOK (C : Cx) (d : Nat) (o : Ops) : Prop where
  ev : ∀ sc e env ρ σ, Ev C d (eval (src e) env) sc env ρ σ (o.ev sc e ρ σ)
  cd : ∀ sc e env ρ σ, Cd C d (isTrue (src e) env (eval (src e) env)) sc env ρ σ (o.cd sc e ρ σ)
  evs : ∀ sc es pos env ρ σ, Evs C d (spliced (backTo pos (starEach (srcs es) env))) sc env ρ σ (o.evs sc es ρ σ)
  ex : ∀ sc e env ρ σ, Ex C d (exec (srcS e) env) sc env ρ σ (o.ex sc e ρ σ)
  exs : ∀ sc e env ρ σ, Ex C d (execs (srcSs e) env) sc env ρ σ (o.exs sc e ρ σ)
section
variable {C : Cx} {d : Nat} {G : Top'} {cl : CallO} {o : Ops} {env : Env} {sc : Scope} {σ : VH} {ρ : VE}
theorem some_ite {α : Type} {c : Prop} [Decidable c] {a b : α} (e : (if c then some a else none) = some b) : c ∧ a = b := by
  by_cases q : c
  · exact ⟨q, Option.some.inj ((if_pos q).symm.trans e)⟩
  · cases (if_neg q).symm.trans e
theorem intV_ok {h : Heap} {α : Nat → Addr} {n : Nat} {a : VV} {va : Value} {i : Int} (e : intV a = some i) (ra : RelV h α n a va) : ∃ t, va = .int i t := by
  cases a with
  | int j => exact (Option.some.inj e) ▸ ra.inv
  | _ => exact nomatch e
theorem arith_ok {f : Int → Int → Option Int} {h : Heap} {α : Nat → Addr} {n : Nat} {a b v : VV} {va vb : Value} (e : arith f a b = some v) (ra : RelV h α n a va) (rb : RelV h α n b vb) {P : Prop} (go : ∀ i j t t' r, va = .int i t → vb = .int j t' → f i j = some r → v = .int r → P) : P := by
  obtain ⟨i, e1, e⟩ := Option.bind_eq_some_iff.mp e
  obtain ⟨j, e2, e⟩ := Option.bind_eq_some_iff.mp e
  obtain ⟨r, e3, e⟩ := Option.map_eq_some_iff.mp e
  obtain ⟨t, q⟩ := intV_ok e1 ra
  obtain ⟨t', q'⟩ := intV_ok e2 rb
  exact go i j t t' r q q' e3 e.symm
theorem binV_ok {op : Operator} {a b v : VV} {va vb : Value} {h : Heap} {α : Nat → Addr} {n : Nat} {A : Around} {s : Shared} {Q : Value → Shared → Prop} {E : Value → Shared → Prop}
    (e : binV op a b = some v) (ra : RelV h α n a va) (rb : RelV h α n b vb) (hp : PylongRoom C.M A s)
    (hq : ∀ w t, RelV h α n v w → Q w { s with toks := t }) : wpAny C.M A (binaryOp op va vb) Q E s := by
  induction op with
  | Add => exact arith_ok e ra rb fun i j t t' r q1 q2 q3 q4 => by subst q1 q2 q4; obtain rfl := Option.some.inj q3; exact PyProof.Rows.add_int (hq _ _ (.int _ _))
  | Sub => exact arith_ok e ra rb fun i j t t' r q1 q2 q3 q4 => by subst q1 q2 q4; obtain rfl := Option.some.inj q3; exact PyProof.Rows.sub_int' (hq _ _ (.int _ _))
  | Mod => exact arith_ok e ra rb fun i j t t' r q1 q2 q3 q4 => by subst q1 q2 q4; obtain ⟨g, rfl⟩ := some_ite q3; exact PyProof.Rows.mod_int' (Int.ne_of_gt g.1) (hq _ _ (.int _ _))
  | FloorDiv => exact arith_ok e ra rb fun i j t t' r q1 q2 q3 q4 => by subst q1 q2 q4; obtain ⟨g, rfl⟩ := some_ite q3; exact PyProof.Rows.floordiv_int (Int.ne_of_gt g.1) (hq _ _ (.int _ _)) (.inr hp)
  | _ => exact nomatch e
theorem ev_BinOp (H : OpsOK C d o) (l op r pos) : Ev C d (eval (.BinOp (src l) op (src r) pos) env) sc env ρ σ ((o.ev sc l ρ σ).bind fun a σ₁ => (o.ev sc r ρ σ₁).bind fun b σ₂ => Res.of (binV op a b) σ₂) := by
  intro ls A s α Q E rm st er K
  refine wpAny_BinOp ?_
  refine (H.ev sc l env ρ σ).use rm st er K fun a σ₁ α₁ va h₁ t₁ e₁ st₁ er₁ nx₁ ra K₁ => ?_
  refine (H.ev sc r env ρ σ₁).use rm st₁ er₁ K₁ fun b σ₂ α₂ vb h₂ t₂ e₂ st₂ er₂ nx₂ rb K₂ => ?_
  exact K₂.one fun v e K => binV_ok e (RelV.nx st₁ nx₂ ra) rb (pylong_ok rm st₂ er₂) fun w t rw => K.pure st₂ rw
end
end Mine
end
section
open PySem.Calls
set_option backward.match.sparseCases false
open SeqAt (EqAt RcAt RcNeAt)
namespace Mine
theorem eqZ_cons {f : VV → VV → Option Bool} {x y : VV} {r t : List VV} {b : Bool} (e : eqZ f (x :: r) (y :: t) = some b) : Y2 fun p q => C3 (f x y = some p) (eqZ f r t = some q) (b = (p && q)) := by
  have e' : (match f x y, eqZ f r t with
    | some a, some b => some (a && b)
    | _, _ => none) = some b := e
  cases e1 : f x y with
  | none => rw [e1] at e'; exact nn e'
  | some p =>
    cases e2 : eqZ f r t with
    | none => rw [e1, e2] at e'; exact nn e'
    | some q => rw [e1, e2] at e'; obtain rfl := Option.some.inj e'; exact ⟨p, q, rfl, rfl, rfl⟩
theorem eqZ_same {f : VV → VV → Option Bool} {h α n} {xs : List VV} : ∀ {vs : List Value} {ys : List VV} {k : Bool}, RelVs h α n xs vs → RelVs h α n ys vs → (∀ x y v b, RelV h α n x v → RelV h α n y v → f x y = some b → b = true) →
    eqZ f xs ys = some k → k = true := by
  induction xs with
  | nil => intro vs ys k rx ry hf e; cases (show some true = some k from e); rfl
  | cons x xs ih =>
    intro vs ys k rx ry hf e
    cases ys with
    | nil => cases (show some true = some k from e); rfl
    | cons y t =>
      obtain ⟨v, vs, rfl, a, r⟩ := rx.inv
      obtain ⟨_, _, q, b, t⟩ := ry.inv
      cases q
      obtain ⟨p, q, e1, e2, rfl⟩ := eqZ_cons e
      rw [hf _ _ _ _ a b e1, ih r t hf e2]; rfl
theorem tup_det {h : Heap} {a : Addr} {vs vs' : Array Value} (x : IsTup h a vs) (y : IsTup h a vs') : vs = vs' := by
  obtain ⟨o, e1, _, _, d1⟩ := x
  obtain ⟨o', e2, _, _, d2⟩ := y
  cases e1.symm.trans e2
  cases d1.symm.trans d2
  rfl
inductive EqI (σ : VH) (n : Nat) : VV → VV → Bool → Prop
  | none : EqI σ n .none .none true
  | int {i j} : EqI σ n (.int i) (.int j) (decide (i = j))
  | str {x y} : EqI σ n (.str x) (.str y) (decide (x = y))
  | tup {xs ys b} : eqZ (eqV σ n) xs ys = some b → EqI σ n (.tup xs) (.tup ys) (b && decide (xs.length = ys.length))
  | is {i x} : EqI σ n (.int i) (.str x) false
  | si {i x} : EqI σ n (.str x) (.int i) false
  | st {x ys} : EqI σ n (.str x) (.tup ys) false
  | ts {xs y} : EqI σ n (.tup xs) (.str y) false
  | ti {xs j} : EqI σ n (.tup xs) (.int j) false
  | it {i ys} : EqI σ n (.int i) (.tup ys) false
  | nt {ys} : EqI σ n .none (.tup ys) false
  | tn {xs} : EqI σ n (.tup xs) .none false
  | refs {i j xs ys b} : i ≠ j → σ[i]? = some (.list xs) → σ[j]? = some (.list ys) → xs.length = ys.length → eqZ (eqV σ n) xs ys = some b → EqI σ n (.ref i) (.ref j) b
  | refn {i j xs ys} : i ≠ j → σ[i]? = some (.list xs) → σ[j]? = some (.list ys) → xs.length ≠ ys.length → EqI σ n (.ref i) (.ref j) false
noncomputable def SmB (P : Bool → Prop) (r : Option Bool) : Prop := ∀ b, r = some b → P b
theorem SmB.no {P : Bool → Prop} : SmB P none := fun _ e => nomatch e
theorem SmB.yes {P : Bool → Prop} {b : Bool} (h : P b) : SmB P (some b) := fun _ e => Option.some.inj e ▸ h
theorem eqV_rr {σ : VH} {n i j : Nat} : eqV σ (n + 1) (.ref i) (.ref j) = if i = j then none else match σ[i]?, σ[j]? with
      | some (.list xs), some (.list ys) => if xs.length = ys.length then eqZ (eqV σ n) xs ys else some false
      | _, _ => none := rfl
theorem eqV_tt {σ : VH} {n : Nat} {xs ys : List VV} : eqV σ (n + 1) (.tup xs) (.tup ys) = match eqZ (eqV σ n) xs ys with
      | some b => some (b && decide (xs.length = ys.length))
      | none => none := rfl
theorem eqV_ref {σ : VH} {n i j : Nat} : SmB (EqI σ n (.ref i) (.ref j)) (eqV σ (n + 1) (.ref i) (.ref j)) := by
  rw [eqV_rr]
  by_cases q : i = j
  · rw [if_pos q]; exact .no
  rw [if_neg q]
  cases ei : σ[i]? with
  | none => exact .no
  | some o =>
    induction o <;> try exact .no
    cases ej : σ[j]? with
    | none => exact .no
    | some o' =>
      induction o' <;> try exact .no
      rename_i xs ys
      by_cases hl : xs.length = ys.length
      · exact fun b e => .refs q ei ej hl ((if_pos hl).symm.trans e)
      · exact fun b e => by cases (if_neg hl).symm.trans e; exact .refn q ei ej hl
theorem eqV_inv {σ : VH} {n : Nat} {x y : VV} : SmB (EqI σ n x y) (eqV σ (n + 1) x y) := by
  cases x <;> try exact .no
  · cases y <;> first | exact .no | exact .yes .none | exact .yes .nt
  · cases y <;> first | exact .no | exact .yes .int | exact .yes .is | exact .yes .it
  · cases y <;> first | exact .no | exact .yes .si | exact .yes .str | exact .yes .st
  · cases y <;> first | exact .no | exact .yes .tn | exact .yes .ti | exact .yes .ts | skip
    rename_i xs ys
    rw [eqV_tt]
    cases e : eqZ (eqV σ n) xs ys with
    | none => exact .no
    | some b => exact .yes (.tup e)
  · cases y <;> first | exact .no | exact eqV_ref
theorem eqV_same {C : Cx} {l : List Env} {σ : VH} {h : Heap} {α : Nat → Addr} (S : St C l α σ h) (n : Nat) : ∀ (x y : VV) (v : Value) (b : Bool), RelV h α σ.length x v → RelV h α σ.length y v → eqV σ n x y = some b → b = true := by
  induction n with
  | zero => intro _ _ _ _ _ _ e; exact nn e
  | succ n ih =>
    intro x y v b rx ry e
    have I := eqV_inv b e
    clear e
    induction I
    case none => rfl
    case int => obtain ⟨_, rfl⟩ := rx.inv; obtain ⟨_, q⟩ := ry.inv; cases q; exact decide_eq_true rfl
    case str => obtain ⟨_, rfl⟩ := rx.inv; obtain ⟨_, q⟩ := ry.inv; cases q; exact decide_eq_true rfl
    case tup xs ys b e =>
      refine cps fun G k_ => ?_
      obtain ⟨a, vs, rfl, ht, rr⟩ := rx.inv
      obtain ⟨a', vs', q, ht', rr'⟩ := ry.inv
      cases q
      obtain rfl := tup_det ht ht'
      refine k_ ?_
      rw [eqZ_same rr rr' ih e, Bool.true_and]
      exact decide_eq_true (rr.length.symm.trans rr'.length)
    case refs i j xs ys b hij ei ej hl e =>
      obtain ⟨hi, rfl⟩ := rx.inv
      obtain ⟨hj, q⟩ := ry.inv
      exact (hij (S.inj _ _ hi hj (Value.ref.inj q))).elim
    case refn i j xs ys hij ei ej hl =>
      refine cps fun G k_ => ?_
      obtain ⟨hi, rfl⟩ := rx.inv
      obtain ⟨hj, q⟩ := ry.inv
      refine k_ ?_
      exact (hij (S.inj _ _ hi hj (Value.ref.inj q))).elim
    all_goals
      first
      | obtain ⟨_, rfl⟩ := rx.inv
      | obtain ⟨_, _, rfl, _⟩ := rx.inv
      | obtain rfl := rx.inv
      first
      | obtain ⟨_, q⟩ := ry.inv; (first | injection q | cases q); done
      | obtain ⟨_, _, q, _⟩ := ry.inv; injection q; done
      | injection ry.inv; done
noncomputable def eAt (f : VV → VV → Option Bool) (xs ys : List VV) (j : Nat) : Bool := match xs[j]?, ys[j]? with
  | some x, some y => (f x y).getD false
  | _, _ => false
theorem eqZ_all {f : VV → VV → Option Bool} {xs : List VV} : ∀ {ys : List VV} {b : Bool}, eqZ f xs ys = some b →
    b = (List.range (min xs.length ys.length)).all (eAt f xs ys) ∧ ∀ j x y, xs[j]? = some x → ys[j]? = some y → f x y = some (eAt f xs ys j) := by
  induction xs with
  | nil =>
    intro ys b e
    cases (show some true = some b from e)
    exact ⟨by rw [List.length_nil, Nat.zero_min]; rfl, fun _ _ _ h => nomatch h⟩
  | cons x r ih =>
    intro ys b e
    cases ys with
    | nil =>
      cases (show some true = some b from e)
      exact ⟨rfl, fun _ _ _ _ h => nomatch h⟩
    | cons y t =>
      obtain ⟨p, q, e1, e2, rfl⟩ := eqZ_cons e
      obtain ⟨h1, h2⟩ := ih e2
      have h0 : eAt f (x :: r) (y :: t) 0 = p := by show (f x y).getD false = p; rw [e1]; rfl
      refine ⟨?_, fun j x' y' hx hy => ?_⟩
      · rw [h1, List.length_cons, List.length_cons, Nat.succ_min_succ, List.range_succ_eq_map, List.all_cons, h0, List.all_map]
        rfl
      · induction j with
        | zero => obtain rfl := Option.some.inj hx; obtain rfl := Option.some.inj hy; rw [e1, h0]
        | succ j => exact h2 j x' y' hx hy
section
variable {C : Cx} {l : List Env} {σ : VH} {α : Nat → Addr} {s : Shared}
theorem isTuple_of {h : Heap} {a : Addr} {vs : Array Value} (x : IsTup h a vs) : h.IsTuple a vs := x
theorem isList_of {h : Heap} {a : Addr} {vs : Array Value} {k : Nat} (x : h.get? a = some (W.listOf vs k)) : h.IsList a vs := ⟨_, x, rfl, k, rfl⟩
theorem rel_at {h : Heap} {n : Nat} {xs : List VV} {vs : Array Value} (r : RelVs h α n xs vs.toList) (j : Nat) (hj : j < vs.size) : ∃ x, xs[j]? = some x ∧ RelV h α n x vs[j] := by
  have hl := r.length
  have hj' : j < xs.length := by refine hl ▸ ?_; simpa using hj
  obtain ⟨v, e, rv⟩ := r.get (j := j) (x := xs[j]) (by simp [hj'])
  refine ⟨xs[j], by simp [hj'], ?_⟩
  have : v = vs[j] := by simpa [hj] using e.symm
  exact this ▸ rv
theorem RelVs.size {h : Heap} {n : Nat} {xs : List VV} {vs : Array Value} (r : RelVs h α n xs vs.toList) : vs.size = xs.length := by rw [← r.length, Array.length_toList]
noncomputable abbrev EqThree (A : Around) (s : Shared) (v w : Value) (b : Bool) : Prop := C3 (EqAt A s v w b) (RcAt A s v w b) (RcNeAt A s v w (!b))
theorem eq_at {n : Nat} {A : Around} (ih : ∀ (x y : VV) (v w : Value) (b : Bool) (A : Around), RelV s.heap α σ.length x v → RelV s.heap α σ.length y w → eqV σ n x y = some b → A.units + 2 * n < cLine → EqThree A s v w b)
    (hu : A.units + 2 * n < cLine) {xs ys : List VV} {vs ws : Array Value} {b : Bool} (r : RelVs s.heap α σ.length xs vs.toList) (t : RelVs s.heap α σ.length ys ws.toList) (e : eqZ (eqV σ n) xs ys = some b) (j : Nat) (hj : j < vs.size) (hj' : j < ws.size) :
    EqAt A s vs[j] ws[j] (eAt (eqV σ n) xs ys j) := by
  refine cps fun G k_ => ?_
  obtain ⟨x, e1, r1⟩ := rel_at r j hj
  obtain ⟨y, e2, r2⟩ := rel_at t j hj'
  refine k_ ?_
  exact (ih x y _ _ _ A r1 r2 ((eqZ_all e).2 j x y e1 e2) hu).h0
theorem eqV_ok (S : St C l α σ s.heap) (n : Nat) : ∀ (x y : VV) (v w : Value) (b : Bool) (A : Around), RelV s.heap α σ.length x v → RelV s.heap α σ.length y w → eqV σ n x y = some b → A.units + 2 * n < cLine → EqThree A s v w b := by
  induction n with
  | zero => intro _ _ _ _ _ _ _ _ e; exact nomatch e
  | succ n ih =>
    intro x y v w b A rx ry e hu
    have hu0 : A.units < cLine := Nat.lt_of_le_of_lt (Nat.le_add_right _ _) hu
    have hu1 : A.in1.units + 2 * n < cLine := by show A.units + 1 + 2 * n < _; lia
    have I := eqV_inv b e
    have sm := eqV_same S (n + 1) x y
    have rx' := rx.inv
    have ry' := ry.inv
    induction I
    case none => subst rx'; subst ry'; exact ⟨.same _, .none_none, .none_none⟩
    case int => obtain ⟨_, rfl⟩ := rx'; obtain ⟨_, rfl⟩ := ry'; exact ⟨.int_int _ _ _ _, .int_int _ _ _ _, .int_int _ _ _ _⟩
    case str => obtain ⟨_, rfl⟩ := rx'; obtain ⟨_, rfl⟩ := ry'; exact ⟨.str_str _ _ _ _, .str_str _ _ _ _, .str_str _ _ _ _⟩
    case is => obtain ⟨_, rfl⟩ := rx'; obtain ⟨_, rfl⟩ := ry'; exact ⟨.int_str _ _ _ _, .int_str _ _ _ _, .int_str _ _ _ _⟩
    case si => obtain ⟨_, rfl⟩ := rx'; obtain ⟨_, rfl⟩ := ry'; exact ⟨.str_int _ _ _ _, .str_int _ _ _ _, .str_int _ _ _ _⟩
    case st => obtain ⟨_, rfl⟩ := rx'; obtain ⟨_, _, rfl, ht, _⟩ := ry'; exact ⟨.str_tuple _ _ ht hu0, .str_tuple _ _ ht hu0, .str_tuple _ _ ht hu0⟩
    case ts => obtain ⟨_, _, rfl, ht, _⟩ := rx'; obtain ⟨_, rfl⟩ := ry'; exact ⟨.tuple_str _ _ ht hu0, .tuple_str _ _ ht hu0, .tuple_str _ _ ht hu0⟩
    case ti => obtain ⟨_, _, rfl, ht, _⟩ := rx'; obtain ⟨_, rfl⟩ := ry'; exact ⟨.tuple_int _ _ ht hu0, .tuple_int _ _ ht hu0, .tuple_int _ _ ht hu0⟩
    case it => obtain ⟨_, rfl⟩ := rx'; obtain ⟨_, _, rfl, ht, _⟩ := ry'; exact ⟨.int_tuple _ _ ht hu0, .int_tuple _ _ ht hu0, .int_tuple _ _ ht hu0⟩
    case nt => subst rx'; obtain ⟨_, _, rfl, ht, _⟩ := ry'; exact ⟨.none_tuple ht hu0, .none_tuple ht hu0, .none_tuple ht hu0⟩
    case tn => obtain ⟨_, _, rfl, ht, _⟩ := rx'; subst ry'; exact ⟨.tuple_none ht hu0, .tuple_none ht hu0, .tuple_none ht hu0⟩
    case tup xs ys b e' =>
      obtain ⟨a, vs, rfl, ht, rr⟩ := rx'
      obtain ⟨a', vs', rfl, ht', rr'⟩ := ry'
      have rc := RcAt.tuples (A := A) (s := s) (e := eAt (eqV σ n) xs ys) ht ht' hu0 (eq_at ih hu1 rr rr' e')
      have rn := RcNeAt.tuples (A := A) (s := s) (e := eAt (eqV σ n) xs ys) ht ht' hu0 (eq_at ih hu1 rr rr' e')
      rw [rr.size, rr'.size, ← (eqZ_all e').1] at rc rn
      refine ⟨?_, rc, rn⟩
      by_cases q : a = a'
      · subst q
        refine (sm _ _ rx ry e) ▸ ?_
        exact .same _
      · exact .of_refs q rc
    case refs i j xs ys b hij ei ej hl e' =>
      obtain ⟨hi, rfl⟩ := rx'
      obtain ⟨hj, rfl⟩ := ry'
      obtain ⟨vs, k, hv, rr⟩ := S.objs i _ ei
      obtain ⟨vs', k', hv', rr'⟩ := S.objs j _ ej
      have hz := rr.size.trans (hl.trans rr'.size.symm)
      have rc := RcAt.lists (A := A) (s := s) (e := eAt (eqV σ n) xs ys) (isList_of hv) (isList_of hv') hz hu0 (eq_at ih hu1 rr rr' e')
      have rn := RcNeAt.lists (A := A) (s := s) (e := eAt (eqV σ n) xs ys) (isList_of hv) (isList_of hv') hz hu0 (eq_at ih hu1 rr rr' e')
      rw [rr.size, show List.range xs.length = List.range (min xs.length ys.length) by rw [hl, Nat.min_self], ← (eqZ_all e').1] at rc rn
      exact ⟨.of_refs (fun q => hij (S.inj _ _ hi hj q)) rc, rc, rn⟩
    case refn i j xs ys hij ei ej hl =>
      refine cps fun G k_ => ?_
      obtain ⟨hi, rfl⟩ := rx'
      obtain ⟨hj, rfl⟩ := ry'
      obtain ⟨vs, k, hv, rr⟩ := S.objs i _ ei
      obtain ⟨vs', k', hv', rr'⟩ := S.objs j _ ej
      refine k_ ?_
      have hz : (vs.size != vs'.size) = true := bne_iff_ne.mpr fun q => hl (rr.size.symm.trans (q.trans rr'.size))
      have rc : RcAt A s (.ref (α i)) (.ref (α j)) false := .lists_lengths (isList_of hv) (isList_of hv') hz hu0
      exact ⟨.of_refs (fun q => hij (S.inj _ _ hi hj q)) rc, rc, .lists_lengths (isList_of hv) (isList_of hv') hz hu0⟩
end
end Mine
end
section
open PySem.Calls
set_option linter.unusedSectionVars false
namespace Mine
section
variable {K : Type} [DecidableEq K]
theorem set_hd {V : Type} {k : K} {v : V} {p : K × V} {r : List (K × V)} (q : p.1 = k) : assocSet k v (p :: r) = (p.1, v) :: r := if_pos q
theorem set_tl {V : Type} {k : K} {v : V} {p : K × V} {r : List (K × V)} (q : p.1 ≠ k) : assocSet k v (p :: r) = p :: assocSet k v r := if_neg q
theorem del_hd {V : Type} {k : K} {p : K × V} {r : List (K × V)} (q : p.1 = k) : assocDel k (p :: r) = r := if_pos q
theorem del_tl {V : Type} {k : K} {p : K × V} {r : List (K × V)} (q : p.1 ≠ k) : assocDel k (p :: r) = p :: assocDel k r := if_neg q
theorem assocSet_new {V : Type} {k : K} {v : V} {kvs : List (K × V)} (h : ∀ p ∈ kvs, p.1 ≠ k) : assocSet k v kvs = kvs ++ [(k, v)] := by
  induction kvs with
  | nil => rfl
  | cons p r ih => rw [set_tl (h p (.head _)), ih fun p hp => h p (.tail _ hp)]; rfl
theorem not_hd {V : Type} {a : K} {r : List (K × V)} (h : a ∉ r.map (·.1)) {p : K × V} (hp : p ∈ r) : p.1 ≠ a := fun e => h (e ▸ List.mem_map_of_mem (f := fun x => x.1) hp)
theorem assocSet_map {V : Type} {k : K} {v : V} {kvs : List (K × V)} (hn : (kvs.map (·.1)).Nodup) (h : ∃ p ∈ kvs, p.1 = k) : assocSet k v kvs = kvs.map fun kv => if kv.1 = k then (kv.1, v) else kv := by
  induction kvs with
  | nil => obtain ⟨p, hp, _⟩ := h; exact (List.not_mem_nil hp).elim
  | cons p r ih =>
    have hn := List.nodup_cons.mp hn
    rw [List.map_cons]
    by_cases q : p.1 = k
    · rw [set_hd q, if_pos q]
      refine congrArg (_ :: ·) ((List.map_id _).symm.trans (List.map_congr_left fun z hz => ?_))
      exact (if_neg (q ▸ not_hd hn.1 hz)).symm
    · rw [set_tl q, if_neg q, ih hn.2]
      obtain ⟨z, hz, e⟩ := h
      rcases List.mem_cons.mp hz with rfl | hz
      · exact absurd e q
      · exact ⟨z, hz, e⟩
theorem stored_eq {k : K} {v : Value} {kvs : List (K × Value)} (hn : (kvs.map (·.1)).Nodup) : stored kvs k v = assocSet k v kvs := by
  unfold stored
  by_cases h : (kvs.any fun kv => decide (kv.1 = k)) = true
  · rw [if_pos h, assocSet_map hn]
    simpa using h
  · rw [if_neg h, assocSet_new]
    intro p hp e
    exact h (List.any_eq_true.mpr ⟨p, hp, decide_eq_true e⟩)
theorem without_eq {k : K} {kvs : List (K × Value)} (hn : (kvs.map (·.1)).Nodup) : without kvs k = assocDel k kvs := by
  induction kvs with
  | nil => rfl
  | cons p r ih =>
    have hn := List.nodup_cons.mp hn
    by_cases q : p.1 = k
    · rw [del_hd q]
      unfold without
      rw [List.filter_cons_of_neg (by simp [q]), List.filter_eq_self]
      exact fun z hz => decide_eq_true (q ▸ not_hd hn.1 hz)
    · rw [del_tl q, ← ih hn.2]
      unfold without
      rw [List.filter_cons_of_pos (by simpa using q)]
theorem assocGet_at {K : Type} [DecidableEq K] {h : Heap} {α : Nat → Addr} {n : Nat} {k : K} {es : List (K × VV)} : ∀ {kvs : List (K × Value)}, kvs.map (·.1) = es.map (·.1) → RelVs h α n (es.map (·.2)) (kvs.map (·.2)) →
    AtR h α n (assocGet k es) (valueAt kvs k) := by
  induction es with
  | nil =>
    intro kvs e _
    obtain rfl := List.map_eq_nil_iff.mp e
    rfl
  | cons p r ih =>
    intro kvs e rr
    induction kvs with
    | nil => exact nomatch e
    | cons q t =>
      obtain ⟨v, vs, e2, a, b⟩ := rr.inv
      injection e with e3 e4
      injection e2 with e5 e6
      obtain rfl : q.2 = v := e5
      obtain rfl : t.map (·.2) = vs := e6
      have ih := ih e4 b
      by_cases z : p.1 = k
      · have h1 : assocGet k (p :: r) = some p.2 := if_pos z
        have h2 : valueAt (q :: t) k = some q.2 := by unfold valueAt; rw [List.find?_cons, decide_eq_true (e3.trans z)]; rfl
        rw [h1, h2]
        exact ⟨_, rfl, a⟩
      · have h1 : assocGet k (p :: r) = assocGet k r := if_neg z
        have h2 : valueAt (q :: t) k = valueAt t k := by unfold valueAt; rw [List.find?_cons, decide_eq_false fun y => z (e3.symm.trans y)]
        rw [h1, h2]
        exact ih
structure RowsR (h : Heap) (α : Nat → Addr) (n : Nat) (es : List (K × VV)) (kvs : List (K × Value)) : Prop where
  keys : kvs.map (·.1) = es.map (·.1)
  vals : RelVs h α n (es.map (·.2)) (kvs.map (·.2))
variable {h : Heap} {α : Nat → Addr} {n : Nat} {es : List (K × VV)} {kvs : List (K × Value)}
theorem RowsR.length (r : RowsR h α n es kvs) : kvs.length = es.length := by simpa using congrArg List.length r.keys
theorem RowsR.get (r : RowsR h α n es kvs) (k : K) : AtR h α n (assocGet k es) (valueAt kvs k) := assocGet_at r.keys r.vals
theorem RowsR.nil : RowsR h α n ([] : List (K × VV)) [] := ⟨rfl, .nil⟩
theorem RowsR.cons_inv {p : K × VV} {es} {q : K × Value} {kvs} (r : RowsR h α n (p :: es) (q :: kvs)) : q.1 = p.1 ∧ RelV h α n p.2 q.2 ∧ RowsR h α n es kvs := by
  obtain ⟨v, vs, e2, a, b⟩ := r.vals.inv
  injection r.keys with e3 e4
  injection e2 with e5 e6
  obtain rfl : q.2 = v := e5
  obtain rfl : kvs.map (·.2) = vs := e6
  exact ⟨e3, a, e4, b⟩
theorem RowsR.cons {p : K × VV} {es} {q : K × Value} {kvs} (a : q.1 = p.1) (b : RelV h α n p.2 q.2) (r : RowsR h α n es kvs) : RowsR h α n (p :: es) (q :: kvs) := ⟨by simp [a, r.keys], .cons b r.vals⟩
theorem RowsR.ind {P : List (K × VV) → List (K × Value) → Prop} (h0 : P [] []) (h1 : ∀ {p : K × VV} {es} {q : K × Value} {kvs}, q.1 = p.1 → RelV h α n p.2 q.2 → RowsR h α n es kvs → P es kvs → P (p :: es) (q :: kvs)) {es : List (K × VV)} : ∀ {kvs : List (K × Value)}, RowsR h α n es kvs → P es kvs := by
  induction es with
  | nil =>
    intro kvs r
    obtain rfl := List.map_eq_nil_iff.mp r.keys
    exact h0
  | cons p es ih =>
    intro kvs r
    induction kvs with
    | nil => exact nomatch r.keys
    | cons q kvs _ =>
      obtain ⟨a, b, t⟩ := r.cons_inv
      exact h1 a b t (ih t)
theorem RowsR.set {k : K} {v : VV} {w : Value} {es : List (K × VV)} {kvs : List (K × Value)} (r : RowsR h α n es kvs) (x : RelV h α n v w) : RowsR h α n (assocSet k v es) (assocSet k w kvs) := by
  refine RowsR.ind (P := fun es kvs => RowsR h α n (assocSet k v es) (assocSet k w kvs)) (.cons rfl x .nil) (fun {p es q kvs} a b t ih => ?_) r
  by_cases z : p.1 = k
  · rw [set_hd z, set_hd (a.trans z)]; exact .cons a x t
  · rw [set_tl z, set_tl fun y => z (a.symm.trans y)]; exact .cons a b ih
theorem RowsR.del {k : K} {es : List (K × VV)} {kvs : List (K × Value)} (r : RowsR h α n es kvs) : RowsR h α n (assocDel k es) (assocDel k kvs) := by
  refine RowsR.ind (P := fun es kvs => RowsR h α n (assocDel k es) (assocDel k kvs)) .nil (fun {p es q kvs} a b t ih => ?_) r
  by_cases z : p.1 = k
  · rw [del_hd z, del_hd (a.trans z)]; exact t
  · rw [del_tl z, del_tl fun y => z (a.symm.trans y)]; exact .cons a b ih
end
section
variable {C : Cx} {l : List Env} {σ : VH} {α : Nat → Addr} {h : Heap}
theorem St.dictS (S : St C l α σ h) {i : Nat} {p : VO} {es : List (Str × VV)} (e : σ[i]? = some p) (d : dictS p = some es) : ∃ kvs, h.DictOf (sK C) (α i) kvs ∧ RowsR h α σ.length es kvs := by
  have r := S.objs i p e
  induction p with
  | edict =>
    obtain rfl := Option.some.inj d
    obtain ⟨k, h⟩ := r
    exact ⟨[], ⟨_, #[], k, h, ⟨rfl, rfl, rfl⟩, rfl, fun e he => by simp at he, .nil, by simp⟩, .nil⟩
  | sdict es' => obtain rfl := Option.some.inj d; obtain ⟨kvs, a, b, c⟩ := r; exact ⟨kvs, a, b, c⟩
  | _ => exact nomatch d
theorem St.dictI (S : St C l α σ h) {i : Nat} {p : VO} {es : List (Int × VV)} (e : σ[i]? = some p) (d : dictI p = some es) : ∃ kvs, h.DictOf (iK C) (α i) kvs ∧ RowsR h α σ.length es kvs := by
  have r := S.objs i p e
  induction p with
  | edict =>
    obtain rfl := Option.some.inj d
    obtain ⟨k, h⟩ := r
    exact ⟨[], ⟨_, #[], k, h, ⟨rfl, rfl, rfl⟩, rfl, fun e he => by simp at he, .nil, by simp⟩, .nil⟩
  | idict es' => obtain rfl := Option.some.inj d; obtain ⟨kvs, a, b, c⟩ := r; exact ⟨kvs, a, b, c⟩
  | _ => exact nomatch d
theorem St.dictT (S : St C l α σ h) {i : Nat} {p : VO} {es : List (List Int × VV)} (e : σ[i]? = some p) (d : dictT p = some es) : ∃ xs, h.DictOfH (tupleKind (iK C)) (α i) xs ∧ RowsR h α σ.length es (xs.map fun x => (x.1, x.2.2)) := by
  have r := S.objs i p e
  induction p with
  | edict =>
    obtain rfl := Option.some.inj d
    obtain ⟨k, h⟩ := r
    exact ⟨[], ⟨_, #[], k, h, ⟨rfl, rfl, rfl⟩, rfl, by simp, fun e he => by simp at he, by simp⟩, .nil⟩
  | tdict es' => obtain rfl := Option.some.inj d; obtain ⟨xs, a, b, c⟩ := r; exact ⟨xs, a, by rw [List.map_map]; exact b, by rw [List.map_map]; exact c⟩
  | _ => exact nomatch d
theorem atKey_eq {K : Type} [DecidableEq K] {k : K} (xs : List (K × Addr × Value)) : (atKey xs k).map (·.2) = valueAt (xs.map fun x => (x.1, x.2.2)) k := by
  delta atKey valueAt
  induction xs with
  | nil => rfl
  | cons p r ih =>
    rw [List.map_cons, List.find?_cons, List.find?_cons]
    by_cases q : p.1 = k
    · rw [decide_eq_true q]; rfl
    · rw [decide_eq_false q]; exact ih
theorem storedH_eq {K : Type} [DecidableEq K] {k : K} {a : Addr} {v : Value} {xs : List (K × Addr × Value)} (hn : (xs.map (·.1)).Nodup) : (storedH xs k a v).map (fun x => (x.1, x.2.2)) = assocSet k v (xs.map fun x => (x.1, x.2.2)) := by
  have e := atKey_eq (k := k) xs
  unfold storedH
  split
  · rename_i q
    rw [assocSet_map (by rw [List.map_map]; exact hn)]
    · simp only [List.map_map]
      refine List.map_congr_left fun x hx => ?_
      dsimp only [Function.comp, putAt]
      split <;> simp_all
    · obtain ⟨p, hp⟩ := Option.isSome_iff_exists.mp q
      skip
      refine cps fun G k_ => ?_
      obtain ⟨z, hz, rfl⟩ := Option.map_eq_some_iff.mp hp
      refine k_ ?_
      exact ⟨(z.1, z.2.2), List.mem_map.mpr ⟨z, List.mem_of_find?_eq_some hz, rfl⟩, by simpa using List.find?_some hz⟩
  · rename_i q
    rw [assocSet_new]
    · simp
    · intro p hp e
      obtain ⟨z, hz, rfl⟩ := List.mem_map.mp hp
      refine q ?_
      unfold atKey
      rw [Option.isSome_map, List.find?_isSome]
      exact ⟨z, hz, by simpa using e⟩
theorem isTupKey {n : Nat} {xs : List VV} : ∀ {vs : List Value}, RelVs h α n xs vs → ∀ {ks : List Int}, intsOf xs = some ks → ItemsAre (iK C) ks vs := by
  induction xs with
  | nil =>
    intro vs r ks e
    obtain rfl := r.inv
    obtain rfl := Option.some.inj e
    exact .nil
  | cons x xs ih =>
    intro vs r ks e
    obtain ⟨v, t, rfl, a, r2⟩ := r.inv
    obtain ⟨i, e1, e⟩ := Option.bind_eq_some_iff.mp e
    obtain ⟨ds, e2, rfl⟩ := Option.map_eq_some_iff.mp e
    obtain ⟨t, rfl⟩ := intV_ok e1 a
    exact .cons (intKind_is _ _ _ _) (ih r2 e2)
theorem tupKey_of {n : Nat} {xs : List VV} {a : Addr} {ks : List Int} {vs : Array Value} (ht : IsTup h a vs) (r : RelVs h α n xs vs.toList) (e : intKeys (.tup xs) = some ks) : (tupleKind (iK C)).is h ks a := by
  refine cps fun G k_ => ?_
  obtain ⟨o, e1, c, k, d⟩ := ht
  refine k_ ?_
  exact ⟨o, vs, k, e1, c, d, isTupKey r e⟩
end
end Mine
end
section
open PySem.Calls
set_option backward.match.sparseCases false
open SeqAt (EqAt RcAt RcNeAt)
open AutoSeq1 (wpAny_loadPart')
open MeetsSeq MeetsSeq2 MeetsSeq3 SeqRoads2
namespace Mine
section
variable {C : Cx} {A : Around} {s : Shared}
noncomputable def EqC (C : Cx) (A : Around) (s : Shared) (v w : Value) (b : Bool) : Prop := ∀ (E : Value → Shared → Prop) (Q : Bool → Shared → Prop), Q b s → wpAny C.M A (eqBool v w) Q E s
noncomputable def RcC (C : Cx) (A : Around) (s : Shared) (v w : Value) (b : Bool) : Prop := ∀ (E : Value → Shared → Prop) (Q : Value → Shared → Prop), Q (.bool b) s → wpAny C.M A (richCompare .Eq v w) Q E s
theorem EqC.of {v w b} (h : EqAt A s v w b) : EqC C A s v w b := fun E Q q => h _ _ E Q q
theorem RcC.of {v w b} (h : RcAt A s v w b) : RcC C A s v w b := fun E Q q => h _ _ E Q q
theorem EqC.refs {l r : Addr} {b : Bool} (hne : l ≠ r) (h : RcC C A s (.ref l) (.ref r) b) : EqC C A s (.ref l) (.ref r) b := fun E Q q => by
  skip
  refine wpAny_holding (wpAny_ite_split (fun e => (hne (Value.ref.inj (eq_of_beq e))).elim) fun _ => ?_)
  exact wpAny_bind (h E _ (wpAny_truthy_bool q))
theorem RcC.tuples {l r : Addr} {xs ys : Array Value} {e : Nat → Bool} (hl : IsTup s.heap l xs) (hr : IsTup s.heap r ys) (hu : A.units < cLine)
    (he : ∀ j (h1 : j < xs.size) (h2 : j < ys.size), EqC C A.in1 s xs[j] ys[j] (e j)) : RcC C A s (.ref l) (.ref r) ((List.range (min xs.size ys.size)).all e && xs.size == ys.size) := fun E Q hq => by
  obtain ⟨⟨c1, d1, p1, s1⟩, e1, q1, n1, z1⟩ := id hl
  obtain ⟨⟨c2, d2, p2, s2⟩, e2, q2, n2, z2⟩ := id hr
  simp only at q1 z1 q2 z2
  subst q1 z1 q2 z2
  refine wpAny_richCompare_same_room (op := .Eq) (T := "tuple") ⟨_, e1, rfl⟩ ⟨_, e2, rfl⟩ F.slot_tuple_eq (wpAny_call_entry F.slot_tuple_eq ⟨_, e1, rfl⟩ F.entry_tuple_eq ?_ (F.args_tuple_eq_2 _ _)) hu
  have f2 := AutoSeq1.sub_tuple_tuple
  have hz : (xs.toList.zip ys.toList).length = min xs.size ys.size := by simp
  obtain ⟨hp, g, d, tk, os⟩ := s
  wp_walk using wpAny_loadPart' e1, wpAny_loadPart' e2, wpAny_forIn_list _ (fun rest b s' => b.1 = none ∧ s' = ⟨hp, g, d, tk, os⟩ ∧ ∃ i, rest = (xs.toList.zip ys.toList).drop i ∧
      Q (.bool (((List.range (min xs.size ys.size)).drop i).all e && xs.size == ys.size)) ⟨hp, g, d, tk, os⟩) _
  case turn =>
    rintro ⟨y, x⟩ rest b s' ⟨hb', rfl, i, hzz, hR⟩
    have hlt : i < (xs.toList.zip ys.toList).length := by
      rcases Nat.lt_or_ge i (xs.toList.zip ys.toList).length with h' | h'
      · exact h'
      · rw [List.drop_of_length_le h'] at hzz; injection hzz
    have hm : i < min xs.size ys.size := hz ▸ hlt
    have h1 : i < xs.size := Nat.lt_of_lt_of_le hm (Nat.min_le_left _ _)
    have h2 : i < ys.size := Nat.lt_of_lt_of_le hm (Nat.min_le_right _ _)
    rw [List.drop_eq_getElem_cons hlt] at hzz
    injection hzz with hyx hrest
    have hy : y = xs[i] := by have := congrArg Prod.fst hyx; simpa using this
    have hx : x = ys[i] := by have := congrArg Prod.snd hyx; simpa using this
    subst hy hx
    have hd : (List.range (min xs.size ys.size)).drop i = i :: (List.range (min xs.size ys.size)).drop (i + 1) := by simp [List.drop_eq_getElem_cons, hm]
    rw [hd, List.all_cons] at hR
    refine wpAny_bind (he i h1 h2 _ _ ?_)
    cases hy : e i with
    | true =>
      rw [hy] at hR
      wp_walk
      exact ⟨rfl, rfl, i + 1, hrest, by simpa using hR⟩
    | false =>
      rw [hy] at hR
      wp_walk
      exact ⟨_, rfl, ⟨(fun x => nomatch x), by simpa using hR⟩⟩
  case fin =>
    rintro ⟨b1, b2⟩ s' ⟨hb', rfl, i, hzz, hR⟩
    simp only at hb'
    subst hb'
    have hge : min xs.size ys.size ≤ i := by
      rcases Nat.lt_or_ge i (xs.toList.zip ys.toList).length with h' | h'
      · rw [List.drop_eq_getElem_cons h'] at hzz; injection hzz
      · exact hz ▸ h'
    rw [List.drop_of_length_le (by simpa using hge)] at hR
    wp_walk
    exact ⟨_, rfl, ⟨(fun x => nomatch x), by simpa [Builtin.Tuple.tupleCompareSizes] using hR⟩⟩
  case h =>
    exact ⟨rfl, rfl, 0, rfl, by simpa using hq⟩
noncomputable def NeC (C : Cx) (A : Around) (s : Shared) (v w : Value) (b : Bool) : Prop := ∀ (E : Value → Shared → Prop) (Q : Value → Shared → Prop), Q (.bool b) s → wpAny C.M A (richCompare .NotEq v w) Q E s
theorem NeC.of {v w b} (h : RcNeAt A s v w b) : NeC C A s v w b := fun E Q q => h _ _ E Q q
theorem NeC.tuples {l r : Addr} {xs ys : Array Value} {e : Nat → Bool} (hl : IsTup s.heap l xs) (hr : IsTup s.heap r ys) (hu : A.units < cLine)
    (he : ∀ j (h1 : j < xs.size) (h2 : j < ys.size), EqC C A.in1 s xs[j] ys[j] (e j)) : NeC C A s (.ref l) (.ref r) (!((List.range (min xs.size ys.size)).all e && xs.size == ys.size)) := fun E Q hq => by
  obtain ⟨⟨c1, d1, p1, s1⟩, e1, q1, n1, z1⟩ := id hl
  obtain ⟨⟨c2, d2, p2, s2⟩, e2, q2, n2, z2⟩ := id hr
  simp only at q1 z1 q2 z2
  subst q1 z1 q2 z2
  refine wpAny_richCompare_same_room (op := .NotEq) (T := "tuple") ⟨_, e1, rfl⟩ ⟨_, e2, rfl⟩ F.slot_tuple_ne (wpAny_call_entry F.slot_tuple_ne ⟨_, e1, rfl⟩ F.entry_tuple_ne ?_ (F.args_tuple_ne_2 _ _)) hu
  have f2 := AutoSeq1.sub_tuple_tuple
  have hz : (xs.toList.zip ys.toList).length = min xs.size ys.size := by simp
  obtain ⟨hp, g, d, tk, os⟩ := s
  wp_walk using wpAny_loadPart' e1, wpAny_loadPart' e2, wpAny_forIn_list _ (fun rest b s' => b.1 = none ∧ s' = ⟨hp, g, d, tk, os⟩ ∧ ∃ i, rest = (xs.toList.zip ys.toList).drop i ∧
      Q (.bool (!(((List.range (min xs.size ys.size)).drop i).all e && xs.size == ys.size))) ⟨hp, g, d, tk, os⟩) _
  case turn =>
    rintro ⟨y, x⟩ rest b s' ⟨hb', rfl, i, hzz, hR⟩
    have hlt : i < (xs.toList.zip ys.toList).length := by
      rcases Nat.lt_or_ge i (xs.toList.zip ys.toList).length with h' | h'
      · exact h'
      · rw [List.drop_of_length_le h'] at hzz; injection hzz
    have hm : i < min xs.size ys.size := hz ▸ hlt
    have h1 : i < xs.size := Nat.lt_of_lt_of_le hm (Nat.min_le_left _ _)
    have h2 : i < ys.size := Nat.lt_of_lt_of_le hm (Nat.min_le_right _ _)
    rw [List.drop_eq_getElem_cons hlt] at hzz
    injection hzz with hyx hrest
    have hy : y = xs[i] := by have := congrArg Prod.fst hyx; simpa using this
    have hx : x = ys[i] := by have := congrArg Prod.snd hyx; simpa using this
    subst hy hx
    have hd : (List.range (min xs.size ys.size)).drop i = i :: (List.range (min xs.size ys.size)).drop (i + 1) := by simp [List.drop_eq_getElem_cons, hm]
    rw [hd, List.all_cons] at hR
    refine wpAny_bind (he i h1 h2 _ _ ?_)
    cases hy : e i with
    | true =>
      rw [hy] at hR
      wp_walk
      exact ⟨rfl, rfl, i + 1, hrest, by simpa using hR⟩
    | false =>
      rw [hy] at hR
      wp_walk
      exact ⟨_, rfl, ⟨(fun x => nomatch x), by simpa using hR⟩⟩
  case fin =>
    rintro ⟨b1, b2⟩ s' ⟨hb', rfl, i, hzz, hR⟩
    simp only at hb'
    subst hb'
    have hge : min xs.size ys.size ≤ i := by
      rcases Nat.lt_or_ge i (xs.toList.zip ys.toList).length with h' | h'
      · rw [List.drop_eq_getElem_cons h'] at hzz; injection hzz
      · exact hz ▸ h'
    rw [List.drop_of_length_le (by simpa using hge)] at hR
    wp_walk
    exact ⟨_, rfl, ⟨(fun x => nomatch x), by simpa [Builtin.Tuple.tupleCompareSizes, bne] using hR⟩⟩
  case h =>
    exact ⟨rfl, rfl, 0, rfl, by simpa using hq⟩
end
section
variable {C : Cx} {l : List Env} {σ : VH} {α : Nat → Addr} {s : Shared}
theorem St.notModules (S : St C l α σ s.heap) {i : Nat} (hi : i < σ.length) : (α i == sysModules) = false := by
  rw [beq_eq_false_iff_ne]
  intro q
  obtain ⟨mc, ⟨o, es, ep, e, _⟩, _⟩ := C.seer.mods
  have := S.new i hi
  rw [q] at this
  rw [show C.H.get? sysModules = some o from e] at this
  exact ns this
theorem rows_ok (S : St C l α σ s.heap) {A : Around} (hu : A.units + 60 < cLine) {ds : List (Str × VV)} {kd : List (Str × Value)} (hk : kd.map (·.1) = ds.map (·.1)) (hr : RelVs s.heap α σ.length (ds.map (·.2)) (kd.map (·.2))) {es : List (Str × VV)} :
    ∀ {ke : List (Str × Value)} {b : Bool}, ke.map (·.1) = es.map (·.1) → RelVs s.heap α σ.length (es.map (·.2)) (ke.map (·.2)) → eqRows (eqV σ 30) ds es = some b → KeqHits A s kd ke b := by
  induction es with
  | nil =>
    intro ke b e _ h
    obtain rfl := List.map_eq_nil_iff.mp e
    obtain rfl := Option.some.inj h
    exact .nil
  | cons p r ih =>
    intro ke b e rr h
    cases ke with
    | nil => exact nomatch e
    | cons q t =>
      obtain ⟨v, vs, e2, a, br⟩ := rr.inv
      injection e with e3 e4
      injection e2 with e5 e6
      obtain ⟨y, w⟩ := q
      obtain ⟨y', u⟩ := p
      obtain rfl : y = y' := e3
      obtain rfl : w = v := e5
      obtain rfl : t.map (·.2) = vs := e6
      have ia := assocGet_at (k := y) hk hr
      have h : (match assocGet y ds with
        | none => some false
        | some u' => match eqV σ 30 u u', eqRows (eqV σ 30) ds r with
          | some a, some b => some (a && b)
          | _, _ => none) = some b := h
      cases z : assocGet y ds with
      | none =>
        rw [z] at ia h
        obtain rfl := Option.some.inj h
        exact .miss ia
      | some u' =>
        rw [z] at ia h
        obtain ⟨w', e7, r1⟩ := ia
        dsimp only at h
        cases z1 : eqV σ 30 u u' with
        | none => rw [z1] at h; exact nomatch h
        | some p1 =>
          cases z2 : eqRows (eqV σ 30) ds r with
          | none => rw [z1, z2] at h; exact nomatch h
          | some q1 =>
            rw [z1, z2] at h
            obtain rfl := Option.some.inj h
            exact .hit e7 (eqV_ok S 30 _ _ _ _ _ A a r1 z1 (by assumption)).h0 (ih e4 br z2)
noncomputable abbrev EqTri (C : Cx) (A : Around) (s : Shared) (v w : Value) (b : Bool) : Prop := C3 (EqC C A s v w b) (RcC C A s v w b) (NeC C A s v w (!b))
theorem eqDD_ok (S : St C l α σ s.heap) {i j : Nat} (hi : i < σ.length) (hj : j < σ.length) {es ds : List (Str × VV)} (d1 : σ[i]?.bind dictS = some es) (d2 : σ[j]?.bind dictS = some ds) {b : Bool} {A : Around} (hne : i ≠ j) (e : (if es.length = ds.length then eqRows (eqV σ 30) ds es else some false) = some b) (hu : A.units + 70 < cLine) : EqTri C A s (.ref (α i)) (.ref (α j)) b := by
  obtain ⟨p, ei, d1⟩ := Option.bind_eq_some_iff.mp d1
  obtain ⟨q, ej, d2⟩ := Option.bind_eq_some_iff.mp d2
  obtain ⟨ka, da, ha, ra⟩ := S.dictS ei d1
  obtain ⟨kb, db, hb, rb⟩ := S.dictS ej d2
  have la : ka.length = es.length := by simpa using congrArg List.length ha
  have lb : kb.length = ds.length := by simpa using congrArg List.length hb
  have hit : ∃ r, (ka.length = kb.length → KeqHits A.in1 s kb ka r) ∧ b = (ka.length == kb.length && r) := by
    by_cases hl : es.length = ds.length
    · rw [if_pos hl] at e
      exact ⟨b, fun _ => rows_ok S (A := A.in1) (by show A.units + 1 + 60 < _; lia) hb rb ha ra e, by rw [la, lb, hl, beq_self_eq_true, Bool.true_and]⟩
    · rw [if_neg hl] at e
      obtain rfl := Option.some.inj e
      exact ⟨true, fun q => (hl (by rw [← la, ← lb, q])).elim, by rw [la, lb, beq_eq_false_iff_ne.mpr hl]; rfl⟩
  obtain ⟨r, h1, rfl⟩ := hit
  have h2 : A.units < cLine := Nat.lt_of_le_of_lt (Nat.le_add_right _ _) hu
  have rc : RcC C A s (.ref (α i)) (.ref (α j)) (ka.length == kb.length && r) := fun E Q hq => keq_eq (S.notModules hi) (S.notModules hj) da db h2 h1 hq
  exact ⟨.refs (fun q => hne (S.inj _ _ hi hj q)) rc, rc, fun E Q hq => keq_ne (S.notModules hi) (S.notModules hj) da db h2 h1 hq⟩
theorem eqL_ok (S : St C l α σ s.heap) {x y : VV} {v w : Value} {b : Bool} {A : Around} (rx : RelV s.heap α σ.length x v) (ry : RelV s.heap α σ.length y w) (e : eqV σ 30 x y = some b) (hu : A.units + 70 < cLine) : EqTri C A s v w b :=
  let z := eqV_ok S 30 _ _ _ _ b A rx ry e (by lia)
  ⟨.of z.h0, .of z.h1, .of z.h2⟩
theorem eqD_ok (S : St C l α σ s.heap) {x y : VV} {v w : Value} {b : Bool} {A : Around} (rx : RelV s.heap α σ.length x v) (ry : RelV s.heap α σ.length y w) (e : eqD σ x y = some b) (hu : A.units + 70 < cLine) : EqTri C A s v w b := by
  cases x with
  | ref i =>
    cases y with
    | ref j =>
      obtain ⟨hi, rfl⟩ := rx.inv
      obtain ⟨hj, rfl⟩ := ry.inv
      have e : (match σ[i]?.bind dictS, σ[j]?.bind dictS with
        | some es, some ds => if i = j then none else if es.length = ds.length then eqRows (eqV σ 30) ds es else some false
        | _, _ => eqV σ 30 (.ref i) (.ref j)) = some b := e
      cases d1 : σ[i]?.bind dictS with
      | none => rw [d1] at e; exact eqL_ok S rx ry e hu
      | some es =>
        cases d2 : σ[j]?.bind dictS with
        | none => rw [d1, d2] at e; exact eqL_ok S rx ry e hu
        | some ds =>
          rw [d1, d2] at e
          by_cases q : i = j
          · exact nomatch (if_pos q).symm.trans e
          · exact eqDD_ok S hi hj d1 d2 q ((if_neg q).symm.trans e) hu
    | _ => exact eqL_ok S rx ry e hu
  | _ => exact eqL_ok S rx ry e hu
theorem eqW_ok (S : St C l α σ s.heap) {x y : VV} {v w : Value} {b : Bool} {A : Around} (rx : RelV s.heap α σ.length x v) (ry : RelV s.heap α σ.length y w) (e : eqW σ x y = some b) (hu : A.units + 80 < cLine) : RcC C A s v w b ∧ NeC C A s v w (!b) := by
  have leaf : eqD σ x y = some b → RcC C A s v w b ∧ NeC C A s v w (!b) := fun e => let z := eqD_ok S rx ry e (by lia); ⟨z.h1, z.h2⟩
  cases x with
  | tup xs =>
    cases y with
    | tup ys =>
      obtain ⟨a, vs, rfl, ht, rr⟩ := rx.inv
      obtain ⟨a', vs', rfl, ht', rr'⟩ := ry.inv
      have e : (match eqZ (eqD σ) xs ys with
        | some b => some (b && decide (xs.length = ys.length))
        | none => none) = some b := e
      cases e' : eqZ (eqD σ) xs ys with
      | none => rw [e'] at e; exact nomatch e
      | some b' =>
        rw [e'] at e
        obtain rfl := Option.some.inj e
        obtain ⟨h1, h2⟩ := eqZ_all e'
        have he : ∀ j (hj : j < vs.size) (hj' : j < vs'.size), EqC C A.in1 s vs[j] vs'[j] (eAt (eqD σ) xs ys j) := fun j hj hj' => by
          refine cps fun G k_ => ?_
          obtain ⟨x, e1, r1⟩ := rel_at rr j hj
          obtain ⟨y, e2, r2⟩ := rel_at rr' j hj'
          refine k_ ?_
          exact (eqD_ok S r1 r2 (h2 j x y e1 e2) (by show A.units + 1 + 70 < _; lia)).h0
        have hu0 : A.units < cLine := Nat.lt_of_le_of_lt (Nat.le_add_right _ _) hu
        have rc := RcC.tuples ht ht' hu0 he
        have rn := NeC.tuples ht ht' hu0 he
        rw [rr.size, rr'.size, ← h1] at rc rn
        exact ⟨rc, rn⟩
    | _ => exact leaf e
  | _ => exact leaf e
end
end Mine
end
section
open PySem.Calls
set_option backward.match.sparseCases false
open SeqAt (EqAt RcAt RcNeAt)
namespace Mine
theorem okLen_le {n : Nat} (h : okLen n = true) : n ≤ sizeLine := by
  have : n ≤ 16000000 := Nat.le_of_ble_eq_true h
  show n ≤ 2 ^ 24
  exact Nat.le_trans (by assumption) (by decide)
theorem idxV_eq {i : Int} {n j : Nat} (e : idxV i n = some j) : i = (j : Int) ∧ j < n ∧ j ≤ 16000000 := by
  unfold idxV at e
  split at e
  · split at e
    · rename_i k h
      obtain rfl := Option.some.inj e
      rw [Bool.and_eq_true] at h
      exact ⟨rfl, by simpa using h.1, Nat.le_of_ble_eq_true h.2⟩
    · injection e
  · injection e
section
variable {C : Cx} {l : List Env} {σ : VH} {α : Nat → Addr} {s : Shared} {A : Around} {E : Value → Shared → Prop}
theorem anyEq_cons {a y : VV} {ys : List VV} {k : Bool} (e : anyEq σ a (y :: ys) = some k) : Y2 fun p q => C3 (eqV σ 30 y a = some p) (anyEq σ a ys = some q) (k = (p || q)) := by
  have e' : (match eqV σ 30 y a, anyEq σ a ys with
    | some p, some q => some (p || q)
    | _, _ => none) = some k := e
  cases e1 : eqV σ 30 y a with
  | none => rw [e1] at e'; exact nomatch e'
  | some p =>
    cases e2 : anyEq σ a ys with
    | none => rw [e1, e2] at e'; exact nomatch e'
    | some q => rw [e1, e2] at e'; exact ⟨p, q, rfl, rfl, (Option.some.inj e').symm⟩
theorem any_all (S : St C l α σ s.heap) {a : VV} {va : Value} (ra : RelV s.heap α σ.length a va) {A : Around} (hu : A.units + 60 < cLine) {ys : List VV} : ∀ {vs : List Value} {k : Bool}, RelVs s.heap α σ.length ys vs → anyEq σ a ys = some k →
    (∀ v ∈ vs, ∃ b, EqAt A s v va b ∧ (b = true → k = true)) ∧ (k = true → ∃ v ∈ vs, EqAt A s v va true) := by
  induction ys with
  | nil =>
    intro vs k r e
    obtain rfl := r.inv
    exact ⟨(fun v h => nomatch h), (fun h => nomatch (Option.some.inj e).trans h)⟩
  | cons y ys ih =>
    intro vs k r e
    obtain ⟨v, vs, rfl, rv, r2⟩ := r.inv
    obtain ⟨p, q, e1, e2, rfl⟩ := anyEq_cons e
    obtain ⟨h1, h2⟩ := ih r2 e2
    have h0 := (eqV_ok S 30 y a v va p A rv ra e1 (by assumption)).h0
    refine ⟨fun w hw => ?_, fun h => ?_⟩
    · cases hw with
      | head => exact ⟨p, h0, fun z => by rw [z]; rfl⟩
      | tail _ hw =>
        obtain ⟨b, h3, h4⟩ := h1 w hw
        exact ⟨b, h3, fun z => by rw [h4 z, Bool.or_true]⟩
    · induction p with
      | true => exact ⟨v, .head _, h0⟩
      | false =>
        obtain ⟨w, h3, h4⟩ := h2 h
        exact ⟨w, .tail _ h3, h4⟩
theorem any_ok (S : St C l α σ s.heap) {a : VV} {va : Value} (ra : RelV s.heap α σ.length a va) {A : Around} (hu : A.units + 60 < cLine) {ys : List VV} {vs : List Value} {k : Bool} (r : RelVs s.heap α σ.length ys vs) (e : anyEq σ a ys = some k) :
    ∃ e : Value → Bool, (∀ y, y ∈ vs → EqAt A s y va (e y)) ∧ vs.any e = k := by
  obtain ⟨h1, h2⟩ := any_all S ra hu r e
  induction k with
  | false =>
    refine ⟨fun _ => false, fun y hy => ?_, by simp⟩
    obtain ⟨b, h3, h4⟩ := h1 y hy
    induction b with
    | false => exact h3
    | true => exact nomatch h4 rfl
  | true =>
    classical
    refine ⟨fun v => decide (EqAt A s v va true), fun y hy => ?_, ?_⟩
    · obtain ⟨b, h3, _⟩ := h1 y hy
      show EqAt A s y va (decide (EqAt A s y va true))
      by_cases q : EqAt A s y va true
      · rw [decide_eq_true q]; exact q
      · rw [decide_eq_false q]
        induction b with
        | false => exact h3
        | true => exact (q h3).elim
    · obtain ⟨v, hv, h3⟩ := h2 rfl
      exact List.any_eq_true.mpr ⟨v, hv, decide_eq_true h3⟩
inductive InI (σ : VH) : VV → VV → Bool → Prop
  | tup {a ys k} : anyEq σ a ys = some k → InI σ a (.tup ys) k
  | lst {a r ys k} : σ[r]? = some (.list ys) → anyEq σ a ys = some k → InI σ a (.ref r) k
  | set {r xs k} : σ[r]? = some (.set xs) → InI σ (.int k) (.ref r) (decide (k ∈ xs))
  | dI {r o es k} : σ[r]? = some o → dictI o = some es → InI σ (.int k) (.ref r) (assocGet k es).isSome
  | dS {r o es k} : σ[r]? = some o → dictS o = some es → InI σ (.str k) (.ref r) (assocGet k es).isSome
theorem dinV_inv {r : Nat} {o : VO} {a : VV} {k : Bool} (er : σ[r]? = some o) (e : dinV o a = some k) : InI σ a (.ref r) k := by
  cases a <;> try (exact nn e; done)
  · obtain ⟨es, e1, rfl⟩ := Option.map_eq_some_iff.mp e
    exact .dI er e1
  · obtain ⟨es, e1, rfl⟩ := Option.map_eq_some_iff.mp e
    exact .dS er e1
theorem or_inv {q : Option Bool} {k : Bool} (e : q.or none = some k) : q = some k := by induction q <;> exact e
theorem inV_inv {a b : VV} {k : Bool} (e : inV σ a b = some k) : InI σ a b k := by
  cases b <;> try (exact nn e; done)
  · exact .tup e
  · obtain ⟨ob, e1, e2⟩ := Option.bind_eq_some_iff.mp e
    clear e
    induction ob
    case list ys => exact .lst e1 e2
    case set xs =>
      cases a <;> try (exact nn e2; done)
      obtain rfl := Option.some.inj e2; exact .set e1
    all_goals exact dinV_inv e1 (or_inv e2)
theorem isSome_of {K : Type} {h : Heap} {n : Nat} [DecidableEq K] {es : List (K × VV)} {kvs : List (K × Value)} (r : RowsR h α n es kvs) (k : K) : (valueAt kvs k).isSome = (assocGet k es).isSome := (r.get k).isSome
theorem inV_ok (S : St C l α σ s.heap) {a b : VV} {k : Bool} {va vb : Value} (e : inV σ a b = some k) (ra : RelV s.heap α σ.length a va) (rb : RelV s.heap α σ.length b vb) (hu : A.units + 100 < cLine) :
    (∀ Q : Value → Shared → Prop, (∀ t, Q (.bool k) { s with toks := t }) → wpAny C.M A (compareOp .In va vb) Q E s) ∧ (∀ Q : Value → Shared → Prop, (∀ t, Q (.bool (!k)) { s with toks := t }) → wpAny C.M A (compareOp .NotIn va vb) Q E s) := by
  have I := inV_inv e
  clear e
  induction I
  case tup a ys k e =>
    refine cps fun G k_ => ?_
    obtain ⟨b, vs, rfl, ht, rr⟩ := rb.inv
    obtain ⟨f, h1, h2⟩ := any_ok S ra (A := A.in1) (by show A.units + 1 + 60 < _; lia) rr e
    refine k_ ?_
    rw [Array.any_toList] at h2
    exact ⟨fun Q hq => SeqAt.in_tupleAt f (isTuple_of ht) (fun y hy => h1 y (by simpa using hy)) (h2 ▸ hq s.toks), fun Q hq => SeqAt.notIn_tupleAt f (isTuple_of ht) (fun y hy => h1 y (by simpa using hy)) (h2 ▸ hq s.toks)⟩
  case lst a r ys k ei e =>
    refine cps fun G k_ => ?_
    obtain ⟨hi, rfl⟩ := rb.inv
    obtain ⟨vs, c, hv, rr⟩ := S.objs r _ ei
    obtain ⟨f, h1, h2⟩ := any_ok S ra (A := A.in1) (by show A.units + 1 + 60 < _; lia) rr e
    refine k_ ?_
    rw [Array.any_toList] at h2
    exact ⟨fun Q hq => SeqAt.in_listAt f (isList_of hv) (fun y hy => h1 y (by simpa using hy)) (h2 ▸ hq s.toks), fun Q hq => SeqAt.notIn_listAt f (isList_of hv) (fun y hy => h1 y (by simpa using hy)) (h2 ▸ hq s.toks)⟩
  case set r xs k ei =>
    obtain ⟨t, rfl⟩ := ra.inv
    obtain ⟨hi, rfl⟩ := rb.inv
    exact ⟨fun Q hq => wpAny_inSet_of (knd := iK C) (intKind_is _ _ _ _) rfl (S.objs r _ ei) (hq _), fun Q hq => wpAny_notInSet_of (knd := iK C) (intKind_is _ _ _ _) rfl (S.objs r _ ei) (hq _)⟩
  case dI r o es k ei e1 =>
    obtain ⟨t, rfl⟩ := ra.inv
    obtain ⟨hi, rfl⟩ := rb.inv
    obtain ⟨kvs, d, rr⟩ := S.dictI ei e1
    rw [← isSome_of rr]
    exact ⟨fun Q hq => wpAny_in_of (knd := iK C) (intKind_is _ _ _ _) (S.notModules hi) d.mapOf (hq _), fun Q hq => wpAny_notIn_of (knd := iK C) (intKind_is _ _ _ _) (S.notModules hi) d.mapOf (hq _)⟩
  case dS r o es k ei e1 =>
    obtain ⟨t, rfl⟩ := ra.inv
    obtain ⟨hi, rfl⟩ := rb.inv
    obtain ⟨kvs, d, rr⟩ := S.dictS ei e1
    rw [← isSome_of rr]
    exact ⟨fun Q hq => wpAny_in_of (knd := sK C) (strKind_is _ _ _ _) (S.notModules hi) d.mapOf (hq _), fun Q hq => wpAny_notIn_of (knd := sK C) (strKind_is _ _ _ _) (S.notModules hi) d.mapOf (hq _)⟩
theorem ints_ok {f : Int → Int → Bool} {a b : VV} {k : Bool} {h : Heap} {n : Nat} {va vb : Value} (e : intsV f a b = some k) (ra : RelV h α n a va) (rb : RelV h α n b vb) {P : Prop} (go : ∀ i j t t', va = .int i t → vb = .int j t' → k = f i j → P) : P := by
  obtain ⟨i, e1, e2⟩ := Option.bind_eq_some_iff.mp e
  obtain ⟨j, e3, rfl⟩ := Option.map_eq_some_iff.mp e2
  obtain ⟨t, q⟩ := intV_ok e1 ra
  obtain ⟨t', q'⟩ := intV_ok e3 rb
  exact go i j t t' q q' rfl
theorem isV_ok {a b : VV} {k : Bool} {va vb : Value} {Q : Value → Shared → Prop} (e : isV a b = some k) (ra : RelV s.heap α σ.length a va) (rb : RelV s.heap α σ.length b vb) (hq : Q (.bool k) s) : wpAny C.M A (compareOp .Is va vb) Q E s := by
  cases b with
  | none =>
    obtain rfl := rb.inv
    cases a with
    | none => obtain rfl := ra.inv; obtain rfl := Option.some.inj e; exact is_none hq
    | tup xs => obtain ⟨_, _, rfl, _⟩ := ra.inv; obtain rfl := Option.some.inj e; exact is_none hq
    | _ => exact nomatch e
  | _ => exact nomatch e
theorem cmpV_ok (S : St C l α σ s.heap) {op : CmpOp} {a b : VV} {k : Bool} {va vb : Value} {Q : Value → Shared → Prop} (e : cmpV σ op a b = some k) (ra : RelV s.heap α σ.length a va) (rb : RelV s.heap α σ.length b vb) (hu : A.units + 100 < cLine)
    (hq : ∀ t, Q (.bool k) { s with toks := t }) : wpAny C.M A (compareOp op va vb) Q E s := by
  have h0 := hq s.toks
  induction op with
  | Eq => exact (eqW_ok S ra rb e (by lia)).1 E Q h0
  | NotEq =>
    obtain ⟨b', e1, rfl⟩ := Option.map_eq_some_iff.mp e
    exact (eqW_ok S ra rb e1 (by lia)).2 E Q h0
  | Lt => exact ints_ok e ra rb fun i j t t' q q' z => by subst q q' z; exact PyProof.Rows.lt_int h0
  | LtE => exact ints_ok e ra rb fun i j t t' q q' z => by subst q q' z; exact PyProof.Rows.le_int h0
  | Gt => exact ints_ok e ra rb fun i j t t' q q' z => by subst q q' z; exact PyProof.Rows.gt_int h0
  | GtE => exact ints_ok e ra rb fun i j t t' q q' z => by subst q q' z; exact PyProof.Rows.ge_int h0
  | In => exact (inV_ok S e ra rb hu).1 _ hq
  | NotIn =>
    obtain ⟨b', e1, rfl⟩ := Option.map_eq_some_iff.mp e
    exact (inV_ok S e1 ra rb hu).2 _ hq
  | Is => exact isV_ok e ra rb h0
  | IsNot => exact nomatch e
theorem rel_idx {h : Heap} {n : Nat} {xs : List VV} {vs : Array Value} {j : Nat} {x : VV} (r : RelVs h α n xs vs.toList) (e : xs[j]? = some x) : ∃ v, vs[j]? = some v ∧ RelV h α n x v := by
  obtain ⟨v, e1, r1⟩ := r.get e
  exact ⟨v, by rw [← Array.getElem?_toList]; exact e1, r1⟩
inductive ItmI (σ : VH) : VV → VV → VV → Prop
  | tup {xs v} {j : Nat} : j < xs.length → j ≤ 16000000 → xs[j]? = some v → ItmI σ (.tup xs) (.int j) v
  | lst {r xs v} {j : Nat} : σ[r]? = some (.list xs) → j < xs.length → j ≤ 16000000 → xs[j]? = some v → ItmI σ (.ref r) (.int j) v
  | dI {r o es k v} : σ[r]? = some o → dictI o = some es → assocGet k es = some v → ItmI σ (.ref r) (.int k) v
  | dS {r o es k v} : σ[r]? = some o → dictS o = some es → assocGet k es = some v → ItmI σ (.ref r) (.str k) v
theorem lget_inv {xs : List VV} {k : Int} {v : VV} (e : lget xs k = some v) : ∃ j : Nat, C4 (k = (j : Int)) (j < xs.length) (j ≤ 16000000) (xs[j]? = some v) := by
  obtain ⟨j, e1, e2⟩ := Option.bind_eq_some_iff.mp e
  obtain ⟨rfl, h1, h2⟩ := idxV_eq e1
  exact ⟨j, rfl, h1, h2, e2⟩
theorem dgetV_inv {r : Nat} {o : VO} {i v : VV} (er : σ[r]? = some o) (e : dgetV o i = some v) : ItmI σ (.ref r) i v := by
  cases i <;> try (exact nn e; done)
  · obtain ⟨es, e1, e2⟩ := Option.bind_eq_some_iff.mp e
    exact .dI er e1 e2
  · obtain ⟨es, e1, e2⟩ := Option.bind_eq_some_iff.mp e
    exact .dS er e1 e2
theorem getV_inv {o i v : VV} (e : getV σ o i = some v) : ItmI σ o i v := by
  cases o <;> try (exact nn e; done)
  · cases i <;> try (exact nn e; done)
    obtain ⟨j, rfl, h1, h2, h3⟩ := lget_inv e
    exact .tup h1 h2 h3
  · obtain ⟨ob, e1, e2⟩ := Option.bind_eq_some_iff.mp e
    clear e
    induction ob
    case list xs =>
      cases i <;> try (exact nn e2; done)
      obtain ⟨j, rfl, h1, h2, h3⟩ := lget_inv e2
      exact .lst e1 h1 h2 h3
    all_goals exact dgetV_inv e1 e2
theorem getV_ok (S : St C l α σ s.heap) {o i v : VV} {vo vi : Value} {Q : Value → Shared → Prop} (e : getV σ o i = some v) (ro : RelV s.heap α σ.length o vo) (ri : RelV s.heap α σ.length i vi)
    (hq : ∀ w t, RelV s.heap α σ.length v w → Q w { s with toks := t }) : wpAny C.M A (getItem vo vi) Q E s := by
  have I := getV_inv e
  clear e
  induction I
  case tup xs v j h1 h2 e2 =>
    obtain ⟨a, vs, rfl, ht, rr⟩ := ro.inv
    obtain ⟨t, rfl⟩ := ri.inv
    obtain ⟨w, e3, rw⟩ := rel_idx rr e2
    refine getItem_tuple ht (by lia) (by lia) ?_ e3 (hq _ _ rw)
    have hs : j < _ := (Array.getElem?_eq_some_iff.mp e3).1
    have h0 : ¬ ((j : Int) < 0) := Int.not_lt.mpr (Int.natCast_nonneg j)
    unfold seqIndex?
    simp [h0, hs]
  case lst r xs v j ei h1 h2 e2 =>
    obtain ⟨hi, rfl⟩ := ro.inv
    obtain ⟨t, rfl⟩ := ri.inv
    obtain ⟨vs, c, hv, rr⟩ := S.objs r _ ei
    obtain ⟨w, e3, rw⟩ := rel_idx rr e2
    exact wpAny_getItem_list (isList_of hv) (by lia) (by lia) (by simpa using e3) (hq _ s.toks rw)
  case dI r o es k v ei e1 e2 =>
    obtain ⟨hi, rfl⟩ := ro.inv
    obtain ⟨t, rfl⟩ := ri.inv
    obtain ⟨kvs, d, rr⟩ := S.dictI ei e1
    have := rr.get k
    rw [e2] at this
    obtain ⟨w, q1, rw⟩ := this
    exact wpAny_getItem_of (knd := iK C) (intKind_is _ _ _ _) d.mapOf q1 (hq _ _ rw)
  case dS r o es k v ei e1 e2 =>
    obtain ⟨hi, rfl⟩ := ro.inv
    obtain ⟨t, rfl⟩ := ri.inv
    obtain ⟨kvs, d, rr⟩ := S.dictS ei e1
    have := rr.get k
    rw [e2] at this
    obtain ⟨w, q1, rw⟩ := this
    exact wpAny_getItem_of (knd := sK C) (strKind_is _ _ _ _) d.mapOf q1 (hq _ _ rw)
theorem dict_nodup {K : Type} [DecidableEq K] {prog : Program} {w : World} {knd : KeyKind prog w K} {h : Heap} {a : Addr} {kvs : List (K × Value)} (d : h.DictOf knd a kvs) : (kvs.map (·.1)).Nodup := by
  obtain ⟨_, _, _, _, _, _, _, _, q⟩ := d; exact q
noncomputable def Upd (C : Cx) (l : List Env) (α : Nat → Addr) (σ : VH) (h : Heap) (σ' : VH) (h' : Heap) : Prop := Y2 fun (r : Nat) (o : VO) => C4 (r < σ.length) (σ' = σ.set r o) (Heap.SameBut (α r) h h') (ObjRel C h' α σ.length (α r) o)
theorem listUpd {h : Heap} {a : Addr} {its : Array Value} {n : Nat} (f : Array Value → Array Value) (e : h.get? a = some (W.listOf its n)) : ∃ k, (h.update a (Obj.mapSeq f)).get? a = some (W.listOf (f its) k) := ⟨_, PySem.IsL.update e f⟩
inductive SetI (σ : VH) (v : VV) : VV → VV → VH → Prop
  | lst {r xs} {j : Nat} : σ[r]? = some (.list xs) → j < xs.length → j ≤ 16000000 → SetI σ v (.ref r) (.int j) (σ.set r (.list (xs.set j v)))
  | dI {r o es k} : σ[r]? = some o → dictI o = some es → okLen es.length = true → SetI σ v (.ref r) (.int k) (σ.set r (.idict (assocSet k v es)))
  | dS {r o es k} : σ[r]? = some o → dictS o = some es → okLen es.length = true → SetI σ v (.ref r) (.str k) (σ.set r (.sdict (assocSet k v es)))
  | dT {r o es xs ks} : σ[r]? = some o → dictT o = some es → intKeys (.tup xs) = some ks → okLen es.length = true → SetI σ v (.ref r) (.tup xs) (σ.set r (.tdict (assocSet ks v es)))
theorem dsetV_inv {r : Nat} {o p : VO} {i v : VV} (er : σ[r]? = some o) (e : dsetV o i v = some p) : SetI σ v (.ref r) i (σ.set r p) := by
  cases i <;> try (exact nn e; done)
  · obtain ⟨es, e1, e2⟩ := Option.bind_eq_some_iff.mp e
    obtain ⟨h, rfl⟩ := some_ite e2
    exact .dI er e1 h
  · obtain ⟨es, e1, e2⟩ := Option.bind_eq_some_iff.mp e
    obtain ⟨h, rfl⟩ := some_ite e2
    exact .dS er e1 h
  · obtain ⟨es, e1, e2⟩ := Option.bind_eq_some_iff.mp e
    obtain ⟨ks, e3, e4⟩ := Option.bind_eq_some_iff.mp e2
    obtain ⟨h, rfl⟩ := some_ite e4
    exact .dT er e1 e3 h
theorem setV_inv {o i v : VV} {σ' : VH} (e : setV σ o i v = some σ') : SetI σ v o i σ' := by
  cases o <;> try (exact nn e; done)
  obtain ⟨ob, e1, e2⟩ := Option.bind_eq_some_iff.mp e
  obtain ⟨p, e3, rfl⟩ := Option.map_eq_some_iff.mp e2
  clear e e2
  induction ob
  case list xs =>
    cases i <;> try (exact nn e3; done)
    obtain ⟨j, e4, rfl⟩ := Option.map_eq_some_iff.mp e3
    obtain ⟨rfl, h1, h2⟩ := idxV_eq e4
    exact .lst e1 h1 h2
  all_goals exact dsetV_inv e1 e3
theorem setV_ok (S : St C l α σ s.heap) {o i v : VV} {σ' : VH} {vo vi vv : Value} {Q : Unit → Shared → Prop} (e : setV σ o i v = some σ') (ro : RelV s.heap α σ.length o vo) (ri : RelV s.heap α σ.length i vi) (rv : RelV s.heap α σ.length v vv) (hu : A.units + 100 < cLine)
    (hq : ∀ h' t, Upd C l α σ s.heap σ' h' → Q () { s with heap := h', toks := t }) : wpAny C.M A (setItem vo vi vv) Q E s := by
  have I := setV_inv e
  clear e
  induction I
  case lst r xs j ei h1 h2 =>
    obtain ⟨hi, rfl⟩ := ro.inv
    obtain ⟨t, rfl⟩ := ri.inv
    obtain ⟨vs, c, hv, rr⟩ := S.objs r _ ei
    have hsz : vs.size = xs.length := by rw [← rr.length]; simp
    refine ki_setAt hv (by lia) (by lia) (by lia) ?_
    have sb : Heap.SameBut (α r) s.heap (s.heap.update (α r) (Obj.mapSeq (·.setIfInBounds (j : Int).toNat vv))) := Heap.SameBut.update ..
    obtain ⟨k, ek⟩ := listUpd (·.setIfInBounds (j : Int).toNat vv) hv
    have := RelVs.keeps (Keeps.but sb (S.at hi).2) (Nat.le_refl _) (fun _ _ => rfl) (rr.set (j := j) rv)
    exact hq _ s.toks ⟨r, _, hi, rfl, sb, _, k, ek, by simpa using this⟩
  case dI r o es k ei e1 hl =>
    obtain ⟨hi, rfl⟩ := ro.inv
    obtain ⟨t, rfl⟩ := ri.inv
    obtain ⟨kvs, d, rr⟩ := S.dictI ei e1
    refine wpAny_setItem_pairs (knd := iK C) (intKind_is _ _ _ _) d (fun h' d' sb => hq _ _ ⟨r, _, hi, rfl, sb, _, d', ?_⟩) (by rw [rr.length]; exact okLen_le hl)
    rw [stored_eq (dict_nodup d)]
    have := rr.set (k := k) rv
    exact ⟨this.keys, RelVs.keeps (Keeps.but sb (S.at hi).2) (Nat.le_refl _) (fun _ _ => rfl) this.vals⟩
  case dS r o es k ei e1 hl =>
    obtain ⟨hi, rfl⟩ := ro.inv
    obtain ⟨t, rfl⟩ := ri.inv
    obtain ⟨kvs, d, rr⟩ := S.dictS ei e1
    refine wpAny_setItem_pairs (knd := sK C) (strKind_is _ _ _ _) d (fun h' d' sb => hq _ _ ⟨r, _, hi, rfl, sb, _, d', ?_⟩) (by rw [rr.length]; exact okLen_le hl)
    rw [stored_eq (dict_nodup d)]
    have := rr.set (k := k) rv
    exact ⟨this.keys, RelVs.keeps (Keeps.but sb (S.at hi).2) (Nat.le_refl _) (fun _ _ => rfl) this.vals⟩
  case dT r o es xs ks ei e1 e3 hl =>
    obtain ⟨hi, rfl⟩ := ro.inv
    obtain ⟨a, vs, rfl, ht, rk⟩ := ri.inv
    obtain ⟨kvs, d, rr⟩ := S.dictT ei e1
    have hlen : kvs.length = es.length := by have := rr.length; simpa using this
    refine wpAny_setItem_heap (knd := tupleKind (iK C)) (show A.in1.units < cLine by show A.units + 1 < _; lia) (tupKey_of ht rk e3) d (fun h' d' sb => hq _ _ ⟨r, _, hi, rfl, sb, _, d', ?_⟩) (by rw [hlen]; exact okLen_le hl)
    have := rr.set (k := ks) rv
    have e4 := storedH_eq (k := ks) (a := a) (v := vv) (xs := kvs) (let ⟨_, _, _, _, _, _, _, _, q⟩ := d; q)
    rw [← e4] at this
    refine ⟨?_, RelVs.keeps (Keeps.but sb (S.at hi).2) (Nat.le_refl _) (fun _ _ => rfl) ?_⟩
    · have := this.keys; rw [List.map_map] at this; exact this
    · have := this.vals; rw [List.map_map] at this; exact this
inductive DelI (σ : VH) : VV → VV → VH → Prop
  | dI {r o es k} : σ[r]? = some o → dictI o = some es → (assocGet k es).isSome = true → okLen es.length = true → DelI σ (.ref r) (.int k) (σ.set r (.idict (assocDel k es)))
  | dS {r o es k} : σ[r]? = some o → dictS o = some es → (assocGet k es).isSome = true → okLen es.length = true → DelI σ (.ref r) (.str k) (σ.set r (.sdict (assocDel k es)))
theorem delV_inv {o i : VV} {σ' : VH} (e : delV σ o i = some σ') : DelI σ o i σ' := by
  cases o <;> try (exact nn e; done)
  obtain ⟨ob, e1, e2⟩ := Option.bind_eq_some_iff.mp e
  obtain ⟨p, e3, rfl⟩ := Option.map_eq_some_iff.mp e2
  clear e e2
  cases i <;> try (exact nn e3; done)
  · obtain ⟨es, e4, e5⟩ := Option.bind_eq_some_iff.mp e3
    obtain ⟨h, rfl⟩ := some_ite e5
    rw [Bool.and_eq_true] at h
    exact .dI e1 e4 h.1 h.2
  · obtain ⟨es, e4, e5⟩ := Option.bind_eq_some_iff.mp e3
    obtain ⟨h, rfl⟩ := some_ite e5
    rw [Bool.and_eq_true] at h
    exact .dS e1 e4 h.1 h.2
theorem delV_ok (S : St C l α σ s.heap) {o i : VV} {σ' : VH} {vo vi : Value} {Q : Unit → Shared → Prop} (e : delV σ o i = some σ') (ro : RelV s.heap α σ.length o vo) (ri : RelV s.heap α σ.length i vi)
    (hq : ∀ h' t, Upd C l α σ s.heap σ' h' → Q () { s with heap := h', toks := t }) : wpAny C.M A (delItem vo vi) Q E s := by
  have I := delV_inv e
  clear e
  induction I
  case dI r o es k ei e1 h1 h2 =>
    obtain ⟨hi, rfl⟩ := ro.inv
    obtain ⟨t, rfl⟩ := ri.inv
    obtain ⟨kvs, d, rr⟩ := S.dictI ei e1
    refine wpAny_delItem_slot d.typeIs (by decide) PySem.F.slot_dict_delitem (call_meetsIn PySem.F.slot_dict_delitem d.typeIs PySem.F.entry_dict_delitem (PySem.F.args_dict_delitem_2 _ _) (meets_dict_delitem_pairs (iK C) (α r) (intKind_is _ _ _ _))
      ⟨kvs, d, by rw [rr.length]; exact okLen_le h2, (isSome_of rr k).trans h1, fun h' d' sb => hq _ _ ⟨r, _, hi, rfl, sb, _, d', ?_⟩⟩)
    rw [without_eq (dict_nodup d)]
    have := rr.del (k := k)
    exact ⟨this.keys, RelVs.keeps (Keeps.but sb (S.at hi).2) (Nat.le_refl _) (fun _ _ => rfl) this.vals⟩
  case dS r o es k ei e1 h1 h2 =>
    obtain ⟨hi, rfl⟩ := ro.inv
    obtain ⟨t, rfl⟩ := ri.inv
    obtain ⟨kvs, d, rr⟩ := S.dictS ei e1
    refine wpAny_delItem_slot d.typeIs (by decide) PySem.F.slot_dict_delitem (call_meetsIn PySem.F.slot_dict_delitem d.typeIs PySem.F.entry_dict_delitem (PySem.F.args_dict_delitem_2 _ _) (meets_dict_delitem_pairs (sK C) (α r) (strKind_is _ _ _ _))
      ⟨kvs, d, by rw [rr.length]; exact okLen_le h2, (isSome_of rr k).trans h1, fun h' d' sb => hq _ _ ⟨r, _, hi, rfl, sb, _, d', ?_⟩⟩)
    rw [without_eq (dict_nodup d)]
    have := rr.del (k := k)
    exact ⟨this.keys, RelVs.keeps (Keeps.but sb (S.at hi).2) (Nat.le_refl _) (fun _ _ => rfl) this.vals⟩
end
end Mine
end
section
open PySem.Calls
namespace Mine
section
variable {C : Cx} {d : Nat} {G : Top'} {cl : CallO} {o : Ops} {env : Env} {sc : Scope} {σ : VH} {ρ : VE}
theorem Room.cLine {d : Nat} {l : List Env} {A : Around} (rm : Room d l A) : A.units + 800 < cLine := by
  have := rm.units
  show A.units + 800 < 9900
  lia
theorem Room.cLine1 {d : Nat} {l : List Env} {A : Around} (rm : Room d l A) : A.units + 100 < PySem.cLine := Nat.lt_of_le_of_lt (Nat.add_le_add_left (by decide) _) rm.cLine
theorem evs_nil (pos) : Evs C d (spliced (backTo pos (starEach [] env))) sc env ρ σ (.ok [] σ) := by
  intro ls A s α Q E rm st er K
  exact wpAny_items_nil (K.pure st .nil)
theorem evs_cons (H : OpsOK C d o) (e r pos) : Evs C d (spliced (backTo pos (starEach (src e :: srcs r) env))) sc env ρ σ ((o.ev sc e ρ σ).bind fun v τ => (o.evs sc r ρ τ).bind fun vs τ' => .ok (v :: vs) τ') := by
  intro ls A s α Q E rm st er K
  refine wpAny_items_cons ?_ (by cases e <;> rfl)
  refine (H.ev sc e env ρ σ).use rm st er K fun a σ₁ α₁ va h₁ t₁ e₁ st₁ er₁ nx₁ ra K₁ => ?_
  refine (H.evs sc r pos env ρ σ₁).use rm st₁ er₁ K₁ fun b σ₂ α₂ vb h₂ t₂ e₂ st₂ er₂ nx₂ rb K₂ => ?_
  exact K₂.pure st₂ (.cons (RelV.nx st₁ nx₂ ra) rb)
theorem isTup_new {h : Heap} (vs : List Value) : IsTup (h.push { cls := .type "tuple", data := .seq vs.toArray }) h.objs.size vs.toArray := ⟨_, Heap.get?_push_size _ rfl, rfl, _, rfl⟩
theorem ev_Tuple (H : OpsOK C d o) (es k pos) : Ev C d (eval (.Tuple (srcs es) k pos) env) sc env ρ σ ((o.evs sc es ρ σ).bind tupV) := by
  intro ls A s α Q E rm st er K
  refine wpAny_Tuple ?_
  refine (H.evs sc es pos env ρ σ).use rm st er K fun vs σ₁ α₁ va h₁ t₁ e₁ st₁ er₁ nx₁ ra K₁ => K₁.guard fun hl K => ?_
  refine ⟨by rw [ra.length]; exact okLen_le hl, K.grown st₁ (push_keeps _ _) (.tup (isTup_new va) ?_)⟩
  exact RelVs.keeps (Keeps.of (push_keeps _ _)) (Nat.le_refl _) (fun _ _ => rfl) (by simpa using ra)
theorem relRef_new {h : Heap} {α : Nat → Addr} {n : Nat} {a : Addr} : RelV h (aext α n a) (n + 1) (.ref n) (.ref a) := by
  have := RelV.ref (h := h) (α := aext α n a) (n := n + 1) (i := n) (Nat.lt_succ_self _)
  rwa [aext_new] at this
theorem ev_List (H : OpsOK C d o) (es pos) : Ev C d (eval (.List (srcs es) pos) env) sc env ρ σ ((o.evs sc es ρ σ).bind lstV) := by
  intro ls A s α Q E rm st er K
  refine wpAny_List ?_
  refine (H.evs sc es pos env ρ σ).use rm st er K fun vs σ₁ α₁ va h₁ t₁ e₁ st₁ er₁ nx₁ ra K₁ => K₁.guard fun hl K => ?_
  refine ⟨by rw [ra.length]; exact okLen_le hl, ?_⟩
  refine K.alloc st₁ (push_keeps _ _) (fresh_size _) ⟨_, 0, Heap.get?_push_size _ rfl, ?_⟩ relRef_new
  exact RelVs.keeps (Keeps.of (push_keeps _ _)) (Nat.le_succ _) aext_old (by simpa using ra)
theorem ev_Dict0 (pos) : Ev C d (eval (.Dict [] [] pos) env) sc env ρ σ (alloc σ .edict) := by
  intro ls A s α Q E rm st er K
  refine wpAny_Dict_empty ?_
  exact K.alloc st (push_keeps _ _) (fresh_size _) ⟨0, Heap.get?_push_size _ rfl⟩ relRef_new
theorem Cont.dict0 {X : Addr → Prop} {FL : Option Value → Prop} {l : List Env} {α : Nat → Addr} {s : Shared} {E : Value → Shared → Prop} {Q : Value → Shared → Prop} {m : Nat} {k : Int} {v : VV} {c : Option VO} {n : Nat} (K : Cont C X FL l RelE (dict0 σ k v c n) m α s Q E) {P : Prop} (h : c = Option.some .edict → Cont C X FL l RelE (.ok (.ref n) (σ.set n (.idict [(k, v)]))) m α s Q E → P) : P := by
  induction c with
  | none => exact K.dead
  | some c =>
    induction c with
    | edict => exact h rfl K
    | _ => exact K.dead
theorem ev_Dict1 (H : OpsOK C d o) (i kk p v pos) : Ev C d (eval (.Dict [some (.Constant (.int i) kk p)] [src v] pos) env) sc env ρ σ ((o.ev sc v ρ (σ ++ [.edict])).bind fun x τ => dict0 τ i x τ[σ.length]? σ.length) := by
  intro ls A s α Q E rm st er K
  refine wpAny_Dict_pairs (knd := iK C) (pairs := [(eval (.Constant (.int i) kk p) env, do let x ← eval (src v) env; standAt pos; pure x)]) rfl (by simp) (by simp) ?_
  show wpAny C.M A (do
    let k ← eval (.Constant (.int i) kk p) env
    let x ← holding [k] (do let x ← eval (src v) env; standAt pos; pure x)
    let rest ← holding [k, x] (evalPairs [])
    pure ((k, x) :: rest)) _ E _
  refine wpAny_bind ?_
  refine wpAny_Constant_int ?_
  have k0 := push_keeps s.heap { cls := .type "dict", data := .dict #[] }
  have st0 : St C ls (aext α σ.length s.heap.objs.size) (σ ++ [VO.edict]) (s.heap.push { cls := .type "dict", data := .dict #[] }) := st.alloc k0 (fresh_size _) ⟨0, Heap.get?_push_size _ rfl⟩
  have nx0 : Nx noX ls σ.length α s.heap (σ ++ [VO.edict]).length (aext α σ.length s.heap.objs.size) (s.heap.push { cls := .type "dict", data := .dict #[] }) := by
    rw [List.length_append]; exact .alloc k0 (fresh_size _)
  have er0 := er.nx st nx0
  have K0 := K.from (t' := s.toks + 1) nx0
  refine wpAny_bind (wpAny_holding ?_)
  refine wpAny_bind ?_
  refine (H.ev sc v env ρ (σ ++ [.edict])).use rm st0 er0 K0 fun a σ₁ α₁ va h₁ t₁ e₁ st₁ er₁ nx₁ ra K₁ => ?_
  refine wpAny_bind (wpAny_standAt (wpAny_pure (wpAny_bind (wpAny_holding (wpAny_pure (wpAny_pure ?_))))))
  refine K₁.dict0 fun ei K₁ => ?_
  · have hn : σ.length < σ₁.length := (List.getElem?_eq_some_iff.mp ei).1
    have ha : α₁ σ.length = s.heap.objs.size := by exact (nx₁.ext _ (by simp)).trans aext_new
    obtain ⟨kvs, dd, rr⟩ := st₁.dictI ei rfl
    have : kvs = [] := by simpa using rr.length
    subst this
    replace dd := ha ▸ dd
    refine ⟨[(i, va)], ⟨intKind_is _ _ _ _, rfl, trivial⟩, dd, fun h' hd sb => ?_⟩
    have kp := Keeps.but sb (ha ▸ (st₁.at hn).2)
    refine K₁.upd st₁ hn (by rw [ha]; exact sb) ?_ (by refine ha ▸ ?_; exact .ref hn)
    refine ha ▸ ?_
    exact ⟨[(i, va)], hd, rfl, .cons (ra.keeps kp (Nat.le_refl _) fun _ _ => rfl) .nil⟩
theorem ev_UnaryOp (H : OpsOK C d o) (x pos) : Ev C d (eval (.UnaryOp .USub (src x) pos) env) sc env ρ σ ((o.ev sc x ρ σ).bind negV) := by
  intro ls A s α Q E rm st er K
  refine wpAny_UnaryOp ?_
  refine (H.ev sc x env ρ σ).use rm st er K fun a σ₁ α₁ va h₁ t₁ e₁ st₁ er₁ nx₁ ra K₁ => ?_
  cases a with
  | int i => obtain ⟨t, rfl⟩ := ra.inv; exact PyProof.Rows.neg_int (K₁.pure st₁ (.int _ _))
  | _ => exact K₁.dead
theorem notMarks (op : CmpOp) (e : XE) : behindInMarks op (src e) = false := by cases e <;> rfl
theorem ev_Compare (H : OpsOK C d o) (l op r pos) : Ev C d (eval (.Compare (src l) [op] [src r] pos) env) sc env ρ σ ((o.ev sc l ρ σ).bind fun a σ₁ => (o.ev sc r ρ σ₁).bind fun b σ₂ => Res.of ((cmpV σ₂ op a b).map .bool) σ₂) := by
  intro ls A s α Q E rm st er K
  refine wpAny_Compare1 ?_ (notMarks op r)
  refine (H.ev sc l env ρ σ).use rm st er K fun a σ₁ α₁ va h₁ t₁ e₁ st₁ er₁ nx₁ ra K₁ => ?_
  refine (H.ev sc r env ρ σ₁).use rm st₁ er₁ K₁ fun b σ₂ α₂ vb h₂ t₂ e₂ st₂ er₂ nx₂ rb K₂ => K₂.one fun v e K => ?_
  obtain ⟨k, e', rfl⟩ := Option.map_eq_some_iff.mp e
  exact cmpV_ok st₂ e' (RelV.nx st₁ nx₂ ra) rb rm.cLine1 fun t => K.pure st₂ (.bool k)
theorem orR_ok {X : Addr → Prop} {FL : Option Value → Prop} {l : List Env} {α : Nat → Addr} {s : Shared} {E : Value → Shared → Prop} {β γ : Type} {Rel : List Env → Heap → (Nat → Addr) → Nat → β → γ → Prop} {Q : γ → Shared → Prop} {n : Nat} {h : Heap} {a : VV} {va : Value} {x y : Res β} (K : Cont C X FL l Rel (orR (truthV a) x y) n α s Q E) (ra : RelV h α n a va) {P : Prop}
    (h : ∀ b, a = .bool b → va = .bool b → Cont C X FL l Rel (orR (some b) x y) n α s Q E → P) : P := by
  cases a with
  | bool b => exact h b rfl ra.inv K
  | _ => exact K.dead
theorem ev_Or (H : OpsOK C d o) (x y pos) : Ev C d (eval (.BoolOp .Or [src x, src y] pos) env) sc env ρ σ ((o.ev sc x ρ σ).bind fun a τ => orR (truthV a) (.ok a τ) (o.ev sc y ρ τ)) := by
  intro ls A s α Q E rm st er K
  refine wpAny_Or2 ?_
  refine (H.ev sc x env ρ σ).use rm st er K fun a σ₁ α₁ va h₁ t₁ e₁ st₁ er₁ nx₁ ra K₁ => orR_ok K₁ ra fun b e1 e2 K => ?_
  subst e2
  refine wpAny_truthy_bool ?_
  cases b with
  | true => exact K.pure st₁ ra
  | false => exact (H.ev sc y env ρ σ₁) _ _ _ _ _ _ rm st₁ er₁ K
theorem ev_And (H : OpsOK C d o) (x y pos) : Ev C d (eval (.BoolOp .And [src x, src y] pos) env) sc env ρ σ ((o.ev sc x ρ σ).bind fun a τ => orR (truthV a) (o.ev sc y ρ τ) (.ok a τ)) := by
  intro ls A s α Q E rm st er K
  refine wpAny_And2 ?_
  refine (H.ev sc x env ρ σ).use rm st er K fun a σ₁ α₁ va h₁ t₁ e₁ st₁ er₁ nx₁ ra K₁ => orR_ok K₁ ra fun b e1 e2 K => ?_
  subst e2
  refine wpAny_truthy_bool ?_
  cases b with
  | false => exact K.pure st₁ ra
  | true => exact (H.ev sc y env ρ σ₁) _ _ _ _ _ _ rm st₁ er₁ K
theorem ev_IfExp (H : OpsOK C d o) (c x y pos) : Ev C d (eval (.IfExp (src c) (src x) (src y) pos) env) sc env ρ σ ((o.cd sc c ρ σ).bind fun b τ => o.ev sc (bif b then x else y) ρ τ) := by
  intro ls A s α Q E rm st er K
  refine wpAny_IfExp ?_
  refine (H.cd sc c env ρ σ).use rm st er K fun a σ₁ α₁ va h₁ t₁ e₁ st₁ er₁ nx₁ ra K₁ => ?_
  subst ra
  induction a with
  | true => exact (H.ev sc x env ρ σ₁) _ _ _ _ _ _ rm st₁ er₁ K₁
  | false => exact (H.ev sc y env ρ σ₁) _ _ _ _ _ _ rm st₁ er₁ K₁
theorem cd_Compare (H : OpsOK C d o) (l op r pos) : Cd C d (isTrue (.Compare (src l) [op] [src r] pos) env (eval (.Compare (src l) [op] [src r] pos) env)) sc env ρ σ ((o.ev sc l ρ σ).bind fun a σ₁ => (o.ev sc r ρ σ₁).bind fun b σ₂ => Res.of (cmpV σ₂ op a b) σ₂) := by
  intro ls A s α Q E rm st er K
  refine wpAny_isTrue_Compare1 ?_ (notMarks op r)
  refine (H.ev sc l env ρ σ).use rm st er K fun a σ₁ α₁ va h₁ t₁ e₁ st₁ er₁ nx₁ ra K₁ => ?_
  refine (H.ev sc r env ρ σ₁).use rm st₁ er₁ K₁ fun b σ₂ α₂ vb h₂ t₂ e₂ st₂ er₂ nx₂ rb K₂ => K₂.one fun k e K => ?_
  exact cmpV_ok st₂ e (RelV.nx st₁ nx₂ ra) rb rm.cLine1 fun t => wpAny_truthy_bool (K.pure st₂ rfl)
theorem cd_Or (H : OpsOK C d o) (x y pos) (w : Sem Value) : Cd C d (isTrue (.BoolOp .Or [src x, src y] pos) env w) sc env ρ σ ((o.cd sc x ρ σ).bind fun a τ => orR (some a) (.ok true τ) (o.cd sc y ρ τ)) := by
  intro ls A s α Q E rm st er K
  refine wpAny_isTrue_BoolOp (wpAny_allTrue_Or_cons ?_)
  refine (H.cd sc x env ρ σ).use rm st er K fun a σ₁ α₁ va h₁ t₁ e₁ st₁ er₁ nx₁ ra K₁ => ?_
  subst ra
  cases a with
  | true => exact K₁.pure st₁ rfl
  | false =>
    refine wpAny_allTrue_Or_cons ((H.cd sc y env ρ σ₁) _ _ _ _ (fun b s' => if b = true then Q true s' else wpAny C.M A (allTrue .Or [] env) Q E s') _ rm st₁ er₁ ⟨K₁.ns, fun a σ' α' c h' t' e st nx rel => ?_, K₁.ex⟩)
    have := K₁.ok a σ' α' c h' t' e st nx rel
    subst rel
    induction a with
    | true => exact this
    | false => exact wpAny_allTrue_Or_nil this
theorem cd_And (H : OpsOK C d o) (x y pos) (w : Sem Value) : Cd C d (isTrue (.BoolOp .And [src x, src y] pos) env w) sc env ρ σ ((o.cd sc x ρ σ).bind fun a τ => orR (some a) (o.cd sc y ρ τ) (.ok false τ)) := by
  intro ls A s α Q E rm st er K
  refine wpAny_isTrue_BoolOp (wpAny_allTrue_And_cons ?_)
  refine (H.cd sc x env ρ σ).use rm st er K fun a σ₁ α₁ va h₁ t₁ e₁ st₁ er₁ nx₁ ra K₁ => ?_
  subst ra
  cases a with
  | false => exact K₁.pure st₁ rfl
  | true =>
    refine wpAny_allTrue_And_cons ((H.cd sc y env ρ σ₁) _ _ _ _ (fun b s' => if b = true then wpAny C.M A (allTrue .And [] env) Q E s' else Q false s') _ rm st₁ er₁ ⟨K₁.ns, fun a σ' α' c h' t' e st nx rel => ?_, K₁.ex⟩)
    have := K₁.ok a σ' α' c h' t' e st nx rel
    subst rel
    induction a with
    | false => exact this
    | true => exact wpAny_allTrue_And_nil this
theorem truth_ok {X : Addr → Prop} {FL : Option Value → Prop} {l : List Env} {α : Nat → Addr} {s : Shared} {E : Value → Shared → Prop} {Q : Bool → Shared → Prop} {A : Around} {a : VV} {va : Value} (K : Cont C X FL l RelB (Res.of (truthV a) σ) σ.length α s Q E) (st : St C l α σ s.heap) (ra : RelV s.heap α σ.length a va) : wpAny C.M A (truthy va) Q E s := by
  cases a with
  | bool b => cases ra.inv; exact wpAny_truthy_bool (K.pure st rfl)
  | _ => exact K.deadOf
theorem cd_value (H : OpsOK C d o) (e : XE) (he : ∀ w, isTrue (src e) env w = (do let v ← w; standAt (src e).pos; holding [v] (truthy v))) : Cd C d (isTrue (src e) env (eval (src e) env)) sc env ρ σ ((o.ev sc e ρ σ).bind fun a τ => Res.of (truthV a) τ) := by
  intro ls A s α Q E rm st er K
  refine wpAny_isTrue_value ?_ (he _)
  exact (H.ev sc e env ρ σ).use rm st er K fun a σ₁ α₁ va h₁ t₁ e₁ st₁ er₁ nx₁ ra K₁ => truth_ok (s := ⟨h₁, s.gens, s.drawn, t₁, s.os⟩) K₁ st₁ ra
theorem cd_const (c kk p) : Cd C d (isTrue (.Constant c kk p) env (eval (.Constant c kk p) env)) sc env ρ σ (constT c σ) := by
  intro ls A s α Q E rm st er K
  induction c with
  | bool b =>
    induction b with
    | true => exact wpAny_isTrue_value (wpAny_Constant_bool (wpAny_truthy_bool (K.pure st rfl))) rfl
    | false => exact K.dead
  | _ => exact K.dead
end
end Mine
end
section
open PySem.Calls
namespace Mine
theorem own_of {cd : ClassData} {o : Obj} {name : Str} (h : cd.hasDict = true) : W.ownOf cd (some o) name = lookIn name o := if_pos h
noncomputable def clsOK (K : Frag) (D : Addr) : Bool := findIn K (.ref D) "__getattribute__" == some (some (.builtin "object.__getattribute__")) && findIn K (.ref D) "__getattr__" == some none && findIn K (.ref D) "__setattr__" == some (some (.builtin "object.__setattr__")) && plainOver K D && (clsIn K D).any (·.hasDict)
noncomputable def fieldIn (K : Frag) (D : Addr) (a : Str) : Bool := findIn K (.ref D) a == some none
noncomputable def methIn (K : Frag) (D : Addr) (a : Str) (f : Addr) : Bool := findIn K (.ref D) a == some (some (.ref f)) && typeIn K (.ref f) == some (.type "function")
structure ClsFacts (K : Frag) (D : Addr) : Prop where
  ga : findIn K (.ref D) "__getattribute__" = some (some (.builtin "object.__getattribute__"))
  gh : findIn K (.ref D) "__getattr__" = some none
  sa : findIn K (.ref D) "__setattr__" = some (some (.builtin "object.__setattr__"))
  po : plainOver K D = true
  cd : ∃ cd, clsIn K D = some cd ∧ cd.hasDict = true
theorem clsFacts {K : Frag} {D : Addr} (e : clsOK K D = true) : ClsFacts K D := by
  unfold clsOK at e
  simp only [Bool.and_eq_true, beq_iff_eq] at e
  obtain ⟨⟨⟨⟨a, b⟩, c⟩, d⟩, f⟩ := e
  obtain ⟨cd, h1, h2⟩ := any_some f
  exact ⟨a, b, c, d, cd, h1, h2⟩
structure Facts2 (C : Cx) (G : Top') : Prop where
  field : ∀ D a, G.field D a = true → clsOK C.K D = true ∧ fieldIn C.K D a = true
  meth : ∀ D a f, G.meth D a = some f → clsOK C.K D = true ∧ methIn C.K D a f = true
section
variable {C : Cx} {d : Nat} {G : Top'} {cl : CallO} {o : Ops} {env : Env} {sc : Scope} {σ : VH} {ρ : VE} {l : List Env} {α : Nat → Addr} {s : Shared} {A : Around} {E : Value → Shared → Prop}
theorem nsSet_at {a : Addr} {o : Obj} {es : Array DictEntry} {ep : Nat} {m : Str → Option Value} {name : Str} {v : Value} {Q : Unit → Shared → Prop} (ho : s.heap.get? a = some o) (hd : o.data = .dict es ep) (hk : StrKeys es) (hm : ∀ n, nsFind es n = m n)
    (h : ∀ h' o' es' ep', h'.get? a = some o' → o'.cls = o.cls → o'.data = .dict es' ep' → es'.size ≤ (if (m name).isSome then es.size else es.size + 1) → h'.Ns a (fun x => if x = name then some v else m x) → Heap.SameBut a s.heap h' → Q () { s with heap := h', toks := s.toks + 1 }) :
    wpAny C.M A (nsSet a name v) Q E s := by
  have hany : es.any (·.refKey) = false := by
    rw [Array.any_eq_false']; intro e he; obtain ⟨n, t, h⟩ := hk e he; simp [DictEntry.refKey, h]
  skip
  refine wpAny_bind (wpAny_bind (wpAny_askSetting (wpAny_pure (wpAny_bind (wpAny_mkText (wpAny_bind (wpAny_loadPart ho ?_)))))))
  refine hd ▸ ?_
  dsimp only
  have c : (!es.any (·.key.isStr name) && es.any (·.refKey)) = false := by rw [hany, Bool.and_false]
  rw [aRefKeyMayBeTheName_at, c]
  refine wpAny_updatePart ho ?_
  obtain ⟨cc, d, dt, sl⟩ := o
  simp only at hd
  subst hd
  have hf : (m name).isSome = (es.findIdx? (·.key.isStr name)).isSome := by
    rw [← hm, nsFind, findBy_of_findIdx?]
    cases hi : es.findIdx? fun e => e.key.isStr name with
    | none => simp
    | some j =>
      obtain ⟨hj, _, _⟩ := Array.findIdx?_eq_some_iff_getElem.mp hi
      simp [hj]
  cases hi : es.findIdx? (·.key.isStr name) with
  | some i =>
    have e1 := Heap.get?_update_self (Obj.putName name (PyData.keyHash C.w.params name) (.str name s.toks) v) ho (by simp only [Obj.putName_eq, Obj.putNameByArray, hi]; rfl)
    refine h _ _ (es.modify i fun e => { e with val := v }) ep e1 (by simp only [Obj.putName_eq, Obj.putNameByArray, hi]) (by simp only [Obj.putName_eq, Obj.putNameByArray, hi]) (by simp [hf, hi]) ?_ (Heap.SameBut.update ..)
    refine ⟨_, _, ep, e1, by simp only [Obj.putName_eq, Obj.putNameByArray, hi]; rfl, hk.modify _ _, fun x => ?_⟩
    show _ = if x = name then some v else m x
    rw [← hm]; exact findBy_modify (fun n v => v.isStr n) Value.isStr_inj es name x v i hi
  | none =>
    have e1 := Heap.get?_update_self (Obj.putName name (PyData.keyHash C.w.params name) (.str name s.toks) v) ho (by simp only [Obj.putName_eq, Obj.putNameByArray, hi]; rfl)
    refine h _ _ (es.push ⟨PyData.keyHash C.w.params name, .str name s.toks, v⟩) (ep + 1) e1 (by simp only [Obj.putName_eq, Obj.putNameByArray, hi]) (by simp only [Obj.putName_eq, Obj.putNameByArray, hi]) (by simp [hf, hi]) ?_ (Heap.SameBut.update ..)
    refine ⟨_, _, ep + 1, e1, by simp only [Obj.putName_eq, Obj.putNameByArray, hi]; rfl, hk.push _ _ _ _, fun x => ?_⟩
    show _ = if x = name then some v else m x
    rw [← hm]
    exact findBy_push (fun n v => v.isStr n) es name x _ _ v (fun y => by
      show (name == y) = decide (y = name)
      by_cases h : y = name
      · subst h; simp
      · have : ¬ name = y := fun e => h e.symm
        simp [h, this]) hi
theorem lookIn_ns {h : Heap} {a : Addr} {o : Obj} {m : Str → Option Value} {name : Str} (hn : h.Ns a m) (ho : h.get? a = some o) : lookIn name o = some (m name) := by
  refine cps fun G k_ => ?_
  obtain ⟨o', es, ep, ho', hd, hk, hm⟩ := hn
  refine k_ ?_
  rw [ho] at ho'; obtain rfl := Option.some.inj ho'
  unfold lookIn
  refine hd ▸ ?_
  dsimp only
  have e1 := hm name
  unfold nsFind findBy at e1
  replace e1 := (Array.find?_toList) ▸ e1
  cases q : es.toList.find? (·.key.isStr name) with
  | some e => rw [q] at e1; rw [← e1]; rfl
  | none =>
    replace e1 := q ▸ e1
    dsimp only
    rw [if_neg]
    · rw [← e1]; rfl
    · simp only [Bool.not_eq_true, List.any_eq_false]
      intro e he
      obtain ⟨n, t, h⟩ := hk e (by simpa using he)
      simp [DictEntry.refKey, h]
theorem St.inst {σ : VH} (S : St C l α σ s.heap) {r D dd : Nat} {fs : List (Str × VV)} (e : σ[r]? = some (.inst D dd false)) (ed : σ[dd]? = some (.attrs fs)) :
    Y5 fun ox od m es ep => C8 (InstAt s.heap (α r) ox D (some od)) (ox.dict = some (α dd)) (s.heap.get? (α dd) = some od) (od.cls = .type "dict") (od.data = .dict es ep) (es.size ≤ fs.length) (s.heap.Ns (α dd) m) (∀ x, AtR s.heap α σ.length (assocGet x fs) (m x)) := by
  refine cps fun G k_ => ?_
  obtain ⟨h1, ox, h2, h3, h4, h5⟩ := S.objs r _ e
  obtain ⟨m, h6, ⟨od, h7, h8, es, ep, h9, h10⟩, h11⟩ := S.objs dd _ ed
  refine k_ ?_
  refine ⟨ox, od, m, es, ep, ⟨h2, h3, ?_, ?_⟩, h4, h7, h8, h9, h10, h6, h11⟩
  · have : ox.data = .plain := h5
    unfold notCls; exact this ▸ rfl
  · refine h4 ▸ ?_; exact h7
theorem handed_of {h : Heap} {n : Nat} {v : VV} {w : Value} (r : RelV h α n v w) (hh : handV v = true) : handedIn w = true := by
  cases r <;> first | rfl | exact ft hh
theorem instO_of {c : Option VO} {q : Addr × Nat} (h : instO c = some q) : c = some (.inst q.1 q.2 false) := by
  cases c with
  | none => exact nomatch h
  | some c =>
    induction c with
    | inst C d b =>
      induction b with
      | true => exact nomatch h
      | false => exact (Option.some.inj h) ▸ rfl
    | _ => exact nomatch h
theorem attrsO_of {c : Option VO} {fs : List (Str × VV)} (h : attrsO c = some fs) : c = some (.attrs fs) := by
  cases c with
  | none => exact nomatch h
  | some c =>
    induction c with
    | attrs gs => exact (Option.some.inj h) ▸ rfl
    | _ => exact nomatch h
theorem field_of {σ : VH} {o : VV} {a : Str} {p : Nat × List (Str × VV)} {h : Heap} {n : Nat} {vo : Value} (e : fieldO G σ o a = some p) (ro : RelV h α n o vo) : Y2 fun r D => C4 (vo = .ref (α r)) (σ[r]? = some (.inst D p.1 false)) (σ[p.1]? = some (.attrs p.2)) (G.field D a = true) := by
  refine cps fun G k_ => ?_
  obtain ⟨r, e1, e⟩ := Option.bind_eq_some_iff.mp e
  obtain ⟨q, e2, e⟩ := Option.bind_eq_some_iff.mp e
  obtain ⟨fs, e3, e⟩ := Option.bind_eq_some_iff.mp e
  obtain ⟨hf, rfl⟩ := some_ite e
  refine k_ ?_
  cases o with
  | ref r' =>
    obtain rfl := Option.some.inj e1
    exact ⟨_, q.1, ro.inv.2, instO_of e2, attrsO_of e3, hf⟩
  | _ => exact nomatch e1
theorem attrV_ok (F : Facts2 C G) {σ : VH} (S : St C l α σ s.heap) {o v : VV} {a : Str} {vo : Value} {expr : Bool} {Q : Value → Shared → Prop} (e : attrV G σ o a = some v) (ro : RelV s.heap α σ.length o vo)
    (hq : ∀ w t, RelV s.heap α σ.length v w → Q w { s with toks := t }) : wpAny C.M A (getAttr vo a expr) Q E s := by
  refine cps fun G k_ => ?_
  obtain ⟨p, e0, e⟩ := Option.bind_eq_some_iff.mp e
  obtain ⟨v', ea, e⟩ := Option.bind_eq_some_iff.mp e
  obtain ⟨hh, rfl⟩ := some_ite e
  obtain ⟨r, D, rfl, ei, ed, hf⟩ := field_of e0 ro
  obtain ⟨hc, hfi⟩ := F.field D a hf
  have X := clsFacts hc
  obtain ⟨ox, od, m, es, ep, I, h4, h7, h8, h9, h10, h6, h11⟩ := S.inst ei ed
  have h11 := h11 a
  rw [ea] at h11
  obtain ⟨w, e1, rw⟩ := h11
  obtain ⟨cd, hcd, hhd⟩ := X.cd
  refine k_ ?_
  refine get_value (v := w) (C.inK.keeps S.stay) I X.ga ?_ (handed_of rw hh) (hq _ _ rw)
  unfold findObj
  rw [hcd, Option.bind_some, show findIn C.K (.ref D) a = some none from beq_iff_eq.mp hfi]
  rw [Option.bind_some, own_of hhd, lookIn_ns h6 h7, e1]; rfl
theorem assocGet_set {K V : Type} [DecidableEq K] {k x : K} {v : V} : ∀ {l : List (K × V)}, assocGet x (assocSet k v l) = if x = k then some v else assocGet x l
  | [] => by
    by_cases q : x = k
    · subst q; simp [assocSet, assocGet]
    · have : ¬ k = x := fun e => q e.symm
      simp [assocSet, assocGet, q, this]
  | (y, u) :: r => by
    have ih := assocGet_set (k := k) (x := x) (v := v) (l := r)
    by_cases p : y = k
    · subst p
      rw [assocSet, if_pos rfl, assocGet, assocGet]
      by_cases q : x = y
      · subst q; simp
      · have : ¬ y = x := fun e => q e.symm
        simp [q, this]
    · rw [assocSet, if_neg p, assocGet, assocGet, ih]
      by_cases q : y = x
      · subst q; simp [p]
      · simp [q]
theorem assocSet_length {K V : Type} [DecidableEq K] {k : K} {v : V} : ∀ {l : List (K × V)}, (assocSet k v l).length = if (assocGet k l).isSome then l.length else l.length + 1
  | [] => rfl
  | (y, u) :: r => by
    by_cases p : y = k
    · rw [assocSet, if_pos p, assocGet, if_pos p]; rfl
    · rw [assocSet, if_neg p, assocGet, if_neg p, List.length_cons, assocSet_length, List.length_cons]
      split <;> rfl
theorem okE_eq {v w : VV} (e : okE v = some w) : v = w := by cases v <;> first | exact Option.some.inj e | exact nn e
theorem lookE_set {k x : Str} {v : VV} {ρ : VE} : lookE x (assocSet k v ρ) = if x = k then okE v else lookE x ρ := by
  unfold lookE
  rw [assocGet_set]
  split <;> rfl
theorem lookE_get {x : Str} {v : VV} {ρ : VE} (e : lookE x ρ = some v) : assocGet x ρ = some v ∧ okE v = some v := by
  obtain ⟨w, e1, e2⟩ := Option.bind_eq_some_iff.mp e
  cases okE_eq e2
  exact ⟨e1, e2⟩
theorem lookE_of {x : Str} {v : VV} {ρ : VE} (e : assocGet x ρ = some v) (h : okE v = some v) : lookE x ρ = some v := by
  unfold lookE
  rw [e]; exact h
theorem setAttrV_ok (F : Facts2 C G) {σ σ' : VH} (S : St C l α σ s.heap) {o v : VV} {a : Str} {vo vv : Value} {Q : Unit → Shared → Prop} (e : setAttrV G σ o a v = some σ') (ro : RelV s.heap α σ.length o vo) (rv : RelV s.heap α σ.length v vv)
    (hq : ∀ h' t, Upd C l α σ s.heap σ' h' → Q () { s with heap := h', toks := t }) : wpAny C.M A (setAttr vo a vv) Q E s := by
  refine cps fun G k_ => ?_
  obtain ⟨p, e0, e⟩ := Option.bind_eq_some_iff.mp e
  obtain ⟨hl, rfl⟩ := some_ite e
  obtain ⟨r, D, rfl, ei, ed, hf⟩ := field_of e0 ro
  obtain ⟨dd, fs⟩ := p
  obtain ⟨hc, hfi⟩ := F.field D a hf
  have X := clsFacts hc
  have hfi : findIn C.K (.ref D) a = some none := beq_iff_eq.mp hfi
  obtain ⟨ox, od, m, es, ep, I, h4, h7, h8, h9, h10, h6, h11⟩ := S.inst ei ed
  refine k_ ?_
  have hdd : dd < σ.length := (List.getElem?_eq_some_iff.mp ed).1
  have XK := C.inK.keeps S.stay
  refine set_plain XK I X.sa ?_
  have I' : InstAt ({ s with toks := s.toks + 1 } : Shared).heap (α r) ox D (some od) := I
  refine osa_open XK I' X.po (r := none) (by unfold takerIn; rw [hfi]; rfl) fun b => ?_
  obtain ⟨cd, hcd, hhd⟩ := X.cd
  obtain ⟨hp, g, dr, tk, os⟩ := s
  obtain ⟨hx, hcl, hn, -⟩ := I
  obtain ⟨oc, odi, oda, osl⟩ := ox
  dsimp only at hcl h4
  subst hcl h4
  refine wpAny_bind (wpAny_pure (wpAny_bind (wpAny_bind (wpAny_loadPart hx (wpAny_bind ((looks_clsIn XK hcd).at ?_))))))
  rw [hhd]
  refine wpAny_pure (a := some (α dd)) (wpAny_bind (wpAny_pure (wpAny_bind ?_)))
  obtain ⟨o', es', ep', ho', hd', hk, hm⟩ := id h6
  rw [h7] at ho'; obtain rfl := Option.some.inj ho'
  rw [h9] at hd'; cases hd'
  refine nsSet_at h7 h9 hk hm fun h' o' es' ep' g1 g2 g3 g4 g5 sb => ?_
  refine wpAny_bind (wpAny_lookBehind g1 (by refine g3 ▸ ?_; exact pastItsLine_dict (by have := okLen_le hl; split at g4 <;> lia)) ?_)
  refine wpAny_pure (hq _ _ ⟨dd, _, hdd, rfl, sb, _, g5, ⟨o', g1, g2.trans h8, es', ep', g3, ?_⟩, fun x => ?_⟩)
  · rw [assocSet_length, ← (h11 a).isSome]
    split <;> rename_i q <;> simp only [q, if_true, if_false, Bool.false_eq_true] at g4 <;> lia
  · have kp := Keeps.but sb (S.at hdd).2
    rw [assocGet_set]
    by_cases q : x = a
    · rw [if_pos q, if_pos q]
      exact ⟨vv, rfl, rv.keeps kp (Nat.le_refl _) fun _ _ => rfl⟩
    · rw [if_neg q, if_neg q]
      exact (h11 x).keeps kp (Nat.le_refl _) fun _ _ => rfl
end
end Mine
end
section
open PySem.Calls
namespace Mine
section
variable {C : Cx} {d : Nat} {G : Top'} {cl : CallO} {o : Ops} {env : Env} {sc : Scope} {σ : VH} {ρ : VE} {l : List Env} {α : Nat → Addr} {s : Shared} {A : Around} {E : Value → Shared → Prop}
theorem base_ok {x : XE} {a : Str} (h : baseOK x = true) (w : Sem Value) : attributeBase (src x) a env w = w := by
  cases x with
  | callN f q as p => induction as <;> first | rfl | exact ft h
  | _ => rfl
theorem ev_Attribute (F : Facts2 C G) (H : OpsOK C d o) (x a pos) : Ev C d (eval (.Attribute (src x) a pos) env) sc env ρ σ (.guard (baseOK x) ((o.ev sc x ρ σ).bind fun v τ => Res.of (attrV G τ v a) τ)) := by
  intro ls A s α Q E rm st er K
  refine K.guard fun hb K => ?_
  rw [arm_eval_Attribute, base_ok hb]
  refine wpAny_bind ?_
  refine (H.ev sc x env ρ σ).use rm st er K fun v σ₁ α₁ va h₁ t₁ e₁ st₁ er₁ nx₁ ra K₁ => K₁.one fun w e K => ?_
  refine wpAny_bind (wpAny_standAt (wpAny_bind (wpAny_holding ?_)))
  exact attrV_ok F st₁ e ra fun val t rw' => wpAny_bind (wpAny_letTemporaryGo (wpAny_pure (K.pure st₁ rw')))
theorem sub_type {h : Heap} {σ : VH} (S : St C l α σ s.heap) {o i v : VV} {vo : Value} (e : getV σ o i = some v) (ro : RelV s.heap α σ.length o vo) : Y2 fun T id => typeLookup (.type T) "__getitem__" = pure (some (.builtin id)) ∧ s.TypeIs vo T := by
  have I := getV_inv e
  clear e
  induction I
  case tup =>
    obtain ⟨_, _, rfl, ht, _⟩ := ro.inv
    exact ⟨"tuple", _, slot_tuple_getitem.lookup, ht.typeIs⟩
  case lst r _ _ _ ei _ _ _ =>
    obtain ⟨_, rfl⟩ := ro.inv
    obtain ⟨vs, c, hv, _⟩ := S.objs r _ ei
    exact ⟨"list", _, slot_list_getitem.lookup, (isList_of hv).typeIs⟩
  case dI ei e1 _ =>
    obtain ⟨_, rfl⟩ := ro.inv
    obtain ⟨kvs, d, _⟩ := S.dictI ei e1
    exact ⟨"dict", _, slot_dict_getitem.lookup, d.typeIs⟩
  case dS ei e1 _ =>
    obtain ⟨_, rfl⟩ := ro.inv
    obtain ⟨kvs, d, _⟩ := S.dictS ei e1
    exact ⟨"dict", _, slot_dict_getitem.lookup, d.typeIs⟩
theorem notSlice (i : XE) : ∀ va vb, subscripted (src i) false va vb = operate [va, vb] (getItem va vb) := by cases i <;> exact fun _ _ => rfl
theorem ev_Subscript (H : OpsOK C d o) (x i pos) : Ev C d (eval (.Subscript (src x) (src i) pos) env) sc env ρ σ ((o.ev sc x ρ σ).bind fun v σ₁ => (o.ev sc i ρ σ₁).bind fun k τ => Res.of (getV τ v k) τ) := by
  intro ls A s α Q E rm st er K
  rw [eval_Subscript]
  refine wpAny_bind ?_
  refine (H.ev sc x env ρ σ).use rm st er K fun a σ₁ α₁ va h₁ t₁ e₁ st₁ er₁ nx₁ ra K₁ => ?_
  refine wpAny_bind (wpAny_holding ?_)
  refine (H.ev sc i env ρ σ₁).use rm st₁ er₁ K₁ fun b σ₂ α₂ vb h₂ t₂ e₂ st₂ er₂ nx₂ rb K₂ => K₂.one fun v e K => ?_
  have ra := RelV.nx st₁ nx₂ ra
  refine wpAny_bind (wpAny_standAt ?_)
  obtain ⟨T, id, hl, hT⟩ := sub_type (s := ⟨h₂, s.gens, s.drawn, t₂, s.os⟩) (h := h₂) st₂ e ra
  refine wpAny_bind ?_
  refine (getitemInPython_of_ne hT.not_modules) ▸ ?_
  refine wpAny_bind (wpAny_specialOf hT hl (wpAny_pure ?_))
  rw [notSlice]
  refine wpAny_bind (wpAny_operating (getV_ok st₂ e ra rb fun w t rw' => ?_))
  exact wpAny_bind (wpAny_letTemporaryGo (wpAny_pure (K.pure st₂ rw')))
theorem omap_inv {σ : VH} {r : Nat} {f : List VV → List VV} {p : VO} (e : σ[r]?.bind (omap f) = some p) : ∃ xs, C3 (σ[r]? = some (.list xs)) (okLen xs.length = true) (p = .list (f xs)) := by
  obtain ⟨ob, e1, e2⟩ := Option.bind_eq_some_iff.mp e
  induction ob <;> try (exact nn e2; done)
  obtain ⟨h, rfl⟩ := some_ite e2
  exact ⟨_, e1, h, rfl⟩
theorem sliceV_ok {σ : VH} (S : St C l α σ s.heap) {v : VV} {val : Value} {f : List VV → List VV} {X : Addr → Prop} {FL : Option Value → Prop} {Q : Value → Shared → Prop} (K : Cont C X FL l RelE (sliceV σ v f) σ.length α s Q E) (r : RelV s.heap α σ.length v val) :
    Y3 fun a items xs => C5 (val = .ref a) (s.heap.IsList a items) (items.size ≤ sizeLine) (RelVs s.heap α σ.length xs items.toList) (∀ (zs : List Value) (o1 : Obj) t, RelVs s.heap α σ.length (f xs) zs → Q (.ref (s.heap.objs.size + 1)) ⟨(s.heap.push o1).push { cls := .type "list", data := .seq zs.toArray }, s.gens, s.drawn, t, s.os⟩) := by
  cases v <;> try exact K.dead
  rename_i r₀
  obtain ⟨hi, rfl⟩ := r.inv
  replace K : Cont C X FL l RelE (newO σ (σ[r₀]?.bind (omap f))) σ.length α s Q E := K
  cases e : σ[r₀]?.bind (omap f) with
  | none => replace K := e ▸ K; exact K.dead
  | some p =>
    rw [e] at K
    obtain ⟨xs, ei, hl, rfl⟩ := omap_inv e
    obtain ⟨vs, c, hv, rr⟩ := S.objs r₀ _ ei
    refine ⟨_, vs, xs, rfl, isList_of hv, by have := rr.length; simp at this; refine this ▸ ?_; exact okLen_le hl, rr, fun zs o1 t rz => ?_⟩
    have k : ∀ b o, s.heap.get? b = some o → ((s.heap.push o1).push { cls := .type "list", data := .seq zs.toArray }).get? b = some o := fun b o e => push_keeps _ _ b o (push_keeps _ _ b o e)
    refine Cont.alloc (o := .list (f xs)) K S k (by cases q : s.heap.get? (s.heap.objs.size + 1) with | none => rfl | some o => exact absurd (Heap.lt_size q) (Nat.not_lt_of_le (Nat.le_succ _))) ⟨zs.toArray, 0, ?_, ?_⟩ relRef_new
    · have := Heap.get?_push_size (s.heap.push o1) (o := { cls := .type "list", data := .seq zs.toArray }) rfl
      rwa [Heap.size_push] at this
    · exact RelVs.keeps (Keeps.of k) (Nat.le_succ _) aext_old (by simpa using rz)
theorem nat_ok {X : Addr → Prop} {FL : Option Value → Prop} {β γ : Type} {Rel : List Env → Heap → (Nat → Addr) → Nat → β → γ → Prop} {Q : γ → Shared → Prop} {n n' : Nat} {h : Heap} {b : VV} {vb : Value} (f : Option Nat → Res β) (K : Cont C X FL l Rel (f (natV b)) n α s Q E) (h0 : f none = .stuck) (rb : RelV h α n' b vb) {P : Prop}
    (go : ∀ (k : Nat) t, vb = .int (k : Int) t → Cont C X FL l Rel (f (some k)) n α s Q E → P) : P := by
  have no : Cont C X FL l Rel (f none) n α s Q E → P := fun K => (K.ns h0).elim
  cases b with
  | int i =>
    induction i with
    | ofNat k => obtain ⟨t, e⟩ := rb.inv; exact go k t e K
    | negSucc k => exact no K
  | _ => exact no K
theorem ev_take (H : OpsOK C d o) (x p k kk pp p2 pos) : Ev C d (eval (.Subscript (.Name x p) (.Slice none (some (.Constant (.int (.ofNat k)) kk pp)) none p2) pos) env) sc env ρ σ ((o.ev sc (.name x p) ρ σ).bind fun v τ => sliceV τ v (·.take k)) := by
  intro ls A s α Q E rm st er K
  refine wpAny_Subscript_list_slice ?_
  refine (H.ev sc (.name x p) env ρ σ).use rm st er K fun a σ₁ α₁ va h₁ t₁ e₁ st₁ er₁ nx₁ ra K₁ => ?_
  obtain ⟨ad, items, xs, rfl, hl, hsz, rr, hq⟩ := sliceV_ok (s := ⟨h₁, s.gens, s.drawn, t₁, s.os⟩) st₁ K₁ ra
  rw [evalPart_none, evalPart_some]
  refine wpAny_pure (wpAny_Constant_int ⟨ad, items, none, some (k : Int), rfl, hl, hsz, .none, .int _ _, ?_⟩)
  rw [slicePick_upto']
  exact hq _ _ _ (rr.take k)
theorem ev_drop (H : OpsOK C d o) (x p lo p2 pos) : Ev C d (eval (.Subscript (.Name x p) (.Slice (some (src lo)) none none p2) pos) env) sc env ρ σ ((o.ev sc (.name x p) ρ σ).bind fun v σ₁ => (o.ev sc lo ρ σ₁).bind fun i τ => sliceBy τ v (natV i)) := by
  intro ls A s α Q E rm st er K
  refine wpAny_Subscript_list_slice ?_
  refine (H.ev sc (.name x p) env ρ σ).use rm st er K fun a σ₁ α₁ va h₁ t₁ e₁ st₁ er₁ nx₁ ra K₁ => ?_
  rw [evalPart_none, evalPart_some]
  refine (H.ev sc lo env ρ σ₁).use rm st₁ er₁ K₁ fun b σ₂ α₂ vb h₂ t₂ e₂ st₂ er₂ nx₂ rb K₂ => ?_
  refine nat_ok (Mine.sliceBy σ₂ a) K₂ rfl rb fun k t e K => ?_
  subst e
  obtain ⟨ad, items, xs, e, hl, hsz, rr, hq⟩ := sliceV_ok (s := ⟨h₂, s.gens, s.drawn, t₂, s.os⟩) st₂ K (RelV.nx st₁ nx₂ ra)
  refine wpAny_pure ⟨ad, items, some (k : Int), none, e, hl, hsz, .int _ _, .none, ?_⟩
  rw [slicePick_from']
  exact hq _ _ _ (rr.drop k)
theorem ev_rev (H : OpsOK C d o) (x p kk pp p1 p2 pos) : Ev C d (eval (.Subscript (.Name x p) (.Slice none none (some (.UnaryOp .USub (.Constant (.int 1) kk pp) p1)) p2) pos) env) sc env ρ σ ((o.ev sc (.name x p) ρ σ).bind fun v τ => sliceV τ v List.reverse) := by
  intro ls A s α Q E rm st er K
  refine wpAny_Subscript_Slice_step (T := "list") list_getitem_lookup ?_
  refine (H.ev sc (.name x p) env ρ σ).use rm st er K fun a σ₁ α₁ va h₁ t₁ e₁ st₁ er₁ nx₁ ra K₁ => ?_
  obtain ⟨ad, items, xs, rfl, hl, hsz, rr, hq⟩ := sliceV_ok (s := ⟨h₁, s.gens, s.drawn, t₁, s.os⟩) st₁ K₁ ra
  refine wpAny_Slice ?_
  rw [evalPart_none, evalPart_some]
  refine wpAny_pure (wpAny_pure (wpAny_UnaryOp (wpAny_Constant_int (PyProof.Rows.neg_int ?_))))
  refine ⟨(hl.push _).typeIs, wpAny_getItem_list_slice (hl.push _) (Heap.IsSliceOf.new ..) .none .none (.int (-1) _) (by simp) ?_ hsz⟩
  rw [Heap.size_push, krv_pick]
  exact hq _ _ _ rr.reverse
end
end Mine
end
section
open PySem.Calls
namespace Mine
theorem insI_perm (x : Int) : ∀ l : List Int, (insI x l).Perm (x :: l)
  | [] => .refl _
  | y :: r => by
    unfold insI
    split
    · exact .refl _
    · exact ((insI_perm x r).cons y).trans (.swap x y r)
theorem sortI_perm : ∀ l : List Int, (sortI l).Perm l
  | [] => .refl _
  | x :: r => (insI_perm x (sortI r)).trans ((sortI_perm r).cons x)
theorem insI_sorted (x : Int) : ∀ l : List Int, l.Pairwise (· ≤ ·) → (insI x l).Pairwise (· ≤ ·)
  | [], _ => by simp [insI]
  | y :: r, h => by
    unfold insI
    have h' := List.pairwise_cons.mp h
    split
    · rename_i q
      exact List.pairwise_cons.mpr ⟨fun z hz => by
        cases hz with
        | head => exact q
        | tail _ hz => exact Int.le_trans q (h'.1 z hz), h⟩
    · rename_i q
      refine List.pairwise_cons.mpr ⟨fun z hz => ?_, insI_sorted x r h'.2⟩
      have := (insI_perm x r).mem_iff.mp hz
      cases this with
      | head => lia
      | tail _ hz => exact h'.1 z hz
theorem sortI_sorted : ∀ l : List Int, (sortI l).Pairwise (· ≤ ·)
  | [] => .nil
  | x :: r => insI_sorted x _ (sortI_sorted r)
section
variable {C : Cx} {d : Nat} {G : Top'} {σ : VH} {l : List Env} {α : Nat → Addr} {s : Shared} {A : Around} {E : Value → Shared → Prop}
theorem ints_of {h : Heap} {n : Nat} {vs : List Value} {ks : List Int} (r : IntsAre vs ks) : RelVs h α n (ks.map VV.int) vs := by
  induction r with
  | nil => exact .nil
  | cons n t _ ih => exact .cons (.int n t) ih
theorem strs_of {h : Heap} {n : Nat} {vs : List Value} {ks : List Str} (r : StrsAre vs ks) : RelVs h α n (ks.map VV.str) vs := by
  induction r with
  | nil => exact .nil
  | cons n t _ ih => exact .cons (.str n t) ih
theorem keys_of {K : Type} {kvs : List (K × Value)} {P : K → Value → Prop} {R : List Value → List K → Prop} (h0 : R [] []) (h1 : ∀ {k v vs ks}, P k v → R vs ks → R (v :: vs) (k :: ks)) (vs : List Value) : ∀ (i : Nat), vs.length + i = kvs.length → (∀ j v, vs[j]? = some v → Y2 fun k x => kvs[j + i]? = some (k, x) ∧ P k v) → R vs ((kvs.drop i).map (·.1)) := by
  induction vs with
  | nil =>
    intro i hl _
    have : kvs.drop i = [] := List.drop_eq_nil_of_le (by simp at hl; lia)
    rw [this]; exact h0
  | cons v vs ih =>
    intro i hl h
    obtain ⟨k, x, e, hk⟩ := h 0 v rfl
    rw [Nat.zero_add] at e
    have e2 : kvs.drop i = (k, x) :: kvs.drop (i + 1) := by
      obtain ⟨hi, e⟩ := List.getElem?_eq_some_iff.mp e
      rw [List.drop_eq_getElem_cons hi, e]
    rw [e2]
    exact h1 hk (ih (i + 1) (by simp at hl; lia) fun j v hv => by
      obtain ⟨k', x', e', h'⟩ := h (j + 1) v hv
      exact ⟨k', x', by rw [← e', Nat.add_right_comm]; rfl, h'⟩)
theorem intKeys_of {prog : Program} {w : World} {kvs : List (Int × Value)} (vs : List Value) (i : Nat) (hl : vs.length + i = kvs.length) (h : ∀ j v, vs[j]? = some v → Y2 fun k x => kvs[j + i]? = some (k, x) ∧ (intKind prog w).is k v = true) : IntsAre vs ((kvs.drop i).map (·.1)) :=
  keys_of (P := fun k v => (intKind prog w).is k v = true) .nil (fun {k v vs ks} hk r => by obtain ⟨t, rfl⟩ := Value.isInt_shape hk; exact .cons k t r) vs i hl h
theorem strKeys_of {prog : Program} {w : World} {kvs : List (Str × Value)} (vs : List Value) (i : Nat) (hl : vs.length + i = kvs.length) (h : ∀ j v, vs[j]? = some v → Y2 fun k x => kvs[j + i]? = some (k, x) ∧ (PySem.strKind prog w).is k v = true) : StrsAre vs ((kvs.drop i).map (·.1)) :=
  keys_of (P := fun k v => (PySem.strKind prog w).is k v = true) .nil (fun {k v vs ks} hk r => by obtain ⟨t, rfl⟩ := Value.isStrOf_shape hk; exact .cons k t r) vs i hl h
theorem dictAt_of {K : Type} [DecidableEq K] {prog : Program} {w : World} {knd : KeyKind prog w K} {h : Heap} {a : Addr} {kvs : List (K × Value)} (d : h.DictOf knd a kvs) : ∃ ep, h.DictAt knd a kvs ep := by
  obtain ⟨o, es, ep, r⟩ := d; exact ⟨ep, o, es, r⟩
theorem Cont.newList {X : Addr → Prop} {FL : Option Value → Prop} {Q : Value → Shared → Prop} {xs : List VV} (S : St C l α σ s.heap) (K : Cont C X FL l RelE (Mine.alloc σ (.list xs)) σ.length α s Q E) {h' : Heap} {a : Addr} {its : Array Value} {c : Nat} {t : Nat}
    (k : ∀ b o, s.heap.get? b = some o → h'.get? b = some o) (ha : s.heap.get? a = none) (e : h'.get? a = some (W.listOf its c)) (r : RelVs s.heap α σ.length xs its.toList) : Q (.ref a) ⟨h', s.gens, s.drawn, t, s.os⟩ :=
  Cont.alloc (o := .list xs) K S k ha ⟨its, c, e, RelVs.keeps (Keeps.of k) (Nat.le_succ _) aext_old r⟩ relRef_new
theorem sort_dictI {r : Nat} {kvs : List (Int × Value)} {Q : Value → Shared → Prop} (S : St C l α σ s.heap) (hi : r < σ.length) (hh : A.handled = none) (dd : s.heap.DictOf (iK C) (α r) kvs) (h64 : kvs.length < 64)
    (h : ∀ h' tk a its c, (∀ b o, s.heap.get? b = some o → h'.get? b = some o) → s.heap.get? a = none → h'.get? a = some (W.listOf its c) → IntsAre its.toList (sortI (kvs.map (·.1))) → Q (.ref a) ⟨h', s.gens, s.drawn, tk, s.os⟩) :
    wpAny C.M A (call (.builtin "sorted") [.ref (α r)]) Q E s := by
  obtain ⟨ep, dt⟩ := dictAt_of dd
  refine call_function_entry kind_sorted plain_sorted entry_sorted (args_sorted1 _) ?_
  unfold Builtin.«sorted»
  refine wpAny_bind (m := checkCount "sorted" 1 1 _) (wpAny_pure ?_)
  refine wpAny_bind (kdu_collect (A := A.in1) (kdl_dict (S.notModules hi)) hh dt (by rw [sizeLine_eq]; lia) fun h' tk acc hk hacc => ?_)
  have hl : acc.toList.length = kvs.length := by rw [Array.length_toList]; exact hacc.1
  refine wpAny_bind (wpAny_newList ?_ (by rw [hl, sizeLine_eq]; lia))
  have hI : IntsAre acc.toList (kvs.map (·.1)) := by
    have := intKeys_of (prog := PG) (w := C.w) (kvs := kvs) acc.toList 0 (by simpa using hl) fun j v e => by
      obtain ⟨k, x, e1, e2⟩ := hacc.2 j v (by rw [← Array.getElem?_toList]; exact e)
      exact ⟨k, x, e1, e2⟩
    simpa using this
  have hoL : (h'.push (seqObj "list" acc.toList.toArray 0)).get? h'.objs.size = some (seqObj "list" acc.toList.toArray 0) := Heap.get?_push_size _ rfl
  show wpAny _ _ _ _ _ ({ s with heap := h'.push (seqObj "list" acc.toList.toArray 0), toks := tk } : Shared)
  refine wpAny_bind (wpAny_holding (wpAny_call_entry slot_list_sort ⟨_, hoL, rfl⟩ entry_list_sort (list_sort_tree hoL hI (by rw [hl]; exact h64) fun out ns' a1 a2 a3 => ⟨_, rfl, ?_⟩) (args_list_sort _)))
  have e : ns' = sortI (kvs.map (·.1)) := ksm_same (a2.trans (sortI_perm _).symm) a3 (sortI_sorted _)
  subst e
  obtain ⟨e1, ho1⟩ : ∃ e1, ((h'.push (seqObj "list" acc.toList.toArray 0)).update h'.objs.size (Obj.mapSeq fun _ => #[])).get? h'.objs.size = some (seqObj "list" #[] e1) := ⟨_, get?_update_seq hoL (fun _ => #[])⟩
  have ho6 : ((((h'.push (seqObj "list" acc.toList.toArray 0)).update h'.objs.size (Obj.mapSeq fun _ => #[])).push (seqObj "tuple" acc.toList.toArray 0)).push (seqObj "list" #[] 0)).get? h'.objs.size = some (seqObj "list" #[] e1) := by
    rw [Heap.get?_push_ne _ _ _ (by rw [size_push', Heap.size_update, size_push']; exact Nat.ne_of_lt (Nat.lt_succ_of_lt (Nat.lt_succ_self _))), Heap.get?_push_ne _ _ _ (by rw [Heap.size_update, size_push']; exact Nat.ne_of_lt (Nat.lt_succ_self _))]
    exact ho1
  refine wpAny_pure ⟨_, rfl, ?_⟩
  have ho7 := get?_update_seq ho6 (fun _ => out)
  refine h _ tk _ out _ (fun b o e => ?_) (fresh_of hk (fresh_size h')) ho7 a1
  have hb := hk b o e
  have n1 : h'.objs.size ≠ b := Nat.ne_of_gt (Heap.lt_size hb)
  unfold sortedHeap
  rw [Heap.get?_update_other _ _ n1]
  exact Heap.get?_push_of_some _ (Heap.get?_push_of_some _ ((Heap.get?_update_other _ _ n1).trans (Heap.get?_push_of_some _ hb)))
theorem perm_two {α : Type} {x y : α} {l : List α} (p : l.Perm [x, y]) : l = [x, y] ∨ l = [y, x] := by
  have hl := p.length_eq
  rcases l with _ | ⟨a, _ | ⟨b, _ | _⟩⟩
  · exact nomatch hl
  · exact nomatch hl
  · rcases List.mem_cons.mp (p.mem_iff.mp (.head _)) with rfl | ha
    · exact .inl (congrArg (a :: ·) (List.perm_singleton.mp ((List.perm_cons a).mp p)))
    · obtain rfl := List.mem_singleton.mp ha
      exact .inr (congrArg (a :: ·) (List.perm_singleton.mp ((List.perm_cons a).mp (p.trans (.swap a x [])))))
  · exact nomatch hl
theorem sortS_of {ss ss' : List Str} (p : ss'.Perm ss) (o : sortedS ss' = true) (h : ss.length ≤ 2) : sortS ss = some ss' := by
  rcases ss with _ | ⟨x, _ | ⟨y, _ | _⟩⟩
  · rw [List.Perm.eq_nil p]; rfl
  · rw [List.perm_singleton.mp p]; rfl
  · have key := perm_two p
    rcases key with rfl | rfl
    · have : PySem.Spec.ltCps y.cps.toList x.cps.toList = false := by
        have : (!PySem.Spec.ltCps y.cps.toList x.cps.toList && true) = true := o
        simpa using this
      simp [sortS, this]
    · have h1 : PySem.Spec.ltCps x.cps.toList y.cps.toList = false := by
        have : (!PySem.Spec.ltCps x.cps.toList y.cps.toList && true) = true := o
        simpa using this
      cases h2 : PySem.Spec.ltCps y.cps.toList x.cps.toList with
      | true => simp [sortS, h2]
      | false =>
        have : x = y := by
          rw [ltCps_eq] at h1 h2
          have e := List.le_antisymm (List.not_lt.mp (of_decide_eq_false h2)) (List.not_lt.mp (of_decide_eq_false h1))
          obtain ⟨cx⟩ := x
          obtain ⟨cy⟩ := y
          congr 1
          exact Array.toList_inj.mp e
        subst this
        simp [sortS, h2]
  · exact absurd h (by simp)
theorem sort_dictS {r : Nat} {kvs : List (Str × Value)} {Q : Value → Shared → Prop} (S : St C l α σ s.heap) (hi : r < σ.length) (hh : A.handled = none) (dd : s.heap.DictOf (sK C) (α r) kvs) (h64 : kvs.length ≤ 2)
    (h : ∀ h' tk a its c, (∀ b o, s.heap.get? b = some o → h'.get? b = some o) → s.heap.get? a = none → h'.get? a = some (W.listOf its c) → (∃ ks, sortS (kvs.map (·.1)) = some ks ∧ StrsAre its.toList ks) → Q (.ref a) ⟨h', s.gens, s.drawn, tk, s.os⟩) :
    wpAny C.M A (call (.builtin "sorted") [.ref (α r)]) Q E s := by
  obtain ⟨ep, dt⟩ := dictAt_of dd
  refine call_function_entry kind_sorted plain_sorted entry_sorted (args_sorted1 _) ?_
  unfold Builtin.«sorted»
  refine wpAny_bind (m := checkCount "sorted" 1 1 _) (wpAny_pure ?_)
  refine wpAny_bind (kdu_collect (A := A.in1) (kdl_dict (S.notModules hi)) hh dt (by rw [sizeLine_eq]; exact Nat.le_trans (by assumption) (by decide)) fun h' tk acc hk hacc => ?_)
  have hl : acc.toList.length = kvs.length := by rw [Array.length_toList]; exact hacc.1
  refine wpAny_bind (wpAny_newList ?_ (by rw [hl, sizeLine_eq]; exact Nat.le_trans (by assumption) (by decide)))
  have hI : StrsAre acc.toList (kvs.map (·.1)) := by
    have := strKeys_of (prog := PG) (w := C.w) (kvs := kvs) acc.toList 0 (by simpa using hl) fun j v e => by
      obtain ⟨k, x, e1, e2⟩ := hacc.2 j v (by rw [← Array.getElem?_toList]; exact e)
      exact ⟨k, x, e1, e2⟩
    simpa using this
  have hoL : (h'.push (seqObj "list" acc.toList.toArray 0)).get? h'.objs.size = some (seqObj "list" acc.toList.toArray 0) := Heap.get?_push_size _ rfl
  show wpAny _ _ _ _ _ ({ s with heap := h'.push (seqObj "list" acc.toList.toArray 0), toks := tk } : Shared)
  refine wpAny_bind (wpAny_holding (wpAny_call_entry slot_list_sort ⟨_, hoL, rfl⟩ entry_list_sort (list_sort_treeK strKind_oneLt hoL hI.keysOf (fun v₁ v₂ rest e => keyKind_strs (by rw [← e]; exact hI)) (by rw [hl]; lia) fun st' hp hs => ⟨_, rfl, ?_⟩) (args_list_sort _)))
  obtain ⟨ss', a1, a2, a3⟩ := sorted_out_str hI hp hs
  generalize (arrOf st').map (·.2) = out at a1 ⊢
  obtain ⟨e1, ho1⟩ : ∃ e1, ((h'.push (seqObj "list" acc.toList.toArray 0)).update h'.objs.size (Obj.mapSeq fun _ => #[])).get? h'.objs.size = some (seqObj "list" #[] e1) := ⟨_, get?_update_seq hoL (fun _ => #[])⟩
  have ho6 : ((((h'.push (seqObj "list" acc.toList.toArray 0)).update h'.objs.size (Obj.mapSeq fun _ => #[])).push (seqObj "tuple" acc.toList.toArray 0)).push (seqObj "list" #[] 0)).get? h'.objs.size = some (seqObj "list" #[] e1) := by
    rw [Heap.get?_push_ne _ _ _ (by rw [size_push', Heap.size_update, size_push']; exact Nat.ne_of_lt (Nat.lt_succ_of_lt (Nat.lt_succ_self _))), Heap.get?_push_ne _ _ _ (by rw [Heap.size_update, size_push']; exact Nat.ne_of_lt (Nat.lt_succ_self _))]
    exact ho1
  refine wpAny_pure ⟨_, rfl, ?_⟩
  have ho7 := get?_update_seq ho6 (fun _ => out)
  refine h _ tk _ out _ (fun b o e => ?_) (fresh_of hk (fresh_size h')) ho7 ⟨ss', sortS_of a2 a3 (by simpa using h64), a1⟩
  have hb := hk b o e
  have n1 : h'.objs.size ≠ b := Nat.ne_of_gt (Heap.lt_size hb)
  unfold sortedHeap
  rw [Heap.get?_update_other _ _ n1]
  exact Heap.get?_push_of_some _ (Heap.get?_push_of_some _ ((Heap.get?_update_other _ _ n1).trans (Heap.get?_push_of_some _ hb)))
theorem smallI_le {i : Int} (h : smallI i = true) : -1000000 ≤ i ∧ i ≤ 1000000 := by
  have : i.natAbs ≤ 1000000 := Nat.le_of_ble_eq_true h
  lia
theorem sortS_len {ss ks : List Str} (h : sortS ss = some ks) : ss.length ≤ 2 := by
  rcases ss with _ | ⟨a, _ | ⟨b, _ | ⟨c, r⟩⟩⟩
  · exact Nat.zero_le _
  · exact Nat.le_succ _
  · exact Nat.le_refl _
  · exact nomatch h
inductive BltI (σ : VH) : Value → List VV → Res VV → Prop
  | lenL {r xs} : σ[r]? = some (.list xs) → okLen xs.length = true → BltI σ (.builtin "len") [.ref r] (.ok (.int xs.length) σ)
  | lenD {r o es} : σ[r]? = some o → dictI o = some es → okLen es.length = true → BltI σ (.builtin "len") [.ref r] (.ok (.int es.length) σ)
  | abs {i} : BltI σ (.builtin "abs") [.int i] (.ok (.int i.natAbs) σ)
  | isS {t} : BltI σ (.builtin "isinstance") [.str t, .val (.type "str")] (.ok (.bool true) σ)
  | isT {xs} : BltI σ (.builtin "isinstance") [.tup xs, .val (.type "str")] (.ok (.bool false) σ)
  | srtI {r es} : σ[r]? = some (.idict es) → es.length < 64 → BltI σ (.builtin "sorted") [.ref r] (alloc σ (.list ((sortI (es.map (·.1))).map .int)))
  | srtS {r o es ks} : σ[r]? = some o → dictS o = some es → sortS (es.map (·.1)) = some ks → BltI σ (.builtin "sorted") [.ref r] (alloc σ (.list (ks.map .str)))
  | rng1 {k} : BltI σ (.type "range") [.int k] (.ok (.rng 0 k 1) σ)
  | rng3 {a b} : BltI σ (.type "range") [.int a, .int b, .int (-1)] (.ok (.rng a b (-1)) σ)
  | lstL {r xs} : σ[r]? = some (.list xs) → okLen xs.length = true → BltI σ (.type "list") [.ref r] (alloc σ (.list xs))
  | lstD {r o es} : σ[r]? = some o → dictI o = some es → okLen es.length = true → BltI σ (.type "list") [.ref r] (alloc σ (.list (es.map fun e => .int e.1)))
  | tup {r xs} : σ[r]? = some (.list xs) → okLen xs.length = true → BltI σ (.type "tuple") [.ref r] (.ok (.tup xs) σ)
  | dct {r o es} : σ[r]? = some o → dictS o = some es → okLen es.length = true → BltI σ (.type "dict") [.ref r] (alloc σ (.sdict es))
  | set : BltI σ (.type "set") [] (alloc σ (.set []))
noncomputable def Lv {β : Type} (P : Res β → Prop) (r : Res β) : Prop := r = .stuck ∨ P r
theorem Lv.ite {β : Type} {P : Res β → Prop} {c : Prop} [Decidable c] {a b : Res β} (h : c → Lv P a) (k : Lv P b) : Lv P (if c then a else b) := by
  by_cases q : c
  · rw [if_pos q]; exact h q
  · rw [if_neg q]; exact k
theorem Lv.no {β : Type} {P : Res β → Prop} : Lv P .stuck := .inl rfl
theorem Lv.one {β : Type} {P : Res β → Prop} {c : Prop} [Decidable c] {a : Res β} (h : c → P a) : Lv P (if c then a else .stuck) := .ite (fun q => .inr (h q)) .no
section
variable {σ : VH} {as : List VV} {r : Nat} {o : VO}
theorem brIte {P : Res VV → Prop} {c : Prop} [Decidable c] {a : BR} (h : c → P (brNew (some a) σ)) : Lv P (brNew (if c then some a else none) σ) := by
  by_cases q : c
  · rw [if_pos q]; exact .inr (h q)
  · rw [if_neg q]; exact .no
theorem blt_len (e : σ[r]? = some o) : Lv (BltI σ (.builtin "len") [.ref r]) (brNew (olen o) σ) := by
  have key (es) (h : dictI o = some es) : Lv (BltI σ (.builtin "len") [.ref r]) (brNew ((dictI o).bind fun es => if okLen es.length then some (.v (.int es.length)) else none) σ) := by
    rw [h]; exact brIte fun q => .lenD e h q
  induction o <;> first | exact .no | exact key _ rfl | exact brIte fun q => .lenL e q
theorem blt_list (e : σ[r]? = some o) : Lv (BltI σ (.type "list") [.ref r]) (brNew (olist o) σ) := by
  have key (es) (h : dictI o = some es) : Lv (BltI σ (.type "list") [.ref r]) (brNew ((dictI o).bind fun es => if okLen es.length then some (.o .none (.list (es.map fun e => .int e.1))) else none) σ) := by
    rw [h]; exact brIte fun q => .lstD e h q
  induction o <;> first | exact .no | exact key _ rfl | exact brIte fun q => .lstL e q
theorem blt_sorted (e : σ[r]? = some o) : Lv (BltI σ (.builtin "sorted") [.ref r]) (brNew (osort o) σ) := by
  have key (es) (h : dictS o = some es) : Lv (BltI σ (.builtin "sorted") [.ref r]) (brNew ((sortS (es.map (·.1))).map fun ks => .o .none (.list (ks.map .str))) σ) := by
    cases q : sortS (es.map (·.1)) with
    | none => exact .no
    | some ks => exact .inr (.srtS e h q)
  induction o <;> first | exact .no | exact brIte fun q => .srtI e (by simpa using q) | exact key _ rfl
theorem blt_tuple (e : σ[r]? = some o) : Lv (BltI σ (.type "tuple") [.ref r]) (brNew (otup o) σ) := by
  induction o <;> first | exact .no | exact brIte fun q => .tup e q
theorem blt_dict (e : σ[r]? = some o) : Lv (BltI σ (.type "dict") [.ref r]) (brNew (odict o) σ) := by
  have key (es) (h : dictS o = some es) : Lv (BltI σ (.type "dict") [.ref r]) (brNew (odict o) σ) := by
    unfold odict
    rw [h]; exact brIte fun q => .dct e h q
  cases h : dictS o with
  | none =>
    unfold odict
    rw [h]; exact .no
  | some es => exact key es h
theorem ofSome {P : Res VV → Prop} {q : Option VV} (h : ∀ v, q = some v → P (.ok v σ)) : Lv P (Res.of q σ) := by
  cases e : q with
  | none => exact .no
  | some v => exact .inr (h v e)
theorem intV_of {a : VV} {i : Int} (h : intV a = some i) : a = .int i := by
  cases a with
  | int j => exact congrArg VV.int (Option.some.inj h)
  | _ => exact nomatch h
theorem blt_abs (n : String) (h : n = "abs") : Lv (BltI σ (.builtin n) as) (Res.of (absV as) σ) := by
  subst h
  refine ofSome fun v e => ?_
  rcases as with _ | ⟨a, _ | ⟨b, r⟩⟩ <;> try (exact nn e; done)
  obtain ⟨i, e1, rfl⟩ := Option.map_eq_some_iff.mp e
  obtain rfl := intV_of e1
  exact .abs
theorem blt_isi (n : String) (h : n = "isinstance") : Lv (BltI σ (.builtin n) as) (Res.of ((isiV as).map .bool) σ) := by
  subst h
  refine ofSome fun v e => ?_
  obtain ⟨k, e', rfl⟩ := Option.map_eq_some_iff.mp e
  clear e
  rcases as with _ | ⟨a, _ | ⟨b, _ | ⟨c, r⟩⟩⟩ <;> try (exact nn e'; done)
  have e : (bif isStrT b then isiA a else none) = some k := e'
  cases q : isStrT b with
  | false => rw [q] at e; exact nomatch e
  | true =>
    rw [q] at e
    cases b with
    | val w =>
      obtain rfl := eq_of_beq (show (w == .type "str") = true from q)
      cases a with
      | str t => obtain rfl := Option.some.inj e; exact .isS
      | tup xs => obtain rfl := Option.some.inj e; exact .isT
      | _ => exact nomatch e
    | _ => exact nomatch q
theorem blt_range (n : String) (h : n = "range") : Lv (BltI σ (.type n) as) (Res.of (rngV as) σ) := by
  subst h
  refine ofSome fun v e => ?_
  rcases as with _ | ⟨a, _ | ⟨b, _ | ⟨c, _ | ⟨d, r⟩⟩⟩⟩ <;> try (exact nn e; done)
  · obtain ⟨i, e1, e2⟩ := Option.bind_eq_some_iff.mp e
    obtain rfl := intV_of e1
    obtain ⟨_, rfl⟩ := some_ite e2
    exact .rng1
  · obtain ⟨i, e1, e⟩ := Option.bind_eq_some_iff.mp e
    obtain ⟨j, e2, e⟩ := Option.bind_eq_some_iff.mp e
    obtain ⟨k, e3, e⟩ := Option.bind_eq_some_iff.mp e
    obtain rfl := intV_of e1
    obtain rfl := intV_of e2
    obtain rfl := intV_of e3
    obtain ⟨⟨rfl, _⟩, rfl⟩ := some_ite e
    exact .rng3
theorem blt_set (n : String) (h : n = "set") : Lv (BltI σ (.type n) as) (setNew σ as) := by
  subst h
  induction as
  · exact .inr .set
  · exact .no
theorem Lv.iteB {P : Res VV → Prop} {c : Prop} [Decidable c] {a b : Option BR} (h : c → Lv P (brNew a σ)) (k : Lv P (brNew b σ)) : Lv P (brNew (if c then a else b) σ) := by
  by_cases q : c
  · rw [if_pos q]; exact h q
  · rw [if_neg q]; exact k
theorem ref1_inv (h : ref1 as = some r) : as = [.ref r] := by
  rcases as with _ | ⟨a, _ | ⟨b, _⟩⟩ <;> try (exact nn h; done)
  cases a with
  | ref q => exact congrArg (fun z => [VV.ref z]) (Option.some.inj h)
  | _ => exact nomatch h
theorem blt_inv (id : Value) : Lv (BltI σ id as) (bltV id as σ) := by
  unfold bltV
  cases h : ref1 as with
  | none =>
    induction id <;> try exact .no
    · exact .ite (blt_range _) (.ite (blt_set _) .no)
    · exact .ite (blt_abs _) (.ite (blt_isi _) .no)
  | some r =>
    obtain rfl := ref1_inv h
    show Lv _ (brNew (σ[r]?.bind (blt1 id)) σ)
    cases e : σ[r]? with
    | none => exact .no
    | some o =>
      induction id <;> try exact .no
      · exact .iteB (fun q => by subst q; exact blt_list e) (.iteB (fun q => by subst q; exact blt_tuple e) (.iteB (fun q => by subst q; exact blt_dict e) .no))
      · exact .iteB (fun q => by subst q; exact blt_len e) (.iteB (fun q => by subst q; exact blt_sorted e) .no)
end
theorem RelVs.ref1 {h : Heap} {α : Nat → Addr} {n r : Nat} {vals : List Value} (R : RelVs h α n [.ref r] vals) : r < n ∧ vals = [.ref (α r)] := by
  cases R with
  | cons a b => cases b; cases a; exact ⟨‹_›, rfl⟩
theorem RelVs.int1 {h : Heap} {α : Nat → Addr} {n : Nat} {i : Int} {vals : List Value} (R : RelVs h α n [.int i] vals) : ∃ t, vals = [.int i t] := by
  cases R with
  | cons a b => cases b; cases a; exact ⟨_, rfl⟩
theorem okLen_63 {n : Nat} (h : okLen n = true) : (n : Int) < 2 ^ 63 := by
  have := okLen_le h
  rw [sizeLine_eq] at this; lia
theorem abs_eq (i : Int) : (if i < 0 then -i else i) = (i.natAbs : Int) := by split <;> lia
theorem bltV_ok (S : St C l α σ s.heap) (hh : A.handled = none) (pl : PylongRoom C.M A s) {id : Value} {as : List VV} {vals : List Value} {X : Addr → Prop} {FL : Option Value → Prop} {Q : Value → Shared → Prop} (ra : RelVs s.heap α σ.length as vals) (K : Cont C X FL l RelE (bltV id as σ) σ.length α s Q E) :
    wpAny C.M A (call id vals) Q E s := by
  rcases blt_inv (σ := σ) (as := as) id with e | I
  · rw [e] at K; exact K.dead
  generalize bltV id as σ = w at I K
  induction I
  case lenL r xs ei hl =>
    obtain ⟨hi, rfl⟩ := ra.ref1
    obtain ⟨vs, c, hv, rr⟩ := S.objs r _ ei
    have hsz : vs.size = xs.length := by rw [← rr.length]; simp
    refine call_len_list (isList_of hv) (by rw [hsz]; exact okLen_63 hl) ?_
    rw [hsz]
    exact K.pure S (.int _ _)
  case lenD r o es ei e1 hl =>
    obtain ⟨hi, rfl⟩ := ra.ref1
    obtain ⟨kvs, dd, rr⟩ := S.dictI ei e1
    refine call_len_dict (S.notModules hi) dd (by rw [rr.length]; exact okLen_63 hl) ?_
    rw [rr.length]
    exact K.pure S (.int _ _)
  case abs i =>
    obtain ⟨t, rfl⟩ := ra.int1
    refine PyProof.Rows.call_abs_int fun u tk => ?_
    rw [abs_eq]
    exact K.pure S (.int _ _)
  case srtI r es ei hl =>
    refine cps fun G k_ => ?_
    obtain ⟨hi, rfl⟩ := ra.ref1
    obtain ⟨kvs, dd, rr⟩ := S.dictI ei rfl
    refine k_ ?_
    refine sort_dictI S hi hh dd (by rw [rr.length]; exact hl) fun h' tk a its c k ha e hI => ?_
    rw [rr.keys] at hI
    exact K.newList S k ha e (ints_of hI)
  case srtS r o es ks ei e1 e2 =>
    obtain ⟨hi, rfl⟩ := ra.ref1
    obtain ⟨kvs, dd, rr⟩ := S.dictS ei e1
    refine sort_dictS S hi hh dd (by rw [rr.length]; simpa using sortS_len e2) fun h' tk a its c k ha e hS => ?_
    rw [rr.keys] at hS
    obtain ⟨ks', q1, q2⟩ := hS
    rw [e2] at q1; obtain rfl := Option.some.inj q1
    exact K.newList S k ha e (strs_of q2)
  case isS t =>
    obtain ⟨x, vs, rfl, r1, r0⟩ := ra.inv
    obtain ⟨t, rfl⟩ := r1.inv
    obtain ⟨x', vs', rfl, rv, r2⟩ := r0.inv
    obtain rfl := rv.inv
    obtain rfl := r2.inv
    exact IsiPair.str_str (K.pure S (.bool _))
  case isT xs =>
    obtain ⟨x, vs, rfl, r1, r0⟩ := ra.inv
    obtain ⟨a, ws, rfl, ⟨o, e, c, _⟩, rr⟩ := r1.inv
    obtain ⟨x', vs', rfl, rv, r2⟩ := r0.inv
    obtain rfl := rv.inv
    obtain rfl := r2.inv
    exact call_isinstance (isinstance_false_tuple (T := "str") (by decide) F.isi_meta_str F.sub_tuple_str) ⟨⟨o, e, c⟩, K.pure S (.bool _)⟩
  case rng1 k =>
    obtain ⟨t, rfl⟩ := ra.int1
    exact call_range_1 (K.grown S (push_keeps _ _) (.rng (IsRange.new ..)))
  case rng3 a b =>
    cases ra with
    | cons r1 r0 =>
      cases r0 with
      | cons r2 r0 =>
        obtain ⟨t, rfl⟩ := r0.int1
        obtain ⟨t, rfl⟩ := r1.inv
        obtain ⟨t, rfl⟩ := r2.inv
        exact call_range_3 (by decide) (K.grown S (push_keeps _ _) (.rng (IsRange.new ..))) (.inr pl)
  case lstL r xs ei hl =>
    obtain ⟨hi, rfl⟩ := ra.ref1
    obtain ⟨vs, c, hv, rr⟩ := S.objs r _ ei
    have hsz : vs.size = xs.length := by rw [← rr.length]; simp
    exact call_list_seq (α r) (.inl rfl) hv rfl rfl (fun h' c' k e => K.newList S k (fresh_size _) e rr) (by rw [hsz]; exact okLen_le hl)
  case lstD r o es ei e1 hl =>
    obtain ⟨hi, rfl⟩ := ra.ref1
    obtain ⟨kvs, dd, rr⟩ := S.dictI ei e1
    obtain ⟨ep, dt⟩ := dictAt_of dd
    refine kdl_call (kdl_dict (S.notModules hi)) hh dt (by rw [rr.length]; exact okLen_le hl) fun h' tk acc c k e hacc => ?_
    have hI := intKeys_of (prog := PG) (w := C.w) (kvs := kvs) acc.toList 0 (by simpa using hacc.1) fun j v e => by
      obtain ⟨k, x, e1, e2⟩ := hacc.2 j v (by rw [← Array.getElem?_toList]; exact e)
      exact ⟨k, x, e1, e2⟩
    rw [List.drop_zero, rr.keys] at hI
    refine K.newList S k (fresh_size _) e ?_
    have := ints_of (h := s.heap) (α := α) (n := σ.length) hI
    rwa [List.map_map] at this
  case tup r xs ei hl =>
    obtain ⟨hi, rfl⟩ := ra.ref1
    obtain ⟨vs, c, hv, rr⟩ := S.objs r _ ei
    have hsz : vs.size = xs.length := by rw [← rr.length]; simp
    refine call_tuple_list (isList_of hv) (fun h' k => ?_) (by rw [hsz]; exact okLen_le hl)
    have k' : ∀ b o, s.heap.get? b = some o → (h'.push { cls := .type "tuple", data := .seq vs }).get? b = some o := fun b o e => push_keeps _ _ b o (k b o e)
    exact K.grown S k' (.tup ⟨_, Heap.get?_push_size _ rfl, rfl, _, rfl⟩ (RelVs.keeps (Keeps.of k') (Nat.le_refl _) (fun _ _ => rfl) rr))
  case dct r o es ei e1 hl =>
    obtain ⟨hi, rfl⟩ := ra.ref1
    obtain ⟨kvs, dd, rr⟩ := S.dictS ei e1
    refine kt_call_dict (S.notModules hi) dd (by rw [rr.length]; exact okLen_le hl) fun h' hd sb => ?_
    have k : ∀ b o, s.heap.get? b = some o → h'.get? b = some o := fun b o e => (sb.2 b (Nat.ne_of_lt (Heap.lt_size e))).trans (push_keeps _ _ b o e)
    exact Cont.alloc (o := .sdict es) K S k (fresh_size _) ⟨kvs, hd, rr.keys, RelVs.keeps (Keeps.of k) (Nat.le_succ _) aext_old rr.vals⟩ relRef_new
  case set =>
    cases ra
    refine call_set_0 fun led => ?_
    refine Cont.alloc (o := .set []) K S (push_keeps _ _) (fresh_size _) ?_ relRef_new
    exact ⟨_, #[], 0, _, Heap.get?_push_size _ rfl, ⟨rfl, rfl, rfl⟩, rfl, by intro e he; simp at he, by simp, by decide, by rfl, rfl⟩
end
end Mine
end
section
open PySem.Calls
namespace Mine
structure Moved (l : List Env) (a T : Addr) (h h' : Heap) : Prop where
  keep : ∀ b o, h.get? b = some o → b ≠ a → b ≠ T → b ∉ frs l → h'.get? b = some o
  slots : ∀ b o, h.get? b = some o → b ∈ frs l → ∃ sl, h'.get? b = some { o with slots := sl }
  alive : ∀ b, h'.get? b = none → h.get? b = none
noncomputable def TB (h : Heap) (T : Addr) : Prop := ∀ o, h.get? T = some o → o.cls = .type "traceback"
section
variable {C : Cx} {l : List Env} {σ : VH} {α : Nat → Addr} {h h' : Heap} {i : Nat} {T : Addr}
theorem St.notTB (S : St C l α σ h) (hT : TB h T) {j : Nat} (hj : j < σ.length) : α j ≠ T := by
  intro q
  obtain ⟨ob, e, k⟩ := S.kind hj
  have c := hT ob (q ▸ e)
  induction k with
  | own a hc => exact nomatch hc.symm.trans c
  | blt T' hc h1 h2 h3 h4 => exact h3 (Value.type.inj (hc.symm.trans c))
theorem St.moved (S : St C l α (σ.set i .dead) h) (hi : i < σ.length) (m : Moved l (α i) T h h') (hx : Y2 fun o c => h'.get? (α i) = some o ∧ o.cls = .ref c) (hT : TB h T) (hH : C.H.get? T = none) : St C l α (σ.set i .dead) h' := by
  have hi' : i < (σ.set i .dead).length := by simpa using hi
  have ei : (σ.set i .dead)[i]? = some .dead := by simp [hi]
  obtain ⟨o0, c0, e0, hc0⟩ := S.objs i _ ei
  have kp : Keeps h h' := by
    refine ⟨fun a vs x => ?_, fun r a b c t u v x => ?_⟩
    · refine IsTup.same x fun o e => m.keep a o e (fun q => (S.at hi').2.1 vs (q ▸ x)) (fun q => ?_) fun q => (S.fr q).2.2.1 vs x
      obtain ⟨o', e', c', _⟩ := x
      have := hT o' (q ▸ e')
      rw [c'] at this; exact type_ne (by decide) this
    · refine m.keep r _ x (fun q => (S.at hi').2.2 _ _ _ _ _ _ (q ▸ x)) (fun q => ?_) fun q => (S.fr q).2.2.2 _ _ _ _ _ _ x
      exact type_ne (by decide) (hT _ (q ▸ x))
  refine ⟨fun b o e => m.keep b o (S.stay b o e) (fun q => ?_) (fun q => ?_) fun q => ?_, fun j o e => ?_, S.inj, S.new, fun env he => ?_, S.apart⟩
  · have := S.new i hi'; rw [← q, e] at this; exact ns this
  · rw [q, hH] at e; exact nn e
  · have := (S.fr q).1; rw [e] at this; exact ns this
  · by_cases q : j = i
    · subst q
      rw [ei] at e; obtain rfl := Option.some.inj e
      exact hx
    · have hj := (List.getElem?_eq_some_iff.mp e).1
      refine (S.objs j o e).same kp (Nat.le_refl _) (fun _ _ => rfl) fun ob x => m.keep _ ob x (fun z => q (S.inj j i hj hi' z)) (S.notTB hT hj) (S.apart j hj)
  · obtain ⟨fn, L, o, es, ep, hf, hn, ho, hd⟩ := S.frames env he
    obtain ⟨sl, e'⟩ := m.slots L o ho (List.mem_filterMap.mpr ⟨env, he, hf⟩)
    exact ⟨fn, L, _, es, ep, hf, hn, e', hd⟩
theorem Nx.moved {X : Addr → Prop} {lo : Heap} {n₀ n : Nat} {α₀ : Nat → Addr} (x : Nx X l n₀ α₀ lo n α h) (m : Moved l (α i) T h h') (hi : i < n) (hT : lo.get? T = none) : Nx X l n₀ α₀ lo n α h' where
  le := x.le
  ext := x.ext
  alive := fun b e => x.alive b (m.alive b e)
  fresh := x.fresh
  keep := fun b o e h1 h2 h3 => m.keep b o (x.keep b o e h1 h2 h3) (fun q => by
    by_cases z : i < n₀
    · exact h1 i z ((x.ext i z).symm.trans q.symm)
    · have := x.fresh i (Nat.le_of_not_lt z) hi
      rw [← q, e] at this; injection this) (fun q => by rw [q, hT] at e; exact nn e) h3
  slots := fun b o e h1 h2 h3 => by
    obtain ⟨sl, e1⟩ := x.slots b o e h1 h2 h3
    obtain ⟨sl', e2⟩ := m.slots b _ e1 h3
    exact ⟨sl', e2⟩
theorem funFrames : ∀ {l : List Env}, (∀ env ∈ l, FrOK C h env) → h.FunFrames C.H l
  | [], _ => trivial
  | env :: r, H => by
    obtain ⟨fn, L, o, es, ep, hf, hn, ho, hd⟩ := H env (.head _)
    exact ⟨fn, ⟨L, o, hf, hn, ho, fun vs q => nomatch hd.symm.trans q⟩, funFrames fun e he => H e (.tail _ he)⟩
end
section
variable {C : Cx} {l : List Env} {σ : VH} {α : Nat → Addr} {s : Shared} {A : Around} {E : Value → Shared → Prop} {env : Env}
theorem noteFrame_frame {e0 env : Env} (h : e0.frame = env.frame) (e : Value) : noteFrame e env = noteFrame e e0 := by
  delta noteFrame PySem.frameOf
  exact h ▸ rfl
theorem inst_not_frame {i : Nat} {h : Heap} (S : St C l α (σ.set i .dead) h) (hi : i < σ.length) : α i ∉ frs l := S.apart i (by simpa using hi)
theorem entry_ok {d : Nat} (rm : Room d l A) {e0 : Env} {r : List Env} (hl : l = e0 :: r) {L : Addr} (hf : e0.frame = some L) {i : Nat} (S : St C l α (σ.set i .dead) s.heap) (hi : i < σ.length) {lo : Heap} {cl dx : Addr} {oe : Obj} {vs : Array Value} {a0 head : Value} {hadNext : Bool} {Q : Unit → Shared → Prop}
    (he : s.heap.get? (α i) = some oe) (hc : oe.cls = .ref cl) (hdx : oe.dict = some dx) (hd : oe.data = .fields vs) (h0 : vs[0]? = some a0) (hsz : 1 < vs.size) (hlo : ∀ b, s.heap.get? b = none → lo.get? b = none) (hC : ∀ b, lo.get? b = none → C.H.get? b = none)
    (h : ∀ h' T, St C l α (σ.set i .dead) h' → Moved l (α i) T s.heap h' → lo.get? T = none → ExcAt h' (α i) cl dx lo (some (rawInt L)) → Q () { s with heap := h' }) :
    wpAny C.M A (do let a ← PySem.frameOf e0; let pl ← entryPlaceOf L hadNext; let b ← EntryCells.newEntry head a .none (rawInt L) .none pl; setField (.ref (α i)) 1 b) Q E s := by
  have ff : s.heap.FunFrames C.H (e0 :: r) := by refine hl ▸ ?_; exact funFrames S.frames
  have hin := inst_not_frame S hi
  refine wpAny_bind (wpAny_frameOf_fun (by exact rm.frames ▸ hl ▸ rfl) ff hf fun h₁ hs₁ => ?_)
  have hs₁ : Heap.SlotsOnly (frs l) s.heap h₁ := by rw [hl]; exact hs₁
  refine wpAny_bind (wpAny_entryPlaceOf fun pl hpl => ?_)
  skip
  refine wpAny_bind (wpAny_newObj_type ?_ (hpl.sizeOk5 _ _ _ _ _))
  have he₁ : h₁.get? (α i) = some oe := (hs₁.2.1 _ hin).trans he
  have hTn : s.heap.get? h₁.objs.size = none := by rw [hs₁.1]; exact fresh_size _
  generalize hT : (([head, .ref L, .none, rawInt L, .none] : List Value) ++ (if pl.isEmpty then List.replicate 6 Value.none else pl)).toArray = ts
  have hts3 : ts[3]? = some (rawInt L) := by
    subst hT
    rcases hpl with rfl | ⟨_, _, _, _, _, _, _, rfl⟩ <;> simp
  have he₂ := Heap.get?_push_of_some (h := h₁) { cls := .type "traceback", dict := none, data := .fields ts } he₁
  refine wpAny_setField he₂ hd hsz ?_
  have hTe : h₁.objs.size ≠ α i := Nat.ne_of_gt (Heap.lt_size he₁)
  have hd₃ := Obj.data_mapFields hd (·.setIfInBounds 1 (Value.ref h₁.objs.size))
  have he₃ := Heap.get?_update_self (Obj.mapFields (·.setIfInBounds 1 (Value.ref h₁.objs.size))) he₂ (Obj.isFreed_of_fields hd₃)
  have hT₃ := (Heap.get?_update_other (h₁.push { cls := .type "traceback", dict := none, data := .fields ts }) (Obj.mapFields (·.setIfInBounds 1 (Value.ref h₁.objs.size))) (Ne.symm hTe)).trans (Heap.get?_push_size h₁ rfl)
  have oth : ∀ b o, b ≠ α i → h₁.get? b = some o → ((h₁.push { cls := .type "traceback", dict := none, data := .fields ts }).update (α i) (Obj.mapFields (·.setIfInBounds 1 (Value.ref h₁.objs.size)))).get? b = some o := fun b o hb e => by
    rw [Heap.get?_update_other _ _ (Ne.symm hb)]; exact Heap.get?_push_of_some _ e
  have mv : Moved l (α i) h₁.objs.size s.heap ((h₁.push { cls := .type "traceback", dict := none, data := .fields ts }).update (α i) (Obj.mapFields (·.setIfInBounds 1 (Value.ref h₁.objs.size)))) := by
    refine ⟨fun b o e h1 h2 h3 => oth b o h1 ((hs₁.2.1 b h3).trans e), fun b o e hb => ?_, fun b e => ?_⟩
    · obtain ⟨sl, e1⟩ := hs₁.2.2 b o e
      exact ⟨sl, oth b _ (fun q => hin (q ▸ hb)) e1⟩
    · cases q : s.heap.get? b with
      | none => rfl
      | some o =>
        by_cases z : b = α i
        · rw [z, he₃] at e; exact ns e
        · obtain ⟨sl, e1⟩ := hs₁.2.2 b o q
          rw [oth b _ z e1] at e; exact ns e
  have hlT : lo.get? h₁.objs.size = none := hlo _ hTn
  refine h _ _ (S.moved hi mv ⟨_, cl, he₃, (Obj.cls_mapFields _ _).trans hc⟩ (fun o e => by rw [hTn] at e; exact nn e) (hC _ hlT)) mv hlT ?_
  refine ⟨_, _, a0, he₃, (Obj.cls_mapFields _ _).trans hc, ?_, hd₃, by rw [Array.getElem?_setIfInBounds_ne (by decide)]; exact h0, ?_⟩
  · obtain ⟨c1, d1, t1, s1⟩ := oe
    simp only at hd hdx
    subst hd
    exact hdx
  · exact ⟨h₁.objs.size, _, ts, by simp [hsz], hTe, hlT, hT₃, rfl, rfl, hts3⟩
theorem flight_ok {i : Nat} (S : St C l α (σ.set i .dead) s.heap) (hi : i < σ.length) {lo : Heap} {cl dx : Addr} {v : Value} {fr : Option Addr} {Q : Unit → Shared → Prop} (hC : ∀ b, lo.get? b = none → C.H.get? b = none)
    (ea : ExcAt s.heap (α i) cl dx lo (some v)) (h : ∀ h' T, St C l α (σ.set i .dead) h' → Moved l (α i) T s.heap h' → lo.get? T = none → ExcAt h' (α i) cl dx lo (some (fr.elim .none fun f => rawInt f)) → Q () { s with heap := h' }) :
    wpAny C.M A (setFlight (.ref (α i)) fr) Q E s := by
  refine cps fun G k_ => ?_
  obtain ⟨oe, vs, a0, he, hc, hdx, hd, h0, T, oT, ts, h1, hTe, hlT, hT, hTc, hTd, h3⟩ := ea
  refine k_ ?_
  have hTf : T ∉ frs l := fun q => by
    obtain ⟨_, ⟨o, es, ep, e, d⟩, _⟩ := S.fr q
    rw [hT] at e; obtain rfl := Option.some.inj e
    rw [hTd] at d; injection d
  skip
  refine wpAny_bind (wpAny_field he hd h1 ?_)
  rw [if_pos (show (Value.ref T != Value.none) = true from by simp)]
  have hsz3 : 3 < ts.size := (Array.getElem?_eq_some_iff.mp h3).1
  refine wpAny_setField hT hTd hsz3 ?_
  have hd₃ := Obj.data_mapFields hTd (·.setIfInBounds 3 (fr.elim Value.none fun f => rawInt f))
  have hT₃ := Heap.get?_update_self (Obj.mapFields (·.setIfInBounds 3 (fr.elim Value.none fun f => rawInt f))) hT (Obj.isFreed_of_fields hd₃)
  have oth : ∀ b, b ≠ T → (s.heap.update T (Obj.mapFields (·.setIfInBounds 3 (fr.elim Value.none fun f => rawInt f)))).get? b = s.heap.get? b := fun b hb => Heap.get?_update_other _ _ (Ne.symm hb)
  have mv : Moved l (α i) T s.heap (s.heap.update T (Obj.mapFields (·.setIfInBounds 3 (fr.elim Value.none fun f => rawInt f)))) := by
    refine ⟨fun b o e h1 h2 h3 => (oth b h2).trans e, fun b o e hb => ⟨o.slots, (oth b fun q => hTf (q ▸ hb)).trans e⟩, fun b e => ?_⟩
    by_cases z : b = T
    · rw [z, hT₃] at e; exact ns e
    · rw [← oth b z]; exact e
  refine h _ T (S.moved hi mv ⟨oe, cl, (oth _ (Ne.symm hTe)).trans he, hc⟩ (fun o e => by rw [hT] at e; obtain rfl := Option.some.inj e; exact hTc) (hC _ hlT)) mv hlT ?_
  exact ⟨oe, vs, a0, (oth _ (Ne.symm hTe)).trans he, hc, hdx, hd, h0, T, _, _, h1, hTe, hlT, hT₃, (Obj.cls_mapFields _ _).trans hTc, hd₃, by simp [hsz3]⟩
theorem note_ok {d : Nat} (rm : Room d l A) {e0 : Env} {r : List Env} (hl : l = e0 :: r) (hfr : e0.frame = env.frame) {i : Nat} (S : St C l α (σ.set i .dead) s.heap) (hi : i < σ.length) {lo : Heap} {cl dx : Addr} {fl : Option Value} {X : Addr → Prop} {n₀ : Nat} {α₀ : Nat → Addr} {Q : Unit → Shared → Prop}
    (nx : Nx X l n₀ α₀ lo σ.length α s.heap) (hC : ∀ b, lo.get? b = none → C.H.get? b = none) (ea : ExcAt s.heap (α i) cl dx lo fl) (hfl : FlOK env fl)
    (h : ∀ h' L, env.frame = some L → St C l α (σ.set i .dead) h' → Nx X l n₀ α₀ lo σ.length α h' → ExcAt h' (α i) cl dx lo (some (rawInt L)) → Q () { s with heap := h' }) :
    wpAny C.M A (noteFrame (.ref (α i)) env) Q E s := by
  obtain ⟨L, hL⟩ : ∃ L, e0.frame = some L := by
    obtain ⟨_, L, _, _, _, hf, _⟩ := S.frames e0 (by rw [hl]; exact .head _)
    exact ⟨L, hf⟩
  rw [noteFrame_frame hfr]
  have ea' := ea
  obtain ⟨oe, vs, a0, he, hc, hdx, hd, h0, hx⟩ := ea
  unfold noteFrame
  simp only [hL]
  induction fl with
  | none =>
    refine wpAny_bind (wpAny_field he hd hx ?_)
    rw [if_neg (by decide)]
    exact entry_ok rm hl hL S hi he hc hdx hd h0 (Array.getElem?_eq_some_iff.mp hx).1 nx.alive hC fun h' T st mv hT e => h h' L (hfr ▸ hL) st (nx.moved mv hi hT) e
  | some v =>
    obtain ⟨T, oT, ts, h1, hTe, hlT, hT, hTc, hTd, h3⟩ := hx
    refine wpAny_bind (wpAny_field he hd h1 ?_)
    rw [if_pos (show (Value.ref T != Value.none) = true from by simp)]
    refine wpAny_bind (wpAny_field hT hTd h3 ?_)
    rcases hfl with q | q | ⟨L', hL', q⟩
    · exact ns q
    · obtain rfl := Option.some.inj q
      rw [if_neg (show ¬ ((Value.none == rawInt L) = true) from by simp [rawInt])]
      have hsz3 : 3 < ts.size := (Array.getElem?_eq_some_iff.mp h3).1
      refine wpAny_bind (wpAny_setField hT hTd hsz3 ?_)
      have hTf : T ∉ frs l := fun q => by
        obtain ⟨_, ⟨o, es, ep, e, d⟩, _⟩ := S.fr q
        rw [hT] at e; obtain rfl := Option.some.inj e
        rw [hTd] at d; injection d
      have hd₃ := Obj.data_mapFields hTd (·.setIfInBounds 3 Value.none)
      have hT₃ := Heap.get?_update_self (Obj.mapFields (·.setIfInBounds 3 Value.none)) hT (Obj.isFreed_of_fields hd₃)
      have oth : ∀ b, b ≠ T → (s.heap.update T (Obj.mapFields (·.setIfInBounds 3 Value.none))).get? b = s.heap.get? b := fun b hb => Heap.get?_update_other _ _ (Ne.symm hb)
      have mv : Moved l (α i) T s.heap (s.heap.update T (Obj.mapFields (·.setIfInBounds 3 Value.none))) := by
        refine ⟨fun b o e h1 h2 h3 => (oth b h2).trans e, fun b o e hb => ⟨o.slots, (oth b fun q => hTf (q ▸ hb)).trans e⟩, fun b e => ?_⟩
        by_cases z : b = T
        · rw [z, hT₃] at e; exact ns e
        · rw [← oth b z]; exact e
      have st1 := S.moved hi mv ⟨oe, cl, (oth _ (Ne.symm hTe)).trans he, hc⟩ (fun o e => by rw [hT] at e; obtain rfl := Option.some.inj e; exact hTc) (hC _ hlT)
      have nx1 := nx.moved mv hi hlT
      exact entry_ok rm hl hL st1 hi ((oth _ (Ne.symm hTe)).trans he) hc hdx hd h0 (Array.getElem?_eq_some_iff.mp h1).1 nx1.alive hC fun h' T' st mv' hT' e => h h' L (hfr ▸ hL) st (nx1.moved mv' hi hT') e
    · obtain rfl := Option.some.inj q
      have : L' = L := by rw [hfr, hL'] at hL; exact Option.some.inj hL
      subst this
      rw [if_pos (by simp)]
      exact wpAny_pure (h s.heap L' hL' S nx ea')
theorem leaving_ok {d : Nat} (rm : Room d l A) {e0 : Env} {r : List Env} (hl : l = e0 :: r) (hfr : e0.frame = env.frame) {i : Nat} (S : St C l α (σ.set i .dead) s.heap) (hi : i < σ.length) {lo : Heap} {cl dx : Addr} {fl : Option Value} {X : Addr → Prop} {n₀ : Nat} {α₀ : Nat → Addr} {Q : Unit → Shared → Prop}
    (nx : Nx X l n₀ α₀ lo σ.length α s.heap) (hC : ∀ b, lo.get? b = none → C.H.get? b = none) (ea : ExcAt s.heap (α i) cl dx lo fl) (hfl : FlOK env fl)
    (h : ∀ h', St C l α (σ.set i .dead) h' → Nx X l n₀ α₀ lo σ.length α h' → ExcAt h' (α i) cl dx lo (some .none) → Q () { s with heap := h' }) :
    wpAny C.M A (leaving env (.ref (α i))) Q E s := by
  unfold leaving
  refine wpAny_bind (note_ok rm hl hfr S hi nx hC ea hfl fun h' L hL st nx' ea' => ?_)
  exact flight_ok st hi hC ea' fun h'' T st' mv hT ea'' => h h'' st' (nx'.moved mv hi hT) ea''
end
end Mine
end
section
open PySem.Calls
namespace Mine
structure RoomC (d : Nat) (l : List Env) (A : Around) : Prop where
  frames : A.frames = some l
  handled : A.handled = none
  depth : A.depth + 2 * d ≤ 891
  units : A.units + 60 * d ≤ 9030
theorem Room.call {d l A} (r : Room d l A) : RoomC d l A := ⟨r.frames, r.handled, Nat.le_trans r.depth (by decide), Nat.le_trans r.units (by decide)⟩
theorem RoomC.deeper {d l A} {env : Env} (r : RoomC (d + 1) l A) : Room d (env :: l) (A.deeper env) := by
  have h1 := r.depth
  have h2 := r.units
  refine ⟨?_, r.handled, ?_, ?_⟩
  · show A.frames.map (env :: ·) = _
    rw [r.frames]; rfl
  · show A.depth + 1 + 2 * d ≤ 890
    lia
  · show A.units + 3 + 60 * d ≤ 9000
    lia
noncomputable def CallOK (C : Cx) (d : Nat) (cl : CallO) : Prop := ∀ f as σ l A s α vals Q E, RoomC d l A → St C l α σ s.heap → RelVs s.heap α σ.length as vals → Cont C noX FlOut l RelE (cl f as σ) σ.length α s Q E →
  codeAny C.M A (.call (.ref f) ⟨vals, []⟩) (fun r s' => match r with | .ok (.ret v) => Q v s' | .ok _ => False | .error e => E e s') s
structure FnOK (K : Frag) (r : FnRec) (fd : FuncData) : Prop where
  body : fd.body = .stmts (srcSs r.body)
  scope : fd.scope = r.scope
  glob : fd.globals = mainGlobals
  blt : fd.builtins = builtinsNs
  clos : fd.closure = []
  code : codeIn K fd.code fd.qualname = true
  kind : r.scope.kind = .function
  gen : r.scope.isGenerator = false
  co : r.scope.isCoroutine = false
  names : ∀ x ∈ r.scope.names, x.2 ≠ .cell ∧ x.2 ≠ .free
  params : ∀ x ∈ r.params, r.scope.names.lookup x = some .local
  nodup : r.params.Nodup
  bind : ∀ s vals, K.In s.heap → vals.length = r.params.length → BindsTo s fd ⟨vals, []⟩ (r.params.zip vals)
  dflt : ∀ s vals, K.In s.heap → r.dflt ≠ [] → vals.length + r.dflt.length = r.params.length → ∃ ds, (∀ h α n, RelVs h α n r.dflt ds) ∧ BindsTo s fd ⟨vals, []⟩ (r.params.zip (vals ++ ds))
noncomputable def FnFact (K : Frag) (f : Addr) (r : FnRec) : Prop := Y4 fun fd oc od osl => K.lookup f = some ⟨oc, od, .func fd, osl⟩ ∧ FnOK K r fd
structure Facts3 (C : Cx) (G : Top') : Prop where
  fn : ∀ f r, G.fn f = some r → FnFact C.K f r
theorem lookup_mem {α : Type} {x : Str} {v : α} {l : List (Str × α)} (h : l.lookup x = some v) : (x, v) ∈ l := by
  induction l with
  | nil => exact nn h
  | cons p r ih =>
    obtain ⟨y, w⟩ := p
    rw [List.lookup_cons] at h
    cases q : x == y with
    | true => rw [q] at h; obtain rfl := Option.some.inj h; rw [eq_of_beq q]; exact .head _
    | false => rw [q] at h; exact .tail _ (ih h)
theorem lookup_last {α : Type} {x y : Str} {w : α} {l : List (Str × α)} : (l ++ [(y, w)]).lookup x = (l.lookup x).or (if x == y then some w else none) := by
  induction l with
  | nil =>
    rw [List.nil_append, List.lookup_cons]
    cases x == y <;> rfl
  | cons p r ih =>
    rw [List.cons_append, List.lookup_cons, List.lookup_cons]
    cases x == p.1
    · exact ih
    · rfl
theorem zip_rel {h : Heap} {α : Nat → Addr} {n : Nat} {ps : List Str} : ∀ {xs : List VV} {vs : List Value}, ps.Nodup → RelVs h α n xs vs → ∀ x v, assocGet x (ps.zip xs) = some v → ∃ w, C3 ((ps.zip vs).reverse.lookup x = some w) (RelV h α n v w) (x ∈ ps) := by
  induction ps with
  | nil => exact fun _ _ x v e => nomatch e
  | cons p ps ih =>
    intro xs vs hn r x v e
    cases xs with
    | nil => exact nomatch e
    | cons y xs =>
      obtain ⟨w, vs, rfl, a, r2⟩ := r.inv
      have hn := List.nodup_cons.mp hn
      show ∃ w', C3 (List.lookup x ((p, w) :: ps.zip vs).reverse = some w') (RelV h α n v w') (x ∈ p :: ps)
      rw [List.reverse_cons, lookup_last]
      by_cases q : p = x
      · subst q
        obtain rfl := Option.some.inj ((if_pos rfl).symm.trans e)
        have : (ps.zip vs).reverse.lookup p = none := by
          cases q : (ps.zip vs).reverse.lookup p with
          | none => rfl
          | some z => exact (hn.1 (List.of_mem_zip (List.mem_reverse.mp (lookup_mem q))).1).elim
        rw [this, if_pos (beq_self_eq_true p)]
        exact ⟨w, rfl, a, .head _⟩
      · obtain ⟨w', e1, r1, m⟩ := ih hn.2 r2 x v ((if_neg q).symm.trans e)
        rw [e1]
        exact ⟨w', rfl, r1, .tail _ m⟩
theorem lookE_junk {α : Type} {f : α → Str} {l : List α} {x : Str} {v : VV} : ∀ {ρ : VE}, lookE x (ρ ++ l.map fun p => (f p, VV.junk)) = some v → assocGet x ρ = some v := by
  intro ρ e
  obtain ⟨e1, e2⟩ := lookE_get e
  clear e
  induction ρ with
  | nil =>
    exfalso
    induction l with
    | nil => exact nn e1
    | cons a l ih =>
      by_cases q : f a = x
      · cases (if_pos q).symm.trans e1; exact nn e2
      · exact ih ((if_neg q).symm.trans e1)
  | cons p ρ ih =>
    by_cases q : p.1 = x
    · exact (if_pos q).trans ((if_pos q).symm.trans e1)
    · exact (if_neg q).trans (ih ((if_neg q).symm.trans e1))
section
variable {C : Cx} {d : Nat} {G : Top'} {cl : CallO} {o : Ops}
theorem argsOf_of {r : FnRec} {as bs : List VV} (h : argsOf r as = some bs) : (bs = as ∧ as.length = r.params.length) ∨ (bs = as ++ r.dflt ∧ as.length ≠ r.params.length ∧ as.length + r.dflt.length = r.params.length) := by
  unfold argsOf at h
  cases q : Nat.beq as.length r.params.length with
  | true => rw [q] at h; exact .inl ⟨(Option.some.inj h).symm, Nat.eq_of_beq_eq_true q⟩
  | false =>
    rw [q] at h
    cases z : Nat.beq (as.length + r.dflt.length) r.params.length with
    | true => rw [z] at h; exact .inr ⟨(Option.some.inj h).symm, Nat.ne_of_beq_eq_false q, Nat.eq_of_beq_eq_true z⟩
    | false => rw [z] at h; exact nomatch h
theorem call_body (o : Ops) {f : Addr} {r : FnRec} {fd : FuncData} {oc : Value} {od : Option Addr} {osl : Array (Option Value)} (hk : C.K.lookup f = some ⟨oc, od, .func fd, osl⟩) (R : FnOK C.K r fd) {σ : VH} {l : List Env} {A : Around} {s : Shared} {α : Nat → Addr} {Q : Value → Shared → Prop} {E : Value → Shared → Prop} {as : List VV} {vals vals' : List Value}
    (H : ∀ env, Ex C d (execs (srcSs r.body) env) r.scope env (r.params.zip as ++ junks r) σ (o.exs r.scope r.body (r.params.zip as ++ junks r) σ)) (rm : RoomC (d + 1) l A) (st : St C l α σ s.heap) (ra : RelVs s.heap α σ.length as vals') (hb : BindsTo s fd ⟨vals, []⟩ (r.params.zip vals')) (hl : as.length = r.params.length) (K : Cont C noX FlOut l RelE (runBody o r as σ) σ.length α s Q E) :
    codeAny C.M A (.call (.ref f) ⟨vals, []⟩) (fun r s' => match r with | .ok (.ret v) => Q v s' | .ok _ => False | .error e => E e s') s := by
  have XK := C.inK.keeps st.stay
  have hvl : vals'.length = r.params.length := by rw [ra.length, hl]
  have hdep := rm.depth
  refine codeAny_call_def (fd := fd) (body := srcSs r.body) (binds := r.params.zip vals') (by show A.depth < 1000; lia) (XK _ _ hk) rfl (C.top.nolimit.keeps st.stay) (codeRec_of XK R.code) R.body hb
    (by rw [R.scope]; exact fun x hx => (R.names x hx).1) (by rw [R.scope]; exact fun x hx => R.params _ (List.of_mem_zip hx).1) (fun h₁ hns hk₁ => ?_) (by rw [R.scope]; exact R.co) (by rw [R.scope]; exact R.gen) (by rw [R.scope]; exact R.kind)
  generalize hL : s.heap.objs.size = L at hns
  have hLn : s.heap.get? L = none := hL ▸ fresh_size _
  have hLH : C.H.get? L = none := by
    cases q : C.H.get? L with
    | none => rfl
    | some o => have := st.stay _ _ q; rw [hLn] at this; exact nn this
  have hLα : ∀ i, i < σ.length → α i ≠ L := fun i hi q => by
    obtain ⟨_, e⟩ := (st.at hi).1
    rw [q, hLn] at e; exact nn e
  generalize henv : callEnv fd L f = env
  have e1 : env.scope = r.scope := by subst henv; exact R.scope
  have e2 : env.frame = some L := by subst henv; rfl
  have e3 : env.locals = L := by subst henv; rfl
  have e4 : env.cells = [] := by subst henv; exact R.clos
  have e5 : env.globals = mainGlobals := by subst henv; exact R.glob
  have e6 : env.builtins = builtinsNs := by subst henv; exact R.blt
  have ek : ∀ x, env.kindOf x = r.scope.names.lookup x := fun x => by unfold Env.kindOf; rw [e1]
  have hOwn : ∀ b, Own env b → b = L := by
    rintro b (q | ⟨x, q⟩)
    · rw [q, e3]
    · rw [e4] at q; exact nn q
  have st₁ : St C (env :: l) α σ h₁ := by
    have g := st.grown hk₁
    refine ⟨g.stay, g.objs, g.inj, g.new, fun e he => ?_, fun i hi hm => ?_⟩
    · cases he with
      | head =>
        obtain ⟨oL, es, ep, hL1, hL2, _⟩ := hns
        exact ⟨(by rw [e1, R.kind]; exact fun q => nomatch q), L, oL, es, ep, e2, hLH, hL1, hL2⟩
      | tail _ he => exact g.frames e he
    · have : frs (env :: l) = L :: frs l := by simp [frs, e2]
      rw [this] at hm
      cases hm with
      | head => exact hLα i hi rfl
      | tail _ hm => exact g.apart i hi hm
  have er₁ : EnvR C r.scope env (env :: l) h₁ α σ.length (r.params.zip as ++ junks r) := by
    refine ⟨e5, e6, by rw [e1]; exact R.kind, ⟨env, l, rfl, rfl, by rw [e1]; exact R.gen, by rw [e1]; exact R.co, e6, e5⟩, fun x => ?_, ⟨_, by rw [e3]; exact hns, fun x v e => ?_⟩, by rw [e3]; exact hLH, by rw [e3]; exact hLα, fun x c e => (by rw [e4] at e; exact nn e), fun x y c e => (by rw [e4] at e; exact nn e), fun x e => ((R.names _ (lookup_mem e)).1 rfl).elim⟩
    · rw [ek]
      split
      · rename_i q; exact q
      · rename_i q; exact q
      · rename_i q; exact q
      · rename_i q; exact ((R.names _ (lookup_mem q)).2 rfl).elim
      · trivial
    · refine cps fun G k_ => ?_
      obtain ⟨w, e7, rw', hm⟩ := zip_rel R.nodup ra x v (lookE_junk e)
      refine k_ ?_
      exact ⟨w, rw'.keeps (Keeps.of hk₁) (Nat.le_refl _) (fun _ _ => rfl), .inl ⟨by rw [ek]; exact R.params x hm, e7⟩⟩
  have back : ∀ {n' : Nat} {α' : Nat → Addr} {h' : Heap}, Nx (Own env) (env :: l) σ.length α h₁ n' α' h' → Nx noX l σ.length α s.heap n' α' h' := fun {n' α' h'} nx => by
    have ne : ∀ b o, s.heap.get? b = some o → b ≠ L := fun b o e q => by rw [q, hLn] at e; exact nn e
    refine ⟨nx.le, nx.ext, fun b e => alive_of hk₁ b (nx.alive b e), fun i h1 h2 => alive_of hk₁ _ (nx.fresh i h1 h2), fun b o e h1 _ h3 => ?_, fun b o e h1 _ h3 => ?_⟩
    · refine nx.keep b o (hk₁ b o e) h1 (fun q => ne b o e (hOwn b q)) fun q => ?_
      have : frs (env :: l) = L :: frs l := by simp [frs, e2]
      rw [this] at q
      cases q with
      | head => exact ne _ o e rfl
      | tail _ q => exact h3 q
    · refine nx.slots b o (hk₁ b o e) h1 (fun q => ne b o e (hOwn b q)) ?_
      have : frs (env :: l) = L :: frs l := by simp [frs, e2]
      rw [this]; exact .tail _ h3
  have pop : ∀ {σ' : VH} {α' : Nat → Addr} {h' : Heap}, St C (env :: l) α' σ' h' → St C l α' σ' h' := fun S => ⟨S.stay, S.objs, S.inj, S.new, fun e he => S.frames e (.tail _ he), fun i hi hm => S.apart i hi (by
    have : frs (env :: l) = L :: frs l := by simp [frs, e2]
    rw [this]; exact .tail _ hm)⟩
  refine (H env) (env :: l) (A.deeper env) ⟨h₁, s.gens, s.drawn, _, s.os⟩ α _ _ rm.deeper st₁ er₁ ⟨fun q => ?_, fun p σ' α' c h' t' e st' nx rel => ?_, fun i cls dd σ' α' h' t' fl e hi st' nx ea hf => ?_⟩
  · exact (K.ns (congrArg retR q)).elim
  · have er' : runBody o r as σ = retBy p.1 σ' := congrArg retR e
    obtain ⟨f1, ρ'⟩ := p
    obtain ⟨rf, _⟩ := rel
    induction f1 with
    | next =>
      induction c <;> first | exact rf.elim | skip
      exact K.ok .none σ' α' .none h' t' er' (pop st') (back nx) .none
    | ret v =>
      induction c <;> first | exact rf.elim | skip
      exact K.ok v σ' α' _ h' t' er' (pop st') (back nx) rf
    | brk => rw [er'] at K; exact K.dead
    | cont => rw [er'] at K; exact K.dead
  · have er' : runBody o r as σ = .exc i σ' := congrArg retR e
    have hi' : i < σ'.length := (List.getElem?_eq_some_iff.mp hi).1
    refine leaving_ok (s := ⟨h', s.gens, s.drawn, t', s.os⟩) (cl := cls) (dx := α' dd) (fl := fl) (lo := s.heap) (X := Own env) (n₀ := σ.length) (α₀ := α) (A := A.deeper env) rm.deeper (e0 := env) (r := l) rfl rfl st' hi' ?_ (fun b e => alive_of st.stay b e) ?_ hf fun h'' st'' nx'' ea'' => ?_
    · refine ⟨nx.le, nx.ext, fun b e => alive_of hk₁ b (nx.alive b e), fun i h1 h2 => alive_of hk₁ _ (nx.fresh i h1 h2), fun b o e h1 h2 h3 => nx.keep b o (hk₁ b o e) h1 h2 h3, fun b o e h1 h2 h3 => nx.slots b o (hk₁ b o e) h1 h2 h3⟩
    · exact ea.lo (alive_of hk₁)
    · refine K.ex i cls dd σ' α' h'' t' _ er' hi (pop st'') ?_ ea'' (.inr rfl)
      have ne : ∀ b o, s.heap.get? b = some o → b ≠ L := fun b o e q => by rw [q, hLn] at e; exact nn e
      have hfr : frs (env :: l) = L :: frs l := by simp [frs, e2]
      refine ⟨nx''.le, nx''.ext, nx''.alive, nx''.fresh, fun b o e h1 _ h3 => nx''.keep b o e h1 (fun q => ne b o e (hOwn b q)) fun q => ?_, fun b o e h1 _ h3 => nx''.slots b o e h1 (fun q => ne b o e (hOwn b q)) (by rw [hfr]; exact .tail _ h3)⟩
      rw [hfr] at q
      cases q with
      | head => exact ne _ o e rfl
      | tail _ q => exact h3 q
theorem call_ok (o : Ops) (F : Facts3 C G) {f : Addr} {as : List VV} {σ : VH} (H : ∀ r bs, G.fn f = some r → argsOf r as = some bs → ∀ env, Ex C d (execs (srcSs r.body) env) r.scope env (r.params.zip bs ++ junks r) σ (o.exs r.scope r.body (r.params.zip bs ++ junks r) σ)) : ∀ l A s α vals Q E, RoomC (d + 1) l A → St C l α σ s.heap → RelVs s.heap α σ.length as vals → Cont C noX FlOut l RelE (callF G o f as σ) σ.length α s Q E →
    codeAny C.M A (.call (.ref f) ⟨vals, []⟩) (fun r s' => match r with | .ok (.ret v) => Q v s' | .ok _ => False | .error e => E e s') s := by
  intro l A s α vals Q E rm st ra K
  have XK := C.inK.keeps st.stay
  refine K.opt (f := callR o as σ) rfl fun r er K => K.opt (f := runOpt o r σ) rfl fun bs ebs K₂ => ?_
  obtain ⟨fd, oc, od, osl, hk, R⟩ := F.fn f r er
  have H2 := H r bs er ebs
  rcases argsOf_of ebs with ⟨rfl, hl⟩ | ⟨rfl, h1, hl⟩
  · exact call_body o hk R H2 rm st ra (R.bind s vals XK (by rw [ra.length, hl])) hl K₂
  · obtain ⟨ds, hd, hb⟩ := R.dflt s vals XK (fun q => h1 (by rw [q] at hl; simpa using hl)) (by rw [ra.length]; exact hl)
    exact call_body o hk R H2 rm st (ra.append (hd _ _ _)) hb (by rw [List.length_append]; exact hl) K₂
end
end Mine
end
section
open PySem.Calls
namespace Mine
section
variable {C : Cx} {d : Nat} {G : Top'} {cl : CallO} {o : Ops} {env : Env} {sc : Scope} {σ : VH} {ρ : VE} {l : List Env} {α : Nat → Addr} {s : Shared} {A : Around} {E : Value → Shared → Prop}
inductive GetI : VO → VV → VV → VV → Prop
  | int {o es k d} : dictI o = some es → GetI o (.int k) d ((assocGet k es).getD d)
  | str {o es k d} : dictS o = some es → GetI o (.str k) d ((assocGet k es).getD d)
  | tup {o es xs ks d} : dictT o = some es → intKeys (.tup xs) = some ks → GetI o (.tup xs) d ((assocGet ks es).getD d)
theorem get_inv {o : VO} {k d v : VV} (e : getDV o k d = some v) : GetI o k d v := by
  cases k <;> try exact nn e
  · obtain ⟨es, q, rfl⟩ := Option.map_eq_some_iff.mp e; exact .int q
  · obtain ⟨es, q, rfl⟩ := Option.map_eq_some_iff.mp e; exact .str q
  · obtain ⟨es, q, e⟩ := Option.bind_eq_some_iff.mp e
    obtain ⟨ks, p, rfl⟩ := Option.map_eq_some_iff.mp e
    exact .tup q p
inductive MthI (σ : VH) (r : Nat) : String → List VV → Res VV → Prop
  | app {xs v} : σ[r]? = some (.list xs) → okLen xs.length = true → MthI σ r "list.append" [v] (.ok .none (σ.set r (.list (xs ++ [v]))))
  | pop {xs v} : σ[r]? = some (.list (xs ++ [v])) → okLen (xs ++ [v]).length = true → MthI σ r "list.pop" [] (.ok v (σ.set r (.list xs)))
  | add {xs k} : σ[r]? = some (.set xs) → xs.length ≤ 100 → MthI σ r "set.add" [.int k] (.ok .none (σ.set r (.set (if k ∈ xs then xs else xs ++ [k]))))
  | get {o k d v} : σ[r]? = some o → GetI o k d v → MthI σ r "dict.get" [k, d] (.ok v σ)
section
variable {σ : VH} {r : Nat} {as : List VV} {o : VO}
theorem mth_app (e : σ[r]? = some o) : Lv (MthI σ r "list.append" as) (brSet r (mApp o as) σ) := by
  rcases as with _ | ⟨v, _ | ⟨_, _⟩⟩ <;> try exact .no
  induction o <;> try exact .no
  rename_i xs
  by_cases q : okLen xs.length = true
  · have : mApp (.list xs) [v] = some (.o .none (.list (xs ++ [v]))) := congrArg (Option.map _) (if_pos q)
    rw [this]; exact .inr (.app e q)
  · have : mApp (.list xs) [v] = none := congrArg (Option.map _) (if_neg q)
    rw [this]; exact .no
theorem mth_pop (e : σ[r]? = some o) : Lv (MthI σ r "list.pop" as) (brSet r (mPop o as) σ) := by
  induction as <;> try exact .no
  induction o <;> try exact .no
  rename_i xs
  show Lv _ (brSet r (if _ then _ else _) σ)
  by_cases q : okLen xs.length = true
  · rw [if_pos q]
    cases el : xs.getLast? with
    | none => exact .no
    | some v =>
      obtain ⟨ys, rfl⟩ := List.getLast?_eq_some_iff.mp el
      have k := MthI.pop e q
      rw [← List.dropLast_concat (l₁ := ys) (b := v)] at k
      exact .inr k
  · rw [if_neg q]; exact .no
theorem mth_add (e : σ[r]? = some o) : Lv (MthI σ r "set.add" as) (brSet r (mAdd o as) σ) := by
  rcases as with _ | ⟨v, _ | ⟨_, _⟩⟩
  · exact .no
  · cases v <;> try exact .no
    induction o <;> try exact .no
    rename_i k xs
    show Lv _ (brSet r (if _ then _ else _) σ)
    by_cases q : Nat.ble xs.length 100 = true
    · rw [if_pos q]; exact .inr (.add e (Nat.le_of_ble_eq_true q))
    · rw [if_neg q]; exact .no
  · cases v <;> exact .no
theorem mth_get (e : σ[r]? = some o) : Lv (MthI σ r "dict.get" as) (brSet r (mGet o as) σ) := by
  rcases as with _ | ⟨k, _ | ⟨d, _ | ⟨_, _⟩⟩⟩ <;> try exact .no
  show Lv _ (brSet r ((getDV o k d).map .v) σ)
  cases q : getDV o k d with
  | none => exact .no
  | some v => exact .inr (.get e (get_inv q))
theorem iteS {P : Res VV → Prop} {c : Prop} [Decidable c] {a b : Option BR} (h : c → Lv P (brSet r a σ)) (k : Lv P (brSet r b σ)) : Lv P (brSet r (if c then a else b) σ) := by
  by_cases q : c
  · rw [if_pos q]; exact h q
  · rw [if_neg q]; exact k
theorem mth_inv (id : String) : Lv (MthI σ r id as) (mthRun id r as σ) := by
  unfold mthRun
  cases e : σ[r]? with
  | none => exact .no
  | some o => exact iteS (fun q => by subst q; exact mth_app e) (iteS (fun q => by subst q; exact mth_pop e) (iteS (fun q => by subst q; exact mth_add e) (iteS (fun q => by subst q; exact mth_get e) .no)))
end
theorem ite_len {k : Int} {xs : List Int} : (if decide (k ∈ xs) = true then xs.length else xs.length + 1) = (if k ∈ xs then xs else xs ++ [k]).length := by
  by_cases q : k ∈ xs <;> simp [q]
theorem ite_mem {k : Int} {xs : List Int} : (fun k' => decide (k' ∈ xs) || decide (k' = k)) = fun k' => decide (k' ∈ (if k ∈ xs then xs else xs ++ [k])) := by
  funext k'
  by_cases q : k ∈ xs
  · by_cases z : k' = k
    · subst z; simp [q]
    · simp [q, z]
  · simp [q]
theorem arr_last (p : List Value) (y : Value) : (p ++ [y]).toArray[(p ++ [y]).toArray.size - 1]? = some y := by simp
theorem arr_erase (p : List Value) (y : Value) : (p ++ [y]).toArray.eraseIdxIfInBounds ((p ++ [y]).toArray.size - 1) = p.toArray := by
  rw [show (p ++ [y]).toArray.size - 1 = p.length by simp, kl_erase, List.append_nil]
theorem RelVs.last {h : Heap} {α : Nat → Addr} {n : Nat} {xs : List VV} {v : VV} {vs : Array Value} (r : RelVs h α n (xs ++ [v]) vs.toList) : Y2 fun p y => C3 (vs = (p ++ [y]).toArray) (RelVs h α n xs p) (RelV h α n v y) := by
  obtain ⟨us, rfl⟩ : ∃ us : List Value, vs = us.toArray := ⟨vs.toList, rfl⟩
  rw [List.toList_toArray] at r
  induction xs generalizing us with
  | nil =>
    obtain ⟨y, t, rfl, a, b⟩ := r.inv
    obtain rfl := b.inv
    exact ⟨[], y, rfl, .nil, a⟩
  | cons x xs ih =>
    obtain ⟨y, t, rfl, a, b⟩ := r.inv
    obtain ⟨p, z, e, r1, r2⟩ := ih t b
    exact ⟨y :: p, z, by rw [show t = p ++ [z] from congrArg Array.toList e]; rfl, .cons a r1, r2⟩
theorem got {h : Heap} {α : Nat → Addr} {n : Nat} {o : Option VV} {w : Option Value} {d : VV} {x : Value} (R : match o with
    | some v => ∃ y, w = some y ∧ RelV h α n v y
    | none => w = none) (rd : RelV h α n d x) : RelV h α n (o.getD d) (w.getD x) := by
  induction o with
  | none => rw [show w = none from R]; exact rd
  | some v => obtain ⟨y, rfl, r⟩ := R; exact r
theorem mthRun_ok (S : St C l α σ s.heap) (hu : A.units + 100 < cLine) {id : String} {r : Nat} (hi : r < σ.length) {as : List VV} {vals : List Value} {X : Addr → Prop} {FL : Option Value → Prop} {Q : Value → Shared → Prop} (ra : RelVs s.heap α σ.length as vals) (K : Cont C X FL l RelE (mthRun id r as σ) σ.length α s Q E) :
    wpAny C.M A (call (.builtin id) (.ref (α r) :: vals)) Q E s := by
  rcases mth_inv (σ := σ) (r := r) (as := as) id with e | I
  · rw [e] at K; exact K.dead
  generalize mthRun id r as σ = w at I K
  induction I
  case app xs v ei hl =>
    obtain ⟨x, t, rfl, rv, r0⟩ := ra.inv
    obtain rfl := r0.inv
    obtain ⟨vs, c, hv, rr⟩ := S.objs r _ ei
    refine append_at hv (fun h' sb e => ?_) (by rw [← Array.length_toList, rr.length]; exact okLen_le hl)
    refine K.upd S hi sb ⟨_, _, e, ?_⟩ .none
    rw [Array.toList_push]
    exact RelVs.keeps (Keeps.but sb (S.at hi).2) (Nat.le_refl _) (fun _ _ => rfl) (rr.append (.cons rv .nil))
  case pop xs v ei hl =>
    refine cps fun G k_ => ?_
    obtain rfl := ra.inv
    obtain ⟨vs, c, hv, rr⟩ := S.objs r _ ei
    have hz := okLen_le hl
    rw [← rr.length, Array.length_toList] at hz
    obtain ⟨p, y, rfl, ht, ry⟩ := rr.last
    refine k_ ?_
    refine call_meets PySem.F.slot_list_pop ⟨_, hv, rfl⟩ PySem.F.entry_list_pop (PySem.F.args_list_pop_1 _) (PySem.MeetsSeq.list_pop_last (α r) _ c y (arr_last p y) hz) ⟨hv, ?_⟩
    have sb : Heap.SameBut (α r) s.heap (s.heap.update (α r) (Obj.mapSeq fun xs => xs.eraseIdxIfInBounds ((p ++ [y]).toArray.size - 1))) := Heap.SameBut.update ..
    have kp := Keeps.but sb (S.at hi).2
    obtain ⟨k, ek⟩ := listUpd (fun xs => xs.eraseIdxIfInBounds ((p ++ [y]).toArray.size - 1)) hv
    rw [arr_erase] at ek
    exact K.upd S hi sb ⟨_, k, ek, RelVs.keeps kp (Nat.le_refl _) (fun _ _ => rfl) ht⟩ (ry.keeps kp (Nat.le_refl _) fun _ _ => rfl)
  case add xs k ei hl =>
    obtain ⟨t, rfl⟩ := ra.int1
    refine call_set_add (knd := iK C) (intKind_is _ _ _ _) rfl (S.objs r _ ei) (Nat.lt_of_le_of_lt (Nat.succ_le_succ hl) (by decide)) fun h' sb hs => ?_
    rw [ite_mem, ite_len] at hs
    exact K.upd S hi sb hs .none
  case get o k d v ei g =>
    obtain ⟨x, t, rfl, rk, r0⟩ := ra.inv
    obtain ⟨x', t', rfl, rd, r1⟩ := r0.inv
    obtain rfl := r1.inv
    induction g
    case int es k d e1 =>
      obtain ⟨t, rfl⟩ := rk.inv
      obtain ⟨kvs, dd, rr⟩ := S.dictI ei e1
      exact call_meetsIn F.slot_dict_get dd.typeIs F.entry_dict_get (F.args_dict_get_3 _ _ _) (meets_dict_get_default (iK C) (α r) (intKind_is _ _ _ _) (S.notModules hi) _) ⟨_, dd.mapOf, K.pure S (got (rr.get k) rd)⟩
    case str es k d e1 =>
      obtain ⟨t, rfl⟩ := rk.inv
      obtain ⟨kvs, dd, rr⟩ := S.dictS ei e1
      exact call_meetsIn F.slot_dict_get dd.typeIs F.entry_dict_get (F.args_dict_get_3 _ _ _) (meets_dict_get_default (sK C) (α r) (strKind_is _ _ _ _) (S.notModules hi) _) ⟨_, dd.mapOf, K.pure S (got (rr.get k) rd)⟩
    case tup es xs ks d e1 e3 =>
      obtain ⟨a, vs, rfl, ht, rk2⟩ := rk.inv
      obtain ⟨kvs, dd, rr⟩ := S.dictT ei e1
      refine call_meetsIn F.slot_dict_get dd.typeIs F.entry_dict_get (F.args_dict_get_3 _ _ _) (meetsH_dict_get_default (tupleKind (iK C)) (α r) a (S.notModules hi) _) ⟨show A.in1.units < cLine by show A.units + 1 < _; lia, ks, kvs, tupKey_of ht rk2 e3, dd, ?_⟩
      have := rr.get ks
      rw [← atKey_eq] at this
      exact K.pure S (got this rd)
end
end Mine
end
section
open PySem.Calls
namespace Mine
structure CallS (C : Cx) (d : Nat) (cl : CallO) : Prop where
  ok : CallOK C d cl
  keep : ∀ f as σ, cl f as σ ≠ .stuck → keepIn C.K (.ref f) = true
noncomputable def ExcMk (C : Cx) (d : Nat) (G : Top') : Prop := ∀ D as σ l A s α vals Q E, RoomC d l A → G.exc D = true → St C l α σ s.heap → RelVs s.heap α σ.length as vals →
  Cont C noX FlOut l RelE (excNewV D as σ) σ.length α s Q E →
  codeAny C.M A (.call (.ref D) ⟨vals, []⟩) (fun r s' => match r with | .ok (.ret v) => Q v s' | .ok _ => False | .error e => E e s') s
structure Facts4 (C : Cx) (G : Top') : Prop where
  init : ∀ D f, G.init D = some f → makesIn C.K D = true ∧ findIn C.K (.ref D) "__init__" = some (some (.ref f)) ∧ typeIn C.K (.ref f) = some (.type "function") ∧ keepIn C.K (.ref D) = true
  exc : ∀ D, G.exc D = true → keepIn C.K (.ref D) = true
  cmeth : ∀ D a f, G.cmeth D a = some f → ∃ mc, C3 (specialIn C.K (.ref D) "__getattribute__" = some (some (.builtin "type.__getattribute__"))) (readsIn C.K D mc = true) (findCls C.K (.ref D) mc a = some (.val (.ref f)))
section
variable {C : Cx} {d : Nat} {G : Top'} {cl : CallO} {o : Ops} {env : Env} {sc : Scope} {σ : VH} {ρ : VE} {l : List Env} {α : Nat → Addr} {s : Shared} {A : Around} {E : Value → Shared → Prop}
theorem starEach_cons (e : XE) (r : List XE) : starEach (src e :: srcs r) env = (false, eval (src e) env) :: starEach (srcs r) env := by cases e <;> rfl
theorem star_any {pos : Pos} (es : List XE) : (backTo pos (starEach (srcs es) env)).any (·.1) = false ∧ (backTo pos (starEach (srcs es) env)).all (fun x => !x.1) = true := by
  induction es with
  | nil => exact ⟨rfl, rfl⟩
  | cons e r ih =>
    show (backTo pos (starEach (src e :: srcs r) env)).any _ = _ ∧ (backTo pos (starEach (src e :: srcs r) env)).all _ = _
    rw [starEach_cons]
    exact ih
theorem args_ok {es : List XE} {pos : Pos} {f : Value} {Q : Args → Shared → Prop} (k : wpAny C.M A (spliced (backTo pos (starEach (srcs es) env))) (fun vs s' => Q ⟨vs, []⟩ s') E s) :
    wpAny C.M A (evalArgs f true (backTo pos (starEach (srcs es) env)) []) Q E s := by
  induction es with
  | nil =>
    skip
    skip
    refine wpAny_bind (wpAny_mono (show wpAny C.M A (spliced []) (fun vs s' => Q ⟨vs, []⟩ s') E s from k) (fun vs s' h' => ?_) fun _ _ x => x)
    exact wpAny_bind (wpAny_pure (wpAny_holding (wpAny_bind (wpAny_pure (wpAny_pure h')))))
  | cons e r =>
    replace k : wpAny C.M A (spliced (backTo pos (starEach (src e :: srcs r) env))) (fun vs s' => Q ⟨vs, []⟩ s') E s := k
    show wpAny C.M A (evalArgs f true (backTo pos (starEach (src e :: srcs r) env)) []) Q E s
    rw [starEach_cons] at k ⊢
    exact Calls.evalArgs_plain k
noncomputable def KpOK (C : Cx) (f : Value) (h : Heap) : Prop := ∃ k, (k = Keeper.frame ∨ k = Keeper.machine ∨ k = Keeper.boundFrame) ∧ Looks C.M h (keeperOf f) k
theorem KpOK.pure {f : Value} {h : Heap} (e : keeperOf f = pure .machine) : KpOK C f h := ⟨.machine, .inr (.inl rfl), Looks.of_pure e⟩
theorem KpOK.fn {σ : VH} {h : Heap} {f : Addr} (st : St C l α σ h) (k : keepIn C.K (.ref f) = true) : KpOK C (.ref f) h := keeps_K k _ (C.inK.keeps st.stay)
theorem callWith_any {f : Value} {first : List Value} {es : List XE} {pos : Pos} {Q : Value → Shared → Prop} (k : wpAny C.M A (spliced (backTo pos (starEach (srcs es) env))) (fun vs s₁ => KpOK C f s₁.heap ∧ wpAny C.M A (call f (first ++ vs)) Q E s₁) E s) :
    wpAny C.M A (callWith pos f first (backTo pos (starEach (srcs es) env)) []) Q E s := by
  refine callWith_of (P := KpOK C f) ?_ (fun _ p => p) (args_ok k)
  rw [(star_any es).1]; rfl
theorem under_tc {C₀ : Addr} {rest : List Value} {kw : List (Str × Value)} (rm : Room d l A) : RoomC d l (A.under (.builtin "type.__call__" ⟨.ref C₀ :: rest, kw⟩)) := by
  have h1 := rm.depth
  have h2 := rm.units
  refine ⟨?_, rm.handled, ?_, ?_⟩
  · skip
    exact rm.frames
  · have : (Code.builtin "type.__call__" ⟨.ref C₀ :: rest, kw⟩).weight = 1 := by rfl
    show A.depth + (Code.builtin "type.__call__" ⟨.ref C₀ :: rest, kw⟩).weight + 2 * d ≤ 891
    refine this ▸ ?_; lia
  · have : (Code.builtin "type.__call__" ⟨.ref C₀ :: rest, kw⟩).cUnits = 1 := rfl
    show A.units + (Code.builtin "type.__call__" ⟨.ref C₀ :: rest, kw⟩).cUnits + 60 * d ≤ 9030
    lia
theorem newInst_ok (HC : CallS C d cl) (F4 : Facts4 C G) (hx : ExcMk C d G) (rm : Room d l A) (st : St C l α σ s.heap) {D : Addr} {as : List VV} {vals : List Value} {Q : Value → Shared → Prop} (ra : RelVs s.heap α σ.length as vals)
    (K : Cont C noX FlOut l RelE (newInst G cl D as σ) σ.length α s Q E) : wpAny C.M A (call (.ref D) vals) Q E s := by
  refine wpAny_call (K.bif (fun he K => hx D as σ l A s α vals Q E rm.call he st ra K) fun _ K => K.opt (f := newBy cl D as σ) rfl fun f ef K => ?_)
  · · obtain ⟨hm, hi, hf, hk⟩ := F4.init D f ef
      have XK := C.inK.keeps st.stay
      obtain ⟨hp, g, dr, tk, os⟩ := s
      refine make_core (makes_of XK hm) (looks_findIn XK hi) (fun self => bind_fn XK self hf) (.inl rfl) ?_
      have k1 := push_keeps hp emptyDict
      have k2 := push_keeps (hp.push emptyDict) (instObj D hp.objs.size)
      have st1 : St C l (aext α σ.length hp.objs.size) (σ ++ [VO.attrs []]) (hp.push emptyDict) := st.alloc k1 (fresh_size _) ⟨fun _ => none, Heap.Ns.new .., ⟨_, Heap.get?_push_size _ rfl, rfl, #[], 0, rfl, Nat.le_refl _⟩, fun x => rfl⟩
      have hsz : (hp.push emptyDict).objs.size = hp.objs.size + 1 := Heap.size_push ..
      have st2 : St C l (aext (aext α σ.length hp.objs.size) (σ ++ [VO.attrs []]).length (hp.objs.size + 1)) ((σ ++ [VO.attrs []]) ++ [VO.inst D σ.length false]) ((hp.push emptyDict).push (instObj D hp.objs.size)) := by
        refine st1.alloc k2 (hsz ▸ fresh_size _) ⟨by simp; exact Nat.le_add_right _ _, instObj D hp.objs.size, ?_, rfl, ?_, rfl⟩
        · refine hsz ▸ ?_; exact Heap.get?_push_size _ rfl
        · rw [aext_old _ (by simp), aext_new]
      have nx1 : Nx noX l σ.length α hp (σ.length + 1) (aext α σ.length hp.objs.size) (hp.push emptyDict) := .alloc k1 (fresh_size _)
      have nx2 : Nx noX l (σ.length + 1) (aext α σ.length hp.objs.size) (hp.push emptyDict) (σ.length + 1 + 1) (aext (aext α σ.length hp.objs.size) (σ.length + 1) (hp.objs.size + 1)) ((hp.push emptyDict).push (instObj D hp.objs.size)) := .alloc k2 (hsz ▸ fresh_size _)
      have nx := nx1.trans nx2
      have el : (σ ++ [VO.attrs []]).length = σ.length + 1 := by simp
      have eapp : (σ ++ [VO.attrs []]) ++ [VO.inst D σ.length false] = σ ++ [VO.attrs [], VO.inst D σ.length false] := by simp
      rw [el, eapp] at st2
      have el2 : (σ ++ [VO.attrs [], VO.inst D σ.length false]).length = σ.length + 1 + 1 := by simp
      generalize hα : aext (aext α σ.length hp.objs.size) (σ.length + 1) (hp.objs.size + 1) = α2 at st2 nx
      have ea : α2 (σ.length + 1) = hp.objs.size + 1 := by exact hα ▸ aext_new ▸ rfl
      have rself : RelV ((hp.push emptyDict).push (instObj D hp.objs.size)) α2 (σ ++ [VO.attrs [], VO.inst D σ.length false]).length (.ref (σ.length + 1)) (.ref (hp.objs.size + 1)) := by
        refine ea ▸ ?_; exact .ref (by refine el2 ▸ ?_; exact Nat.lt_succ_self _)
      have ra2 : RelVs ((hp.push emptyDict).push (instObj D hp.objs.size)) α2 (σ ++ [VO.attrs [], VO.inst D σ.length false]).length as vals := by
        rw [el2]; exact RelVs.keeps (Keeps.of fun b o e => k2 b o (k1 b o e)) nx.le nx.ext ra
      refine codeAny_mono (HC.ok f (.ref (σ.length + 1) :: as) _ l _ ⟨_, g, dr, tk, os⟩ α2 _ (fun v s' => v = .none ∧ Q (.ref (hp.objs.size + 1)) s') E (under_tc rm) st2 (.cons rself ra2) ⟨fun q => ?_, fun a σ' α' c h' t' e st' nx' rel => ?_, fun i cls dd σ' α' h' t' fl e hi st' nx' ea' hf => ?_⟩) fun r s' z => ?_
      · exact (K.ns (congrArg (initFin (σ.length + 1)) q)).elim
      · have K := K.eq (congrArg (initFin (σ.length + 1)) e)
        rw [el2] at nx'
        cases a with
        | none =>
          obtain rfl := rel.inv
          refine ⟨rfl, K.ok (.ref (σ.length + 1)) σ' α' (.ref (hp.objs.size + 1)) h' t' rfl st' (nx.trans nx') ?_⟩
          refine ea ▸ (nx'.ext (σ.length + 1) (Nat.lt_succ_self _)) ▸ ?_
          exact .ref (Nat.lt_of_lt_of_le (Nat.lt_succ_self _) nx'.le)
        | _ => exact K.dead
      · exact (K.ns (congrArg (initFin (σ.length + 1)) e)).elim
      · induction r with
        | error e => exact z
        | ok fl => induction fl <;> exact z
theorem callVal_ok (HC : CallS C d cl) (F4 : Facts4 C G) (hx : ExcMk C d G) {fv : VV} {f : Value} (rm : Room d l A) (st : St C l α σ s.heap) (er : EnvR C sc env l s.heap α σ.length ρ) {as : List VV} {vals : List Value} {Q : Value → Shared → Prop} {h : Heap} {n : Nat} {α₀ : Nat → Addr}
    (rf : RelV h α₀ n fv f) (ra : RelVs s.heap α σ.length as vals) (K : Cont C noX FlOut l RelE (callVal G cl fv as σ) σ.length α s Q E) : KpOK C f s.heap ∧ wpAny C.M A (call f vals) Q E s := by
  cases fv with
  | val b =>
    obtain rfl := rf.inv
    have hb : Cont C noX FlOut l RelE (bltV f as σ) σ.length α s Q E → wpAny C.M A (call f vals) Q E s := fun K => bltV_ok st rm.handled (pylong_ok rm st er) ra K
    induction f with
    | ref a =>
      refine K.bif (c := isCls G a) (fun hc K => ⟨.fn st ?_, newInst_ok HC F4 hx rm st ra K⟩) fun _ K => ⟨.fn st (HC.keep a as σ K.ns), wpAny_call (HC.ok _ as σ l A s α vals Q E rm.call st ra K)⟩
      rcases (Bool.or_eq_true _ _).mp hc with q | q
      · obtain ⟨f', ef⟩ := Option.isSome_iff_exists.mp q
        exact (F4.init a f' ef).2.2.2
      · exact F4.exc a q
    | _ => exact ⟨.pure rfl, hb K⟩
  | _ => exact K.dead
theorem Cont.fl {X : Addr → Prop} {FL FL' : Option Value → Prop} {β γ : Type} {Rel : List Env → Heap → (Nat → Addr) → Nat → β → γ → Prop} {r : Res β} {n : Nat} {Q : γ → Shared → Prop} (K : Cont C X FL l Rel r n α s Q E) (h : ∀ fl, FL' fl → FL fl) : Cont C X FL' l Rel r n α s Q E :=
  ⟨K.ns, K.ok, fun i cl dd σ' α' h' t' fl e hi st nx ea hf => K.ex i cl dd σ' α' h' t' fl e hi st nx ea (h fl hf)⟩
theorem flOut {fl : Option Value} (h : FlOut fl) : FlOK env fl := h.elim .inl fun q => .inr (.inl q)
theorem ev_CallName (HC : CallS C d cl) (F : Facts C G) (F4 : Facts4 C G) (hx : ExcMk C d G) (H : OpsOK C d o) (f p args pos) : Ev C d (eval (.Call (.Name f p) (srcs args) [] pos) env) sc env ρ σ (.guard (argsOK args) ((Res.of (nameV G sc f ρ) σ).bind fun fv τ => (o.evs sc args ρ τ).bind fun as τ' => callVal G cl fv as τ')) := by
  intro ls A s α Q E rm st er K
  refine K.guard fun ha K => wpAny_Call_NameR ?_
  refine (ev_name F f p).use rm st er K fun fv σ₁ α₁ vf h₁ t₁ e₁ st₁ er₁ nx₁ rf K₁ => callWith_any ?_
  refine (H.evs sc args pos env ρ σ₁).use rm st₁ er₁ K₁ fun as σ₂ α₂ va h₂ t₂ e₂ st₂ er₂ nx₂ ra K₂ => ?_
  exact callVal_ok (s := ⟨h₂, s.gens, s.drawn, t₂, s.os⟩) HC F4 hx rm st₂ er₂ rf ra (K₂.fl fun _ => flOut)
end
end Mine
end
section
open PySem.Calls
namespace Mine
section
variable {C : Cx} {d : Nat} {G : Top'} {cl : CallO} {o : Ops} {env : Env} {sc : Scope} {σ : VH} {ρ : VE} {l : List Env} {α : Nat → Addr} {s : Shared} {A : Around} {E : Value → Shared → Prop}
theorem srcs_len : ∀ es : List XE, (srcs es).length = es.length
  | [] => rfl
  | _ :: r => congrArg (· + 1) (srcs_len r)
theorem form_ok {args : List XE} {pos : Pos} (ha : argsOK args = true) : methodCallForm ((srcs args).length + ([] : List Keyword).length) (backTo pos (starEach (srcs args) env)) (backToKw pos (keywordEach [] env)) = true := by
  have hlen : args.length ≤ 20 := Nat.le_of_ble_eq_true ha
  unfold methodCallForm
  rw [(star_any args).2, srcs_len, show (backToKw pos (keywordEach [] env)) = [] from rfl]
  simp
  lia
theorem getMth (S : St C l α σ s.heap) {r : Nat} {ob : VO} {name : Str} {id : String} (ei : σ[r]? = some ob) (e : mthId ob name = some id) {pl : Sem Bool} {Q : Value × List Value → Shared → Prop} (h : Q (.builtin id, [.ref (α r)]) s) :
    wpAny C.M A (getMethod (.ref (α r)) name pl) Q E s := by
  have dict : ∀ {ob : VO}, σ[r]? = some ob → (dictI ob ≠ none ∨ dictS ob ≠ none ∨ dictT ob ≠ none) → s.TypeIs (.ref (α r)) "dict" ∧ ∃ o', s.heap.get? (α r) = some o' ∧ o'.dict = none := by
    intro ob ei hd
    rcases hd with hd | hd | hd
    · obtain ⟨es, he⟩ := Option.ne_none_iff_exists'.mp hd
      obtain ⟨kvs, dd, _⟩ := S.dictI ei he
      refine ⟨dd.typeIs, ?_⟩
      obtain ⟨o', _, _, e1, e2, _⟩ := dd
      exact ⟨o', e1, e2.2.1⟩
    · obtain ⟨es, he⟩ := Option.ne_none_iff_exists'.mp hd
      obtain ⟨kvs, dd, _⟩ := S.dictS ei he
      refine ⟨dd.typeIs, ?_⟩
      obtain ⟨o', _, _, e1, e2, _⟩ := dd
      exact ⟨o', e1, e2.2.1⟩
    · obtain ⟨es, he⟩ := Option.ne_none_iff_exists'.mp hd
      obtain ⟨kvs, dd, _⟩ := S.dictT ei he
      refine ⟨dd.typeIs, ?_⟩
      obtain ⟨o', _, _, e1, e2, _⟩ := dd
      exact ⟨o', e1, e2.2.1⟩
  have dget : ∀ {ob : VO}, σ[r]? = some ob → (dictI ob ≠ none ∨ dictS ob ≠ none ∨ dictT ob ≠ none) → (if name = ("get" : Str) then some "dict.get" else none) = some id → wpAny C.M A (getMethod (.ref (α r)) name pl) Q E s := by
    intro ob ei hd e3
    split at e3
    · rename_i q
      subst q
      have q2 := Option.some.inj e3
      subst q2
      obtain ⟨hT, o', e1, e2⟩ := dict ei hd
      exact getMethod_builtin hT PySem.F.plainAttrs_dict PySem.F.slot_dict_get PySem.F.type_dict_get (fun a z => by injection z with z; subst z; exact ⟨o', e1, e2⟩) h
    · injection e3
  induction ob with
  | list xs =>
    obtain ⟨vs, c, hv, rr⟩ := S.objs r _ ei
    unfold mthId at e
    simp only at e
    split at e
    · rename_i q
      subst q
      refine cps fun G k_ => ?_
      obtain rfl := Option.some.inj e
      refine k_ ?_
      exact getMethod_builtin ⟨_, hv, rfl⟩ PySem.F.plainAttrs_list PySem.F.slot_list_append PySem.F.type_list_append (fun a z => by injection z with z; subst z; exact ⟨_, hv, rfl⟩) h
    · split at e
      · rename_i q
        subst q
        obtain rfl := Option.some.inj e
        exact getMethod_builtin ⟨_, hv, rfl⟩ PySem.F.plainAttrs_list PySem.F.slot_list_pop PySem.F.type_list_pop (fun a z => by injection z with z; subst z; exact ⟨_, hv, rfl⟩) h
      · exact nn e
  | set xs =>
    obtain ⟨o', _, _, _, e1, e2, _⟩ := S.objs r _ ei
    unfold mthId at e
    simp only at e
    split at e
    · rename_i q
      subst q
      obtain rfl := Option.some.inj e
      exact getMethod_builtin ⟨o', e1, e2.1⟩ PySem.F.plainAttrs_set PySem.F.slot_set_add PySem.F.type_set_add (fun a z => by injection z with z; subst z; exact ⟨o', e1, e2.2.1⟩) h
    · exact nn e
  | edict => exact dget ei (.inl (fun z => nomatch z)) e
  | idict es => exact dget ei (.inl (fun z => nomatch z)) e
  | sdict es => exact dget ei (.inr (.inl (fun z => nomatch z))) e
  | tdict es => exact dget ei (.inr (.inr (fun z => nomatch z))) e
  | attrs fs => exact nn e
  | inst a b c => exact nn e
  | exc0 a => exact nn e
  | dead => injection e
inductive MvI (G : Top') (cl : CallO) (σ : VH) (name : Str) (args : VH → Res (List VV)) : VV → Res VV → Prop
  | own {r D d fs f} : σ[r]? = some (.inst D d false) → G.meth D name = some f → σ[d]? = some (.attrs fs) → assocGet name fs = none → MvI G cl σ name args (.ref r) ((args σ).bind fun as τ => cl f ([.ref r] ++ as) τ)
  | blt {r ob id} : σ[r]? = some ob → mthId ob name = some id → MvI G cl σ name args (.ref r) ((args σ).bind fun as τ => mthRun id r as τ)
  | cls {D f} : G.cmeth D name = some f → MvI G cl σ name args (.val (.ref D)) ((args σ).bind fun as τ => cl f ([] ++ as) τ)
theorem methVal_inv {name : Str} {args : VH → Res (List VV)} (v : VV) : Lv (MvI G cl σ name args v) (methVal G cl v name σ args) := by
  cases v <;> try exact .no
  · rename_i r
    show Lv _ (methRef G cl r name σ[r]? σ args)
    cases e : σ[r]? with
    | none => exact .no
    | some ob =>
      show Lv _ (methOb G cl r name (mthId ob name) ob σ args)
      cases em : mthId ob name with
      | some id => exact .inr (.blt e em)
      | none =>
        induction ob <;> try exact .no
        rename_i D d b
        induction b
        · show Lv _ (methDef G cl r name (G.meth D name) σ[d]? σ args)
          cases ef : G.meth D name with
          | none => exact .no
          | some f =>
            cases ed : σ[d]? with
            | none => exact .no
            | some o =>
              induction o <;> try exact .no
              exact .one fun q => .own e ef ed (Option.isNone_iff_eq_none.mp q)
        · exact .no
  · rename_i b
    induction b <;> try exact .no
    rename_i D
    show Lv _ (methCls cl (G.cmeth D name) σ args)
    cases e : G.cmeth D name with
    | none => exact .no
    | some f => exact .inr (.cls e)
theorem ev_CallMethod (HC : CallS C d cl) (F2 : Facts2 C G) (F4 : Facts4 C G) (H : OpsOK C d o) (x name apos args pos) : Ev C d (eval (.Call (.Attribute (src x) name apos) (srcs args) [] pos) env) sc env ρ σ (.guard (callOK x apos pos args) ((o.ev sc x ρ σ).bind fun v τ => methVal G cl v name τ fun τ' => o.evs sc args ρ τ')) := by
  intro ls A s α Q E rm st er K
  refine K.guard fun hc K => ?_
  obtain ⟨hbl, ha⟩ := (Bool.and_eq_true _ _).mp hc
  obtain ⟨hb, hline⟩ := (Bool.and_eq_true _ _).mp hbl
  have hform : methodCallForm ((srcs args).length + ([] : List Keyword).length) (backTo pos (starEach (srcs args) env)) (backToKw pos (keywordEach [] env)) = true := form_ok ha
  have hpos : methodCallPos true (src x) env apos pos = pure pos := by unfold methodCallPos; simp [hline]
  rw [arm_eval_Call, base_ok hb]
  refine wpAny_bind ?_
  refine (H.ev sc x env ρ σ).use rm st er K fun v σ₁ α₁ va h₁ t₁ e₁ st₁ er₁ nx₁ ra K₁ => ?_
  refine wpAny_bind (wpAny_standAt ?_)
  unfold methodCall
  refine hform ▸ ?_
  refine wpAny_bind (wpAny_holding ?_)
  skip
  have fin : ∀ {p : Value × List Value} {t₁ : Nat}, wpAny C.M A (callWith pos p.1 p.2 (backTo pos (starEach (srcs args) env)) []) Q E ⟨h₁, s.gens, s.drawn, t₁, s.os⟩ → wpAny C.M A (match p with | (f, first) => (do let callPos ← methodCallPos true (src x) env apos pos; callWith callPos f first (backTo pos (starEach (srcs args) env)) (backToKw pos (keywordEach [] env)))) Q E ⟨h₁, s.gens, s.drawn, t₁, s.os⟩ := fun h => wpAny_bind (wpAny_of_eq hpos h)
  have XK := C.inK.keeps st₁.stay
  have own : ∀ (f : Addr) (pre : List VV) (first : List Value) (t₁ : Nat), RelVs h₁ α₁ σ₁.length pre first → Cont C noX (FlOK env) ls RelE ((o.evs sc args ρ σ₁).bind fun as τ => cl f (pre ++ as) τ) σ₁.length α₁ ⟨h₁, s.gens, s.drawn, t₁, s.os⟩ Q E →
      wpAny C.M A (callWith pos (.ref f) first (backTo pos (starEach (srcs args) env)) []) Q E ⟨h₁, s.gens, s.drawn, t₁, s.os⟩ := fun f pre first t₁ rp K =>
    callWith_any ((H.evs sc args pos env ρ σ₁).use rm st₁ er₁ K fun as σ₂ α₂ va' h₂ t₂ e₂ st₂ er₂ nx₂ ra' K₂ =>
      ⟨.fn st₂ (HC.keep f _ _ K₂.ns), wpAny_call (HC.ok f _ _ _ _ _ _ _ _ _ rm.call st₂ ((RelVs.nx st₁ nx₂ rp).append ra') (K₂.fl fun _ => flOut))⟩)
  rcases methVal_inv (G := G) (cl := cl) (σ := σ₁) (name := name) (args := fun τ' => o.evs sc args ρ τ') v with e | I
  · exact (K₁.ns e).elim
  generalize methVal G cl v name σ₁ (fun τ' => o.evs sc args ρ τ') = w at I K₁
  induction I
  case own r D dd fs f ei em ed hn =>
    obtain ⟨hi, rfl⟩ := ra.inv
    obtain ⟨hc, hm⟩ := F2.meth D name f em
    have X := clsFacts hc
    unfold methIn at hm
    simp only [Bool.and_eq_true, beq_iff_eq] at hm
    obtain ⟨ox, od, m, es, ep, I, h4, h7, h8, h9, h10, h6, h11⟩ := st₁.inst (s := ⟨h₁, s.gens, s.drawn, t₁, s.os⟩) ei ed
    have hmn : m name = none := by
      have := h11 name
      rw [hn] at this; exact this
    refine method_fn XK I X.ga X.gh hm.1 hm.2 (by unfold shadowIn; simp only; rw [lookIn_ns h6 h7, hmn]; rfl) (fin (p := (.ref f, [.ref (α₁ r)])) ?_)
    exact own f [.ref r] [.ref (α₁ r)] t₁ (.cons (.ref hi) .nil) K₁
  case blt r ob id ei em =>
    obtain ⟨hi, rfl⟩ := ra.inv
    refine getMth (s := ⟨h₁, s.gens, s.drawn, t₁, s.os⟩) st₁ ei em (fin (p := (.builtin id, [.ref (α₁ r)])) (callWith_any ?_))
    refine (H.evs sc args pos env ρ σ₁).use rm st₁ er₁ K₁ fun as σ₂ α₂ va' h₂ t₂ e₂ st₂ er₂ nx₂ ra' K₂ => ⟨.pure rfl, ?_⟩
    refine (nx₂.ext r hi) ▸ ?_
    exact mthRun_ok (s := ⟨h₂, s.gens, s.drawn, t₂, s.os⟩) st₂ rm.cLine1 (Nat.lt_of_lt_of_le hi nx₂.le) ra' K₂
  case cls D f em =>
    obtain rfl := ra.inv
    obtain ⟨mc, h1, h2, h3⟩ := F4.cmeth D name f em
    refine method_cls XK h1 (cls_value XK h2 h3 rfl ?_)
    exact fin (p := (.ref f, [])) (own f [] [] (t₁ + 1) .nil (K₁.from (t' := t₁ + 1) .refl))
end
end Mine
end
section
open PySem.Calls
namespace Mine
section
variable {C : Cx} {d : Nat} {G : Top'} {cl : CallO} {o : Ops} {env : Env} {sc : Scope} {σ : VH} {ρ : VE} {l : List Env} {α : Nat → Addr} {s : Shared} {A : Around} {E : Value → Shared → Prop}
theorem notMod (er : EnvR C sc env l s.heap α σ.length ρ) : (env.scope.kind == .class || (env.scope.kind == .module && env.locals != env.globals)) = false := by rw [er.kind]; rfl
theorem store_ok {x : Str} {v : VV} {val : Value} {Q : Unit → Shared → Prop} (st : St C l α σ s.heap) (er : EnvR C sc env l s.heap α σ.length ρ) (rv : RelV s.heap α σ.length v val) (hk : sc.names.lookup x = some .local ∨ sc.names.lookup x = some .cell)
    (h : ∀ h' t, St C l α σ h' → EnvR C sc env l h' α σ.length (assocSet x v ρ) → Nx (Own env) l σ.length α s.heap σ.length α h' → Q () ⟨h', s.gens, s.drawn, t, s.os⟩) : wpAny C.M A (storeName env x val) Q E s := by
  have hn := er.names x
  obtain ⟨m, hm, hv⟩ := er.ns
  rcases hk with hk | hk
  · replace hn := hk ▸ hn
    simp only at hn
    refine wpAny_storeName_local hn hm (fun h' hm' sb => ?_) (notMod er)
    have hntr := er.ntr env.locals (.inl rfl)
    have kp := Keeps.but sb hntr
    obtain ⟨o', es', ep', e', d', _⟩ := id hm'
    refine h h' _ (st.changed sb hntr er.locNew er.locApart fun _ => ⟨o', es', ep', e', d'⟩) ?_ (.changed sb ⟨o', e'⟩ (.inr (.inl rfl)))
    refine ⟨er.glob, er.blt, er.kind, er.head, er.names, ⟨_, hm', fun y w e => ?_⟩, er.locNew, er.locApart, fun y c hc => ?_, er.cinj, er.has⟩
    · rw [lookE_set] at e
      by_cases q : y = x
      · subst q
        replace e := (if_pos rfl) ▸ e
        cases okE_eq e
        exact ⟨val, rv.keeps kp (Nat.le_refl _) (fun _ _ => rfl), .inl ⟨hn, by simp⟩⟩
      · rw [if_neg q] at e
        obtain ⟨w', r, z⟩ := hv y w e
        refine ⟨w', r.keeps kp (Nat.le_refl _) (fun _ _ => rfl), z.imp (fun z => ⟨z.1, by simp only [if_neg q]; exact z.2⟩) fun ⟨z1, c, oc, hc, hoc, hd⟩ => ⟨z1, c, oc, hc, ?_, hd⟩⟩
        exact (sb.2 c (er.cells y c hc).2.2.2.1).trans hoc
    · refine cps fun G k_ => ?_
      obtain ⟨a1, a2, a3, a4, oc, w, e, dd⟩ := er.cells y c hc
      refine k_ ?_
      exact ⟨a1, a2, a3, a4, oc, w, (sb.2 c a4).trans e, dd⟩
  · rw [hk] at hn
    simp only at hn
    refine cps fun G k_ => ?_
    obtain ⟨c, hc⟩ := er.has x hk
    obtain ⟨a1, a2, a3, a4, oc, w, e, dd⟩ := er.cells x c hc
    refine k_ ?_
    refine wpAny_storeName_cell er.kind hn hc ⟨oc, e, dd⟩ fun h' hc' sb => ?_
    have hntr := er.ntr c (.inr ⟨x, hc⟩)
    have kp := Keeps.but sb hntr
    obtain ⟨oc', e', dd'⟩ := id hc'
    refine h h' _ (st.changed sb hntr a1 a2 fun z => (a3 z).elim) ?_ (.changed sb ⟨oc', e'⟩ (.inr (.inr ⟨x, hc⟩)))
    refine ⟨er.glob, er.blt, er.kind, er.head, er.names, ⟨m, hm.sameBut sb (Ne.symm a4), fun y w e => ?_⟩, er.locNew, er.locApart, fun y c' hc'' => ?_, er.cinj, er.has⟩
    · rw [lookE_set] at e
      by_cases q : y = x
      · subst q
        rw [if_pos rfl] at e
        cases okE_eq e
        exact ⟨val, rv.keeps kp (Nat.le_refl _) (fun _ _ => rfl), .inr ⟨hn, c, oc', hc, e', dd'⟩⟩
      · rw [if_neg q] at e
        obtain ⟨w', r, z⟩ := hv y w e
        refine ⟨w', r.keeps kp (Nat.le_refl _) (fun _ _ => rfl), z.imp id fun ⟨z1, c1, o1, hc1, ho1, hd1⟩ => ⟨z1, c1, o1, hc1, ?_, hd1⟩⟩
        exact (sb.2 c1 fun z => q (er.cinj y x c1 hc1 (z ▸ hc))).trans ho1
    · by_cases q : c' = c
      · subst q
        exact ⟨a1, a2, a3, a4, oc', _, e', dd'⟩
      · refine cps fun G k_ => ?_
        obtain ⟨b1, b2, b3, b4, ob, w1, eb, db⟩ := er.cells y c' hc''
        refine k_ ?_
        exact ⟨b1, b2, b3, b4, ob, w1, (sb.2 c' q).trans eb, db⟩
theorem updOK {h' : Heap} {σ' : VH} (st : St C l α σ s.heap) (u : Upd C l α σ s.heap σ' h') : St C l α σ' h' ∧ σ'.length = σ.length ∧ ∀ X : Addr → Prop, Nx X l σ.length α s.heap σ.length α h' := by
  obtain ⟨r, ob, hi, rfl, sb, ro⟩ := u
  exact ⟨st.upd hi sb ro, List.length_set, fun X => .changed sb ro.there.1 (.inl ⟨r, hi, rfl⟩)⟩
theorem isLocal_of {k : Option NameKind} (h : isLocal k = true) : k = some .local := by
  cases k with
  | none => exact ft h
  | some k => induction k <;> first | rfl | exact ft h
theorem isLocCell_of {k : Option NameKind} (h : isLocCell k = true) : k = some .local ∨ k = some .cell := by
  cases k with
  | none => exact ft h
  | some k => induction k <;> first | exact .inl rfl | exact .inr rfl | exact ft h
theorem pairV_ok {h : Heap} {n : Nat} {v : VV} {val : Value} {p : VV × VV} (e : pairV v = some p) (rv : RelV h α n v val) {P : Prop} (k : ∀ ad va vb, val = .ref ad → IsTup h ad #[va, vb] → RelV h α n p.1 va → RelV h α n p.2 vb → P) : P := by
  cases v with
  | tup xs =>
    rcases xs with _ | ⟨a, _ | ⟨b, _ | _⟩⟩ <;> try ((first | exact nn e | obtain rfl := Option.some.inj e); done)
    obtain rfl := Option.some.inj e
    obtain ⟨ad, vs, e1, ht, rr⟩ := rv.inv
    obtain ⟨va, t, e2, r1, rr⟩ := rr.inv
    obtain ⟨vb, t', e3, r2, rr⟩ := rr.inv
    have : vs = #[va, vb] := congrArg List.toArray (e2.trans (congrArg (va :: ·) (e3.trans (congrArg (vb :: ·) rr.inv))))
    exact k ad va vb e1 (this ▸ ht) r1 r2
  | _ => exact nomatch e
theorem Cont.set1 {l : List Env} {s : Shared} {α : Nat → Addr} {Q : Unit → Shared → Prop} {E : Value → Shared → Prop} {X : Addr → Prop} {FL : Option Value → Prop} {τ : Option VH} {n : Nat} (K : Cont C X FL l (RelS C sc env) (setE τ ρ) n α s Q E) {P : Prop} (k : ∀ τ', τ = Option.some τ' → Cont C X FL l (RelS C sc env) (.ok ρ τ') n α s Q E → P) : P := K.opt (f := fun τ => setE τ ρ) rfl k
theorem done_upd {β γ : Type} {Rel : List Env → Heap → (Nat → Addr) → Nat → β → γ → Prop} {l : List Env} {s : Shared} {α : Nat → Addr} {Q : γ → Shared → Prop} {E : Value → Shared → Prop} {X : Addr → Prop} {FL : Option Value → Prop} {τ : VH} {h' : Heap} {t : Tok} {b : β} {c : γ} (K : Cont C X FL l Rel (.ok b τ) σ.length α s Q E) (st : St C l α σ s.heap) (er : EnvR C sc env l s.heap α σ.length ρ) (u : Upd C l α σ s.heap τ h')
    (r : EnvR C sc env l h' α τ.length ρ → Rel l h' α τ.length b c) : Q c ⟨h', s.gens, s.drawn, t, s.os⟩ := by
  obtain ⟨st2, el, nx2⟩ := updOK st u
  exact K.ok b τ α c h' t rfl st2 (by rw [el]; exact nx2 _) (r (by rw [el]; exact er.nx st (nx2 _)))
theorem as_ok (F2 : Facts2 C G) (H : OpsOK C d o) (t : XT) {v : VV} {val : Value} {l : List Env} {A : Around} {s : Shared} {α : Nat → Addr} {Q : Unit → Shared → Prop} {E : Value → Shared → Prop} (rm : Room d l A) (st : St C l α σ s.heap) (er : EnvR C sc env l s.heap α σ.length ρ) (rv : RelV s.heap α σ.length v val)
    (K : Cont C (Own env) (FlOK env) l (RelS C sc env) (assignV G o sc t v ρ σ) σ.length α s Q E) : wpAny C.M A (assign (srcT t) env val) Q E s := by
  induction t with
  | name x p => exact K.guard fun q K => wpAny_assign_Name (store_ok st er rv (isLocCell_of q) fun h' t st' er' nx => K.ok _ σ α () h' t rfl st' nx er')
  | attr x a p =>
    refine (arm_assign_Attribute (src x) a p env val).symm ▸ ?_
    refine wpAny_bind (wpAny_holding ?_)
    refine (H.ev sc x env ρ σ).use rm st er K fun ov σ₁ α₁ vo h₁ t₁ e₁ st₁ er₁ nx₁ ro K₁ => K₁.set1 fun τ' e K => ?_
    refine wpAny_bind (wpAny_standAt (wpAny_bind (wpAny_holding (setAttrV_ok F2 st₁ e ro (RelV.nx st nx₁ rv) fun h' t u => wpAny_release ?_))))
    exact done_upd (s := ⟨h₁, s.gens, s.drawn, t₁, s.os⟩) K st₁ er₁ u id
  | sub x i p =>
    refine (arm_assign_Subscript (src x) (src i) p env val).symm ▸ ?_
    refine wpAny_bind (wpAny_holding ?_)
    refine (H.ev sc x env ρ σ).use rm st er K fun ov σ₁ α₁ vo h₁ t₁ e₁ st₁ er₁ nx₁ ro K₁ => ?_
    refine wpAny_bind (wpAny_holding ?_)
    refine (H.ev sc i env ρ σ₁).use rm st₁ er₁ K₁ fun iv σ₂ α₂ vi h₂ t₂ e₂ st₂ er₂ nx₂ ri K₂ => K₂.set1 fun τ' e K => ?_
    refine wpAny_bind (wpAny_standAt (wpAny_bind (wpAny_holding (setV_ok st₂ e (RelV.nx st₁ nx₂ ro) ri (RelV.nx st₁ nx₂ (RelV.nx st nx₁ rv)) rm.cLine1 fun h' t u => wpAny_release ?_))))
    exact done_upd (s := ⟨h₂, s.gens, s.drawn, t₂, s.os⟩) K st₂ er₂ u id
  | tup x px y py kk p =>
    refine K.guard fun hxy K => K.sm fun ab e K => pairV_ok e rv fun ad va vb e1 ht r1 r2 => ?_
    obtain ⟨hx, hy⟩ := (Bool.and_eq_true _ _).mp hxy
    subst e1
    refine wpAny_assign_Tuple rm.handled ht rfl rfl fun h' ex => ?_
    have k : ∀ b o, s.heap.get? b = some o → h'.get? b = some o := fun b o e => ex b o (Nat.ne_of_lt (Heap.lt_size e)) e
    have st' := st.grown k
    have nx' : Nx noX l σ.length α s.heap σ.length α h' := .grown k
    have er' := er.nx st nx'
    have kk := Keeps.of k
    refine wpAny_bind (wpAny_holding (wpAny_assign_Name (store_ok (s := ⟨h', s.gens, s.drawn, s.toks, s.os⟩) st' er' (r1.keeps kk (Nat.le_refl _) fun _ _ => rfl) (.inl (isLocal_of hx)) fun h1 t1 st1 er1 nx1 => ?_)))
    have r2 : RelV h1 α σ.length ab.2 vb := (r2.keeps kk (Nat.le_refl _) fun _ _ => rfl).keeps (nx1.keeps st' er'.ntr) (Nat.le_refl _) nx1.ext
    refine wpAny_bind (wpAny_holding (wpAny_assign_Name (store_ok (s := ⟨h1, s.gens, s.drawn, t1, s.os⟩) st1 er1 r2 (.inl (isLocal_of hy)) fun h2 t2 st2 er2 nx2 => ?_)))
    exact wpAny_pure (K.ok _ σ α () h2 t2 rfl st2 (((nx'.weaken fun _ q => q.elim).trans nx1).trans nx2) er2)
theorem swaps_plain {e : XE} {t : Expr} {n : Nat} (h : notComp e = true) : swapsWithSole [t] (src e) n env = pure false := by
  cases e <;> first | rfl | exact ft h
theorem stores_plain {t : XT} {e : XE} (h : asgOK t e = true) : swappedStores [srcT t] (src e) env = pure none := by
  induction t with
  | tup x px y py k p => cases e <;> first | rfl | exact nomatch h
  | _ => rfl
theorem one_target (t : XT) : (assignEach [srcT t] env).map (·.2) = [assign (srcT t) env] := by induction t <;> rfl
theorem ex_Assign (F2 : Facts2 C G) (H : OpsOK C d o) (t e pos) : Ex C d (exec (.Assign [srcT t] (src e) pos) env) sc env ρ σ (.guard (asgOK t e) ((o.ev sc e ρ σ).bind fun v τ => (assignV G o sc t v ρ τ).bind fun ρ' τ' => .ok (.next, ρ') τ')) := by
  intro ls A s α Q E rm st er K
  refine K.guard fun h K => wpAny_Assign_stores ?_ (swaps_plain ((Bool.and_eq_true _ _).mp h).1) (stores_plain h)
  refine (H.ev sc e env ρ σ).use rm st er K fun v σ₁ α₁ val h₁ t₁ e₁ st₁ er₁ nx₁ rv K₁ => ?_
  rw [one_target]
  refine as_ok (Q := fun _ => Q .next) F2 H t rm st₁ er₁ rv ⟨fun q => K₁.ns (congrArg (fun x => Res.bind x fun (ρ' : VE) τ' => .ok (VF.next, ρ') τ') q), fun ρ' σ' α' c h' t' e st' nx rel => ?_, fun i cls dd σ' α' h' t' fl e hi st' nx ea hf => K₁.ex i cls dd σ' α' h' t' fl (congrArg (fun x => Res.bind x fun (ρ' : VE) τ' => .ok (VF.next, ρ') τ') e) hi st' nx ea hf⟩
  exact K₁.ok (.next, ρ') σ' α' .next h' t' (congrArg (fun x => Res.bind x fun (ρ' : VE) τ' => .ok (VF.next, ρ') τ') e) st' nx ⟨trivial, rel⟩
end
end Mine
end
section
open PySem.Calls
namespace Mine
section
variable {C : Cx} {d : Nat} {G : Top'} {cl : CallO} {o : Ops} {env : Env} {sc : Scope} {σ : VH} {ρ : VE} {l : List Env} {α : Nat → Addr} {s : Shared} {A : Around} {E : Value → Shared → Prop}
theorem ex_Pass (pos) : Ex C d (exec (.Pass pos) env) sc env ρ σ (.ok (.next, ρ) σ) := by
  intro ls A s α Q E rm st er K
  exact wpAny_Pass (K.ok (.next, ρ) σ α .next s.heap s.toks rfl st .refl ⟨trivial, er⟩)
theorem ex_Continue (pos) : Ex C d (exec (.Continue pos) env) sc env ρ σ (.ok (.cont, ρ) σ) := by
  intro ls A s α Q E rm st er K
  have e : exec (.Continue pos) env = (do standAt pos; pure .cont) := rfl
  rw [e]
  exact wpAny_bind (wpAny_standAt (wpAny_pure (K.ok (.cont, ρ) σ α .cont s.heap s.toks rfl st .refl ⟨trivial, er⟩)))
theorem ex_Return0 (pos) : Ex C d (exec (.Return none pos) env) sc env ρ σ (.ok (.ret .none, ρ) σ) := by
  intro ls A s α Q E rm st er K
  exact wpAny_Return_none (K.ok (.ret .none, ρ) σ α (.ret .none) s.heap s.toks rfl st .refl ⟨.none, er⟩)
theorem nxX {X : Addr → Prop} {n n' : Nat} {α' : Nat → Addr} {h h' : Heap} (nx : Nx noX l n α h n' α' h') : Nx X l n α h n' α' h' := nx.weaken fun _ q => q.elim
theorem ex_Return (H : OpsOK C d o) (e pos) : Ex C d (exec (.Return (some (src e)) pos) env) sc env ρ σ ((o.ev sc e ρ σ).bind fun v τ => .ok (.ret v, ρ) τ) := by
  intro ls A s α Q E rm st er K
  refine wpAny_Return_some ?_
  refine (H.ev sc e env ρ σ).use rm st er K fun v σ₁ α₁ val h₁ t₁ e₁ st₁ er₁ nx₁ rv K₁ => ?_
  exact K₁.ok (.ret v, ρ) σ₁ α₁ (.ret val) h₁ t₁ rfl st₁ .refl ⟨rv, er₁⟩
theorem swaps_expr {e : XE} {n : Nat} (h : notComp e = true) : swapsWith (src e) none n env = pure false := by cases e <;> first | rfl | exact nomatch h
theorem ex_Expr (H : OpsOK C d o) (e pos) : Ex C d (exec (.Expr (src e) pos) env) sc env ρ σ (.guard (notComp e) ((o.ev sc e ρ σ).bind fun v τ => .guard (dropOK v) (.ok (.next, ρ) τ))) := by
  intro ls A s α Q E rm st er K
  have hi : interactive env = false := by unfold interactive; rw [er.kind]; rfl
  refine K.guard fun he K => wpAny_Expr ?_ hi (swaps_expr he)
  refine (H.ev sc e env ρ σ).use rm st er K fun v σ₁ α₁ val h₁ t₁ e₁ st₁ er₁ nx₁ rv K₁ => K₁.guard fun hd K => ?_
  have fin : Q .next ⟨h₁, s.gens, s.drawn, t₁, s.os⟩ := K.ok (.next, ρ) σ₁ α₁ .next h₁ t₁ rfl st₁ .refl ⟨trivial, er₁⟩
  have rv := rv.inv
  cases v with
  | none => obtain rfl := rv; exact fin
  | bool => obtain rfl := rv; exact fin
  | int => obtain ⟨t, rfl⟩ := rv; exact fin
  | str => obtain ⟨t, rfl⟩ := rv; exact fin
  | _ => exact nomatch hd
theorem ex_If (H : OpsOK C d o) (c a b pos) : Ex C d (exec (.If (src c) (srcSs a) (srcSs b) pos) env) sc env ρ σ ((o.cd sc c ρ σ).bind fun t τ => o.exs sc (bif t then a else b) ρ τ) := by
  intro ls A s α Q E rm st er K
  refine wpAny_If ?_
  refine (H.cd sc c env ρ σ).use rm st er K fun t σ₁ α₁ val h₁ t₁ e₁ st₁ er₁ nx₁ rv K₁ => ?_
  subst rv
  induction t with
  | true => exact (H.exs sc a env ρ σ₁) _ _ _ _ _ _ rm st₁ er₁ K₁
  | false => exact (H.exs sc b env ρ σ₁) _ _ _ _ _ _ rm st₁ er₁ K₁
theorem fl_inv {h : Heap} {n : Nat} {p : VF} {f : Flow} (r : RelFl h α n p f) : match p with
    | .next => f = .next
    | .brk => f = .brk
    | .cont => f = .cont
    | .ret v => ∃ w, f = .ret w ∧ RelV h α n v w := by
  induction p <;> induction f <;> first | rfl | exact r.elim | exact ⟨_, rfl, r⟩
theorem exs_nil : Ex C d (execs [] env) sc env ρ σ (.ok (.next, ρ) σ) := by
  intro ls A s α Q E rm st er K
  exact wpAny_execs_nil (K.ok (.next, ρ) σ α .next s.heap s.toks rfl st .refl ⟨trivial, er⟩)
theorem exs_cons (H : OpsOK C d o) (x : XS) (r : List XS) : Ex C d (execs (srcS x :: srcSs r) env) sc env ρ σ ((o.ex sc x ρ σ).bind (exsAft o sc r)) := by
  intro ls A s α Q E rm st er K
  refine wpAny_execs_cons ?_
  refine (H.ex sc x env ρ σ).useX rm st er (fun _ q => q) K fun p σ₁ α₁ f h₁ t₁ e₁ st₁ nx₁ rel K₁ => ?_
  obtain ⟨rf, er₁⟩ := rel
  have fin : Cont C (Own env) (FlOK env) ls (RelX C sc env) (.ok p σ₁) σ₁.length α₁ ⟨h₁, s.gens, s.drawn, t₁, s.os⟩ Q E → Q f ⟨h₁, s.gens, s.drawn, t₁, s.os⟩ := fun K => K.ok p σ₁ α₁ f h₁ t₁ rfl st₁ .refl ⟨rf, er₁⟩
  obtain ⟨f1, ρ'⟩ := p
  have q := fl_inv rf
  induction f1 with
  | next =>
    obtain rfl : f = .next := q
    exact (H.exs sc r env ρ' σ₁) _ _ _ _ _ _ rm st₁ er₁ K₁
  | brk =>
    obtain rfl : f = .brk := q
    exact fin K₁
  | cont =>
    obtain rfl : f = .cont := q
    exact fin K₁
  | ret v => obtain ⟨w, rfl, _⟩ := q; exact fin K₁
theorem listO_of {c : Option VO} {xs : List VV} (h : listO c = some xs) : c = some (.list xs) := by
  induction c with
  | none => exact nomatch h
  | some c =>
    induction c with
    | list ys => exact congrArg (fun z => some (VO.list z)) (Option.some.inj h)
    | _ => exact nomatch h
theorem iadd_lists {M : Model} {a b : Value} {Q : Value → Shared → Prop} (ha : s.TypeIs a "list") (hb : s.TypeIs b "list") (hc : wpAny M A (call (.builtin "list.__iadd__") [a, b]) Q E s) : wpAny M A (inplaceOp .Add a b) Q E s := by
  unfold inplaceOp
  refine wpAny_holding ?_
  have hl : typeLookup (.type "list") (dunderI "add") = pure (some (.builtin "list.__iadd__")) := PySem.F.slot_list_iadd.lookup
  have hseq : isSeqSlot (some (.builtin "list.__iadd__")) = true := by decide +kernel
  have hfi : fillsInplaceSlot (.type "list") "add" (Operator.Add == .Add) = pure false := by
    unfold fillsInplaceSlot
    show (typeLookup (.type "list") (dunderI "add") >>= fun fi => pure (fi.isSome && !isSeqSlot fi)) = pure false
    rw [hl]
    show (pure (true && !isSeqSlot (some (.builtin "list.__iadd__"))) : Sem Bool) = pure false
    rw [hseq]; rfl
  have hsi : seqSlot? (.type "list") (dunderI "add") = pure (some (.builtin "list.__iadd__")) := by
    unfold seqSlot?
    rw [hl]
    show (if (!isSeqSlot (some (Value.builtin "list.__iadd__"))) = true then (pure none : Sem (Option Value)) else pure (some (Value.builtin "list.__iadd__"))) = pure (some (Value.builtin "list.__iadd__"))
    rw [hseq]; rfl
  refine wpAny_bind (wpAny_typeOf ha (wpAny_bind (wpAny_of_eq hfi ?_)))
  show wpAny M A (if false = true then _ else _) Q E s
  rw [if_neg Bool.false_ne_true]
  refine wpAny_bind (wpAny_binaryOp1_none (nm := "add") ha hb noFill_list_add ?_)
  refine wpAny_bind (wpAny_of_eq hsi ?_)
  exact wpAny_bind (wpAny_rule hc)
theorem iadd_ok {v b : VV} {va vb : Value} {x : Str} {Q : Flow → Shared → Prop} (hx : sc.names.lookup x = some .local) (st : St C l α σ s.heap) (er : EnvR C sc env l s.heap α σ.length ρ) (ra : RelV s.heap α σ.length v va) (rb : RelV s.heap α σ.length b vb) (K : Cont C (Own env) (FlOK env) l (RelX C sc env) (iadd v b x ρ σ) σ.length α s Q E) :
    wpAny C.M A (inplaceOp .Add va vb) (fun w s' => wpAny C.M A (storeName env x w) (fun _ s'' => Q .next s'') E s') E s := by
  cases v with
  | int i =>
    obtain ⟨t, rfl⟩ := ra.inv
    refine K.sm fun j e K => ?_
    cases b with
    | int k =>
      obtain ⟨t', rfl⟩ := rb.inv
      obtain rfl := Option.some.inj e
      exact PyProof.Rows.iadd_int (store_ok st er (.int _ _) (.inl hx) fun h' t st' er' nx => K.ok _ σ α .next h' t rfl st' nx ⟨trivial, er'⟩)
    | _ => exact nomatch e
  | ref r =>
    obtain ⟨hr, rfl⟩ := ra.inv
    cases b with
    | ref q =>
      obtain ⟨hq, rfl⟩ := rb.inv
      refine K.sm fun xs e1 K => K.sm fun ys e2 K => K.guard fun hc K => ?_
      have er1 := listO_of e1
      have eq1 := listO_of e2
      refine cps fun G k_ => ?_
      obtain ⟨hne, hle⟩ := (Bool.and_eq_true _ _).mp hc
      obtain ⟨vs, c, hv, rr⟩ := st.objs r _ er1
      obtain ⟨ws, c', hw, rr'⟩ := st.objs q _ eq1
      refine k_ ?_
      have hz : vs.size + ws.size ≤ sizeLine := by rw [show vs.size = xs.length by rw [← rr.length]; simp, show ws.size = ys.length by rw [← rr'.length]; simp]; exact okLen_le hle
      refine iadd_lists (isList_of hv).typeIs (isList_of hw).typeIs ?_
      refine call_meets PySem.F.slot_list_iadd ⟨_, hv, rfl⟩ PySem.F.entry_list_iadd (PySem.F.args_list_iadd_2 _ _) (PySem.AutoSeq1.list___iadd___list_list_0 (α r) vs c (α q) ws c' (by simp [Builtin.List.listTooLong, hz]) (Nat.le_trans (Nat.le_add_right _ _) hz) (Nat.le_succ_of_le hz)) ⟨hv, hw, ?_⟩
      have sb : Heap.SameBut (α r) s.heap (s.heap.update (α r) (Obj.mapSeq fun x => x ++ ws)) := Heap.SameBut.update ..
      obtain ⟨k, ek⟩ := listUpd (fun x => x ++ ws) hv
      have ro : ObjRel C (s.heap.update (α r) (Obj.mapSeq fun x => x ++ ws)) α σ.length (α r) (.list (xs ++ ys)) := ⟨_, k, ek, by
        have := RelVs.keeps (Keeps.but sb (st.at hr).2) (Nat.le_refl _) (fun _ _ => rfl) (rr.append rr')
        simpa using this⟩
      obtain ⟨st2, el, nx2⟩ := updOK st ⟨r, _, hr, rfl, sb, ro⟩
      have er2 : EnvR C sc env l (s.heap.update (α r) (Obj.mapSeq fun x => x ++ ws)) α (σ.set r (.list (xs ++ ys))).length ρ := by rw [el]; exact er.nx st (nx2 _)
      refine store_ok (v := .ref r) (s := ⟨_, s.gens, s.drawn, s.toks, s.os⟩) st2 er2 (.ref (by rw [el]; exact hr)) (.inl hx) fun h' t st' er' nx => ?_
      exact K.ok _ _ α .next h' t rfl st' (Nx.trans (nx2 _) (el ▸ nx)) ⟨trivial, er'⟩
    | _ => exact K.dead
  | _ => exact K.dead
theorem ex_AugName (F : Facts C G) (H : OpsOK C d o) (x px e pos) : Ex C d (exec (.AugAssign (.Name x px) .Add (src e) pos) env) sc env ρ σ (.guard (isLocal (sc.names.lookup x)) ((Res.of (nameV G sc x ρ) σ).bind fun a σ₁ => (o.ev sc e ρ σ₁).bind fun b τ => iadd a b x ρ τ)) := by
  intro ls A s α Q E rm st er K
  refine K.guard fun hx K => K.sm fun a en K => wpAny_AugAssign_Name (name_ok F en st er fun va ra => ?_).1
  refine (H.ev sc e env ρ σ).use rm st er K fun b σ₁ α₁ vb h₁ t₁ e₁ st₁ er₁ nx₁ rb K₁ => ?_
  exact iadd_ok (s := ⟨h₁, s.gens, s.drawn, t₁, s.os⟩) (isLocal_of hx) st₁ er₁ (RelV.nx st nx₁ ra) rb K₁
end
end Mine
end
section
open PySem.Calls
namespace Mine
section
variable {C : Cx} {d : Nat} {G : Top'} {cl : CallO} {o : Ops} {env : Env} {sc : Scope} {σ : VH} {ρ : VE} {l : List Env} {α : Nat → Addr} {s : Shared} {A : Around} {E : Value → Shared → Prop}
theorem Cont.setX {X : Addr → Prop} {FL : Option Value → Prop} {Q : Flow → Shared → Prop} {τ : Option VH} {n : Nat} (K : Cont C X FL l (RelX C sc env) (setBy τ ρ) n α s Q E) {P : Prop} (k : ∀ τ', τ = Option.some τ' → Cont C X FL l (RelX C sc env) (.ok (.next, ρ) τ') n α s Q E → P) : P := K.opt (f := fun τ => setBy τ ρ) rfl k
theorem add_ok {old b : VV} {h : Heap} {n : Nat} {vo vb : Value} {f : VV → Option VH} {τ : VH} (e : ((addI old b).bind f) = some τ) (ra : RelV h α n old vo) (rb : RelV h α n b vb) {P : Prop} (k : ∀ (i j : Int) t t', vo = .int i t → vb = .int j t' → f (.int (i + j)) = some τ → P) : P := by
  obtain ⟨w, e1, e2⟩ := Option.bind_eq_some_iff.mp e
  cases old with
  | int i =>
    cases b with
    | int j =>
      obtain ⟨t, e3⟩ := ra.inv
      obtain ⟨t', e4⟩ := rb.inv
      exact k i j t t' e3 e4 ((congrArg f (Option.some.inj e1)).trans e2)
    | _ => exact nomatch e1
  | _ => exact nomatch e1
theorem ex_AugAttr (F2 : Facts2 C G) (H : OpsOK C d o) (x a px e pos) : Ex C d (exec (.AugAssign (.Attribute (src x) a px) .Add (src e) pos) env) sc env ρ σ ((o.ev sc x ρ σ).bind fun ov σ₁ => (Res.of (attrV G σ₁ ov a) σ₁).bind fun old σ₂ => (o.ev sc e ρ σ₂).bind fun b τ => setBy ((addI old b).bind fun w => setAttrV G τ ov a w) ρ) := by
  intro ls A s α Q E rm st er K
  refine wpAny_AugAssign_AttributeAny ?_
  refine (H.ev sc x env ρ σ).use rm st er K fun ov σ₁ α₁ vo h₁ t₁ e₁ st₁ er₁ nx₁ ro K₁ => K₁.sm fun old ea K₁ => attrV_ok F2 st₁ ea ro fun wo t ra => ?_
  refine (H.ev sc e env ρ σ₁).use (s := ⟨h₁, s.gens, s.drawn, t, s.os⟩) rm st₁ er₁ (K₁.from .refl) fun b σ₂ α₂ vb h₂ t₂ e₂ st₂ er₂ nx₂ rb K₂ => K₂.setX fun τ' e2 K => ?_
  refine add_ok e2 (RelV.nx st₁ nx₂ ra) rb fun i j t3 t4 e3 e4 e5 => ?_
  subst e3 e4
  refine PyProof.Rows.iadd_int (setAttrV_ok (s := ⟨h₂, s.gens, s.drawn, t₂ + 1, s.os⟩) F2 st₂ e5 (RelV.nx st₁ nx₂ ro) (.int _ _) fun h' t u => ?_)
  exact done_upd (s := ⟨h₂, s.gens, s.drawn, t₂, s.os⟩) K st₂ er₂ u fun er => ⟨trivial, er⟩
theorem ex_AugSub (H : OpsOK C d o) (x k px e pos) : Ex C d (exec (.AugAssign (.Subscript (src x) (src k) px) .Add (src e) pos) env) sc env ρ σ ((o.ev sc x ρ σ).bind fun ov σ₁ => (o.ev sc k ρ σ₁).bind fun kv σ₂ => (Res.of (getV σ₂ ov kv) σ₂).bind fun old σ₃ => (o.ev sc e ρ σ₃).bind fun b τ => setBy ((addI old b).bind fun w => setV τ ov kv w) ρ) := by
  intro ls A s α Q E rm st er K
  refine wpAny_AugAssign_SubscriptAny ?_ (by intros; cases k <;> rfl)
  refine (H.ev sc x env ρ σ).use rm st er K fun ov σ₁ α₁ vo h₁ t₁ e₁ st₁ er₁ nx₁ ro K₁ => ?_
  refine (H.ev sc k env ρ σ₁).use rm st₁ er₁ K₁ fun kv σ₂ α₂ vk h₂ t₂ e₂ st₂ er₂ nx₂ rk K₂ => K₂.sm fun old ea K₂ => ?_
  have ro := RelV.nx st₁ nx₂ ro
  refine getV_ok st₂ ea ro rk fun wo t ra => ?_
  refine (H.ev sc e env ρ σ₂).use (s := ⟨h₂, s.gens, s.drawn, t, s.os⟩) rm st₂ er₂ (K₂.from .refl) fun b σ₃ α₃ vb h₃ t₃ e₃ st₃ er₃ nx₃ rb K₃ => K₃.setX fun τ' e2 K => ?_
  refine add_ok e2 (RelV.nx st₂ nx₃ ra) rb fun i j t3 t4 e3 e4 e5 => ?_
  subst e3 e4
  refine PyProof.Rows.iadd_int (setV_ok (s := ⟨h₃, s.gens, s.drawn, t₃ + 1, s.os⟩) st₃ e5 (RelV.nx st₂ nx₃ ro) (RelV.nx st₂ nx₃ rk) (.int _ _) rm.cLine1 fun h' t u => ?_)
  exact done_upd (s := ⟨h₃, s.gens, s.drawn, t₃, s.os⟩) K st₃ er₃ u fun er => ⟨trivial, er⟩
theorem ex_Del (H : OpsOK C d o) (x i px pos) : Ex C d (exec (.Delete [.Subscript (src x) (src i) px] pos) env) sc env ρ σ ((o.ev sc x ρ σ).bind fun ov σ₁ => (o.ev sc i ρ σ₁).bind fun k τ => setBy (delV τ ov k) ρ) := by
  intro ls A s α Q E rm st er K
  refine wpAny_Delete (wpAny_deleteEach_cons (wpAny_delete_Subscript ?_))
  refine (H.ev sc x env ρ σ).use rm st er K fun ov σ₁ α₁ vo h₁ t₁ e₁ st₁ er₁ nx₁ ro K₁ => ?_
  refine (H.ev sc i env ρ σ₁).use rm st₁ er₁ K₁ fun kv σ₂ α₂ vk h₂ t₂ e₂ st₂ er₂ nx₂ rk K₂ => K₂.setX fun τ' e K => ?_
  refine delV_ok st₂ e (RelV.nx st₁ nx₂ ro) rk fun h' t u => wpAny_deleteEach_nil ?_
  exact done_upd (s := ⟨h₂, s.gens, s.drawn, t₂, s.os⟩) K st₂ er₂ u fun er => ⟨trivial, er⟩
end
end Mine
end
section
open PySem.Calls
namespace Mine
theorem fm_congr {β γ : Type} {f g : β → Option γ} : ∀ {l : List β}, (∀ x ∈ l, f x = g x) → l.filterMap f = l.filterMap g
  | [], _ => rfl
  | x :: r, h => by
    rw [List.filterMap_cons, List.filterMap_cons, h x (.head _), fm_congr fun y hy => h y (.tail _ hy)]
theorem pick_take {β : Type} (p : Nat → Bool) (a : Nat) (hp : ∀ k, p k = decide (a ≤ k)) : ∀ (vs : List β) (n : Nat), ((vs.zipIdx n).filterMap fun (x : β × Nat) => if p x.2 = true then none else some x.1) = vs.take (a - n)
  | [], n => by simp
  | v :: r, n => by
    rw [List.zipIdx_cons, List.filterMap_cons]
    have ih := pick_take p a hp r (n + 1)
    by_cases q : a ≤ n
    · have e : p n = true := by rw [hp]; simpa using q
      simp only [e, if_true]
      rw [ih]
      have e1 : a - n = 0 := by lia
      have e2 : a - (n + 1) = 0 := by lia
      rw [e1, e2]; simp
    · have e : p n = false := by rw [hp]; simpa using q
      simp only [e, Bool.false_eq_true, if_false]
      rw [ih]
      have e1 : a - n = (a - (n + 1)) + 1 := by lia
      rw [e1, List.take_succ_cons]
section
variable {C : Cx} {d : Nat} {o : Ops} {env : Env} {sc : Scope} {σ : VH} {ρ : VE} {l : List Env} {α : Nat → Addr} {s : Shared} {A : Around} {E : Value → Shared → Prop}
theorem delItem_from {L sl : Addr} {vs : Array Value} {c a : Nat} {t : Tok} {Q : Unit → Shared → Prop} (hv : s.heap.get? L = some (W.listOf vs c)) (hs : s.heap.IsSliceOf sl (.int a t) .none .none) (hz : vs.size ≤ sizeLine)
    (h : ∀ h', Heap.SameBut L s.heap h' → (∃ k, h'.get? L = some (W.listOf (vs.toList.take a).toArray k)) → Q () { s with heap := h' }) : wpAny C.M A (delItem (.ref L) (.ref sl)) Q E s := by
  have hl := isList_of hv
  obtain ⟨os, hos, hcs, hds⟩ := hs
  have hTs : s.TypeIs (.ref sl) "slice" := ⟨os, hos, hcs⟩
  refine wpAny_delItem_slot hl.typeIs (by decide) PySem.F.slot_list_delitem (wpAny_call_entry PySem.F.slot_list_delitem hl.typeIs PySem.F.entry_list_delitem ?_ (PySem.F.args_list_delitem_2 _ _))
  show wpAny _ _ (Builtin.List.listSubscript? (.ref sl) >>= _) _ _ s
  refine wpAny_bind ?_
  unfold Builtin.List.listSubscript?
  refine wpAny_bind (wpAny_specialOf hTs slice_no_index ?_)
  simp only [Option.isNone_none, if_true]
  refine wpAny_pure ?_
  show wpAny _ _ (typeOf (.ref sl) >>= _) _ _ s
  refine wpAny_bind (wpAny_typeOf hTs ?_)
  rw [if_neg (by decide)]
  rw [listSliceParts_eq]
  refine wpAny_bind (wpAny_bind (wpAny_field hos hds (x := .none) rfl (wpAny_bind (wpAny_listPart .none ?_))))
  rw [if_neg (by decide)]
  refine wpAny_bind (wpAny_field hos hds (x := .int a t) rfl (wpAny_bind (wpAny_listPart (.int (a : Int) t) ?_)))
  refine wpAny_bind (wpAny_field hos hds (x := .none) rfl (wpAny_bind (wpAny_listPart .none (wpAny_pure ?_))))
  refine wpAny_bind (m := Builtin.List.listItems (.ref L)) ?_
  unfold Builtin.List.listItems
  refine wpAny_bind (wpAny_seqItems hv rfl (wpAny_pure ?_))
  refine wpAny_bind (wpAny_of_eq (sliceIndices_raw (some (a : Int)) none none vs.size (by simp)) ?_)
  have hb : sliceBounds (some (a : Int)) none none vs.size = ((min (a : Int) vs.size), (vs.size : Int), 1) := by
    simp only [sliceBounds, Option.getD_none]
    have h1 : ¬ ((a : Int) < 0) := by lia
    simp only [h1, if_false, show (1 : Int) > 0 by decide, if_true]
    congr 1
    lia
  rw [hb]
  refine wpAny_bind (wpAny_rule ?_)
  have key : ∀ (f : Array Value → Array Value), (f vs).toList = vs.toList.take a → wpAny C.M A.in1 (Builtin.List.listUpdate (.ref L) f) (fun _ s' => Q () s') E s := fun f hf => by
    show wpAny C.M A.in1 (updateSeq L f) _ E s
    have hfs : (f vs).size ≤ sizeLine + 1 := by
      have : (f vs).toList.length ≤ vs.toList.length := by rw [hf, List.length_take]; lia
      simp at this; lia
    refine wpAny_updateSeq hv rfl ?_ hz hfs
    obtain ⟨k, ek⟩ := listUpd f hv
    refine h _ (Heap.SameBut.update ..) ⟨k, ?_⟩
    rw [ek, ← hf]
  refine wpAny_bind (wpAny_mono (key _ ?_) (fun _ s' q => ?_) fun _ _ x => x)
  · show (((vs.toList.zipIdx.filterMap fun (x : Value × Nat) => if (if (1 : Int) > 0 then (decide (min (a : Int) vs.size ≤ (x.2 : Int)) && decide ((x.2 : Int) < vs.size) && ((x.2 : Int) - min (a : Int) vs.size) % 1 == 0) else (decide ((vs.size : Int) < x.2) && decide ((x.2 : Int) ≤ min (a : Int) vs.size) && (min (a : Int) vs.size - x.2) % (-1) == 0)) = true then none else some x.1).toArray).toList) = vs.toList.take a
    have e : (vs.toList.zipIdx.filterMap fun (x : Value × Nat) => if (if (1 : Int) > 0 then (decide (min (a : Int) vs.size ≤ (x.2 : Int)) && decide ((x.2 : Int) < vs.size) && ((x.2 : Int) - min (a : Int) vs.size) % 1 == 0) else (decide ((vs.size : Int) < x.2) && decide ((x.2 : Int) ≤ min (a : Int) vs.size) && (min (a : Int) vs.size - x.2) % (-1) == 0)) = true then none else some x.1) =
        vs.toList.zipIdx.filterMap fun (x : Value × Nat) => if decide (a ≤ x.2) = true then none else some x.1 := by
      refine fm_congr fun x hx => ?_
      have hlt : x.2 < vs.size := by
        have := List.mem_zipIdx hx
        have h2 := this.2.1
        simpa using h2
      have : (if (1 : Int) > 0 then (decide (min (a : Int) vs.size ≤ (x.2 : Int)) && decide ((x.2 : Int) < vs.size) && ((x.2 : Int) - min (a : Int) vs.size) % 1 == 0) else (decide ((vs.size : Int) < x.2) && decide ((x.2 : Int) ≤ min (a : Int) vs.size) && (min (a : Int) vs.size - x.2) % (-1) == 0)) = decide (a ≤ x.2) := by
        rw [if_pos (by decide)]
        have h1 : decide ((x.2 : Int) < vs.size) = true := by simpa using hlt
        have h3 : (((x.2 : Int) - min (a : Int) vs.size) % 1 == 0) = true := by simp
        rw [h1, h3, Bool.and_true, Bool.and_true]
        by_cases q : a ≤ x.2
        · simp only [q, decide_true, decide_eq_true_eq]; lia
        · simp only [q, decide_false, decide_eq_false_iff_not]; lia
      rw [this]
    rw [e, List.toList_toArray, pick_take (fun k => decide (a ≤ k)) a (fun _ => rfl) vs.toList 0, Nat.sub_zero]
  · refine wpAny_bind (wpAny_letGo (wpAny_pure ⟨_, rfl, q⟩))
theorem ex_DelFrom (H : OpsOK C d o) (x q lo p2 px pos) : Ex C d (exec (.Delete [.Subscript (.Name x q) (.Slice (some (src lo)) none none p2) px] pos) env) sc env ρ σ ((o.ev sc (.name x q) ρ σ).bind fun ov σ₁ => (o.ev sc lo ρ σ₁).bind fun k τ => delBy τ ov ρ (natV k)) := by
  intro ls A s α Q E rm st er K
  refine wpAny_Delete (wpAny_deleteEach_cons (wpAny_delete_Subscript ?_))
  refine (H.ev sc (.name x q) env ρ σ).use rm st er K fun ov σ₁ α₁ vo h₁ t₁ e₁ st₁ er₁ nx₁ ro K₁ => ?_
  refine wpAny_Slice ?_
  rw [evalPart_some, evalPart_none]
  refine (H.ev sc lo env ρ σ₁).use rm st₁ er₁ K₁ fun kv σ₂ α₂ vk h₂ t₂ e₂ st₂ er₂ nx₂ rk K₂ => ?_
  refine nat_ok (delBy σ₂ ov ρ) K₂ rfl rk fun i t e K => ?_
  subst e
  have ro := RelV.nx st₁ nx₂ ro
  refine wpAny_pure (wpAny_pure ?_)
  cases ov with
  | ref r =>
    obtain ⟨hr, rfl⟩ := ro.inv
    refine K.opt (f := setO σ₂ r ρ) rfl fun p ep K => ?_
    obtain ⟨xs, ei, hl, rfl⟩ := omap_inv ep
    obtain ⟨vs, c, hv, rr⟩ := st₂.objs r _ ei
    have hsz : vs.size = xs.length := by rw [← rr.length]; simp
    have k0 := push_keeps h₂ { cls := .type "slice", data := .fields #[.int (i : Int) t, .none, .none] }
    have st3 := st₂.grown k0
    have nx3 : Nx noX ls σ₂.length α₂ h₂ σ₂.length α₂ _ := .grown k0
    refine delItem_from (s := ⟨_, s.gens, s.drawn, t₂, s.os⟩) (a := i) (k0 _ _ hv) (Heap.IsSliceOf.new ..) (by rw [hsz]; exact okLen_le hl) fun h' sb ⟨k, ek⟩ => ?_
    have ro' : ObjRel C h' α₂ σ₂.length (α₂ r) (.list (xs.take i)) := ⟨_, k, ek, by
      have := RelVs.keeps (Keeps.but sb (st3.at hr).2) (Nat.le_refl _) (fun _ _ => rfl) (RelVs.keeps (Keeps.of k0) (Nat.le_refl _) (fun _ _ => rfl) (rr.take i))
      simpa using this⟩
    obtain ⟨st4, el, nx4⟩ := updOK (s := ⟨_, s.gens, s.drawn, t₂, s.os⟩) st3 ⟨r, _, hr, rfl, sb, ro'⟩
    have nx5 : Nx noX ls σ₂.length α₂ h₂ σ₂.length α₂ h' := nx3.trans (nx4 _)
    exact wpAny_deleteEach_nil (K.ok (.next, ρ) _ α₂ .next h' t₂ rfl st4 (by rw [el]; exact nxX nx5) ⟨trivial, by rw [el]; exact er₂.nx st₂ nx5⟩)
  | _ => exact K.dead
end
end Mine
end
section
open PySem.Calls
namespace Mine
noncomputable def RecAt (h : Heap) (a : Addr) : Prop := Y3 fun o vs T => C4 (h.get? a = some o) (o.data = .fields vs) (o.cls = .type T) (T ≠ "range")
structure Apart (C : Cx) (env : Env) (l : List Env) (h : Heap) (α : Nat → Addr) (n : Nat) (a : Addr) : Prop where
  vm : ∀ i, i < n → α i ≠ a
  fr : a ∉ frs l
  own : ¬ Own env a
  ntr : NTR h a
  top : C.H.get? a = none
section
variable {C : Cx} {d : Nat} {o : Ops} {env : Env} {sc : Scope} {σ : VH} {ρ : VE} {l : List Env} {α : Nat → Addr} {h h' : Heap} {a : Addr}
theorem recApart (S : St C l α σ h) (er : EnvR C sc env l h α σ.length ρ) (r : RecAt h a) (hC : C.H.get? a = none) : Apart C env l h α σ.length a := by
  obtain ⟨o, vs, T, e, hd, hc, hr⟩ := r
  refine ⟨fun j hj q => ?_, fun q => ?_, fun q => ?_, ntr_of e (.inr fun _ _ q => nomatch hd.symm.trans q) (.inl (by rw [hc]; exact type_ne hr)), hC⟩
  · obtain ⟨ob, e', k⟩ := S.kind hj
    obtain rfl := Option.some.inj ((q ▸ e').symm.trans e)
    induction k with
    | own a c => exact nomatch hc.symm.trans c
    | blt T' c h1 h2 h3 h4 => exact h4 _ hd
  · obtain ⟨_, ⟨o', es, ep, e', x⟩, _⟩ := S.fr q
    rw [e] at e'; obtain rfl := Option.some.inj e'; rw [hd] at x; injection x
  · rcases q with q | ⟨y, q⟩
    · obtain ⟨m, ⟨o', es, ep, e', x, _⟩, _⟩ := er.ns
      rw [← q, e] at e'; obtain rfl := Option.some.inj e'; rw [hd] at x; injection x
    · obtain ⟨_, _, _, _, o', v, e', x⟩ := er.cells y a q
      rw [e] at e'; obtain rfl := Option.some.inj e'; rw [hd] at x; injection x
theorem St.ext1 (S : St C l α σ h) (ap : Apart C env l h α σ.length a) (k : ∀ b o, b ≠ a → h.get? b = some o → h'.get? b = some o) : St C l α σ h' := by
  have kp : Keeps h h' := ⟨fun b vs x => IsTup.same x fun o e => k b o (fun q => ap.ntr.1 vs (q ▸ x)) e, fun b _ _ _ _ _ _ x => k b _ (fun q => ap.ntr.2 _ _ _ _ _ _ (q ▸ x)) x⟩
  refine ⟨fun b o e => k b o (fun q => by rw [q, ap.top] at e; exact nn e) (S.stay b o e), fun i o e => (S.objs i o e).same kp (Nat.le_refl _) (fun _ _ => rfl) fun ob x => k _ ob (ap.vm i (List.getElem?_eq_some_iff.mp e).1) x, S.inj, S.new, fun e he => ?_, S.apart⟩
  obtain ⟨fn, L, o, es, ep, hL, hN, ho, hd⟩ := S.frames e he
  exact ⟨fn, L, o, es, ep, hL, hN, k _ _ (fun q => ap.fr (q ▸ List.mem_filterMap.mpr ⟨e, he, hL⟩)) ho, hd⟩
theorem keeps1 (ap : Apart C env l h α σ.length a) (k : ∀ b o, b ≠ a → h.get? b = some o → h'.get? b = some o) : Keeps h h' :=
  ⟨fun b vs x => IsTup.same x fun o e => k b o (fun q => ap.ntr.1 vs (q ▸ x)) e, fun b _ _ _ _ _ _ x => k b _ (fun q => ap.ntr.2 _ _ _ _ _ _ (q ▸ x)) x⟩
theorem EnvR.ext1 (er : EnvR C sc env l h α σ.length ρ) (ap : Apart C env l h α σ.length a) (k : ∀ b o, b ≠ a → h.get? b = some o → h'.get? b = some o) : EnvR C sc env l h' α σ.length ρ := by
  have kp := keeps1 ap k
  have nl : env.locals ≠ a := fun q => ap.own (.inl q.symm)
  have nc : ∀ x c, env.cells.lookup x = some c → c ≠ a := fun x c e q => ap.own (.inr ⟨x, q ▸ e⟩)
  obtain ⟨m, ⟨o, es, ep, e, r⟩, hv⟩ := er.ns
  refine ⟨er.glob, er.blt, er.kind, er.head, er.names, ⟨m, ⟨o, es, ep, k _ _ nl e, r⟩, fun x v e => ?_⟩, er.locNew, er.locApart, fun x c hc => ?_, er.cinj, er.has⟩
  · obtain ⟨val, rv, q⟩ := hv x v e
    exact ⟨val, rv.keeps kp (Nat.le_refl _) (fun _ _ => rfl), q.imp id fun ⟨z, c, o, hc, ho, hd⟩ => ⟨z, c, o, hc, k _ _ (nc x c hc) ho, hd⟩⟩
  · obtain ⟨a1, a2, a3, a4, o, v, e, d⟩ := er.cells x c hc
    exact ⟨a1, a2, a3, a4, o, v, k _ _ (nc x c hc) e, d⟩
theorem Nx.ext1 {X : Addr → Prop} {lo : Heap} {n₀ n : Nat} {α₀ : Nat → Addr} (x : Nx X l n₀ α₀ lo n α h) (ha : lo.get? a = none) (k : ∀ b o, b ≠ a → h.get? b = some o → h'.get? b = some o) : Nx X l n₀ α₀ lo n α h' where
  le := x.le
  ext := x.ext
  alive := fun b e => by
    cases q : lo.get? b with
    | none => rfl
    | some o =>
      have hb : b ≠ a := fun z => by rw [z, ha] at q; exact nn q
      cases q2 : h.get? b with
      | none => rw [x.alive b q2] at q; exact nn q
      | some o' => rw [k b o' hb q2] at e; injection e
  fresh := x.fresh
  keep := fun b o e h1 h2 h3 => k b o (fun q => by rw [q, ha] at e; exact nn e) (x.keep b o e h1 h2 h3)
  slots := fun b o e h1 h2 h3 => by
    obtain ⟨sl, e1⟩ := x.slots b o e h1 h2 h3
    exact ⟨sl, k b _ (fun q => by rw [q, ha] at e; exact nn e) e1⟩
noncomputable def rsz (a b c : Int) : Int := if c = 1 then (if a < b then b - a else 0) else (if b < a then a - b else 0)
noncomputable def ItS (h : Heap) (α : Nat → Addr) (n : Nat) (a : Addr) : It → Prop
  | .lst i k => i < n ∧ h.IsListIter a (α i) k
  | .tup xs => Y3 fun t items k => C3 (IsTup h t items) (h.IsTupleIter a t k) (RelVs h α n xs (items.toList.drop k))
  | .rng x b c => (c = 1 ∨ c = -1) ∧ IsRangeIter h a x (rsz x b c) c
  | .keys i k => False
noncomputable def ItR (C : Cx) (lo h : Heap) (α : Nat → Addr) (n : Nat) (it : It) (v : Value) : Prop := ∃ a, C4 (v = .ref a) (lo.get? a = none) (RecAt h a) (ItS h α n a it)
end
end Mine
end
section
open PySem.Calls
set_option backward.match.sparseCases false
namespace Mine
section
variable {C : Cx} {d : Nat} {o : Ops} {env : Env} {sc : Scope} {σ : VH} {ρ : VE} {l : List Env} {α : Nat → Addr} {s : Shared} {A : Around} {E : Value → Shared → Prop} {X : Addr → Prop} {lo : Heap} {n₀ : Nat} {α₀ : Nat → Addr}
theorem nextV_lst {i k : Nat} : nextV σ (.lst i k) = (match σ[i]? with
    | some (.list xs) => (match xs[k]? with
      | some x => some (some (x, .lst i (k + 1)))
      | none => some none)
    | _ => none) := rfl
theorem next_ok {it : It} {v : Value} {Q : Option Value → Shared → Prop} (hh : A.handled = none) (st : St C l α σ s.heap) (er : EnvR C sc env l s.heap α σ.length ρ) (hC : ∀ b, lo.get? b = none → C.H.get? b = none) (nx : Nx X l n₀ α₀ lo σ.length α s.heap)
    (ir : ItR C lo s.heap α σ.length it v) (hns : nextV σ it ≠ none)
    (hn : ∀ h' t, nextV σ it = some none → St C l α σ h' → EnvR C sc env l h' α σ.length ρ → Nx X l n₀ α₀ lo σ.length α h' → Q none ⟨h', s.gens, s.drawn, t, s.os⟩)
    (hs : ∀ x it' h' t val, nextV σ it = some (some (x, it')) → St C l α σ h' → EnvR C sc env l h' α σ.length ρ → Nx X l n₀ α₀ lo σ.length α h' → RelV h' α σ.length x val → ItR C lo h' α σ.length it' v → Q (some val) ⟨h', s.gens, s.drawn, t, s.os⟩) :
    wpAny C.M A (pyNext v) Q E s := by
  obtain ⟨a, rfl, hlo, hrec, hi⟩ := ir
  have ap := recApart st er hrec (hC a hlo)
  have step : ∀ {h'}, (∀ b o, b ≠ a → s.heap.get? b = some o → h'.get? b = some o) → St C l α σ h' ∧ EnvR C sc env l h' α σ.length ρ ∧ Nx X l n₀ α₀ lo σ.length α h' ∧ Keeps s.heap h' := fun k => ⟨st.ext1 ap k, er.ext1 ap k, nx.ext1 hlo k, keeps1 ap k⟩
  have same : ∀ {h'}, Heap.SameBut a s.heap h' → ∀ b o, b ≠ a → s.heap.get? b = some o → h'.get? b = some o := fun sb b o hb e => (sb.2 b hb).trans e
  induction it with
  | lst i k =>
    obtain ⟨hi, hit⟩ := hi
    cases ei : σ[i]? with
    | none => exact (hns (by rw [nextV_lst, ei])).elim
    | some ob =>
      induction ob with
      | list xs =>
        obtain ⟨vs, c, hv, rr⟩ := st.objs i _ ei
        cases ek : xs[k]? with
        | some x =>
          obtain ⟨val, e1, r1⟩ := rel_idx rr ek
          refine wpAny_pyNext_list_item hit (isList_of hv) e1 fun h' hit' sb => ?_
          obtain ⟨s1, s2, s3, kp⟩ := step (same sb)
          refine hs x (.lst i (k + 1)) h' s.toks val (by rw [nextV_lst, ei]; simp only [ek]) s1 s2 s3 (r1.keeps kp (Nat.le_refl _) fun _ _ => rfl) ⟨a, rfl, hlo, ?_, hi, hit'⟩
          obtain ⟨o', e', c', d'⟩ := hit'
          exact ⟨o', _, _, e', d', c', by decide⟩
        | none =>
          have e1 : vs[k]? = none := by
            have hl : vs.size = xs.length := by rw [← rr.length]; simp
            rw [Array.getElem?_eq_none_iff]
            have := List.getElem?_eq_none_iff.mp ek
            lia
          refine wpAny_pyNext_list_end hh hit (isList_of hv) e1 fun h' ex => ?_
          obtain ⟨s1, s2, s3, kp⟩ := step (fun b o hb e => ex b o hb e)
          exact hn h' s.toks (by rw [nextV_lst, ei]; simp only [ek]) s1 s2 s3
      | _ => exact (hns (by rw [nextV_lst, ei])).elim
  | tup xs =>
    obtain ⟨t, items, k, ht, hit, rr⟩ := hi
    induction xs with
    | nil =>
      have e1 : items[k]? = none := by
        have hl := rr.length
        rw [Array.getElem?_eq_none_iff]
        simp at hl
        lia
      refine wpAny_pyNext_tuple_end hh hit ht e1 fun h' ex => ?_
      obtain ⟨s1, s2, s3, kp⟩ := step (fun b o hb e => ex b o hb e)
      exact hn h' s.toks rfl s1 s2 s3
    | cons x r =>
      have hlt : k < items.size := by
        have hl := rr.length
        simp at hl
        lia
      have e0 : items.toList.drop k = items[k] :: items.toList.drop (k + 1) := by simp [List.drop_eq_getElem_cons, hlt]
      replace rr := e0 ▸ rr
      cases rr with
      | cons r1 rr =>
        refine wpAny_pyNext_tuple_item hit ht (x := items[k]) (by simp [hlt]) fun h' hit' sb => ?_
        obtain ⟨s1, s2, s3, kp⟩ := step (same sb)
        refine hs x (.tup r) h' s.toks _ rfl s1 s2 s3 (r1.keeps kp (Nat.le_refl _) fun _ _ => rfl) ⟨a, rfl, hlo, ?_, t, items, k + 1, kp.tup _ _ ht, hit', RelVs.keeps kp (Nat.le_refl _) (fun _ _ => rfl) rr⟩
        obtain ⟨o', e', c', d'⟩ := hit'
        exact ⟨o', _, _, e', d', c', by decide⟩
  | rng x b c =>
    obtain ⟨hc, hit⟩ := hi
    rcases hc with rfl | rfl
    · have e0 : nextV σ (.rng x b 1) = if x < b then some (some (.int x, .rng (x + 1) b 1)) else some none := rfl
      by_cases q : x < b
      · rw [if_pos q] at e0
        have e1 : rsz x b 1 = b - x := by unfold rsz; exact (if_pos rfl).trans (if_pos q)
        rw [e1] at hit
        refine wpAny_pyNext_range_item hit (by lia) fun h' hit' sb => ?_
        obtain ⟨s1, s2, s3, kp⟩ := step (same sb)
        refine hs (.int x) _ h' _ _ e0 s1 s2 s3 (.int _ _) ⟨a, rfl, hlo, ⟨_, _, _, hit', rfl, rfl, by decide⟩, .inl rfl, ?_⟩
        have e2 : rsz (x + 1) b 1 = b - x - 1 := by unfold rsz; rw [if_pos rfl]; split <;> lia
        rw [e2]; exact hit'
      · rw [if_neg q] at e0
        have e1 : rsz x b 1 = 0 := by unfold rsz; exact (if_pos rfl).trans (if_neg q)
        rw [e1] at hit
        refine wpAny_pyNext_range_end hh hit (Int.le_refl _) fun h' ex => ?_
        obtain ⟨s1, s2, s3, kp⟩ := step (fun b o hb e => ex b o hb e)
        exact hn h' s.toks e0 s1 s2 s3
    · have e0 : nextV σ (.rng x b (-1)) = if b < x then some (some (.int x, .rng (x - 1) b (-1))) else some none := rfl
      by_cases q : b < x
      · rw [if_pos q] at e0
        have e1 : rsz x b (-1) = x - b := by unfold rsz; exact (if_neg (by decide)).trans (if_pos q)
        rw [e1] at hit
        refine wpAny_pyNext_range_item hit (by lia) fun h' hit' sb => ?_
        obtain ⟨s1, s2, s3, kp⟩ := step (same sb)
        refine hs (.int x) _ h' _ _ e0 s1 s2 s3 (.int _ _) ⟨a, rfl, hlo, ⟨_, _, _, hit', rfl, rfl, by decide⟩, .inr rfl, ?_⟩
        have e2 : rsz (x - 1) b (-1) = x - b - 1 := by unfold rsz; rw [if_neg (by decide)]; split <;> lia
        rw [e2]
        exact hit'
      · rw [if_neg q] at e0
        have e1 : rsz x b (-1) = 0 := by unfold rsz; rw [if_neg (by decide), if_neg q]
        rw [e1] at hit
        refine wpAny_pyNext_range_end hh hit (Int.le_refl _) fun h' ex => ?_
        obtain ⟨s1, s2, s3, kp⟩ := step (fun b o hb e => ex b o hb e)
        exact hn h' s.toks e0 s1 s2 s3
  | keys i k => exact hi.elim
theorem ItR.after {h h' : Heap} {n' : Nat} {α' : Nat → Addr} {it : It} {v : Value} (st : St C l α σ h) (er : EnvR C sc env l h α σ.length ρ) (hC : ∀ b, lo.get? b = none → C.H.get? b = none) (ir : ItR C lo h α σ.length it v) (nx : Nx (Own env) l σ.length α h n' α' h') :
    ItR C lo h' α' n' it v := by
  obtain ⟨a, rfl, hlo, hrec, hi⟩ := ir
  have ap := recApart st er hrec (hC a hlo)
  have kp : Keeps h h' := nx.keeps st er.ntr
  have ka : ∀ o, h.get? a = some o → h'.get? a = some o := fun o e => nx.keep a o e ap.vm ap.own ap.fr
  refine ⟨a, rfl, hlo, ?_, ?_⟩
  · obtain ⟨o, vs, T, e, r, r2, r3⟩ := hrec
    exact ⟨o, vs, T, ka o e, r, r2, r3⟩
  · induction it with
    | lst i k =>
      obtain ⟨hi, o, e, r⟩ := hi
      exact ⟨Nat.lt_of_lt_of_le hi nx.le, o, ka o e, by rw [nx.ext i hi]; exact r⟩
    | tup xs =>
      obtain ⟨t, items, k, ht, ⟨o, e, r⟩, rr⟩ := hi
      exact ⟨t, items, k, kp.tup _ _ ht, ⟨o, ka o e, r⟩, RelVs.keeps kp nx.le nx.ext rr⟩
    | rng x b c => exact ⟨hi.1, ka _ hi.2⟩
    | keys i k => exact hi
theorem iter_ok {v : VV} {val : Value} {it : It} {Q : Value → Shared → Prop} (st : St C l α σ s.heap) (rv : RelV s.heap α σ.length v val) (e : (itOf σ v).bind notKeys = some it)
    (h : ∀ o1, ItR C s.heap (s.heap.push o1) α σ.length it (.ref s.heap.objs.size) → Q (.ref s.heap.objs.size) ⟨s.heap.push o1, s.gens, s.drawn, s.toks, s.os⟩) : wpAny C.M A (pyIter val) Q E s := by
  have f := fresh_size s.heap
  cases v with
  | tup xs =>
    obtain rfl := Option.some.inj e
    obtain ⟨a, vs, rfl, ht, rr⟩ := rv.inv
    have k := push_keeps s.heap { cls := .type "tuple_iterator", data := .fields #[.ref a, .int 0 0] }
    exact wpAny_pyIter_tuple ht (h _ ⟨_, rfl, f, ⟨_, _, _, Heap.get?_push_size _ rfl, rfl, rfl, by decide⟩, a, vs, 0, ht.keeps k, ⟨_, Heap.get?_push_size _ rfl, rfl, rfl⟩, RelVs.keeps (Keeps.of k) (Nat.le_refl _) (fun _ _ => rfl) rr⟩)
  | rng a b c =>
    obtain ⟨r, t, u, v, rfl, hr⟩ := rv.inv
    obtain ⟨i', e1, e2⟩ := Option.bind_eq_some_iff.mp e
    obtain ⟨hs, rfl⟩ := some_ite e1
    obtain rfl := Option.some.inj e2
    simp only [Bool.and_eq_true, Bool.or_eq_true, beq_iff_eq] at hs
    obtain ⟨⟨h1, h2⟩, h3⟩ := hs
    obtain ⟨l1, l2⟩ := smallI_le h1
    obtain ⟨l3, l4⟩ := smallI_le h2
    have hsz : Builtin.Range.rangeSize a b c = rsz a b c := by
      unfold Builtin.Range.rangeSize rsz
      rcases h3 with rfl | rfl
      · simp
      · simp
    have hsm : Builtin.Range.small a b c = true := by
      have hr0 : 0 ≤ rsz a b c ∧ rsz a b c ≤ 2000000 := by unfold rsz; split <;> split <;> lia
      have fit : ∀ i : Int, -3000000 ≤ i → i ≤ 3000000 → Builtin.Range.rangeFitsLong i = true := by
        intro i g1 g2
        unfold Builtin.Range.rangeFitsLong
        simp only [Bool.and_eq_true, decide_eq_true_eq]
        lia
      unfold Builtin.Range.small
      rw [hsz, fit a (by lia) (by lia), fit b (by lia) (by lia), fit c (by lia) (by lia), fit (rsz a b c) (by lia) (by lia)]
      rcases h3 with rfl | rfl
      · rw [if_pos (by decide), fit _ (by lia) (by lia)]; simp
      · rw [if_neg (by decide), fit _ (by lia) (by lia)]; simp
    refine wpAny_pyIter_range hr hsm (h _ ⟨_, rfl, f, ⟨_, _, _, Heap.get?_push_size _ rfl, rfl, rfl, by decide⟩, h3, ?_⟩)
    rw [hsz]
    exact Heap.get?_push_size _ rfl
  | ref i =>
    obtain ⟨hi, rfl⟩ := rv.inv
    rw [itOf_ref] at e
    cases ei : σ[i]? with
    | none => rw [ei] at e; exact nomatch e
    | some ob =>
      rw [ei] at e
      induction ob with
      | list xs =>
        obtain rfl := Option.some.inj e
        obtain ⟨vs, c, hv, rr⟩ := st.objs i _ ei
        exact wpAny_pyIter_list (isList_of hv) (h _ ⟨_, rfl, f, ⟨_, _, _, Heap.get?_push_size _ rfl, rfl, rfl, by decide⟩, hi, ⟨_, Heap.get?_push_size _ rfl, rfl, rfl⟩⟩)
      | _ => exact nomatch e
  | _ => exact nomatch e
end
end Mine
end
section
open PySem.Calls
namespace Mine
section
variable {prog : Program} {w : World} {A : Around} {s : Shared}
theorem codeAny_forTurn {R : Result → Shared → Prop} {target : Expr} {it : Value} {body : List Stmt} {env : Env}
    (h : wpAny (model prog w) A (pyNext it) (fun r s₁ => match r with
      | none => R (.ok .next) s₁
      | some v => wpAny (model prog w) A (assign target env v) (fun _ s₂ => wpAny (model prog w) A (execs body env) (fun f s₃ => match f with
          | .next | .cont => codeAny (model prog w) A (.forLoop target it body [] env) R s₃
          | .brk => R (.ok .next) s₃
          | .ret v => R (.ok (.ret v)) s₃) (notedBy (model prog w) A env fun e s' => R (.error e) s') s₂) (notedBy (model prog w) A env fun e s' => R (.error e) s') s₁) (notedBy (model prog w) A env fun e s' => R (.error e) s') s)
    (ht : ∀ v, letOwnedTupleGo target it v = pure ()) : codeAny (model prog w) A (.forLoop target it body [] env) R s := by
  refine codeAny_loop' rfl (fun n s' => n = 0 ∧ s' = s) (fun n s' hI => ?_) 0 ⟨rfl, rfl⟩
  obtain ⟨rfl, rfl⟩ := hI
  show wpAny _ _ ((forTurn target it body [] env).onRaise (fun x => do noteFrame x env; theTreesLotGoes x)) _ _ s'
  refine wpAny_noted ?_
  refine wpAny_bind (wpAny_standAt (wpAny_bind (wpAny_onRaise (wpAny_mono h (fun r s₁ h₁ => ?_) fun _ _ h' => wpAny_standAt h'))))
  induction r with
  | none => exact wpAny_pure (.inr ⟨rfl, codeAny_block (wpAny_execs_nil h₁)⟩)
  | some v =>
    refine wpAny_bind (wpAny_of_eq (ht v) ?_)
    refine wpAny_bind (wpAny_mono h₁ (fun _ s₂ h₂ => wpAny_bind (wpAny_mono h₂ (fun f s₃ h₃ => ?_) fun _ _ h' => h')) fun _ _ h' => h')
    induction f with
    | next => exact wpAny_pure (.inr ⟨rfl, h₃⟩)
    | cont => exact wpAny_pure (.inr ⟨rfl, h₃⟩)
    | brk => exact wpAny_pure h₃
    | ret v => exact wpAny_pure h₃
theorem codeAny_whileTurn {R : Result → Shared → Prop} {test : Expr} {body : List Stmt} {env : Env}
    (h : wpAny (model prog w) A (isTrue test env (eval test env)) (fun b s₂ =>
        if b then wpAny (model prog w) A (execs body env) (fun f s₃ => match f with
            | .next | .cont => codeAny (model prog w) A (.whileLoop test body [] env) R s₃
            | .brk => R (.ok .next) s₃
            | .ret v => R (.ok (.ret v)) s₃) (notedBy (model prog w) A env fun e s' => R (.error e) s') s₂
        else R (.ok .next) s₂)
        (notedBy (model prog w) A env fun e s' => R (.error e) s') s) : codeAny (model prog w) A (.whileLoop test body [] env) R s := by
  refine codeAny_loop' rfl (fun n s' => n = 0 ∧ s' = s) (fun n s' hI => ?_) 0 ⟨rfl, rfl⟩
  obtain ⟨rfl, rfl⟩ := hI
  show wpAny _ A ((whileTurn test body [] env).onRaise (fun x => do noteFrame x env; theTreesLotGoes x)) _ _ s'
  refine wpAny_noted ?_
  refine wpAny_bind (wpAny_mono h (fun b s₂ h₂ => ?_) fun _ _ h' => h')
  induction b with
  | false =>
    exact wpAny_bind (wpAny_execs_nil (wpAny_pure h₂))
  | true =>
    refine wpAny_bind (wpAny_mono h₂ (fun f s₃ h₃ => ?_) fun _ _ h' => h')
    induction f with
    | next => exact wpAny_pure (.inr ⟨rfl, h₃⟩)
    | cont => exact wpAny_pure (.inr ⟨rfl, h₃⟩)
    | brk => exact wpAny_pure h₃
    | ret v => exact wpAny_pure h₃
end
noncomputable def LoopR (C : Cx) (A : Around) (env : Env) (Q : Flow → Shared → Prop) (E : Value → Shared → Prop) (r : Result) (s' : Shared) : Prop := match r with
  | .ok f => Q f s'
  | .error e => cameBackBy C.M A env E e s'
structure LoopsOK (C : Cx) (d : Nat) (o : Ops) : Prop where
  loop : ∀ sc x px i body env ρ σ l A s α it lo n₀ α₀ Q E, Room d l A → St C l α σ s.heap → EnvR C sc env l s.heap α σ.length ρ → (∀ b, lo.heap.get? b = none → C.H.get? b = none) → lo.gens = s.gens → lo.drawn = s.drawn → lo.os = s.os →
    ItR C lo.heap s.heap α σ.length i it → Nx (Own env) l n₀ α₀ lo.heap σ.length α s.heap → Cont C (Own env) (FlOK env) l (RelX C sc env) (o.loop sc x i body ρ σ) n₀ α₀ lo Q E → codeAny C.M A (.forLoop (.Name x px) it (srcSs body) [] env) (LoopR C A env Q E) s
  whl : ∀ sc c body env ρ σ l A s α n₀ α₀ lo Q E, Room d l A → St C l α σ s.heap → EnvR C sc env l s.heap α σ.length ρ → lo.gens = s.gens → lo.drawn = s.drawn → lo.os = s.os → Nx (Own env) l n₀ α₀ lo.heap σ.length α s.heap →
    Cont C (Own env) (FlOK env) l (RelX C sc env) (whlOk (o.whl sc c body ρ σ)) n₀ α₀ lo Q E → codeAny C.M A (.whileLoop (src c) (srcSs body) [] env) (LoopR C A env Q E) s
section
variable {C : Cx} {d : Nat} {o : Ops} {env : Env} {sc : Scope} {σ : VH} {ρ : VE} {l : List Env} {α : Nat → Addr} {s : Shared} {A : Around} {E : Value → Shared → Prop}
theorem exc_back {β : Type} {Rel : List Env → Heap → (Nat → Addr) → Nat → β → Flow → Prop} {r : Res β} {n₀ : Nat} {α₀ : Nat → Addr} {lo : Shared} {Q : Flow → Shared → Prop} (rm : Room d l A) (hd : Y2 fun e0 r' => l = e0 :: r' ∧ e0.frame = env.frame) (hC : ∀ b, lo.heap.get? b = none → C.H.get? b = none)
    (K : Cont C (Own env) (FlOK env) l Rel r n₀ α₀ lo Q E) {i cls dd : Nat} {σ' : VH} {α' : Nat → Addr} {h' : Heap} {t' : Nat} {fl : Option Value} (e : r = .exc i σ') (hi : σ'[i]? = some (.inst cls dd true)) (st : St C l α' (σ'.set i .dead) h')
    (nx : Nx (Own env) l n₀ α₀ lo.heap σ'.length α' h') (ea : ExcAt h' (α' i) cls (α' dd) lo.heap fl) (hf : FlOK env fl) :
    notedBy C.M A env (fun e s' => cameBackBy C.M A env E e s') (.ref (α' i)) ⟨h', lo.gens, lo.drawn, t', lo.os⟩ := by
  obtain ⟨e0, r', hl, hfr⟩ := hd
  have hi' : i < σ'.length := (List.getElem?_eq_some_iff.mp hi).1
  unfold notedBy
  refine note_ok (s := ⟨h', lo.gens, lo.drawn, t', lo.os⟩) rm hl hfr st hi' nx hC ea hf fun h2 L hL st2 nx2 ea2 => ?_
  unfold cameBackBy
  have ea3 := ea2
  obtain ⟨oe, vs, a0, he, hc, hdx, hd', h0, T, oT, ts, h1, r2⟩ := ea2
  refine wpAny_bind (wpAny_field he hd' h1 ?_)
  rw [if_neg (show ¬ ((Value.ref T == Value.none) = true) from by simp)]
  refine flight_ok (s := ⟨h2, lo.gens, lo.drawn, t', lo.os⟩) st2 hi' hC ea3 fun h3 T3 st3 mv hT ea4 => ?_
  refine K.ex i cls dd σ' α' h3 t' _ e hi st3 (nx2.moved mv hi' hT) ea4 (.inr (.inr ⟨L, hL, by rw [hL]; rfl⟩))
noncomputable def TurnT (G B : Prop) (R : Value → Prop) : Flow → Prop
  | .next => G
  | .cont => G
  | .brk => B
  | .ret v => R v
theorem aft_ok {go : VE → VH → Res (VF × VE)} (w : Res (VF × VE) → Res (VF × VE)) (hw : ∀ p τ, w (.ok p τ) = .ok p τ) {n₀ : Nat} {α₀ : Nat → Addr} {lo : Shared} {Q : Flow → Shared → Prop} {p : VF × VE} {f : Flow} {h : Heap} {t : Nat} (K : Cont C (Own env) (FlOK env) l (RelX C sc env) (w (aft go p σ)) n₀ α₀ lo Q E)
    (st : St C l α σ h) (nx : Nx (Own env) l n₀ α₀ lo.heap σ.length α h) (rel : RelX C sc env l h α σ.length p f) {G : Prop} (g : Cont C (Own env) (FlOK env) l (RelX C sc env) (w (go p.2 σ)) n₀ α₀ lo Q E → G) : TurnT G (Q .next ⟨h, lo.gens, lo.drawn, t, lo.os⟩) (fun v => Q (.ret v) ⟨h, lo.gens, lo.drawn, t, lo.os⟩) f := by
  obtain ⟨rf, er⟩ := rel
  obtain ⟨f1, ρ'⟩ := p
  have q := fl_inv rf
  induction f1 with
  | next =>
    obtain rfl : f = .next := q
    exact g K
  | cont =>
    obtain rfl : f = .cont := q
    exact g K
  | brk =>
    obtain rfl : f = .brk := q
    exact (K.eq (hw _ _)).ok _ σ α .next h t rfl st nx ⟨trivial, er⟩
  | ret v =>
    obtain ⟨z, rfl, r⟩ := q
    exact (K.eq (hw _ _)).ok _ σ α (.ret z) h t rfl st nx ⟨r, er⟩
theorem loop_ok (H : OpsOK C d o) (HL : LoopsOK C d o) (sc x px i body env ρ σ l A s α it lo n₀ α₀ Q E) (rm : Room d l A) (st : St C l α σ s.heap) (er : EnvR C sc env l s.heap α σ.length ρ) (hC : ∀ b, lo.heap.get? b = none → C.H.get? b = none) (hg : lo.gens = s.gens) (hdr : lo.drawn = s.drawn) (hos : lo.os = s.os)
    (ir : ItR C lo.heap s.heap α σ.length i it) (nx : Nx (Own env) l n₀ α₀ lo.heap σ.length α s.heap) (K : Cont C (Own env) (FlOK env) l (RelX C sc env) (loopF o sc x i body ρ σ) n₀ α₀ lo Q E) :
    codeAny C.M A (.forLoop (.Name x px) it (srcSs body) [] env) (LoopR C A env Q E) s := by
  obtain ⟨lh, lg, ld, lt, los⟩ := lo
  subst hg hdr hos
  refine codeAny_forTurn ?_ fun _ => rfl
  refine next_ok (X := Own env) (lo := lh) (n₀ := n₀) (α₀ := α₀) rm.handled st er hC nx ir (fun q => K.ns (congrArg (fun c => loopBy o sc x body ρ c σ) q)) (fun h' t e st1 er1 nx1 => ?_) fun v i' h' t val e st1 er1 nx1 rv ir1 => ?_
  · exact (K.eq (congrArg (fun c => loopBy o sc x body ρ c σ) e)).ok (.next, ρ) σ α .next h' t rfl st1 nx1 ⟨trivial, er1⟩
  · refine Cont.guard (K.eq (congrArg (fun c => loopBy o sc x body ρ c σ) e)) fun hx K => ?_
    refine wpAny_assign_Name (store_ok (s := ⟨h', s.gens, s.drawn, t, s.os⟩) st1 er1 rv (.inl (isLocal_of hx)) fun h2 t2 st2 er2 nx2 => ?_)
    have nx02 := nx1.trans nx2
    have ir2 := ir1.after st1 er1 hC nx2
    refine (H.exs sc body env (assocSet x v ρ) σ) l A ⟨h2, s.gens, s.drawn, t2, s.os⟩ α _ _ rm st2 er2 ⟨fun q => K.ns (congrArg (fun r => Res.bind r (loopAft o sc x i' body)) q), fun p σ' α' f h3 t3 e3 st3 nx3 rel => ?_, fun i cls dd σ' α' h3 t3 fl e3 hi st3 nx3 ea hf => ?_⟩
    · have ir3 := ir2.after st2 er2 hC nx3
      have nx03 := nx02.trans nx3
      have T := aft_ok (t := t3) id (fun _ _ => rfl) (lo := ⟨lh, s.gens, s.drawn, lt, s.os⟩) (K.eq (congrArg (fun r => Res.bind r (loopAft o sc x i' body)) e3)) st3 nx03 rel fun K =>
        HL.loop sc x px i' body env p.2 σ' l A ⟨h3, s.gens, s.drawn, t3, s.os⟩ α' it ⟨lh, s.gens, s.drawn, lt, s.os⟩ n₀ α₀ Q E rm st3 rel.2 hC rfl rfl rfl ir3 nx03 K
      induction f <;> exact T
    · obtain ⟨e0, r, h1, h2, _⟩ := er.head
      exact exc_back (lo := ⟨lh, s.gens, s.drawn, lt, s.os⟩) rm ⟨e0, r, h1, h2⟩ hC (K.eq (congrArg (fun r => Res.bind r (loopAft o sc x i' body)) e3)) rfl hi st3 (nx02.trans nx3) (ea.lo nx02.alive) hf
theorem whl_ok (H : OpsOK C d o) (HL : LoopsOK C d o) (sc c body env ρ σ l A s α n₀ α₀ lo Q E) (rm : Room d l A) (st : St C l α σ s.heap) (er : EnvR C sc env l s.heap α σ.length ρ) (hg : lo.gens = s.gens) (hdr : lo.drawn = s.drawn) (hos : lo.os = s.os)
    (nx : Nx (Own env) l n₀ α₀ lo.heap σ.length α s.heap) (K : Cont C (Own env) (FlOK env) l (RelX C sc env) (whlOk (whlF o sc c body ρ σ)) n₀ α₀ lo Q E) :
    codeAny C.M A (.whileLoop (src c) (srcSs body) [] env) (LoopR C A env Q E) s := by
  obtain ⟨lh, lg, ld, lt, los⟩ := lo
  subst hg hdr hos
  refine codeAny_whileTurn ?_
  refine (H.cd sc c env ρ σ) l A s α _ _ rm st er ⟨fun q => K.ns (congrArg (fun r => whlOk (Res.bind r (whlBy o sc c body ρ))) q), fun b σ1 α1 b' h1 t1 e1 st1 nx1 rel => ?_, fun i cls dd σ' α' h3 t3 fl e3 hi st3 nx3 ea hf => (K.ns (congrArg (fun r => whlOk (Res.bind r (whlBy o sc c body ρ))) e3)).elim⟩
  subst rel
  have K := K.eq (congrArg (fun r => whlOk (Res.bind r (whlBy o sc c body ρ))) e1)
  have er1 := er.nx st nx1
  have nx01 := nx.trans (nxX nx1)
  induction b with
  | false => exact (K.eq (r' := .ok (.next, ρ) σ1) rfl).ok (.next, ρ) σ1 α1 .next h1 t1 rfl st1 nx01 ⟨trivial, er1⟩
  | true =>
    refine (H.exs sc body env ρ σ1) l A ⟨h1, s.gens, s.drawn, t1, s.os⟩ α1 _ _ rm st1 er1 ⟨fun q => K.ns (congrArg (fun r => whlOk (Res.bind r (whlAft o sc c body))) q), fun p σ' α' f h3 t3 e3 st3 nx3 rel => ?_, fun i cls dd σ' α' h3 t3 fl e3 hi st3 nx3 ea hf => (K.ns (congrArg (fun r => whlOk (Res.bind r (whlAft o sc c body))) e3)).elim⟩
    have nx03 := nx01.trans nx3
    have T := aft_ok (t := t3) whlOk (fun _ _ => rfl) (lo := ⟨lh, s.gens, s.drawn, lt, s.os⟩) (K.eq (congrArg (fun r => whlOk (Res.bind r (whlAft o sc c body))) e3)) st3 nx03 rel fun K =>
      HL.whl sc c body env p.2 σ' l A ⟨h3, s.gens, s.drawn, t3, s.os⟩ α' n₀ α₀ ⟨lh, s.gens, s.drawn, lt, s.os⟩ Q E rm st3 rel.2 rfl rfl rfl nx03 K
    induction f <;> exact T
end
end Mine
end
section
open PySem.Calls
namespace Mine
section
variable {C : Cx} {d : Nat} {o : Ops} {env : Env} {sc : Scope} {σ : VH} {ρ : VE} {l : List Env} {α : Nat → Addr} {s : Shared} {A : Around} {E : Value → Shared → Prop}
theorem notSet (it : XE) (env : Env) : ∀ y, foldedSetIterable (src it) env y = pure y := by cases it <;> exact fun _ => rfl
theorem ex_For (H : OpsOK C d o) (HL : LoopsOK C d o) (x px it body pos) : Ex C d (exec (.For (.Name x px) (src it) (srcSs body) [] pos) env) sc env ρ σ ((o.ev sc it ρ σ).bind fun v τ => forIt o sc x body ρ ((itOf τ v).bind notKeys) τ) := by
  intro ls A s α Q E rm st er K
  refine wpAny_For ?_ (notSet it env)
  refine (H.ev sc it env ρ σ).use rm st er K fun v σ₁ α₁ val h₁ t₁ e₁ st₁ er₁ nx₁ rv K₁ => K₁.opt (f := fun i => forIt o sc x body ρ i σ₁) rfl fun i ei K => ?_
  refine iter_ok (s := ⟨h₁, s.gens, s.drawn, t₁, s.os⟩) st₁ rv ei fun o1 ir => ?_
  have k := push_keeps h₁ o1
  have nx2 : Nx noX ls σ₁.length α₁ h₁ σ₁.length α₁ (h₁.push o1) := .grown k
  exact HL.loop sc x px i body env ρ σ₁ ls A ⟨h₁.push o1, s.gens, s.drawn, t₁, s.os⟩ α₁ _ ⟨h₁, s.gens, s.drawn, t₁, s.os⟩ σ₁.length α₁ Q E rm (st₁.grown k) (er₁.nx st₁ nx2) (alive_of st₁.stay) rfl rfl rfl ir (nxX nx2) K
theorem ex_While (H : OpsOK C d o) (HL : LoopsOK C d o) (c body pos) : Ex C d (exec (.While (src c) (srcSs body) [] pos) env) sc env ρ σ (whlOk (o.whl sc c body ρ σ)) := by
  intro ls A s α Q E rm st er K
  exact wpAny_While (HL.whl sc c body env ρ σ ls A s α σ.length α s Q E rm st er rfl rfl rfl .refl K)
end
end Mine
end
section
open PySem.Calls
open PySem.Builtin.ObjectAttr (Found find)
namespace Mine
structure ExcCls (K : Frag) (D : Addr) : Prop where
  ga : findIn K (.ref D) "__getattribute__" = some (some (.builtin "BaseException.__getattribute__"))
  gh : findIn K (.ref D) "__getattr__" = some none
  me : exmOne K (.ref D) (.ref D) = some true
  bs : subIn K (.ref D) (.type "BaseException") = some true
  ty : typeIn K (.ref D) = some (.type "type")
  ball : findIn K (.ref D) "ball" = some none
  cd : ∃ cd, clsIn K D = some cd ∧ cd.hasDict = true
section
variable {C : Cx} {d : Nat} {G : Top'} {cl : CallO} {o : Ops} {env : Env} {sc : Scope} {σ : VH} {ρ : VE} {l : List Env} {α : Nat → Addr} {s : Shared} {A : Around} {E : Value → Shared → Prop}
theorem ga_slot : Slot "Exception" "__getattribute__" "BaseException.__getattribute__" :=
  .of (owner := "BaseException") (n := "__getattribute__") (by rw [typeLookup_type, builtinLookup_eq_fast]; kernel_rfl) (by decide +kernel) (by decide +kernel) (by decide +kernel)
    (by first | exact .inl (by decide +kernel) | exact .inr (by decide +kernel)) (by rw [isSubtype_type]; kernel_rfl)
theorem exc_attr {x D : Addr} {ox : Obj} {od : Option Obj} {name : Str} {v : Value} {expr : Bool} {Q : Value → Shared → Prop} (X : C.K.In s.heap) (I : InstAt s.heap x ox D od) (F : ExcCls C.K D) (hf : findObj C.K D od name = some (.value v)) (hh : handedIn v = true)
    (h : Q v { s with toks := s.toks + 1 }) : wpAny C.M A (getAttr (.ref x) name expr) Q E s := by
  obtain ⟨hp, g, dr, t, os⟩ := s
  have L0 := I.type (M := C.M)
  have L1 := looks_findIn (M := C.M) X F.ga
  have L2 := looks_findIn (M := C.M) X F.gh
  have L3 := looks_find (M := C.M) X I hf
  have LB : Looks C.M hp (isInstance (.ref x) (.type "BaseException")) true := L0.andThen (looks_subIn X F.bs)
  unfold getAttr getAttrBy
  refine wpAny_bind (wpAny_mkText (wpAny_holding (wpAny_bind (L0.at (wpAny_bind (L1.at ?_))))))
  show wpAny _ _ (getAttrByItsOwn _ _ _ _ _ _) _ _ _
  unfold getAttrByItsOwn
  refine wpAny_bind (m := hookBefore (.ref D)) ?_
  show wpAny _ _ (typeLookup (.ref D) "__getattr__") _ _ _
  refine L2.at ?_
  refine wpAny_bind (wpAny_attempt (wpAny_holding ?_))
  have hx0 : (expr && onTheHeap (Value.builtin "BaseException.__getattribute__")) = false := by induction expr <;> rfl
  have hcg : callGetattribute (.ref x) (.str name t) (.builtin "BaseException.__getattribute__") expr = boundAndCalled (.builtin "BaseException.__getattribute__") (.ref x) (.str name t) := by unfold callGetattribute; rw [hx0]; rfl
  dsimp only
  rw [hcg]
  unfold boundAndCalled
  refine wpAny_bind (wpAny_of_eq (ga_slot.bind (.ref x)) ?_)
  refine wpAny_call (codeAny_call_builtin ga_slot.plain PySem.F.entry_bexc_ga (@check_slot C.M _ _ ⟨hp, g, dr, _, os⟩ "BaseException.__getattribute__" "BaseException" "__getattribute__" (.ref x) [.str name t] [] _ (by decide +kernel) (by decide +kernel) LB (PySem.F.args_bexc_ga _ _) ?_))
  show wpAny _ _ (slotArgs "__getattribute__" 1 _ >>= _) _ _ _
  refine wpAny_bind (wpAny_pure ?_)
  dsimp only
  refine wpAny_bind (wpAny_pure (wpAny_bind (L0.at (wpAny_bind (L3.at ?_)))))
  refine wpAny_pure ?_
  show wpAny _ _ (handedOut v) _ _ _
  rw [handedOut_of hh]
  exact wpAny_pure h
theorem St.excOf {σ : VH} (S : St C l α σ s.heap) {r D dd : Nat} (e : σ[r]? = some (.inst D dd true)) :
    Y3 fun oe vs a0 => C6 (s.heap.get? (α r) = some oe) (oe.cls = .ref D) (oe.dict = some (α dd)) (oe.data = .fields vs) (vs[0]? = some a0) (vs[1]? = some .none) := by
  obtain ⟨h1, oe, h2, h3, h4, h5⟩ := S.objs r _ e
  obtain ⟨vs, h6, h7, h8⟩ : ExcNew oe := by simpa using h5
  cases q : vs[0]? with
  | none => exact absurd q h7
  | some a0 => exact ⟨oe, vs, a0, h2, h3, h4, h6, q, h8⟩
theorem excO_of {c : Option VO} {D : Addr × Nat} (h : excO c = some D) : c = some (.inst D.1 D.2 true) := by
  cases c with
  | none => exact nomatch h
  | some c =>
    induction c with
    | inst C d b =>
      induction b with
      | true => exact (Option.some.inj h) ▸ rfl
      | false => exact nomatch h
    | _ => exact nomatch h
theorem raise_inv {X : Addr → Prop} {FL : Option Value → Prop} {β : Type} {Rel : List Env → Heap → (Nat → Addr) → Nat → VF × VE → β → Prop} {Q : β → Shared → Prop} {v : VV} {val : Value} (K : Cont C X FL l Rel (raiseV G v σ) σ.length α s Q E) (rv : RelV s.heap α σ.length v val) {P : Prop}
    (k : ∀ r (D : Addr × Nat), σ[r]? = some (.inst D.1 D.2 true) → val = .ref (α r) → G.exc D.1 = true → Cont C X FL l Rel (.exc r σ) σ.length α s Q E → P) : P := by
  cases v with
  | ref r => exact K.opt (f := raiseD G r σ) rfl fun D e K => K.guard fun hx K => k r D (excO_of e) rv.inv.2 hx K
  | _ => exact K.dead
theorem ex_Raise (H5 : ∀ D, G.exc D = true → ExcCls C.K D) (H : OpsOK C d o) (e pos) : Ex C d (exec (.Raise (some (src e)) none pos) env) sc env ρ σ ((o.ev sc e ρ σ).bind (raiseV G)) := by
  intro ls A s α Q E rm st er K
  rw [arm_exec_Raise]
  refine wpAny_bind (wpAny_standAt ?_)
  unfold raiseStmt
  refine wpAny_bind (wpAny_bind ?_)
  refine (H.ev sc e env ρ σ).use rm st er K fun v σ₁ α₁ val h₁ t₁ e₁ st₁ er₁ nx₁ rv K₁ => raise_inv (s := ⟨h₁, s.gens, s.drawn, t₁, s.os⟩) K₁ rv fun r D ei e hx K => ?_
  subst e
  refine wpAny_bind (wpAny_standAt (wpAny_pure ?_))
  have F := H5 D.1 hx
  obtain ⟨oe, vs, a0, he, hc, hdx, hd, h0, h1⟩ := st₁.excOf (s := ⟨h₁, s.gens, s.drawn, t₁, s.os⟩) ei
  have X := C.inK.keeps st₁.stay
  have L0 : Looks C.M h₁ (typeOf (.ref (α₁ r))) (.ref D.1) := hc ▸ (Looks.ld he).andThen .now
  have L1 : Looks C.M h₁ (typeOf (.ref D.1)) (.type "type") := looks_typeIn X F.ty
  have LB : Looks C.M h₁ (isInstance (.ref (α₁ r)) (.type "BaseException")) true := L0.andThen (looks_subIn X F.bs)
  have LT : Looks C.M h₁ (isType (.ref (α₁ r))) false := by
    intro A' Q' E' s' k q
    unfold isType loadHead
    refine wpAny_bind (wpAny_loadPart (k _ _ he) ?_)
    rw [hd]
    exact wpAny_pure q
  refine wpAny_bind (wpAny_pure (wpAny_bind (wpAny_holding ?_)))
  unfold excFromValue
  refine wpAny_bind ?_
  unfold isExcClass
  refine wpAny_bind (LT.at ?_)
  rw [if_neg (by decide)]
  refine wpAny_pure ?_
  rw [if_neg (by decide)]
  refine wpAny_bind (LB.at ?_)
  rw [if_pos rfl]
  refine wpAny_pure ?_
  dsimp only
  refine wpAny_bind (LT.at ?_)
  rw [if_neg (by decide)]
  refine wpAny_bind ?_
  unfold raisedInstance
  refine wpAny_bind (L0.at (wpAny_bind (L1.at ?_)))
  rw [if_pos (show (Value.type "type" == Value.type "type") = true by simp)]
  refine wpAny_pure (wpAny_bind ?_)
  unfold setFlight
  refine wpAny_bind (wpAny_field he hd h1 ?_)
  rw [if_neg (by decide)]
  refine wpAny_pure (wpAny_raiseNew_none rm.handled ?_)
  exact K.ex r D.1 D.2 σ₁ α₁ h₁ t₁ none rfl ei (st₁.upd (List.getElem?_eq_some_iff.mp ei).1 (.refl ..) ⟨oe, D.1, he, hc⟩) .refl ⟨oe, vs, a0, he, hc, hdx, hd, h0, h1⟩ (.inl rfl)
theorem ballO_of {c : Option VO} {v : VV} (h : ballO c = some v) : c = some (.attrs [(("ball" : Str), v)]) := by
  cases c with
  | none => exact nomatch h
  | some c =>
    induction c with
    | attrs fs =>
      rcases fs with _ | ⟨⟨b, u⟩, _ | _⟩ <;> try (exact nn h; done)
      obtain ⟨rfl, e⟩ := some_ite h
      rw [e]
    | _ => exact nomatch h
theorem clsV_of {n : Option VV} {D : Addr} (h : n.bind clsV = some D) : n = some (.val (.ref D)) := by
  induction n with
  | none => exact nomatch h
  | some v =>
    cases v with
    | val b =>
      induction b with
      | ref a => exact (Option.some.inj h) ▸ rfl
      | _ => exact nomatch h
    | _ => exact nomatch h
theorem caught_inv {X : Addr → Prop} {FL : Option Value → Prop} {β : Type} {Rel : List Env → Heap → (Nat → Addr) → Nat → VF × VE → β → Prop} {Q : β → Shared → Prop} {m : Nat} {n : Option VV} {i D dd : Nat} (hi : σ[i]? = some (.inst D dd true)) (K : Cont C X FL l Rel (tryR G n ρ (.exc i σ)) m α s Q E) {P : Prop}
    (k : ∀ v, n = some (.val (.ref D)) → G.exc D = true → σ[dd]? = some (.attrs [(("ball" : Str), v)]) → handV v = true → Cont C X FL l Rel (.ok (.ret v, []) (σ.set i .dead)) m α s Q E → P) : P := by
  have K := K.eq (congrArg (fun c => caughtO G i n σ (excO c)) hi)
  refine K.opt (f := caughtC G i σ (D, dd)) rfl fun D' e K => K.guard fun hc K => K.opt (f := caughtB i σ) rfl fun v ev K => K.guard fun hv Kf => ?_
  obtain ⟨h1, h2⟩ := (Bool.and_eq_true _ _).mp hc
  have h1 : D = D' := Nat.eq_of_beq_eq_true h1
  subst h1
  exact k v (clsV_of e) h2 (ballO_of ev) hv Kf
theorem ball_ok {A : Around} {D : Addr} (FX : ExcCls C.K D) {x : Addr} {dd : Nat} {v : VV} {oe : Obj} {vs : Array Value} {expr : Bool} {Q : Value → Shared → Prop} (st : St C l α σ s.heap) (he : s.heap.get? x = some oe) (hcl : oe.cls = .ref D) (hdx : oe.dict = some (α dd)) (hdat : oe.data = .fields vs) (hdd : σ[dd]? = some (.attrs [(("ball" : Str), v)])) (hhv : handV v = true)
    (h : ∀ val, RelV s.heap α σ.length v val → Q val { s with toks := s.toks + 1 }) : wpAny C.M A (getAttr (.ref x) "ball" expr) Q E s := by
  obtain ⟨m', hns, ⟨od, hod, _, _, _, _, _⟩, hall⟩ := st.objs dd _ hdd
  have hba := hall "ball"
  simp only [assocGet, if_true] at hba
  obtain ⟨val, hval, rval⟩ := hba
  obtain ⟨cd, hcd, hhd⟩ := FX.cd
  refine exc_attr (C.inK.keeps st.stay) ⟨he, hcl, by unfold notCls; rw [hdat], by rw [hdx]; exact hod⟩ FX (v := val) (od := some od) ?_ (handed_of rval hhv) (h val rval)
  unfold findObj
  rw [hcd, Option.bind_some, FX.ball]
  rw [Option.bind_some, own_of hhd, lookIn_ns hns hod, hval]; rfl
theorem Own.nsame {h : Heap} {m : Str → Option Value} {a : Addr} (hm : h.Ns a m) : (∃ o, h.get? a = some o) ∧ NTR h a ∧ Y3 fun o es ep => h.get? a = some o ∧ o.data = .dict es ep := by
  obtain ⟨o, es, ep, e, dd, _⟩ := hm
  exact ⟨⟨o, e⟩, ntr_of e (.inr fun _ _ q => nomatch dd.symm.trans q) (.inr fun _ q => nomatch dd.symm.trans q), o, es, ep, e, dd⟩
theorem handle_ok (F : Facts C G) {D : Addr} (FX : ExcCls C.K D) {c n : Str} {cp np ap p2 p3 : Pos} {i dd : Nat} {v : VV} {lo : Heap} {Q : Flow → Shared → Prop} {σ₀ : VH} {α₀ : Nat → Addr} (st0 : St C l α₀ σ₀ lo) (er0 : EnvR C sc env l lo α₀ σ₀.length ρ) (nx : Nx noX l σ₀.length α₀ lo (σ.set i .dead).length α s.heap) (st : St C l α (σ.set i .dead) s.heap) (hname : nameV G sc c ρ = some (.val (.ref D))) (hi : i < σ.length)
    (hdd : (σ.set i .dead)[dd]? = some (.attrs [(("ball" : Str), v)])) (hhv : handV v = true) (hC : ∀ b, lo.get? b = none → C.H.get? b = none) (ea : ExcAt s.heap (α i) D (α dd) lo (some .none)) (hl : sc.names.lookup n = some .local) (hdb : (n == ("__debug__" : Str)) = false)
    (fin : ∀ h' val t, St C l α (σ.set i .dead) h' → Nx (Own env) l σ₀.length α₀ lo (σ.set i .dead).length α h' → EnvR C sc env l h' α (σ.set i .dead).length [] → RelV h' α (σ.set i .dead).length v val → Q (.ret val) ⟨h', s.gens, s.drawn, t, s.os⟩) :
    wpAny C.M A (handleBy (.ref (α i)) env [.ExceptHandler (some (.Name c cp)) (some n) [.Return (some (.Attribute (.Name n np) "ball" ap)) p2] p3]) Q E s := by
  have er := er0.nx st0 nx
  have hi' : i < (σ.set i .dead).length := by rw [List.length_set]; exact hi
  have hn : env.kindOf n = some .local := by have := er.names n; rw [hl] at this; exact this
  have hmod : (env.scope.kind == .class || (env.scope.kind == .module && env.locals != env.globals)) = false := by rw [er.kind]; rfl
  refine wpAny_handleBy_cons (codeAny_handlers_test ?_) (by intro q; injection q)
  have hnm := fun {Q'} h => name_ok (A := A.mark (some (.ref (α i)))) (E := notedBy C.M (A.mark (some (.ref (α i)))) env fun x s₁ => cameBackBy C.M A env E x s₁) (Q := Q') F hname st er h
  refine wpAny_Name (hnm fun val rv => ?_).1 (hnm (Q' := fun _ _ => True) fun _ _ => trivial).2
  obtain rfl := rv.inv
  obtain ⟨oe, vs, a0, he, hc, _⟩ := id ea
  refine (exm_one (M := C.M) (C.inK.keeps st.stay) (hc ▸ (Looks.ld he).andThen .now) FX.me).at ?_
  show codeAny _ _ _ _ _
  refine codeAny_handlers_suite_as ?_
  refine flight_ok (fr := none) st hi hC ea fun h5 T5 st5 mv5 hT5 ea5 => ?_
  have nx5 := nx.moved mv5 hi' hT5
  have er5 := er0.nx st0 nx5
  obtain ⟨m, hm, hv⟩ := er5.ns
  have hntr := er5.ntr env.locals (.inl rfl)
  refine wpAny_storeName_local hn hm (fun h6 hm6 sb6 => ?_) hmod
  obtain ⟨t6, hntr6, z6⟩ := Own.nsame hm6
  have st6 := st5.changed sb6 hntr er5.locNew er5.locApart fun _ => z6
  refine wpAny_execs_cons (wpAny_Return_some ?_)
  rw [arm_eval_Attribute]
  refine wpAny_bind ?_
  refine wpAny_Name (wpAny_loadName_local er.kind hn hm6 (v := .ref (α i)) (if_pos rfl) ?_) hdb
  refine wpAny_bind (wpAny_standAt (wpAny_bind (wpAny_holding ?_)))
  obtain ⟨oe5, vs5, a5, he5, hc5, hdx5, hdat5, _⟩ := ea5
  refine ball_ok (s := ⟨h6, _, _, _, _⟩) FX st6 ((sb6.2 _ (er5.locApart i hi')).trans he5) hc5 hdx5 hdat5 hdd hhv fun val rval => ?_
  refine wpAny_bind (wpAny_letTemporaryGo (wpAny_pure ?_))
  show wpAny _ _ _ _ _ _
  refine wpAny_nameGoes hn hm6 hmod fun h7 m7 hm7 sb7 => ?_
  obtain ⟨t7, hntr7, z7⟩ := Own.nsame hm7
  refine fin h7 val _ (st6.changed sb7 hntr6 er5.locNew er5.locApart fun _ => z7) (((nx5.weaken fun _ q => q.elim).trans (.changed sb6 t6 (.inr (.inl rfl)))).trans (.changed sb7 t7 (.inr (.inl rfl)))) ?_ (rval.keeps (Keeps.but sb7 hntr6) (Nat.le_refl _) fun _ _ => rfl)
  refine ⟨er.glob, er.blt, er.kind, er.head, er.names, ⟨m7, hm7, fun _ _ q => nomatch q⟩, er5.locNew, er5.locApart, fun y c hc => ?_, er.cinj, er.has⟩
  obtain ⟨a1, a2, a3, a4, oc, w, e, dq⟩ := er5.cells y c hc
  exact ⟨a1, a2, a3, a4, oc, w, (sb7.2 c a4).trans ((sb6.2 c a4).trans e), dq⟩
theorem ex_Try (F : Facts C G) (H5 : ∀ D, G.exc D = true → ExcCls C.K D) (H : OpsOK C d o) (e p1 c cp n np ap p2 p3 pos) :
    Ex C d (exec (.Try [.Return (some (src e)) p1] [.ExceptHandler (some (.Name c cp)) (some n) [.Return (some (.Attribute (.Name n np) "ball" ap)) p2] p3] [] [] pos) env) sc env ρ σ
      (.guard (isLocal (sc.names.lookup n) && !(n == ("__debug__" : Str))) (tryR G (nameV G sc c ρ) ρ (o.ev sc e ρ σ))) := by
  intro ls A s α Q E rm st er K
  refine K.guard fun hc K => wpAny_Try_except ?_
  obtain ⟨hl, hdb⟩ := (Bool.and_eq_true _ _).mp hc
  refine wpAny_execs_cons (wpAny_Return_some ?_)
  refine (H.ev sc e env ρ σ) _ _ _ _ _ _ rm st er ⟨fun q => K.ns (congrArg (tryR G (nameV G sc c ρ) ρ) q), fun v σ' α' c' h' t' e st' nx rel => ?_, fun i cl dd σ' α' h' t' fl e hi st' nx ea hf => ?_⟩
  · exact (K.eq (congrArg (tryR G (nameV G sc c ρ) ρ) e)).ok (.ret v, ρ) σ' α' (.ret c') h' t' rfl st' (nxX nx) ⟨rel, er.nx st nx⟩
  refine caught_inv hi (K.eq (congrArg (tryR G (nameV G sc c ρ) ρ) e)) fun v hname hx hdd hhv K => ?_
  have hiL : i < σ'.length := (List.getElem?_eq_some_iff.mp hi).1
  have hC : ∀ b, s.heap.get? b = none → C.H.get? b = none := alive_of st.stay
  obtain ⟨e0', r, hl0, hfr, _⟩ := er.head
  refine note_ok (s := ⟨h', s.gens, s.drawn, t', s.os⟩) rm hl0 hfr st' hiL nx hC ea hf fun h2 L hL st2 nx2 ea2 => ?_
  refine flight_ok (s := ⟨h2, s.gens, s.drawn, t', s.os⟩) (fr := none) st2 hiL hC ea2 fun h3 T st3 mv3 hT3 ea3 => ?_
  have nx3 := nx2.moved mv3 hiL hT3
  refine handle_ok (s := ⟨h3, s.gens, s.drawn, t', s.os⟩) F (H5 _ hx) st er (by rw [List.length_set]; exact nx3) st3 hname hiL ?_ hhv hC ea3 (isLocal_of hl) (by simpa using hdb) fun h7 val t7 st7 nx7 er7 rval => ?_
  · rw [List.getElem?_set_ne fun q => by subst q; rw [hi] at hdd; cases hdd]; exact hdd
  · exact K.ok (.ret v, []) _ α' (.ret val) h7 _ rfl st7 nx7 ⟨rval, er7⟩
end
end Mine
end
section
open PySem.Calls
open PySem.Builtin.ObjectAttr (storeInOwnDict ownDictForStores storeInDict storeTaker? refuseIfOverridden)
namespace Mine
noncomputable def obK (K : Frag) (D : Addr) : Obj := (K.lookup D).getD emptyDict
noncomputable def cdK (K : Frag) (D : Addr) : ClassData := match (obK K D).data with
  | .cls cd => cd
  | _ => default
noncomputable def slK (K : Frag) (D : Addr) (i : Nat) : Option Value := (obK K D).slots.getD i none
noncomputable abbrev bmE : List Value := [.type "Exception", .type "BaseException", .type "object"]
noncomputable abbrev excK (K : Frag) (D B : Addr) : Obj := excClassObj (cdK K D).name (cdK K D).qualname D (cdK K D).ns (cdK K D).bases (.ref B :: bmE) true (cdK K D).slotNames (cdK K D).subclasses (cdK K D).abstract (cdK K D).collection (obK K D).dict (slK K D 0) (slK K D 1) (slK K D 2) (slK K D 3) (slK K D 5) "Exception.__new__"
structure ExcCls2 (K : Frag) (D f B : Addr) : Prop extends ExcCls K D where
  sa : findIn K (.ref D) "__setattr__" = some (some (.builtin "object.__setattr__"))
  init : findIn K (.ref D) "__init__" = some (some (.ref f))
  fty : typeIn K (.ref f) = some (.type "function")
  nw : K.lookup D = some (excK K D B)
  tl : tailIn K bmE (.ref B :: bmE) = true
theorem clsIn_exc {K : Frag} {D B : Addr} (e : K.lookup D = some (excK K D B)) : ∃ cd, C3 (clsIn K D = some cd) (cd.hasDict = true) (cd.mro = .ref D :: .ref B :: bmE) := by
  refine ⟨{ name := (cdK K D).name, bases := (cdK K D).bases, mro := .ref D :: .ref B :: bmE, ns := (cdK K D).ns, qualname := (cdK K D).qualname, hasDict := true, slotNames := (cdK K D).slotNames, subclasses := (cdK K D).subclasses, abstract := (cdK K D).abstract, collection := (cdK K D).collection, hasDel := false }, ?_, rfl, rfl⟩
  unfold clsIn
  rw [e]
section
variable {C : Cx} {d : Nat} {G : Top'} {cl : CallO} {o : Ops} {env : Env} {sc : Scope} {σ : VH} {ρ : VE} {l : List Env} {α : Nat → Addr} {s : Shared} {A : Around} {E : Value → Shared → Prop}
theorem osa_exc {K : Frag} {prog : Program} {w : World} {x D B : Addr} {ox : Obj} {od : Option Obj} {name : Str} {tk : Tok} {v : Value} {cd : ClassData} {R : Result → Shared → Prop} (X : K.In s.heap) (I : InstAt s.heap x ox D od) (hc : clsIn K D = some cd) (hp : cd.mro = .ref D :: .ref B :: bmE) (ha : findIn K (.ref D) name = some none)
    (h : ∀ b, wpAny (model prog w) A.in1 (storeInOwnDict (.ref x) (.ref D) (.str name tk) name v b)
      (fun fin s' => match fin with | .done f => R (.ok f) s' | .again c' => c'.quiet = true ∧ codeAny (model prog w) A c' R s') (fun e s' => R (.error e) s') s) :
    codeAny (model prog w) A (.call (.builtin "object.__setattr__") ⟨[.ref x, .str name tk, v], []⟩) R s := by
  have SF := PySem.F.store_object
  have sub : Looks (model prog w) s.heap (isInstance (.ref x) (.type "object")) true := I.type.andThen (looks_mroIn X (by unfold mroIn; rw [hc, Option.bind_some, hp]; simp [bmE]))
  refine codeAny_call_builtin SF.slot.plain SF.entry (@check_slot (model prog w) _ _ s "object.__setattr__" "object" "__setattr__" (.ref x) [.str name tk, v] [] _ SF.kind SF.split sub (SF.args (.ref x) (.str name tk) v) ?_)
  have hm : Looks (model prog w) s.heap (mroOf (.ref D)) cd.mro := (looks_clsIn X hc).andThen .now
  rw [osa_eq, refuse_eq]
  refine wpAny_bind (wpAny_bind (I.type.here (wpAny_bind (hm.here ?_))))
  rw [hp, refuseLoop_ref, refuseLoop_ref, PySem.F.store_Exception.passes (.ref x)]
  refine wpAny_pure (wpAny_bind (I.type.here (wpAny_bind ((looks_findIn X ha).here (wpAny_bind ?_)))))
  exact wpAny_pure (h _)
theorem exc_set {name : Str} {D f B : Addr} {v : VV} {vv : Value} {i : Nat} {Q : Unit → Shared → Prop} (F : ExcCls2 C.K D f B) (ha : findIn C.K (.ref D) name = some none) (st : St C l α σ s.heap) (ei : σ[i]? = some (.exc0 D)) (rv : RelV s.heap α σ.length v vv)
    (h : ∀ α' h' t, St C l α' (σ.set i (.inst D σ.length true) ++ [.attrs [(name, v)]]) h' → Nx noX l σ.length α s.heap (σ.length + 1) α' h' → Q () ⟨h', s.gens, s.drawn, t, s.os⟩) :
    wpAny C.M A (setAttr (.ref (α i)) name vv) Q E s := by
  obtain ⟨oe, he, hcl, hdn, hex⟩ := st.objs i _ ei
  obtain ⟨vs, hdat, hv0, hv1⟩ := hex
  obtain ⟨cd, hcd, hhd, hmro⟩ := clsIn_exc F.nw
  have hi : i < σ.length := (List.getElem?_eq_some_iff.mp ei).1
  have I : InstAt s.heap (α i) oe D none := ⟨he, hcl, by unfold notCls; exact hdat ▸ rfl, by refine hdn ▸ ?_; trivial⟩
  have XK := C.inK.keeps st.stay
  refine set_plain XK I F.sa ?_
  have I' : InstAt ({ s with toks := s.toks + 1 } : Shared).heap (α i) oe D none := I
  refine osa_exc XK I' hcd hmro ha fun b => ?_
  obtain ⟨hp, g, dr, tk, os⟩ := s
  obtain ⟨oc, odi, oda, osl⟩ := oe
  dsimp only at hcl hdn hdat
  subst hcl hdn hdat
  refine wpAny_bind (wpAny_pure (wpAny_bind (wpAny_bind (wpAny_loadPart he (wpAny_bind ((looks_clsIn XK hcd).at ?_))))))
  rw [hhd]
  have hxs : α i ≠ hp.objs.size := Nat.ne_of_lt (Heap.lt_size he)
  have k1 := push_keeps hp emptyDict
  have hx₁ := k1 _ _ he
  refine wpAny_bind (wpAny_alloc' (o := emptyDict) ?_)
  refine wpAny_bind (wpAny_update' hx₁ ?_)
  refine wpAny_pure (a := some hp.objs.size) (wpAny_bind (wpAny_pure (wpAny_bind ?_)))
  generalize hh2 : (hp.push emptyDict).update (α i) (fun o => { cls := o.cls, dict := some hp.objs.size, data := o.data, slots := o.slots }) = h2
  have sb2 : Heap.SameBut (α i) (hp.push emptyDict) h2 := hh2 ▸ .update ..
  have hx2 : h2.get? (α i) = some ⟨.ref D, some hp.objs.size, .fields vs, osl⟩ := by
    rw [← hh2]; exact Heap.get?_update_self _ hx₁ rfl
  have hd2 : h2.get? hp.objs.size = some emptyDict := (sb2.2 _ (Ne.symm hxs)).trans (Heap.get?_push_size hp rfl)
  have st1 : St C l (aext α σ.length hp.objs.size) (σ ++ [.attrs []]) (hp.push emptyDict) := st.alloc k1 (fresh_size _) ⟨fun _ => none, Heap.Ns.new .., ⟨_, Heap.get?_push_size _ rfl, rfl, #[], 0, rfl, Nat.le_refl _⟩, fun x => rfl⟩
  have nx1 : Nx noX l σ.length α hp (σ.length + 1) (aext α σ.length hp.objs.size) (hp.push emptyDict) := .alloc k1 (fresh_size _)
  have eL : (σ ++ [VO.attrs []]).length = σ.length + 1 := by simp
  generalize hα : aext α σ.length hp.objs.size = α1 at st1 nx1
  have ai : α1 i = α i := by rw [← hα]; exact aext_old _ hi
  have an : α1 σ.length = hp.objs.size := by rw [← hα]; exact aext_new
  have st2 : St C l α1 ((σ ++ [VO.attrs []]).set i (.inst D σ.length true)) h2 := by
    refine st1.upd (by rw [eL]; exact Nat.le_succ_of_le (by assumption)) (by rw [ai]; exact sb2) ⟨by rw [eL]; exact Nat.le_refl _, _, by rw [ai]; exact hx2, rfl, by rw [an], ?_⟩
    show ExcNew _
    exact ⟨vs, rfl, hv0, hv1⟩
  have nx2 : Nx noX l (σ.length + 1) α1 (hp.push emptyDict) (σ.length + 1) α1 h2 := .changed (ai ▸ sb2) ⟨_, by rw [ai]; exact hx2⟩ (.inl ⟨i, by exact Nat.le_succ_of_le (by assumption), rfl⟩)
  refine nsSet_at (s := ⟨h2, _, _, _, _⟩) (m := fun _ => none) hd2 (es := #[]) (ep := 0) rfl (fun e he => absurd he (by simp)) (fun _ => rfl) fun h' o' es' ep' g1 g2 g3 g4 g5 sb => ?_
  refine wpAny_bind (wpAny_lookBehind g1 (by rw [g3]; exact pastItsLine_dict (by simp at g4; rw [sizeLine_eq]; exact Nat.le_trans (by assumption) (by decide))) ?_)
  have st3 : St C l α1 (((σ ++ [VO.attrs []]).set i (.inst D σ.length true)).set σ.length (.attrs [(name, v)])) h' := by
    refine st2.upd (by rw [List.length_set, eL]; exact Nat.le_refl _) (by rw [an]; exact sb) ?_
    refine ⟨_, by rw [an]; exact g5, ⟨o', by rw [an]; exact g1, g2, es', ep', g3, by simpa using g4⟩, fun x => ?_⟩
    by_cases q : name = x
    · subst q
      rw [show assocGet name [(name, v)] = some v from if_pos rfl, if_pos rfl]
      refine ⟨vv, rfl, ?_⟩
      have kp := ((nx1.trans nx2).trans (.changed (an ▸ sb) ⟨o', by rw [an]; exact g1⟩ (.inl ⟨σ.length, by exact Nat.le_refl _, rfl⟩)) : Nx noX l σ.length α hp (σ.length + 1) α1 h')
      have := rv.nx st kp
      simpa [eL] using this
    · rw [show assocGet x [(name, v)] = none from if_neg q, if_neg fun e => q e.symm]
      rfl
  have nx3 : Nx noX l σ.length α hp (σ.length + 1) α1 h' := (nx1.trans nx2).trans (.changed (an ▸ sb) ⟨o', by rw [an]; exact g1⟩ (.inl ⟨σ.length, by exact Nat.le_refl _, rfl⟩))
  have eσ : ((σ ++ [VO.attrs []]).set i (.inst D σ.length true)).set σ.length (.attrs [(name, v)]) = σ.set i (.inst D σ.length true) ++ [.attrs [(name, v)]] := by
    rw [List.set_append, if_pos hi, List.set_append, if_neg (by simp)]
    simp
  rw [eσ] at st3
  exact wpAny_pure (h α1 h' _ st3 nx3)
theorem init_exs (F : Facts C G) {D f B : Addr} (F5 : ExcCls2 C.K D f B) {x y : Str} {i : Nat} {b : VV} (px pa py pos) (hx : nameV G sc x ρ = some (.ref i)) (hy : nameV G sc y ρ = some b) (ei : σ[i]? = some (.exc0 D)) :
    Ex C d (execs [.Assign [.Attribute (.Name x px) "ball" pa] (.Name y py) pos] env) sc env ρ σ (.ok (.next, ρ) (σ.set i (.inst D σ.length true) ++ [.attrs [(("ball" : Str), b)]])) := by
  intro l A s α Q E rm st er K
  refine wpAny_execs_cons (wpAny_Assign_stores ?_ (swaps_plain (e := .name y py) rfl) rfl)
  have hyd := fun {A E Q} h => name_ok (A := A) (E := E) (Q := Q) F hy st er h
  have hxd := fun {A E Q} h => name_ok (A := A) (E := E) (Q := Q) F hx st er h
  refine wpAny_Name (hyd fun vv rv => ?_).1 (hyd (A := A) (E := E) (Q := fun _ _ => True) fun _ _ => trivial).2
  show wpAny C.M A (assign (.Attribute (.Name x px) "ball" pa) env vv) _ E _
  rw [arm_assign_Attribute]
  refine wpAny_bind (wpAny_holding (wpAny_Name (hxd fun vo ro => ?_).1 (hxd (A := A) (E := E) (Q := fun _ _ => True) fun _ _ => trivial).2))
  obtain ⟨hi, rfl⟩ := ro.inv
  refine wpAny_bind (wpAny_standAt (wpAny_bind (wpAny_holding (exc_set F5 F5.ball st ei rv fun α' h' t st' nx' => wpAny_release (wpAny_execs_nil ?_)))))
  have nx2 : Nx noX l σ.length α s.heap (σ.set i (.inst D σ.length true) ++ [VO.attrs [("ball", b)]]).length α' h' := by
    rw [List.length_append, List.length_set]; exact nx'
  exact K.ok (.next, ρ) _ α' .next h' t rfl st' (nxX nx2) ⟨trivial, er.nx st nx2⟩
noncomputable def excObj (D t : Addr) : Obj := { cls := .ref D, data := .fields #[.ref t, .none, .none, .none, .bool false, .none] }
theorem exc_type_call {D f B : Addr} {rest : List Value} {h : Heap} {g : Array GenState} {dr : Drawn} {t : Nat} {os : OsState} {Q : Fin → Shared → Prop} (X : C.K.In h) (F5 : ExcCls2 C.K D f B) (hrest : rest.length ≤ sizeLine)
    (hq : codeAny C.M A (.call (.ref f) ⟨.ref (h.objs.size + 1) :: rest, []⟩) (fun r s' => match r with | .ok (.ret v) => v = .none ∧ Q (.done (.ret (.ref (h.objs.size + 1)))) s' | .ok _ => False | .error e => E e s')
      ⟨(h.push { cls := .type "tuple", data := .seq rest.toArray }).push (excObj D h.objs.size), g, dr, t, os⟩) :
    wpAny C.M A (Builtin.«type.__call__» ⟨.ref D :: rest, []⟩) Q E ⟨h, g, dr, t, os⟩ := by
  have hC := X _ _ F5.nw
  have T := tail_of_in X F5.tl
  have F := PySem.F.excBase_Exception
  repeat (first | with_reducible refine wpAny_loadPart_at hC ?_ | with_reducible refine wpAny_madeBy_exc hC ?_ | wp_step)
  refine codeAny_call_builtin_code (Code.quiet_builtin _ F.quiet) (wpAny_check_new_subT F T hC ?_)
  refine codeAny_exc_new_subT F T hC ?_ hrest
  show wpAny _ _ _ _ _ _
  have k : ∀ b o, h.get? b = some o → ((h.push { cls := .type "tuple", data := .seq rest.toArray }).push (excObj D h.objs.size)).get? b = some o := fun b o e => Heap.get?_push_of_some _ (Heap.get?_push_of_some _ e)
  have hC₁ := k _ _ hC
  have X₁ := X.keeps k
  have hget : ((h.push { cls := .type "tuple", data := .seq rest.toArray }).push (excObj D h.objs.size)).get? (h.objs.size + 1) = some (excObj D h.objs.size) := by heap_get
  have hcC : (Value.ref D :: .ref B :: bmE).contains (.ref D) = true := by simp
  have L1 := looks_findIn (M := C.M) X₁ F5.init
  have L2 := bind_fn (M := C.M) X₁ (.ref (h.objs.size + 1)) F5.fty
  unfold isInstance
  repeat (first | (with_reducible refine wpAny_loadPart_at hget ?_; show wpAny _ _ _ _ _ _) | (with_reducible refine wpAny_isSubtype_exc hC₁ ?_; rw [hcC]) | wp_step)
  show wpAny _ _ (isSubtype (.ref D) (.ref D)) _ _ _
  refine wpAny_isSubtype_exc hC₁ ?_
  rw [hcC]
  have L0 : Looks C.M ((h.push { cls := .type "tuple", data := .seq rest.toArray }).push (excObj D h.objs.size)) (typeOf (.ref (h.objs.size + 1))) (.ref D) := (Looks.ld hget).andThen .now
  rw [if_neg (by decide)]
  unfold callSpecial? specialOf
  refine wpAny_bind (wpAny_holding ?_)
  refine wpAny_bind (wpAny_bind (L0.at (L1.at ?_)))
  refine wpAny_holding (wpAny_bind (L2.at ?_))
  refine wpAny_bind (wpAny_call (codeAny_mono hq fun r s' z => ?_))
  rcases r with e | (v | _ | _ | _) <;> first | exact z | exact z.elim | skip
  obtain ⟨rfl, z⟩ := z
  exact wpAny_pure (wpAny_pure z)
theorem exc_make {D f B : Addr} {rest : List Value} {h : Heap} {g : Array GenState} {dr : Drawn} {t : Nat} {os : OsState} {Q : Value → Shared → Prop} (X : C.K.In h) (F5 : ExcCls2 C.K D f B) (hrest : rest.length ≤ sizeLine)
    (hq : codeAny C.M (A.under (.builtin "type.__call__" ⟨.ref D :: rest, []⟩)) (.call (.ref f) ⟨.ref (h.objs.size + 1) :: rest, []⟩) (fun r s' => match r with | .ok (.ret v) => v = .none ∧ Q (.ref (h.objs.size + 1)) s' | .ok _ => False | .error e => E e s')
      ⟨(h.push { cls := .type "tuple", data := .seq rest.toArray }).push (excObj D h.objs.size), g, dr, t, os⟩) :
    codeAny C.M A (.call (.ref D) ⟨rest, []⟩) (fun r s' => match r with | .ok (.ret v) => Q v s' | .ok _ => False | .error e => E e s') ⟨h, g, dr, t, os⟩ := by
  have hC := X _ _ F5.nw
  have T := tail_of_in X F5.tl
  have f1 := tc_lookup
  have f2 := tc_bind (.ref D)
  have hT : (⟨h, g, dr, t, os⟩ : Shared).TypeIs (.ref D) "type" := ⟨_, hC, rfl⟩
  refine codeAny_of_tree ?_
  show wpAny _ _ (callAny (.ref D) _) _ _ _
  repeat (any_goals (first | assumption | with_reducible refine wpAny_loadPart_at hC ?_ | wp_step))
  refine ⟨rfl, ?_⟩
  refine codeAny_call_builtin_at (Code.quiet_builtin _ (by decide +kernel)) entry_typeCall (wpAny_check_type_call_sub hC (exc_type_call X F5 hrest ?_))
  exact hq
structure InitOK (r : FnRec) : Prop where
  body : Y4 fun px pa py pos => srcSs r.body = [.Assign [.Attribute (.Name "self" px) "ball" pa] (.Name "ball" py) pos]
  params : r.params = [("self" : Str), ("ball" : Str)]
  junk : junks r = []
  self : r.scope.names.lookup ("self" : Str) = some .local
  ball : r.scope.names.lookup ("ball" : Str) = some .local
structure Facts6 (C : Cx) (G : Top') : Prop where
  exc : ∀ D, G.exc D = true → Y3 fun f B r => C3 (ExcCls2 C.K D f B) (G.fn f = some r) (InitOK r)
theorem under_tcC {C₀ : Addr} {rest : List Value} {kw : List (Str × Value)} (rm : RoomC (d + 2) l A) : RoomC 1 l (A.under (.builtin "type.__call__" ⟨.ref C₀ :: rest, kw⟩)) := by
  have h1 := rm.depth
  have h2 := rm.units
  refine ⟨?_, rm.handled, ?_, ?_⟩
  · show pushEnvs [] A.frames = _
    exact rm.frames
  · have : (Code.builtin "type.__call__" ⟨.ref C₀ :: rest, kw⟩).weight = 1 := by rfl
    show A.depth + (Code.builtin "type.__call__" ⟨.ref C₀ :: rest, kw⟩).weight + 2 * 1 ≤ 891
    rw [this]; lia
  · have : (Code.builtin "type.__call__" ⟨.ref C₀ :: rest, kw⟩).cUnits = 1 := rfl
    show A.units + (Code.builtin "type.__call__" ⟨.ref C₀ :: rest, kw⟩).cUnits + 60 * 1 ≤ 9030
    lia
theorem okE_of {v : VV} (h : okE v = some v) {x : Str} {r : VE} : lookE x ((x, v) :: r) = some v := (congrArg (fun z => Option.bind z okE) (if_pos rfl)).trans h
theorem excMk (F : Facts C G) (F3 : Facts3 C G) (F6 : Facts6 C G) : ExcMk C (d + 2) G := by
  intro D as σ l A s α vals Q E rm hD st ra K
  rcases as with _ | ⟨b, _ | ⟨_, _⟩⟩
  · exact K.dead
  · obtain ⟨bv, t, rfl, rb, rr⟩ := ra.inv
    obtain rfl := rr.inv
    obtain ⟨f, B, r, F5, hf, I⟩ := F6.exc D hD
    have XK := C.inK.keeps st.stay
    obtain ⟨hp, g, dr, tk, os⟩ := s
    refine exc_make XK F5 (by size_fits) ?_
    generalize ht : ({ cls := .type "tuple", data := .seq [bv].toArray } : Obj) = tp
    have k1 := push_keeps hp tp
    have k2 := push_keeps (hp.push tp) (excObj D hp.objs.size)
    have hsz : (hp.push tp).objs.size = hp.objs.size + 1 := Heap.size_push ..
    have hget : ((hp.push tp).push (excObj D hp.objs.size)).get? (hp.objs.size + 1) = some (excObj D hp.objs.size) := by rw [← hsz]; exact Heap.get?_push_size _ rfl
    have st1 : St C l (aext α σ.length (hp.objs.size + 1)) (σ ++ [.exc0 D]) ((hp.push tp).push (excObj D hp.objs.size)) :=
      (st.grown k1).alloc k2 (hsz ▸ fresh_size _) ⟨_, hget, rfl, rfl, _, rfl, by simp, rfl⟩
    have nx1 : Nx noX l σ.length α hp (σ.length + 1) (aext α σ.length (hp.objs.size + 1)) ((hp.push tp).push (excObj D hp.objs.size)) := (Nx.grown k1).trans (.alloc k2 (hsz ▸ fresh_size _))
    have eL : (σ ++ [VO.exc0 D]).length = σ.length + 1 := by simp
    generalize hα : aext α σ.length (hp.objs.size + 1) = α1 at st1 nx1
    have an : α1 σ.length = hp.objs.size + 1 := by rw [← hα]; exact aext_new
    have rself : RelV ((hp.push tp).push (excObj D hp.objs.size)) α1 (σ ++ [VO.exc0 D]).length (.ref σ.length) (.ref (hp.objs.size + 1)) := by
      rw [← an]; exact .ref (by rw [eL]; exact Nat.lt_succ_self _)
    have rb1 : RelV ((hp.push tp).push (excObj D hp.objs.size)) α1 (σ ++ [VO.exc0 D]).length b bv := by rw [eL]; exact rb.nx st nx1
    have eσ : (σ ++ [VO.exc0 D]).set σ.length (.inst D (σ ++ [VO.exc0 D]).length true) ++ [VO.attrs [(("ball" : Str), b)]] = σ ++ [.inst D (σ.length + 1) true, .attrs [(("ball" : Str), b)]] := by simp
    have H : ∀ r' bs, G.fn f = some r' → argsOf r' [.ref σ.length, b] = some bs → ∀ env, Ex C 0 (execs (srcSs r'.body) env) r'.scope env (r'.params.zip bs ++ junks r') (σ ++ [.exc0 D]) (.ok (.next, r'.params.zip bs ++ junks r') (σ ++ [.inst D (σ.length + 1) true, .attrs [(("ball" : Str), b)]])) := fun r' bs e e2 env => by
      obtain rfl := Option.some.inj (hf.symm.trans e)
      obtain ⟨px, pa, py, pos, hb⟩ := I.body
      have hbs : bs = [.ref σ.length, b] := by
        have : argsOf r [.ref σ.length, b] = some [.ref σ.length, b] := by unfold argsOf; rw [I.params]; rfl
        exact Option.some.inj (e2.symm.trans this)
      rw [hb, hbs, I.params, I.junk, ← eσ]
      refine init_exs F F5 px pa py pos ?_ ?_ (by simp)
      · unfold nameV
        rw [if_neg (by decide), I.self]
        rfl
      · unfold nameV
        rw [if_neg (by decide), I.ball]
        exact Eq.trans (b := lookE ("ball" : Str) [(("ball" : Str), b)]) rfl (okE_of rb.okE)
    let o : Ops := { Ops.none with exs := fun _ _ ρ _ => .ok (.next, ρ) (σ ++ [.inst D (σ.length + 1) true, .attrs [(("ball" : Str), b)]]) }
    have hres : callF G o f [.ref σ.length, b] (σ ++ [.exc0 D]) = .ok .none (σ ++ [.inst D (σ.length + 1) true, .attrs [(("ball" : Str), b)]]) := by
      show callR o _ _ (G.fn f) = _
      rw [hf]
      show runOpt o r _ (argsOf r _) = _
      unfold argsOf
      rw [I.params]
      rfl
    refine call_ok o F3 H l _ ⟨_, g, dr, tk, os⟩ α1 [.ref (hp.objs.size + 1), bv] (fun v s' => v = .none ∧ Q (.ref (hp.objs.size + 1)) s') E (under_tcC rm) st1 (.cons rself (.cons rb1 .nil))
      ⟨(fun q => nomatch hres.symm.trans q), fun a σ' α' c h' t' e st' nx' rel => ?_, (fun i cls dd σ' α' h' t' fl e => nomatch hres.symm.trans e)⟩
    injection hres.symm.trans e with e1 e2
    subst e1 e2
    rw [eL] at nx'
    refine ⟨rel.inv, K.ok (.ref σ.length) _ α' (.ref (hp.objs.size + 1)) h' t' rfl st' (nx1.trans nx') ?_⟩
    rw [← an, ← nx'.ext σ.length (Nat.lt_succ_self _)]
    exact .ref (by simp)
  · exact K.dead
end
end Mine
end
section
open PySem.Calls
namespace Mine
section
variable {prog : Program} {w : World} {A : Around} {s : Shared}
theorem codeAny_compTurn {R : Result → Shared → Prop} {elt target iter : Expr} {ifs : List Expr} {scope : Scope} {pos : Pos} {it acc : Value} {env : Env}
    (h : wpAny (model prog w) A (pyNext it) (fun r s₁ => match r with
      | none => R (.ok .next) s₁
      | some v => wpAny (model prog w) A (assign target env v) (fun _ s₂ =>
          wpAny (model prog w) A (forIn ifs true fun c r => if r = true then do let ok ← isTrue c env (eval c env); pure (ForInStep.yield ok) else pure (ForInStep.yield r)) (fun ok s₃ =>
            if ok = true then wpAny (model prog w) A (eval elt env) (fun x s₄ =>
              wpAny (model prog w) A (call (.builtin "list.append") [acc, x]) (fun _ s₅ => codeAny (model prog w) A (.compLoop (.ListComp elt [⟨target, iter, ifs, 0⟩] scope pos) 0 it acc env) R s₅) (notedBy (model prog w) A env fun e s' => R (.error e) s') s₄) (notedBy (model prog w) A env fun e s' => R (.error e) s') s₃
            else codeAny (model prog w) A (.compLoop (.ListComp elt [⟨target, iter, ifs, 0⟩] scope pos) 0 it acc env) R s₃) (notedBy (model prog w) A env fun e s' => R (.error e) s') s₂) (notedBy (model prog w) A env fun e s' => R (.error e) s') s₁) (notedBy (model prog w) A env fun e s' => R (.error e) s') s)
    (ht : ∀ v, letOwnedTupleGo target it v = pure ()) : codeAny (model prog w) A (.compLoop (.ListComp elt [⟨target, iter, ifs, 0⟩] scope pos) 0 it acc env) R s := by
  refine codeAny_loop' rfl (fun n s' => n = 0 ∧ s' = s) (fun n s' hI => ?_) 0 ⟨rfl, rfl⟩
  obtain ⟨rfl, rfl⟩ := hI
  show wpAny _ A ((compTurn (.ListComp elt [⟨target, iter, ifs, 0⟩] scope pos) 0 it acc env).onRaise (fun x => do noteFrame x env; theTreesLotGoes x)) _ _ s'
  refine wpAny_noted ?_
  rw [compTurn_list]
  refine wpAny_bind (wpAny_standAt (wpAny_bind (wpAny_mono h (fun r s₁ h₁ => ?_) fun _ _ h' => h')))
  induction r with
  | none => exact wpAny_pure h₁
  | some v =>
    refine wpAny_bind (wpAny_of_eq (ht v) ?_)
    refine wpAny_bind (wpAny_mono h₁ (fun _ s₂ h₂ => wpAny_bind (wpAny_mono h₂ (fun ok s₃ h₃ => ?_) fun _ _ h' => h')) fun _ _ h' => h')
    induction ok with
    | false => exact wpAny_pure (.inr ⟨rfl, h₃⟩)
    | true =>
      exact wpAny_bind (wpAny_bind (wpAny_mono h₃ (fun x s₄ h₄ => wpAny_bind (wpAny_mono h₄ (fun _ s₅ h₅ => wpAny_pure (wpAny_pure (.inr ⟨rfl, h₅⟩))) fun _ _ h' => h')) fun _ _ h' => h'))
end
section
variable {C : Cx} {d : Nat} {G : Top'} {cl : CallO} {o : Ops} {env : Env} {sc : Scope} {σ : VH} {ρ : VE} {l : List Env} {α : Nat → Addr} {s : Shared} {A : Around} {E : Value → Shared → Prop}
noncomputable abbrev Loc (env : Env) (b : Addr) : Prop := b = env.locals
theorem nxLoc {n n' : Nat} {α' : Nat → Addr} {h h' : Heap} (nx : Nx (Loc env) l n α h n' α' h') : Nx (Own env) l n α h n' α' h' := nx.weaken fun _ q => .inl q
theorem storeLoc_ok {x : Str} {v : VV} {val : Value} {Q : Unit → Shared → Prop} (st : St C l α σ s.heap) (er : EnvR C sc env l s.heap α σ.length ρ) (rv : RelV s.heap α σ.length v val) (hk : sc.names.lookup x = some .local)
    (h : ∀ h' t, St C l α σ h' → EnvR C sc env l h' α σ.length (assocSet x v ρ) → Nx (Loc env) l σ.length α s.heap σ.length α h' → Q () ⟨h', s.gens, s.drawn, t, s.os⟩) : wpAny C.M A (storeName env x val) Q E s := by
  have hn := er.names x
  obtain ⟨m, hm, hv⟩ := er.ns
  rw [hk] at hn
  simp only at hn
  refine wpAny_storeName_local hn hm (fun h' hm' sb => ?_) (notMod er)
  have hntr := er.ntr env.locals (.inl rfl)
  have kp := Keeps.but sb hntr
  obtain ⟨o', es', ep', e', d', _⟩ := id hm'
  refine h h' _ (st.changed sb hntr er.locNew er.locApart fun _ => ⟨o', es', ep', e', d'⟩) ?_ (.changed sb ⟨o', e'⟩ (.inr rfl))
  refine ⟨er.glob, er.blt, er.kind, er.head, er.names, ⟨_, hm', fun y w e => ?_⟩, er.locNew, er.locApart, fun y c hc => ?_, er.cinj, er.has⟩
  · rw [lookE_set] at e
    by_cases q : y = x
    · subst q
      rw [if_pos rfl] at e
      cases okE_eq e
      exact ⟨val, rv.keeps kp (Nat.le_refl _) (fun _ _ => rfl), .inl ⟨hn, by simp⟩⟩
    · rw [if_neg q] at e
      obtain ⟨w', r, z⟩ := hv y w e
      refine ⟨w', r.keeps kp (Nat.le_refl _) (fun _ _ => rfl), z.imp (fun z => ⟨z.1, by simp only [if_neg q]; exact z.2⟩) fun ⟨z1, c, oc, hc, hoc, hd⟩ => ⟨z1, c, oc, hc, ?_, hd⟩⟩
      exact (sb.2 c (er.cells y c hc).2.2.2.1).trans hoc
  · obtain ⟨a1, a2, a3, a4, oc, w, e, dd⟩ := er.cells y c hc
    exact ⟨a1, a2, a3, a4, oc, w, (sb.2 c a4).trans e, dd⟩
theorem bind_ok {β γ : Type} {r : Res β} {f : β → VH → Res γ} {b : γ} {τ : VH} (h : r.bind f = .ok b τ) {P : Prop} (k : ∀ a σ, r = .ok a σ → f a σ = .ok b τ → P) : P := by
  induction r with
  | ok a σ => exact k a σ rfl h
  | _ => exact nomatch h
theorem guard_ok {γ : Type} {c : Bool} {r : Res γ} {b : γ} {τ : VH} (h : Res.guard c r = .ok b τ) {P : Prop} (k : c = true → r = .ok b τ → P) : P := by
  induction c with
  | true => exact k rfl h
  | false => exact nomatch h
theorem opt_ok {β γ : Type} {f : Option β → Res γ} {o : Option β} {b : γ} {τ : VH} (h : f o = .ok b τ) (h0 : f none = .stuck) {P : Prop} (k : ∀ a, o = some a → f (some a) = .ok b τ → P) : P := by
  induction o with
  | some a => exact k a rfl h
  | none => exact nomatch h0.symm.trans h
noncomputable def CompsOK (C : Cx) (d : Nat) (comp : Scope → XE → Str → It → List XE → Nat → VE → VH → Res Unit) : Prop := ∀ (csc : Scope) (elt : XE) (x : Str) (px : Pos) (iter : Expr) (i : It) (ifs : List XE) (D : Nat) (env : Env) (ρ : VE) (σ σ' : VH) (l : List Env) (A : Around) (s : Shared) (α : Nat → Addr) (it : Value) (a : Addr) (lo : Shared) (n₀ : Nat) (α₀ : Nat → Addr) (scope : Scope) (pos : Pos) (R : Result → Shared → Prop),
    Room d l A → St C l α σ s.heap → EnvR C csc env l s.heap α σ.length ρ → csc.names.lookup x = some .local → (∀ b, lo.heap.get? b = none → C.H.get? b = none) →
    lo.gens = s.gens → lo.drawn = s.drawn → lo.os = s.os → ItR C lo.heap s.heap α σ.length i it → D < σ.length → α D = a → Nx (Loc env) l n₀ α₀ lo.heap σ.length α s.heap → comp csc elt x i ifs D ρ σ = .ok () σ' →
    (∀ ρ' α' h' t', St C l α' σ' h' → EnvR C csc env l h' α' σ'.length ρ' → Nx (Loc env) l n₀ α₀ lo.heap σ'.length α' h' → α' D = a → D < σ'.length → R (.ok .next) ⟨h', lo.gens, lo.drawn, t', lo.os⟩) →
    codeAny C.M A (.compLoop (.ListComp (src elt) [⟨.Name x px, iter, srcs ifs, 0⟩] scope pos) 0 it (.ref a) env) R s
theorem compGo_ok (H : OpsOK C d o) (HC : CompsOK C d o.comp) {csc : Scope} {elt : XE} {x : Str} {px : Pos} {iter : Expr} {i' : It} {ifs : List XE} {D : Nat} {σ' : VH} {it : Value} {lo : Shared} {n₀ : Nat} {α₀ : Nat → Addr} {scope : Scope} {pos : Pos} {R : Result → Shared → Prop} (rm : Room d l A) (st : St C l α σ s.heap) (er : EnvR C csc env l s.heap α σ.length ρ) (hx : csc.names.lookup x = some .local)
    (hC : ∀ b, lo.heap.get? b = none → C.H.get? b = none) (hg : lo.gens = s.gens) (hdr : lo.drawn = s.drawn) (hos : lo.os = s.os) (ir : ItR C lo.heap s.heap α σ.length i' it) (hD : D < σ.length) (nx : Nx (Loc env) l n₀ α₀ lo.heap σ.length α s.heap) {b : Bool} (K : compGo o csc elt x i' ifs D ρ b σ = .ok () σ')
    (k : ∀ ρ' α' h' t', St C l α' σ' h' → EnvR C csc env l h' α' σ'.length ρ' → Nx (Loc env) l n₀ α₀ lo.heap σ'.length α' h' → α' D = α D → D < σ'.length → R (.ok .next) ⟨h', lo.gens, lo.drawn, t', lo.os⟩) :
    if b = true then wpAny C.M A (eval (src elt) env) (fun x' s₄ =>
              wpAny C.M A (call (.builtin "list.append") [.ref (α D), x']) (fun _ s₅ => codeAny C.M A (.compLoop (.ListComp (src elt) [⟨.Name x px, iter, srcs ifs, 0⟩] scope pos) 0 it (.ref (α D)) env) R s₅) (notedBy C.M A env fun e s' => R (.error e) s') s₄) (notedBy C.M A env fun e s' => R (.error e) s') s
            else codeAny C.M A (.compLoop (.ListComp (src elt) [⟨.Name x px, iter, srcs ifs, 0⟩] scope pos) 0 it (.ref (α D)) env) R s := by
  induction b with
  | false => exact HC csc elt x px iter i' ifs D env ρ σ σ' l A s α it _ lo n₀ α₀ scope pos R rm st er hx hC hg hdr hos ir hD rfl nx K k
  | true =>
    refine bind_ok K fun w σ₄ e₄ K => opt_ok (f := compXs o csc elt x i' ifs D ρ w σ₄) K rfl fun xs e K => guard_ok K fun hok K => ?_
    refine (H.ev csc elt env ρ σ).okay rm st er e₄ fun α₄ vw h₄ t₄ st4 nx4 rw' => ?_
    have hD4 : D < σ₄.length := Nat.lt_of_lt_of_le hD nx4.le
    have er4 := er.nx st nx4
    have ir4 := ir.after st er hC (nx4.weaken fun _ q => q.elim)
    have ha := nx4.ext D hD
    obtain ⟨vs, c, hv, rr⟩ := st4.objs D _ (listO_of e)
    rw [← ha] at k ⊢
    refine append_at (s := ⟨h₄, s.gens, s.drawn, t₄, s.os⟩) hv (fun h₅ sb e5 => ?_) (by rw [← Array.length_toList, rr.length]; exact okLen_le hok)
    have ro : ObjRel C h₅ α₄ σ₄.length (α₄ D) (.list (xs ++ [w])) := ⟨_, _, e5, by
      rw [Array.toList_push]
      exact RelVs.keeps (Keeps.but sb (st4.at hD4).2) (Nat.le_refl _) (fun _ _ => rfl) (rr.append (.cons rw' .nil))⟩
    obtain ⟨st5, el, nx5⟩ := updOK (s := ⟨h₄, s.gens, s.drawn, t₄, s.os⟩) st4 ⟨D, _, hD4, rfl, sb, ro⟩
    have nx6 : Nx (Loc env) l n₀ α₀ lo.heap (σ₄.set D (.list (xs ++ [w]))).length α₄ h₅ := by rw [el]; exact (nx.trans (nx4.weaken fun _ q => q.elim)).trans (nx5 _)
    exact HC csc elt x px iter i' ifs D env ρ _ σ' l A ⟨h₅, s.gens, s.drawn, t₄, s.os⟩ α₄ it _ lo n₀ α₀ scope pos R rm st5 (by rw [el]; exact er4.nx st4 (nx5 _)) hx hC hg hdr hos (by rw [el]; exact ir4.after st4 er4 hC (nx5 _)) (by rw [el]; exact hD4) rfl nx6 K k
theorem comp_ok (H : OpsOK C d o) (HC : CompsOK C d o.comp) : CompsOK C d (compF o) := by
  intro csc elt x px iter i ifs D env ρ σ σ' l A s α it a lo n₀ α₀ scope pos R rm st er hx hC hg hdr hos ir hD ha nx K k
  subst ha
  refine codeAny_compTurn ?_ fun _ => rfl
  refine next_ok (X := Loc env) (lo := lo.heap) (n₀ := n₀) (α₀ := α₀) rm.handled st er hC nx ir (fun q => nomatch (congrArg (fun c => compBy o csc elt x ifs D ρ c σ) q).symm.trans K) (fun h' t e st1 er1 nx1 => ?_) fun v i' h' t val e st1 er1 nx1 rv ir1 => ?_
  · injection (congrArg (fun c => compBy o csc elt x ifs D ρ c σ) e).symm.trans K with _ e2
    subst e2
    rw [← hg, ← hdr, ← hos]
    exact k ρ α h' t st1 er1 nx1 rfl hD
  refine bind_ok ((congrArg (fun c => compBy o csc elt x ifs D ρ c σ) e).symm.trans K) fun b σ₃ e₃ K => ?_
  refine wpAny_assign_Name (storeLoc_ok (s := ⟨h', s.gens, s.drawn, t, s.os⟩) st1 er1 rv hx fun h2 t2 st2 er2 nx2 => ?_)
  have nx02 := nx1.trans nx2
  have ir2 := ir1.after st1 er1 hC (nxLoc nx2)
  have fin : ∀ α₃ h₃ t₃, St C l α₃ σ₃ h₃ → Nx noX l σ.length α h2 σ₃.length α₃ h₃ → _ := fun α₃ h₃ t₃ st3 nx3 =>
    compGo_ok (s := ⟨h₃, s.gens, s.drawn, t₃, s.os⟩) (A := A) (px := px) (iter := iter) (scope := scope) (pos := pos) (R := R) H HC rm st3 (er2.nx st2 nx3) hx hC hg hdr hos (ir2.after st2 er2 hC (nx3.weaken fun _ q => q.elim)) (Nat.lt_of_lt_of_le hD nx3.le) (nx02.trans (nx3.weaken fun _ q => q.elim)) K (by rw [nx3.ext D hD]; exact k)
  rcases ifs with _ | ⟨c, _ | ⟨_, _⟩⟩
  · injection e₃ with e4 e5
    subst e4 e5
    exact wpAny_tests_nil (fin α h2 t2 st2 .refl)
  · refine wpAny_tests_one ((H.cd csc c env (assocSet x v ρ) σ).okay (s := ⟨h2, s.gens, s.drawn, t2, s.os⟩) rm st2 er2 e₃ fun α₃ b' h₃ t₃ st3 nx3 rel => ?_)
    subst rel
    have := fin α₃ h₃ t₃ st3 nx3
    rw [nx3.ext D hD] at this
    exact this
  · exact nomatch e₃
end
end Mine
end
section
open PySem.Calls
namespace Mine
theorem closure_loop {env : Env} (names : List (Str × NameKind)) : ∀ (cs0 : List (Str × Addr)), (∀ p ∈ names, p.2 = .free → ∃ c, env.cells.lookup p.1 = some c) →
    ∃ cl, C3 ((forIn names cs0 fun (x : Str × NameKind) (r : List (Str × Addr)) => (if (x.2 == NameKind.free) = true then do let c ← cellOf env x.1; pure (ForInStep.yield ((x.1, c) :: r)) else pure (ForInStep.yield r) : Sem (ForInStep (List (Str × Addr))))) = pure cl) (∀ y c, cl.lookup y = some c → cs0.lookup y = some c ∨ env.cells.lookup y = some c) (∀ y, ((y, NameKind.free) ∈ names ∨ (cs0.lookup y).isSome) → (cl.lookup y).isSome) := by
  induction names with
  | nil => exact fun cs0 _ => ⟨cs0, rfl, fun _ _ h => .inl h, fun y h => h.elim (fun q => (List.not_mem_nil q).elim) id⟩
  | cons p r ih =>
    intro cs0 h
    obtain ⟨n, k⟩ := p
    have lk (c : Addr) (y : Str) : List.lookup y ((n, c) :: cs0) = bif y == n then some c else List.lookup y cs0 := by
      rw [List.lookup_cons]; cases y == n <;> rfl
    by_cases hk : k = .free
    · obtain ⟨c, hc⟩ := h _ (.head _) hk
      obtain ⟨cl, e, h1, h2⟩ := ih ((n, c) :: cs0) fun p hp => h p (.tail _ hp)
      refine ⟨cl, ?_, fun y c' q => ?_, fun y q => h2 y ?_⟩
      · rw [List.forIn_cons, if_pos (by rw [hk]; rfl)]
        have : cellOf env n = pure c := by unfold cellOf; rw [hc]
        rw [this]
        exact e
      · rcases h1 y c' q with z | z
        · rw [lk] at z
          cases hq : y == n with
          | true => rw [hq] at z; obtain rfl := Option.some.inj z; rw [eq_of_beq hq]; exact .inr hc
          | false => rw [hq] at z; exact .inl z
        · exact .inr z
      · rw [lk]
        rcases q with q | q
        · rcases List.mem_cons.mp q with q | q
          · injection q with q _
            rw [q, beq_self_eq_true]; exact .inr rfl
          · exact .inl q
        · cases y == n with
          | true => exact .inr rfl
          | false => exact .inr q
    · obtain ⟨cl, e, h1, h2⟩ := ih cs0 fun p hp => h p (.tail _ hp)
      have hb : (k == NameKind.free) = false := by simpa using hk
      refine ⟨cl, ?_, h1, fun y q => h2 y ?_⟩
      · rw [List.forIn_cons, if_neg (by rw [hb]; decide)]
        exact e
      · rcases q with q | q
        · rcases List.mem_cons.mp q with q | q
          · injection q with _ q
            exact (hk q.symm).elim
          · exact .inl q
        · exact .inr q
theorem closure_ok {env : Env} {scope : Scope} (h : ∀ p ∈ scope.names, p.2 = .free → ∃ c, env.cells.lookup p.1 = some c) :
    ∃ cl, C3 (closureFor scope env = pure cl) (∀ y c, cl.lookup y = some c → env.cells.lookup y = some c) (∀ y, (y, NameKind.free) ∈ scope.names → (cl.lookup y).isSome) := by
  obtain ⟨cl, e, h1, h2⟩ := closure_loop scope.names [] h
  refine ⟨cl, ?_, fun y c q => (h1 y c q).elim (fun z => nomatch z) id, fun y q => h2 y (.inl q)⟩
  unfold closureFor
  simp only [bind_pure]
  exact e
theorem lookup_map2 {f : Str → NameKind → NameKind} : ∀ (l : List (Str × NameKind)) (x : Str), (l.map fun p => (p.1, f p.1 p.2)).lookup x = (l.lookup x).map (f x)
  | [], _ => rfl
  | (n, k) :: r, x => by
    rw [List.map_cons, List.lookup_cons, List.lookup_cons]
    dsimp only
    cases q : x == n with
    | true => rw [eq_of_beq q]; rfl
    | false => exact lookup_map2 r x
theorem relabel_lookup (csc : Scope) (env : Env) (x : Str) : (relabel csc env).names.lookup x = (csc.names.lookup x).map fun k => if (k == .free && env.scope.kind == .function && env.kindOf x == some .cell) then .cell else k := by
  rw [← lookup_map2 (f := fun x k => if (k == .free && env.scope.kind == .function && env.kindOf x == some .cell) then .cell else k)]
  unfold relabel
  dsimp only
  congr 1
  apply List.map_congr_left
  rintro ⟨n, k⟩ _
  dsimp only
  split <;> rfl
structure CsOK (sc csc : Scope) (x : Str) (ρ : VE) : Prop where
  kind : csc.kind = .function
  var : csc.names.lookup x = some .local
  noCell : ∀ p ∈ csc.names, p.2 ≠ .cell
  loc : ∀ p ∈ csc.names, p.2 = .local → csc.names.lookup p.1 = some .local
  free : ∀ p ∈ csc.names, p.2 = .free → (sc.names.lookup p.1 = some .cell ∨ sc.names.lookup p.1 = some .free) ∧ (lookE p.1 ρ).isSome = true
theorem csOK_of {sc csc : Scope} {x : Str} {ρ : VE} (h : csOK sc csc x ρ = true) : CsOK sc csc x ρ := by
  unfold csOK at h
  simp only [Bool.and_eq_true, beq_iff_eq, List.all_eq_true] at h
  obtain ⟨⟨h1, h2⟩, h3⟩ := h
  refine ⟨h1, h2, fun p hp q => ?_, fun p hp q => ?_, fun p hp q => ?_⟩
  · have := (h3 p hp).1.1
    rw [q] at this
    exact absurd this (by decide)
  · have := (h3 p hp).1.2
    simp only [q, Bool.or_eq_true, beq_iff_eq] at this
    exact this.resolve_left (by decide)
  · have := (h3 p hp).2
    simp only [q, Bool.or_eq_true, Bool.and_eq_true, beq_iff_eq] at this
    have := this.resolve_left (by decide)
    exact ⟨this.1.1, this.1.2⟩
theorem assocGet_filter {p : Str × VV → Bool} : ∀ {ρ : VE} {x : Str} {v : VV}, (∀ a b, p (x, a) = p (x, b)) → assocGet x (ρ.filter p) = some v → assocGet x ρ = some v ∧ p (x, v) = true
  | [], _, _, _, h => nomatch h
  | (y, u) :: r, x, v, hp, h => by
    rw [List.filter_cons] at h
    by_cases q : y = x
    · subst q
      split at h
      · rename_i hq
        simp only [assocGet, if_true] at h ⊢
        obtain rfl := Option.some.inj h
        exact ⟨rfl, hq⟩
      · rename_i hq
        have := (assocGet_filter hp h).2
        rw [hp v u] at this
        exact (hq this).elim
    · split at h
      · simp only [assocGet, if_neg q] at h ⊢
        exact assocGet_filter hp h
      · simp only [assocGet, if_neg q]
        exact assocGet_filter hp h
theorem lookE_filter {p : Str × VV → Bool} {ρ : VE} {x : Str} {v : VV} (hp : ∀ a b, p (x, a) = p (x, b)) (e : lookE x (ρ.filter p) = some v) : lookE x ρ = some v ∧ p (x, v) = true := by
  obtain ⟨e1, e2⟩ := lookE_get e
  obtain ⟨h1, h2⟩ := assocGet_filter hp e1
  exact ⟨lookE_of h1 e2, h2⟩
section
variable {C : Cx} {d : Nat} {G : Top'} {cl : CallO} {o : Ops} {env : Env} {sc csc : Scope} {σ : VH} {ρ : VE} {l : List Env} {α : Nat → Addr} {s : Shared} {A : Around} {E : Value → Shared → Prop}
theorem outerCell {h : Heap} {n : Nat} (er : EnvR C sc env l h α n ρ) {x : Str} (hk : sc.names.lookup x = some .cell ∨ sc.names.lookup x = some .free) : env.kindOf x = some .cell := by
  have := er.names x
  rcases hk with q | q <;> rw [q] at this <;> exact this
theorem cellThere {h : Heap} {n : Nat} {x : Str} (er : EnvR C sc env l h α n ρ) (K : CsOK sc csc x ρ) : ∀ p ∈ csc.names, p.2 = .free → ∃ c, env.cells.lookup p.1 = some c := by
  intro p hp q
  obtain ⟨h1, h2⟩ := K.free p hp q
  have hc := outerCell er h1
  cases e : lookE p.1 ρ with
  | none => rw [e] at h2; exact ft h2
  | some v =>
    obtain ⟨m, _, hv⟩ := er.ns
    obtain ⟨val, _, z | ⟨_, c, _, hc', _⟩⟩ := hv _ v e
    · rw [hc] at z; cases z.1
    · exact ⟨c, hc'⟩
theorem cenv_ok {h h' : Heap} {x : Str} {L : Addr} {clo : List (Str × Addr)} (st : St C l α σ h) (er : EnvR C sc env l h α σ.length ρ) (K : CsOK sc csc x ρ) (hcl : ∀ y c, clo.lookup y = some c → env.cells.lookup y = some c) (hcf : ∀ y, (y, NameKind.free) ∈ csc.names → (clo.lookup y).isSome = true)
    (hL : h.get? L = none) (hns : h'.Ns L fun _ => none) (k : ∀ b o, h.get? b = some o → h'.get? b = some o) : EnvR C csc (compEnvC csc clo L env) l h' α σ.length (compEnv csc ρ) := by
  have ek : ∀ y, (compEnvC csc clo L env).kindOf y = (csc.names.lookup y).map fun k => if (k == .free && env.scope.kind == .function && env.kindOf y == some .cell) then .cell else k := fun y => by
    unfold Env.kindOf
    exact relabel_lookup csc env y
  have efree : ∀ y, csc.names.lookup y = some .free → (compEnvC csc clo L env).kindOf y = some .cell := fun y hy => by
    rw [ek, hy, Option.map_some, if_pos]
    have := outerCell er (K.free _ (lookup_mem hy) rfl).1
    rw [er.kind, this]
    rfl
  refine ⟨er.glob, er.blt, by show (relabel csc env).kind = _; exact K.kind, er.head, fun y => ?_, ⟨_, hns, fun y v e => ?_⟩, ?_, fun i hi q => ?_, fun y c hc => ?_, fun y z c h1 h2 => er.cinj y z c (hcl _ _ h1) (hcl _ _ h2), fun y hy => (K.noCell _ (lookup_mem hy) rfl).elim⟩
  · split
    · rename_i q; rw [ek, q]; rfl
    · rename_i q; rw [ek, q]; rfl
    · rename_i q; exact (K.noCell _ (lookup_mem q) rfl).elim
    · rename_i q; exact efree y q
    · trivial
  · obtain ⟨h1, h2⟩ := lookE_filter (fun _ _ => rfl) e
    have hf : csc.names.lookup y = some .free := by simpa using h2
    obtain ⟨m, _, hv⟩ := er.ns
    obtain ⟨val, rv, z⟩ := hv y v h1
    have hc := outerCell er (K.free _ (lookup_mem hf) rfl).1
    refine ⟨val, rv.keeps (Keeps.of k) (Nat.le_refl _) (fun _ _ => rfl), .inr ?_⟩
    rcases z with z | ⟨_, c, oc, hc', ho, hd⟩
    · rw [hc] at z; cases z.1
    · have := hcf y (lookup_mem hf)
      cases q : clo.lookup y with
      | none => rw [q] at this; exact ft this
      | some c' =>
        have := hcl y c' q
        rw [hc'] at this; obtain rfl := Option.some.inj this
        exact ⟨efree y hf, c, oc, q, k _ _ ho, hd⟩
  · show C.H.get? L = none
    cases q : C.H.get? L with
    | none => rfl
    | some o => have := st.stay _ _ q; rw [hL] at this; exact nn this
  · obtain ⟨_, e⟩ := (st.at hi).1
    have q : α i = L := q
    rw [q, hL] at e; exact nn e
  · obtain ⟨a1, a2, a3, a4, oc, w, e, dd⟩ := er.cells y c (hcl _ _ hc)
    refine ⟨a1, a2, a3, fun q => ?_, oc, w, k _ _ e, dd⟩
    have q : c = L := q
    rw [q, hL] at e; exact nn e
end
end Mine
end
section
open PySem.Calls
namespace Mine
section
variable {C : Cx} {d : Nat} {G : Top'} {cl : CallO} {o : Ops} {env : Env} {sc csc : Scope} {σ : VH} {ρ : VE} {l : List Env} {α : Nat → Addr} {s : Shared} {A : Around} {E : Value → Shared → Prop}
theorem iterSelf_ok {lo : Heap} {n : Nat} {it : It} {v : Value} {Q : Value → Shared → Prop} (ir : ItR C lo s.heap α n it v) (h : Q v s) : wpAny C.M A (pyIter v) Q E s := by
  obtain ⟨a, rfl, _, _, hi⟩ := ir
  induction it with
  | lst i k => exact wpAny_pyIter_listiter hi.2 h
  | tup xs => obtain ⟨t, items, k, _, hi, _⟩ := hi; exact wpAny_pyIter_tupleiter hi h
  | rng x b c => exact wpAny_pyIter_rangeiter hi.2 h
  | keys i k => exact hi.elim
theorem nx_fresh {X : Addr → Prop} {n n' : Nat} {α' : Nat → Addr} {h h' h'' : Heap} {L : Addr} (nx : Nx X l n α h n' α' h') (hL : h.get? L = none) (sb : Heap.SameBut L h' h'') : Nx X l n α h n' α' h'' := by
  have ne : ∀ b o, h.get? b = some o → b ≠ L := fun b o e q => by rw [q, hL] at e; exact nn e
  refine ⟨nx.le, nx.ext, fun b e => ?_, nx.fresh, fun b o e h1 h2 h3 => (sb.2 b (ne b o e)).trans (nx.keep b o e h1 h2 h3), fun b o e h1 h2 h3 => ?_⟩
  · by_cases q : b = L
    · rw [q]; exact hL
    · exact nx.alive b ((sb.2 b q).symm.trans e)
  · obtain ⟨sl, e1⟩ := nx.slots b o e h1 h2 h3
    exact ⟨sl, (sb.2 b (ne b o e)).trans e1⟩
theorem nx_back {n n' : Nat} {α' : Nat → Addr} {h h₁ h' : Heap} {env' : Env} (k : ∀ b o, h.get? b = some o → h₁.get? b = some o) (hL : h.get? env'.locals = none) (nx : Nx (Loc env') l n α h₁ n' α' h') : Nx noX l n α h n' α' h' := by
  have ne : ∀ b o, h.get? b = some o → ¬ Loc env' b := fun b o e q => by rw [show b = env'.locals from q, hL] at e; exact nn e
  exact ⟨nx.le, nx.ext, fun b e => alive_of k b (nx.alive b e), fun i h1 h2 => alive_of k _ (nx.fresh i h1 h2), fun b o e h1 _ h3 => nx.keep b o (k b o e) h1 (ne b o e) h3, fun b o e h1 _ h3 => nx.slots b o (k b o e) h1 (ne b o e) h3⟩
structure Ran (C : Cx) (l : List Env) (n : Nat) (α : Nat → Addr) (h : Heap) (σ' : VH) (α' : Nat → Addr) (h' : Heap) (L : Addr) : Prop where
  st : St C l α' σ' h'
  nx : Nx noX l n α h σ'.length α' h'
  new : h.get? L = none
  ns : ∃ m, h'.Ns L m
  locNew : C.H.get? L = none
  apart : ∀ i, i < σ'.length → α' i ≠ L
  fr : L ∉ frs l
theorem Ran.after {n : Nat} {h h' h'' : Heap} {σ' : VH} {α' : Nat → Addr} {L : Addr} (R : Ran C l n α h σ' α' h' L) (sb : Heap.SameBut L h' h'') : St C l α' σ' h'' ∧ Nx noX l n α h σ'.length α' h'' ∧ Keeps h' h'' := by
  obtain ⟨m, o, es, ep, e, d, _⟩ := R.ns
  have hn : NTR h' L := ntr_of e (.inr fun _ _ q => nomatch d.symm.trans q) (.inr fun _ q => nomatch d.symm.trans q)
  exact ⟨R.st.changed sb hn R.locNew R.apart fun q => (R.fr q).elim, nx_fresh R.nx R.new sb, Keeps.but sb hn⟩
theorem comp_core (HC : CompsOK C d o.comp) {elt : XE} {iter : Expr} {x : Str} {px pos : Pos} {ifs : List XE} {clo : List (Str × Addr)} {v : VV} {xv : Value} {i : It} {σ' : VH} {RR : Value → Addr → Result → Shared → Prop} (rm : Room d l A) (st : St C l α σ s.heap) (er : EnvR C sc env l s.heap α σ.length ρ)
    (K : CsOK sc csc x ρ) (hcl : ∀ y c, clo.lookup y = some c → env.cells.lookup y = some c) (hcf : ∀ y, (y, NameKind.free) ∈ csc.names → (clo.lookup y).isSome = true) (rv : RelV s.heap α σ.length v xv) (ei : (itOf σ v).bind notKeys = some i)
    (hc : o.comp csc elt x i ifs σ.length (compEnv csc ρ) (σ ++ [.list []]) = .ok () σ')
    (hR : ∀ α' h' t' L, σ.length < σ'.length → Ran C l σ.length α s.heap σ' α' h' L → RR (.ref (α' σ.length)) L (.ok .next) ⟨h', s.gens, s.drawn, t', s.os⟩) :
    wpAny C.M A (pyIter xv) (fun it s₂ => wpAny C.M A (newList []) (fun acc s₃ => wpAny C.M A (newFunctionEnv csc env.globals clo [] env.qual none .none (some env)) (fun cenv s₄ =>
      codeAny C.M A (.compStart (.ListComp (src elt) [⟨.Name x px, iter, srcs ifs, 0⟩] csc pos) 0 it acc { cenv with scope := relabel csc env }) (RR acc cenv.locals) s₄) E s₃) E s₂) E s := by
  obtain ⟨hp, g, dr, tk, os⟩ := s
  refine iter_ok (s := ⟨hp, g, dr, tk, os⟩) st rv ei fun o1 ir => ?_
  have k1 := push_keeps hp o1
  have st1 := st.grown k1
  refine wpAny_newObj_type ?_
  have k2 := push_keeps (hp.push o1) { cls := .type "list", dict := none, data := .seq ([] : List Value).toArray }
  generalize hh2 : (hp.push o1).push { cls := .type "list", dict := none, data := .seq ([] : List Value).toArray } = h2 at k2
  have hget : h2.get? (hp.push o1).objs.size = some (W.listOf #[] 0) := by rw [← hh2]; exact Heap.get?_push_size _ rfl
  have st2 : St C l (aext α σ.length (hp.push o1).objs.size) (σ ++ [.list []]) h2 := st1.alloc k2 (fresh_size _) ⟨#[], 0, hget, .nil⟩
  have nx2 : Nx noX l σ.length α (hp.push o1) (σ.length + 1) (aext α σ.length (hp.push o1).objs.size) h2 := .alloc k2 (fresh_size _)
  have eL : (σ ++ [VO.list []]).length = σ.length + 1 := by simp
  generalize hα : aext α σ.length (hp.push o1).objs.size = α1 at st2 nx2
  have an : α1 σ.length = (hp.push o1).objs.size := by rw [← hα]; exact aext_new
  refine wpAny_newFunctionEnv K.noCell (by intro y hy; simp at hy) (fun h₁ hns₁ hsb₁ => ?_) K.kind
  dsimp only at hns₁ hsb₁ ⊢
  generalize hLL : h2.objs.size = L at hns₁ hsb₁
  have hL2 : h2.get? L = none := hLL ▸ fresh_size _
  have k3 : ∀ b o, h2.get? b = some o → h₁.get? b = some o := fun b o e => (hsb₁.2 b fun q => by rw [q, hL2] at e; exact nn e).trans (push_keeps _ _ b o e)
  have hL : hp.get? L = none := alive_of (fun b o e => k2 b o (k1 b o e)) L hL2
  have st3 := st2.grown k3
  have er1 := er.nx st (.grown k1)
  have er2 : EnvR C sc env l h2 α1 (σ ++ [VO.list []]).length ρ := by rw [eL]; exact er1.nx st1 nx2
  have er3 := cenv_ok st2 er2 K hcl hcf hL2 hns₁ k3
  have nx3 : Nx noX l σ.length α (hp.push o1) (σ.length + 1) α1 h₁ := nx2.trans (.grown k3)
  have nx03 : Nx noX l σ.length α hp (σ.length + 1) α1 h₁ := (Nx.grown k1).trans nx3
  have ir3 : ItR C hp h₁ α1 (σ ++ [VO.list []]).length i (.ref hp.objs.size) := by
    rw [eL]
    exact ir.after st1 er1 (alive_of st.stay) (nx3.weaken fun _ q => q.elim : Nx (Own env) _ _ _ _ _ _ _)
  have loop : ∀ t', codeAny C.M A (.compLoop (.ListComp (src elt) [⟨.Name x px, iter, srcs ifs, 0⟩] csc pos) 0 (.ref hp.objs.size) (.ref (hp.push o1).objs.size) (compEnvC csc clo L env)) (RR (.ref (hp.push o1).objs.size) L) ⟨h₁, g, dr, t', os⟩ := by
    intro t'
    refine HC csc elt x px iter i ifs σ.length (compEnvC csc clo L env) (compEnv csc ρ) (σ ++ [.list []]) σ' l A ⟨h₁, g, dr, t', os⟩ α1 _ _ ⟨hp, g, dr, tk, os⟩ σ.length α csc pos _ rm st3 er3 K.var (alive_of st.stay) rfl rfl rfl ir3 (by rw [eL]; exact Nat.lt_succ_self _) an (by rw [eL]; exact nx03.weaken fun _ q => q.elim) hc fun ρ' α' h' t'' st' er' nx' ha' hD' => ?_
    rw [← ha']
    refine hR α' h' t'' L hD' ⟨st', nx_back (fun _ _ e => e) hL nx', hL, ?_, er'.locNew, er'.locApart, fun q => ?_⟩
    · obtain ⟨m, hm, _⟩ := er'.ns; exact ⟨m, hm⟩
    · obtain ⟨_, ⟨o, es, ep, e, _⟩, _⟩ := st.fr q
      rw [hL] at e; exact nn e
  exact codeAny_compStart_list (loop _) (iterSelf_ok ir3 (loop _))
end
end Mine
end
section
open PySem.Calls
namespace Mine
section
variable {C : Cx} {d : Nat} {G : Top'} {cl : CallO} {o : Ops} {env : Env} {sc csc : Scope} {σ : VH} {ρ : VE} {l : List Env} {α : Nat → Addr} {s : Shared} {A : Around} {E : Value → Shared → Prop}
theorem Cont.compIt {β γ : Type} {Rel : List Env → Heap → (Nat → Addr) → Nat → β → γ → Prop} {X : Addr → Prop} {FL : Option Value → Prop} {Q : γ → Shared → Prop} {n : Nat} {elt : XE} {x : Str} {ifs : List XE} {i : Option It} {f : VV → VH → Res β} (K : Cont C X FL l Rel ((compIt o elt x ifs csc ρ i σ).bind f) n α s Q E) {P : Prop}
    (k : ∀ i' τ, i = Option.some i' → o.comp csc elt x i' ifs σ.length (compEnv csc ρ) (σ ++ [.list []]) = .ok () τ → Cont C X FL l Rel (f (.ref σ.length) τ) n α s Q E → P) : P := by
  induction i with
  | none => exact K.dead
  | some i =>
    cases e : o.comp csc elt x i ifs σ.length (compEnv csc ρ) (σ ++ [.list []]) with
    | ok u τ => exact k i τ rfl e (K.eq (congrArg (fun r => Res.bind (compEnd σ.length r) f) e))
    | exc i' τ => exact (K.ns (congrArg (fun r => Res.bind (compEnd σ.length r) f) e)).elim
    | stuck => exact (K.ns (congrArg (fun r => Res.bind (compEnd σ.length r) f) e)).elim
theorem bind_self {β : Type} (r : Res β) : (r.bind fun a σ => .ok a σ) = r := by induction r <;> rfl
theorem ev_ListComp (H : OpsOK C d o) (HC : CompsOK C d o.comp) (elt x px it ifs csc pos) : Ev C d (eval (.ListComp (src elt) [⟨.Name x px, src it, srcs ifs, 0⟩] csc pos) env) sc env ρ σ (compL' o sc elt x it ifs csc ρ σ) := by
  intro ls A s α Q E rm st er K
  refine Cont.guard K fun hc K => ?_
  have Kc := csOK_of hc
  obtain ⟨clo, hclo, hcl, hcf⟩ := closure_ok (cellThere er Kc)
  rw [eval_ListComp]
  refine wpAny_comprehension_free (use := none) rfl (notSet it env) hclo Kc.kind Kc.loc ?_
  refine (H.ev sc it env ρ σ).use rm st er K fun v σ₁ α₁ val h₁ t₁ e₁ st₁ er₁ nx₁ rv K₁ => (K₁.eq (bind_self _).symm).compIt fun i τ' ei hcomp K2 => ?_
  refine comp_core (RR := fun acc L => compPost C.M A E none Q acc L) (s := ⟨h₁, s.gens, s.drawn, t₁, s.os⟩) HC rm st₁ er₁ Kc hcl hcf rv ei hcomp fun α' h' t' L hlt R => ?_
  obtain ⟨m, hm⟩ := R.ns
  refine ⟨m, hm, fun h'' sb => ?_⟩
  obtain ⟨st'', nx'', kp⟩ := R.after sb
  exact K2.ok (.ref σ₁.length) τ' α' (.ref _) h'' t' rfl st'' nx'' (.ref hlt)
end
end Mine
end
section
open PySem.Calls
namespace Mine
section
variable {C : Cx} {d : Nat} {G : Top'} {cl : CallO} {o : Ops} {env : Env} {sc csc : Scope} {σ : VH} {ρ : VE} {l : List Env} {α : Nat → Addr} {s : Shared} {A : Around} {E : Value → Shared → Prop}
theorem swap_of {y : Str} {py q : Pos} (hs : swapTo sc csc y py q = true) : sc.names.lookup y = some .local ∧ py.line = q.line ∧ (csc.names.any fun p => p.1 == y && (p.2 == .local || p.2 == .cell)) = false := by
  unfold swapTo at hs
  simp only [Bool.and_eq_true, beq_iff_eq, Bool.not_eq_true'] at hs
  exact ⟨hs.1.1, hs.1.2, hs.2⟩
theorem swapsL_ok {y : Str} {py spos q : Pos} {e : Expr} {gs : List Comprehension} {h : Heap} {n : Nat} (er : EnvR C sc env l h α n ρ) (hs : swapTo sc csc y py q = true) : swapsWith (.ListComp e gs csc q) (some (.Name y py)) spos.line env = pure true := by
  obtain ⟨h2, h3, h4⟩ := swap_of hs
  have hk : env.kindOf y = some .local := by have := er.names y; rw [h2] at this; exact this
  have hb : (env.blockKind == .function) = true := by unfold Env.blockKind; rw [er.kind]; rfl
  unfold swapsWith
  simp only [hb, hk, h3, h4, beq_self_eq_true, Bool.and_true, Bool.not_false, pure_bind, Bool.true_and]
  exact congrArg pure (beq_self_eq_true q.line)
theorem swapsD_ok {y : Str} {py spos q : Pos} {e w : Expr} {gs : List Comprehension} {h : Heap} {n : Nat} (er : EnvR C sc env l h α n ρ) (hs : swapTo sc csc y py q = true) : swapsWith (.DictComp e w gs csc q) (some (.Name y py)) spos.line env = pure true := by
  obtain ⟨h2, h3, h4⟩ := swap_of hs
  have hk : env.kindOf y = some .local := by have := er.names y; rw [h2] at this; exact this
  have hb : (env.blockKind == .function) = true := by unfold Env.blockKind; rw [er.kind]; rfl
  unfold swapsWith
  simp only [hb, hk, h3, h4, beq_self_eq_true, Bool.and_true, Bool.not_false, pure_bind, Bool.true_and]
  exact congrArg pure (beq_self_eq_true q.line)
theorem use_ok {y : Str} {py : Pos} {n₀ : Nat} {α₀ : Nat → Addr} {h₀ : Heap} {σ' : VH} {α' : Nat → Addr} {h' : Heap} {L : Addr} {i : Nat} {t' : Nat} {Q : Shared → Prop} (st₀ : St C l α₀ σ h₀) (hn₀ : σ.length = n₀) (er₀ : EnvR C sc env l h₀ α₀ n₀ ρ) (R : Ran C l n₀ α₀ h₀ σ' α' h' L) (hi : i < σ'.length) (hk : sc.names.lookup y = some .local)
    (h : ∀ h'' t, St C l α' σ' h'' → EnvR C sc env l h'' α' σ'.length (assocSet y (.ref i) ρ) → Nx (Own env) l n₀ α₀ h₀ σ'.length α' h'' → Q ⟨h'', s.gens, s.drawn, t, s.os⟩) :
    wpAny C.M A (assign (.Name y py) env (.ref (α' i))) (fun _ s'' => ∃ m, s''.heap.Ns L m ∧ ∀ h'', Heap.SameBut L s''.heap h'' → Q { s'' with heap := h'' }) E ⟨h', s.gens, s.drawn, t', s.os⟩ := by
  subst hn₀
  have er' := er₀.nx st₀ R.nx
  have hloc : env.locals ≠ L := fun q => by
    obtain ⟨m, ⟨o, _, _, e, _⟩, _⟩ := er₀.ns
    rw [q, R.new] at e; exact nn e
  have hcell : ∀ x c, env.cells.lookup x = some c → c ≠ L := fun x c hc q => by
    obtain ⟨_, _, _, _, o, _, e, _⟩ := er₀.cells x c hc
    rw [q, R.new] at e; exact nn e
  refine wpAny_assign_Name (storeLoc_ok (s := ⟨h', s.gens, s.drawn, t', s.os⟩) R.st er' (.ref hi) hk fun h2 t2 st2 er2 nx2 => ?_)
  obtain ⟨m, oL, es, ep, e, d1, r⟩ := R.ns
  have e2 := nx2.keep L oL e R.apart (fun q => hloc q.symm) R.fr
  have hn : NTR h2 L := ntr_of e2 (.inr fun _ _ q => nomatch d1.symm.trans q) (.inr fun _ q => nomatch d1.symm.trans q)
  have ap : Apart C env l h2 α' σ'.length L := ⟨R.apart, R.fr, fun q => q.elim (fun z => hloc z.symm) fun ⟨x, z⟩ => hcell x L z rfl, hn, R.locNew⟩
  refine ⟨m, ⟨oL, es, ep, e2, d1, r⟩, fun h3 sb => ?_⟩
  have k : ∀ b o, b ≠ L → h2.get? b = some o → h3.get? b = some o := fun b o hb e => (sb.2 b hb).trans e
  exact h h3 t2 (st2.ext1 ap k) (er2.ext1 ap k) (nx_fresh ((nxX R.nx).trans (nxLoc nx2)) R.new sb)
theorem bind_assoc' {β γ δ : Type} (r : Res β) (f : β → VH → Res γ) (g : γ → VH → Res δ) : (r.bind f).bind g = r.bind fun v τ => (f v τ).bind g := by induction r <;> rfl
theorem guard_bind {β γ : Type} (c : Bool) (r : Res β) (f : β → VH → Res γ) : (Res.guard c r).bind f = .guard c (r.bind f) := by induction c <;> rfl
theorem ex_AssignList (H : OpsOK C d o) (HC : CompsOK C d o.comp) (y py elt x px it ifs csc pos spos) : Ex C d (exec (.Assign [.Name y py] (.ListComp (src elt) [⟨.Name x px, src it, srcs ifs, 0⟩] csc pos) spos) env) sc env ρ σ (.guard (swapTo sc csc y py pos) ((compL' o sc elt x it ifs csc ρ σ).bind fun v τ => .ok (.next, assocSet y v ρ) τ)) := by
  intro ls A s α Q E rm st er K
  refine K.guard fun hsw K => ?_
  refine Cont.guard (K.eq (guard_bind _ _ _)) fun hc K => ?_
  have Kc := csOK_of hc
  obtain ⟨clo, hclo, hcl, hcf⟩ := closure_ok (cellThere er Kc)
  rw [exec_Assign_Name_used _ _ _ _ (swapsL_ok er hsw)]
  refine wpAny_bind (wpAny_standAt (wpAny_bind ?_))
  show wpAny _ A (do let _ ← comprehension (.ListComp (src elt) [⟨.Name x px, src it, srcs ifs, 0⟩] csc pos) csc env _ (newList []) false (eval (src it) env) (some (assign (.Name y py) env))) _ _ s
  refine wpAny_bind (wpAny_mono (wpAny_comprehension_free (use := some (assign (.Name y py) env)) (Q := fun _ s' => Q .next s') rfl (notSet it env) hclo Kc.kind Kc.loc ?_) (fun _ s' hq => wpAny_pure (wpAny_pure hq)) fun _ _ e => e)
  refine (H.ev sc it env ρ σ).use rm st er (K.eq (bind_assoc' _ _ _)) fun v σ₁ α₁ val h₁ t₁ e₁ st₁ er₁ nx₁ rv K₁ => K₁.compIt fun i τ' ei hcomp K2 => ?_
  refine comp_core (RR := fun acc L => compPost C.M A E (some (assign (.Name y py) env)) (fun _ s' => Q .next s') acc L) (s := ⟨h₁, s.gens, s.drawn, t₁, s.os⟩) HC rm st₁ er₁ Kc hcl hcf rv ei hcomp fun α' h' t' L hlt R => ?_
  refine use_ok (s := ⟨h₁, s.gens, s.drawn, t₁, s.os⟩) (Q := fun s' => Q .next s') st₁ rfl er₁ R hlt (swap_of hsw).1 fun h'' t'' st'' er'' nx'' => ?_
  exact K2.ok (.next, assocSet y (.ref σ₁.length) ρ) τ' α' .next h'' t'' rfl st'' nx'' ⟨trivial, er''⟩
end
end Mine
end
section
open PySem.Calls
namespace Mine
section
variable {C : Cx} {d : Nat} {G : Top'} {env : Env} {sc csc : Scope} {σ : VH} {ρ : VE} {l : List Env} {α : Nat → Addr} {s : Shared} {A : Around} {E : Value → Shared → Prop}
theorem const_ok {c : Const} {v : VV} {kk : Nat} {p : Pos} {Q : Value → Shared → Prop} (e : constV c = some v) (h : ∀ val t, RelV s.heap α σ.length v val → Q val { s with toks := t }) : wpAny C.M A (eval (.Constant c kk p) env) Q E s := by
  rw [arm_eval_Constant]
  induction c with
  | none => obtain rfl := Option.some.inj e; exact wpAny_pure (h _ s.toks .none)
  | bool b => obtain rfl := Option.some.inj e; exact wpAny_pure (h _ s.toks (.bool b))
  | int i => obtain rfl := Option.some.inj e; exact fun _ _ _ => h _ _ (.int i s.toks)
  | str x => obtain rfl := Option.some.inj e; exact fun _ _ _ => h _ _ (.str x s.toks)
  | _ => exact nomatch e
theorem pev_ok (F : Facts C G) : ∀ (n : Nat) (e : XE) (v : VV) (s : Shared) (Q : Value → Shared → Prop), pev G sc n e ρ σ = some v → St C l α σ s.heap → Rd sc env s.heap α σ.length ρ →
    (∀ val t, RelV s.heap α σ.length v val → Q val { s with toks := t }) → wpAny C.M A (eval (src e) env) Q E s := by
  intro n
  induction n with
  | zero => intro e v s Q e1; exact nomatch e1
  | succ n ih =>
    intro e v s Q e1 st er h
    cases e with
    | name x p =>
      have q := rd_name (A := A) (E := E) (Q := Q) F e1 st er fun val r => h val s.toks r
      exact wpAny_Name q.1 q.2
    | const c k p => exact const_ok e1 h
    | sub x i p =>
      obtain ⟨o, eo, e2⟩ := Option.bind_eq_some_iff.mp e1
      obtain ⟨k, ek, e3⟩ := Option.bind_eq_some_iff.mp e2
      show wpAny C.M A (eval (.Subscript (src x) (src i) p) env) Q E s
      rw [eval_Subscript]
      refine wpAny_bind (ih x o s _ eo st er fun vo t1 ro => ?_)
      refine wpAny_bind (wpAny_holding (ih i k { s with toks := t1 } _ ek st er fun vk t2 rk => ?_))
      refine wpAny_bind (wpAny_standAt ?_)
      obtain ⟨T, id, hl, hT⟩ := sub_type (s := ⟨s.heap, s.gens, s.drawn, t2, s.os⟩) (h := s.heap) st e3 ro
      refine wpAny_bind ?_
      rw [getitemInPython_of_ne hT.not_modules]
      refine wpAny_bind (wpAny_specialOf hT hl (wpAny_pure ?_))
      rw [notSlice]
      refine wpAny_bind (wpAny_operating (getV_ok (s := ⟨s.heap, s.gens, s.drawn, t2, s.os⟩) st e3 ro rk fun w t rw' => ?_))
      exact wpAny_bind (wpAny_letTemporaryGo (wpAny_pure (h w t rw')))
    | _ => exact nomatch e1
end
end Mine
end
section
open PySem.Calls
namespace Mine
inductive KeyVals : List Value → List (Str × VV) → Prop
  | nil : KeyVals [] []
  | cons {vs es} (k t u) : KeyVals vs es → KeyVals (.str k t :: vs) ((k, u) :: es)
noncomputable abbrev FKey (v : Value) (k : Str) : Prop := ∃ t, v = .str k t
inductive Rows2 (FV : Value → Value → Prop) : List Value → List (Str × Value) → Prop
  | nil : Rows2 FV [] []
  | cons {v k y l r} : FKey v k → FV v y → Rows2 FV l r → Rows2 FV (v :: l) ((k, y) :: r)
theorem Rows2.snoc {FV v k y} (hk : FKey v k) (hv : FV v y) {l r} (h : Rows2 FV l r) : Rows2 FV (l ++ [v]) (r ++ [(k, y)]) := by
  induction h with
  | nil => exact .cons hk hv .nil
  | cons a b _ ih => exact .cons a b ih
theorem Rows2.mem {FV l r} {p : Str × Value} (h : Rows2 FV l r) (hp : p ∈ r) : ∃ u ∈ l, FKey u p.1 := by
  induction h with
  | nil => exact (List.not_mem_nil hp).elim
  | cons a b _ ih =>
    rcases List.mem_cons.mp hp with rfl | hp
    · exact ⟨_, .head _, a⟩
    · obtain ⟨u, hu, e⟩ := ih hp; exact ⟨u, .tail _ hu, e⟩
theorem stored_rows {FV : Value → Value → Prop} {l : List Value} {kvs : List (Str × Value)} (h : StoredAll FKey FV l kvs) : l.Pairwise (fun u v => ∀ k, FKey u k → ¬ FKey v k) → Rows2 FV l kvs := by
  induction h with
  | nil => intro _; exact .nil
  | @snoc l kvs v k y h hk hv ih =>
    intro hp
    rw [List.pairwise_append] at hp
    obtain ⟨h1, _, h3⟩ := hp
    have r := ih h1
    have : stored kvs k y = kvs ++ [(k, y)] := by
      unfold stored
      rw [if_neg]
      intro q
      rw [List.any_eq_true] at q
      obtain ⟨p, hp, e⟩ := q
      obtain ⟨u, hu, e'⟩ := r.mem hp
      have e : p.1 = k := by simpa using e
      rw [e] at e'
      exact h3 u hu v (by simp) k e' hk
    rw [this]
    exact r.snoc hk hv
section
variable {C : Cx} {d : Nat} {G : Top'} {cl : CallO} {o : Ops} {env : Env} {sc csc : Scope} {σ : VH} {ρ : VE} {l : List Env} {α : Nat → Addr} {s : Shared} {A : Around} {E : Value → Shared → Prop}
noncomputable def keepRow : Option (Option Int) → Bool
  | some (some _) => true
  | _ => false
noncomputable def rowP (G : Top') (csc : Scope) (x : Str) (w a b : XE) (ρ : VE) (σ : VH) : Value → Bool
  | .str k _ => keepRow (dRow G csc x w a b ρ σ k)
  | _ => false
noncomputable def rowF (G : Top') (csc : Scope) (x : Str) (w a b : XE) (ρ : VE) (σ : VH) (v y : Value) : Prop :=
  Y4 fun k t z u => C3 (v = .str k t) (dRow G csc x w a b ρ σ k = some (some z)) (y = .int z u)
theorem pI_of {x k : Str} {e : XE} {i : Int} (h : pI G csc x e ρ σ k = some i) : pev G csc 3 e (assocSet x (.str k) ρ) σ = some (.int i) := by
  obtain ⟨v, e1, e2⟩ := Option.bind_eq_some_iff.mp h
  cases v with
  | int j => exact (Option.some.inj e2) ▸ e1
  | _ => exact nomatch e2
theorem dRow_of {x k : Str} {w a b : XE} {z : Option Int} (h : dRow G csc x w a b ρ σ k = some z) : Y2 fun i j => C3 (pI G csc x a ρ σ k = some i) (pI G csc x b ρ σ k = some j) (keepRow (some z) = !decide (i = j) ∧ ∀ z', z = some z' → pI G csc x w ρ σ k = some z') := by
  obtain ⟨i, e1, h⟩ := Option.bind_eq_some_iff.mp h
  obtain ⟨j, e2, h⟩ := Option.bind_eq_some_iff.mp h
  refine ⟨i, j, e1, e2, ?_⟩
  by_cases q : i = j
  · rw [if_pos q] at h
    obtain rfl := Option.some.inj h
    exact ⟨by rw [decide_eq_true q]; rfl, fun _ e => nomatch e⟩
  · rw [if_neg q] at h
    obtain ⟨z', e3, rfl⟩ := Option.map_eq_some_iff.mp h
    exact ⟨by rw [decide_eq_false q]; rfl, fun _ e => (Option.some.inj e) ▸ e3⟩
theorem dcomp_all {x : Str} {w a b : XE} {es : List (Str × VV)} : ∀ {ds : List (Str × VV)}, dcomp G csc x w a b ρ σ es = some ds → ∀ k u, (k, u) ∈ es → ∃ z, dRow G csc x w a b ρ σ k = some z := by
  induction es with
  | nil => exact fun _ _ _ h => nomatch h
  | cons p r ih =>
    intro ds e k u h
    obtain ⟨z, e1, e2⟩ := Option.bind_eq_some_iff.mp e
    cases h with
    | head => exact ⟨z, e1⟩
    | tail _ h =>
      obtain ⟨d2, e3, _⟩ := Option.map_eq_some_iff.mp e2
      exact ih e3 k u h
theorem dcomp_rows {x : Str} {w a b : XE} {h : Heap} {n : Nat} {es : List (Str × VV)} : ∀ {vs ds kvs}, KeyVals vs es → dcomp G csc x w a b ρ σ es = some ds → Rows2 (rowF G csc x w a b ρ σ) (vs.filter (rowP G csc x w a b ρ σ)) kvs →
    kvs.map (·.1) = ds.map (·.1) ∧ RelVs h α n (ds.map (·.2)) (kvs.map (·.2)) := by
  induction es with
  | nil =>
    intro vs ds kvs hk e r
    cases hk
    obtain rfl := Option.some.inj e
    cases r
    exact ⟨rfl, .nil⟩
  | cons p es ih =>
    intro vs ds kvs hk e r
    obtain ⟨z, e1, e2⟩ := Option.bind_eq_some_iff.mp e
    obtain ⟨d2, e3, rfl⟩ := Option.map_eq_some_iff.mp e2
    cases hk with
    | cons k t u hk =>
      have hp : rowP G csc x w a b ρ σ (.str k t) = keepRow (some z) := congrArg keepRow e1
      rw [List.filter_cons, hp] at r
      induction z with
      | none => exact ih hk e3 r
      | some z =>
        cases r with
        | cons h1 h2 h3 =>
          obtain ⟨i1, i2⟩ := ih hk e3 h3
          obtain ⟨t', q1⟩ := h1
          obtain ⟨k', t'', z', u', q2, q3, rfl⟩ := h2
          injection q1 with q1 _
          injection q2 with q2 _
          subst q1 q2
          injection e1.symm.trans q3 with q4
          injection q4 with q4
          subst q4
          exact ⟨congrArg (List.cons k) i1, .cons (.int _ _) i2⟩
theorem keyVals_of {vs : List Value} : ∀ {es : List (Str × VV)} {kvs : List (Str × Value)}, kvs.map (·.1) = es.map (·.1) → vs.length = kvs.length → (∀ (j : Nat) (v : Value), vs[j]? = some v → ∃ (k : Str) (x : Value), kvs[j]? = some (k, x) ∧ Value.isStrOf k v = true) → KeyVals vs es := by
  induction vs with
  | nil =>
    intro es kvs h1 h2 _
    obtain rfl := List.length_eq_zero_iff.mp h2.symm
    obtain rfl := List.map_eq_nil_iff.mp h1.symm
    exact .nil
  | cons v vs ih =>
    intro es kvs h1 h2 h3
    obtain ⟨k, x, e, hs⟩ := h3 0 v rfl
    obtain ⟨t, rfl⟩ := Value.isStrOf_shape hs
    induction kvs with
    | nil => exact nn e
    | cons p kvs _ =>
      obtain rfl := Option.some.inj e
      induction es with
      | nil => exact nomatch h1
      | cons q es _ =>
        obtain ⟨k', u⟩ := q
        injection h1 with h4 h5
        obtain rfl : k = k' := h4
        exact .cons _ t u (ih h5 (Nat.succ.inj h2) fun j v e => h3 (j + 1) v e)
theorem KeyVals.key {vs es} (h : KeyVals vs es) {v : Value} {k : Str} (hv : v ∈ vs) (hk : FKey v k) : k ∈ es.map (·.1) := by
  induction h with
  | nil => exact (List.not_mem_nil hv).elim
  | cons k2 t2 u2 _ ih =>
    rcases List.mem_cons.mp hv with rfl | hv
    · obtain ⟨t, q⟩ := hk
      injection q with q _
      exact q ▸ .head _
    · exact .tail _ (ih hv)
theorem KeyVals.pairwise {vs es} (h : KeyVals vs es) (hn : (es.map (·.1)).Nodup) : vs.Pairwise (fun u v => ∀ k, FKey u k → ¬ FKey v k) := by
  induction h with
  | nil => exact .nil
  | cons k t u hk ih =>
    have hn := List.nodup_cons.mp hn
    refine .cons (fun v hv k' hk' hk'' => ?_) (ih hn.2)
    obtain ⟨t', q⟩ := hk'
    injection q with q _
    exact hn.1 (q ▸ hk.key hv hk'')
theorem cenv_rd {h h' : Heap} {x k : Str} {t : Tok} {L : Addr} {m : Str → Option Value} {clo : List (Str × Addr)} (er : EnvR C sc env l h α σ.length ρ) (K : CsOK sc csc x ρ) (hcl : ∀ y c, clo.lookup y = some c → env.cells.lookup y = some c) (hcf : ∀ y, (y, NameKind.free) ∈ csc.names → (clo.lookup y).isSome = true)
    (hns : h'.Ns L m) (hm : m x = some (.str k t)) (kp : ∀ b o, h.get? b = some o → h'.get? b = some o) : Rd csc (compEnvC csc clo L env) h' α σ.length (assocSet x (.str k) (compEnv csc ρ)) := by
  have ek : ∀ y, (compEnvC csc clo L env).kindOf y = (csc.names.lookup y).map fun k => if (k == .free && env.scope.kind == .function && env.kindOf y == some .cell) then .cell else k := fun y => by
    unfold Env.kindOf
    exact relabel_lookup csc env y
  have efree : ∀ y, csc.names.lookup y = some .free → (compEnvC csc clo L env).kindOf y = some .cell := fun y hy => by
    rw [ek, hy, Option.map_some, if_pos]
    have := outerCell er (K.free _ (lookup_mem hy) rfl).1
    rw [er.kind, this]
    rfl
  refine ⟨er.glob, er.blt, by show (relabel csc env).kind = _; exact K.kind, fun y => ?_, ⟨_, hns, fun y v e => ?_⟩⟩
  · split
    · rename_i q; rw [ek, q]; rfl
    · rename_i q; rw [ek, q]; rfl
    · rename_i q; exact (K.noCell _ (lookup_mem q) rfl).elim
    · rename_i q; exact efree y q
    · trivial
  · rw [lookE_set] at e
    by_cases q : y = x
    · subst q
      rw [if_pos rfl] at e
      obtain rfl := Option.some.inj e
      exact ⟨_, .str k t, .inl ⟨by rw [ek, K.var]; rfl, hm⟩⟩
    rw [if_neg q] at e
    obtain ⟨h1, h2⟩ := lookE_filter (fun _ _ => rfl) e
    have hf : csc.names.lookup y = some .free := by simpa using h2
    obtain ⟨m, _, hv⟩ := er.ns
    obtain ⟨val, rv, z⟩ := hv y v h1
    have hc := outerCell er (K.free _ (lookup_mem hf) rfl).1
    refine ⟨val, rv.keeps (Keeps.of kp) (Nat.le_refl _) (fun _ _ => rfl), .inr ?_⟩
    rcases z with z | ⟨_, c, oc, hc', ho, hd⟩
    · rw [hc] at z; cases z.1
    · have := hcf y (lookup_mem hf)
      cases q : clo.lookup y with
      | none => rw [q] at this; exact ft this
      | some c' =>
        have := hcl y c' q
        rw [hc'] at this; obtain rfl := Option.some.inj this
        exact ⟨efree y hf, c, oc, q, kp _ _ ho, hd⟩
theorem dictRef_ok {v : VV} {val : Value} {h : Heap} {X : Addr → Prop} {FL : Option Value → Prop} {β γ : Type} {Rel : List Env → Heap → (Nat → Addr) → Nat → β → γ → Prop} {Q : γ → Shared → Prop} {n n' : Nat} {x : Str} {w a b : XE} {f : VV → VH → Res β} (K : Cont C X FL l Rel ((dictOf G csc x w a b ρ v σ).bind f) n α s Q E) (rv : RelV h α n' v val) {P : Prop}
    (k : ∀ i es, i < n' → σ[i]?.bind dictS = some es → val = .ref (α i) → okLen es.length = true → ∀ ds, dcomp G csc x w a b (compEnv csc ρ) σ es = some ds → Cont C X FL l Rel (f (.ref σ.length) (σ ++ [.sdict ds])) n α s Q E → P) : P := by
  cases v with
  | ref i =>
    obtain ⟨hi, e⟩ := rv.inv
    refine K.opt (f := fun es => (dictRows G csc x w a b ρ σ es).bind f) rfl fun es e2 K => Cont.guard (K.eq (guard_bind _ _ _)) fun hl K => Cont.sm (K.eq (bind_assoc' _ _ _)) fun ds e3 K => k i es hi e2 e hl ds e3 K
  | _ => exact K.dead
theorem ex_AssignDict (F : Facts C G) (H : OpsOK C d o) (y py kp w k px it a b cp csc pos spos) : Ex C d (exec (.Assign [.Name y py] (.DictComp (.Name k kp) (src w) [⟨.Name k px, src it, [.Compare (src a) [.NotEq] [src b] cp], 0⟩] csc pos) spos) env) sc env ρ σ (.guard (swapTo sc csc y py pos) ((compD' G o sc w k it a b csc ρ σ).bind fun v τ => .ok (.next, assocSet y v ρ) τ)) := by
  intro ls A s α Q E rm st er K
  refine K.guard fun hsw K => Cont.guard (K.eq (guard_bind _ _ _)) fun hc K => ?_
  obtain ⟨hc1, hdbg⟩ := (Bool.and_eq_true _ _).mp hc
  have hdbg : (k == ("__debug__" : Str)) = false := by simpa using hdbg
  have hyl := (swap_of hsw).1
  have Kc := csOK_of hc1
  obtain ⟨clo, hclo, hcl, hcf⟩ := closure_ok (cellThere er Kc)
  rw [exec_Assign_Name_used _ _ _ _ (swapsD_ok er hsw)]
  refine wpAny_bind (wpAny_standAt (wpAny_bind ?_))
  show wpAny _ A (do let _ ← comprehension (.DictComp (.Name k kp) (src w) [⟨.Name k px, src it, [.Compare (src a) [.NotEq] [src b] cp], 0⟩] csc pos) csc env _ newDict false (eval (src it) env) (some (assign (.Name y py) env))) _ _ s
  refine wpAny_bind (wpAny_mono (wpAny_comprehension_free (use := some (assign (.Name y py) env)) (Q := fun _ s' => Q .next s') rfl (notSet it env) hclo Kc.kind Kc.loc ?_) (fun _ s' hq => wpAny_pure (wpAny_pure hq)) fun _ _ e => e)
  refine (H.ev sc it env ρ σ).use rm st er (K.eq (bind_assoc' _ _ _)) fun v σ₁ α₁ val h₁ t₁ e₁ st₁ er₁ nx₁ rv K₁ => dictRef_ok K₁ rv fun i es hi e2 hval hlen ds e3 K2 => ?_
  subst hval
  obtain ⟨p, ep, edp⟩ := Option.bind_eq_some_iff.mp e2
  obtain ⟨kvs, hd, rows⟩ := St.dictS st₁ ep edp
  obtain ⟨epo, hat⟩ := hd.dictAt
  have hn : kvs.length = es.length := rows.length
  refine wpAny_pyIter_dict (knd := sK C) (s := ⟨h₁, s.gens, s.drawn, t₁, s.os⟩) (St.notModules (s := ⟨h₁, s.gens, s.drawn, t₁, s.os⟩) st₁ hi) hat ?_
  have hI : α₁ i ≠ h₁.objs.size := Nat.ne_of_lt hat.lt_size
  have W := Walks.dictKeys (prog := PG) (w := C.w) (knd := sK C) rm.handled h₁.objs.size (α₁ i) hI kvs epo
  have ku : ∀ (oo : Obj) b ob, h₁.get? b = some ob → (h₁.push oo).get? b = some ob := fun oo b ob e => push_keeps h₁ oo b ob e
  generalize hoo : ({ cls := .type "dict_keyiterator", data := .fields #[.ref (α₁ i), .int 0 0, .int kvs.length 0, .int epo 0] } : Obj) = oo
  have hIn : h₁.get? h₁.objs.size = none := fresh_size h₁
  have up : ∀ h3 : Heap, (∀ b ob, b ∉ [h₁.objs.size] → (h₁.push oo).get? b = some ob → h3.get? b = some ob) → ∀ b ob, h₁.get? b = some ob → h3.get? b = some ob := fun h3 hk b ob e =>
    hk b ob (by simp only [List.mem_singleton]; rintro rfl; rw [hIn] at e; exact nn e) (ku oo b ob e)
  have hun : A.units + 100 < cLine := by have := rm.cLine; lia
  have keyOf : ∀ (j : Nat) (v : Value), (∃ (k' : Str) (x : Value), kvs[j]? = some (k', x) ∧ (sK C).is k' v = true) → Y3 fun k' t u => v = .str k' t ∧ (k', u) ∈ es := by
    rintro j v ⟨k', x, e, hs⟩
    obtain ⟨t, rfl⟩ := Value.isStrOf_shape hs
    have : k' ∈ es.map (·.1) := by rw [← rows.keys]; exact List.mem_map.mpr ⟨_, List.mem_of_getElem? e, rfl⟩
    obtain ⟨⟨k'', u⟩, hm, e'⟩ := List.mem_map.mp this
    have e' : k'' = k' := e'
    rw [e'] at hm
    exact ⟨k', t, u, rfl, hm⟩
  have rd : ∀ Cc (k' : Str) (t : Tok) (s₃ : Shared) m₃, s₃.heap.Ns Cc m₃ → m₃ k = some (.str k' t) → (∀ b ob, b ∉ [h₁.objs.size] → (h₁.push oo).get? b = some ob → s₃.heap.get? b = some ob) →
      St C ls α₁ σ₁ s₃.heap ∧ Rd csc (compEnvC csc clo Cc env) s₃.heap α₁ σ₁.length (assocSet k (.str k') (compEnv csc ρ)) := fun Cc k' t s₃ m₃ h1 h2 h3 =>
    ⟨st₁.grown (up _ h3), cenv_rd er₁ Kc hcl hcf h1 h2 (up _ h3)⟩
  refine comp_block_walkCD (knd := sK C) (s₂ := ⟨h₁.push oo, s.gens, s.drawn, t₁, s.os⟩) (RR := fun acc L => compPost C.M A E (some (assign (.Name y py) env)) (fun _ s' => Q .next s') acc L) W (by rw [hn]; exact okLen_le hlen)
    (rowP G csc k w a b (compEnv csc ρ) σ₁) FKey (rowF G csc k w a b (compEnv csc ρ) σ₁) Kc.noCell Kc.kind Kc.var ⟨⟨oo, Heap.get?_push_size _ (by subst hoo; rfl), by subst hoo; rfl, by subst hoo; rfl⟩, hat.push _⟩ ?_ ⟨?_, ?_, ?_⟩ ?_
  · intro b hb
    rw [Heap.size_push]
    simp only [List.mem_cons, List.not_mem_nil, or_false] at hb
    rcases hb with rfl | rfl
    · exact Nat.lt_succ_self _
    · exact Nat.lt_succ_of_lt hat.lt_size
  · intro Cc j v s₃ m₃ E' hP hns hm hk
    obtain ⟨k', t, u, rfl, hmem⟩ := keyOf j v hP
    obtain ⟨st3, rd3⟩ := rd Cc k' t s₃ m₃ hns hm hk
    obtain ⟨z, ez⟩ := dcomp_all e3 k' u hmem
    obtain ⟨i1, j1, ea, eb, ew, _⟩ := dRow_of ez
    refine wpAny_tests_one (wpAny_isTrue_Compare1 ?_ (notMarks .NotEq b))
    refine pev_ok F 3 a _ s₃ _ (pI_of ea) st3 rd3 fun va ta ra => ?_
    refine pev_ok F 3 b _ { s₃ with toks := ta } _ (pI_of eb) st3 rd3 fun vb tb rb => ?_
    refine cmpV_ok (s := { s₃ with toks := tb }) st3 (op := .NotEq) (k := !decide (i1 = j1)) rfl ra rb hun fun t => wpAny_truthy_bool ⟨?_, _, _, rfl, fun _ _ e => e⟩
    exact ew.symm.trans (congrArg keepRow ez).symm
  · intro Cc j v s₃ m₃ E' hP hpv hns hm hk
    obtain ⟨k', t, u, rfl, hmem⟩ := keyOf j v hP
    obtain ⟨st3, rd3⟩ := rd Cc k' t s₃ m₃ hns hm hk
    refine wpAny_Name (wpAny_loadName_local Kc.kind (by rw [show (compEnvC csc clo Cc env).kindOf k = _ from lookup_relabel_local Kc.var]) hns hm ⟨⟨k', strKind_is _ _ _ _, t, rfl⟩, _, _, rfl, fun _ _ e => e⟩) hdbg
  · intro Cc j v s₃ m₃ E' hP hpv hns hm hk
    obtain ⟨k', t, u, rfl, hmem⟩ := keyOf j v hP
    obtain ⟨st3, rd3⟩ := rd Cc k' t s₃ m₃ hns hm hk
    obtain ⟨z, ez⟩ := dcomp_all e3 k' u hmem
    have hz := (congrArg keepRow ez).symm.trans hpv
    induction z with
    | none => exact nomatch hz
    | some z =>
      obtain ⟨i1, j1, ea, eb, _, ew⟩ := dRow_of ez
      refine pev_ok F 3 w _ s₃ _ (pI_of (ew z rfl)) st3 rd3 fun vw tw rw' => ?_
      obtain ⟨u', rfl⟩ := rw'.inv
      exact ⟨⟨k', t, z, _, rfl, ez, rfl⟩, _, _, rfl, fun _ _ e => e⟩
  · intro D L h' tk m' kvs' vs hD hL hDL hns hdict hvl hP hF hk
    have kk := up h' hk
    have hD1 : h₁.get? D = none := alive_of (ku oo) D hD
    have hL1 : h₁.get? L = none := alive_of (ku oo) L hL
    have kv : KeyVals vs es := keyVals_of rows.keys hvl fun j v e => hP j v e
    have hnd : (es.map (·.1)).Nodup := by rw [← rows.keys]; exact hat.nodup
    have r2 := stored_rows hF (List.Pairwise.sublist List.filter_sublist (kv.pairwise hnd))
    obtain ⟨q1, q2⟩ := dcomp_rows (h := h') (α := aext α₁ σ₁.length D) (n := σ₁.length + 1) kv e3 r2
    have st' : St C ls (aext α₁ σ₁.length D) (σ₁ ++ [VO.sdict ds]) h' := st₁.alloc kk hD1 ⟨kvs', hdict, q1, q2⟩
    have el : (σ₁ ++ [VO.sdict ds]).length = σ₁.length + 1 := by simp
    have nx' : Nx noX ls σ₁.length α₁ h₁ (σ₁ ++ [VO.sdict ds]).length (aext α₁ σ₁.length D) h' := by rw [el]; exact .alloc kk hD1
    have R : Ran C ls σ₁.length α₁ h₁ (σ₁ ++ [VO.sdict ds]) (aext α₁ σ₁.length D) h' L := by
      refine ⟨st', nx', hL1, ⟨m', hns⟩, ?_, fun j hj q => ?_, fun q => ?_⟩
      · cases q : C.H.get? L with
        | none => rfl
        | some o => have := st₁.stay _ _ q; rw [hL1] at this; exact nn this
      · by_cases z : j < σ₁.length
        · rw [aext_old j z] at q
          obtain ⟨_, e⟩ := (st₁.at z).1
          rw [q, hL1] at e; exact nn e
        · have hj' : j = σ₁.length := by rw [el] at hj; lia
          rw [hj', aext_new] at q
          exact hDL q
      · obtain ⟨_, ⟨o, es, ep, e, _⟩, _⟩ := st₁.fr q
        rw [hL1] at e; exact nn e
    have := use_ok (s := ⟨h₁, s.gens, s.drawn, t₁, s.os⟩) (A := A) (E := E) (y := y) (py := py) (t' := tk) (Q := fun s' => Q .next s') (i := σ₁.length) st₁ rfl er₁ R (by rw [el]; exact Nat.lt_succ_self _) hyl fun h'' t'' st'' er'' nx'' => ?_
    · rw [aext_new] at this
      exact this
    · exact K2.ok (.next, assocSet y (.ref σ₁.length) ρ) _ (aext α₁ σ₁.length D) .next h'' t'' rfl st'' nx'' ⟨trivial, er''⟩
end
end Mine
end
section
open PySem.Calls
namespace Mine
structure FactsAll (C : Cx) (G : Top') : Prop where
  f1 : Facts C G
  f2 : Facts2 C G
  f3 : Facts3 C G
  f4 : Facts4 C G
  f5 : ∀ D, G.exc D = true → ExcCls C.K D
  f6 : Facts6 C G
  keep : ∀ f r, G.fn f = some r → keepIn C.K (.ref f) = true
section
variable {C : Cx} {d : Nat} {G : Top'}
theorem ev_ok {cl : TCall} {o : TOps} (F : FactsAll C G) (HC : CallS C d (outC cl)) (hx : ExcMk C d G) (H : OpsOK C d o.out) (HK : CompsOK C d o.out.comp) (sc e env ρ σ) : Ev C d (eval (src e) env) sc env ρ σ (tev G cl o sc e ρ σ).out := by
  cases e with
  | const => exact ev_const _ _ _
  | name => exact ev_name F.f1 _ _
  | tuple => exact ev_Tuple H _ _ _
  | list => exact ev_List H _ _
  | dict0 => exact ev_Dict0 _
  | dict1 => exact (ev_Dict1 H _ _ _ _ _).eq (bnd_out fun _ _ => obj_out.trans dict0_out)
  | bin => exact (ev_BinOp H _ _ _ _).eq (bnd_out fun _ _ => bnd_out fun _ _ => bin_out)
  | neg => exact ev_UnaryOp H _ _
  | cmp => exact (ev_Compare H _ _ _ _).eq (bnd_out fun _ _ => bnd_out fun _ _ => cmp_out)
  | or => exact (ev_Or H _ _ _).eq (bnd_out fun _ _ => or_out)
  | and => exact (ev_And H _ _ _).eq (bnd_out fun _ _ => or_out)
  | ifx => exact ev_IfExp H _ _ _ _
  | attr => exact ev_Attribute F.f2 H _ _ _
  | sub => exact (ev_Subscript H _ _ _).eq (bnd_out fun _ _ => bnd_out fun _ _ => get_out)
  | take => exact (ev_take H _ _ _ _ _ _ _).eq (bnd_out fun _ _ => slice_out)
  | drop => exact (ev_drop H _ _ _ _ _).eq (bnd_out fun _ _ => bnd_out fun _ _ => sliceBy_out)
  | rev => exact (ev_rev H _ _ _ _ _ _ _).eq (bnd_out fun _ _ => slice_out)
  | callM => exact (ev_CallMethod HC F.f2 F.f4 H _ _ _ _ _).eq (guard_out (bnd_out fun _ _ => meth_out))
  | callN => exact (ev_CallName HC F.f1 F.f4 hx H _ _ _ _).eq (guard_out (bnd_out fun _ _ => bnd_out fun _ _ => callVal_out))
  | comp => exact (ev_ListComp H HK _ _ _ _ _ _ _).eq compL_out
theorem evs_ok {o : TOps} (H : OpsOK C d o.out) (es pos env) (sc ρ σ) : Evs C d (spliced (backTo pos (starEach (srcs es) env))) sc env ρ σ (tevs o sc es ρ σ).out := by
  induction es with
  | nil => exact evs_nil pos
  | cons e r => exact evs_cons H e r pos
theorem cd_ok {o : TOps} (H : OpsOK C d o.out) (e env sc ρ σ) : Cd C d (isTrue (src e) env (eval (src e) env)) sc env ρ σ (tcd o sc e ρ σ).out := by
  have dead : ∀ {t : Sem Bool}, Cd C d t sc env ρ σ .stuck := fun ls A s α Q E rm st er K => K.dead
  cases e with
  | cmp => exact (cd_Compare H _ _ _ _).eq (bnd_out fun _ _ => bnd_out fun _ _ => cmp_out)
  | or => exact (cd_Or H _ _ _ _).eq (bnd_out fun _ _ => or_out)
  | and => exact (cd_And H _ _ _ _).eq (bnd_out fun _ _ => or_out)
  | callM x m q as p => exact cd_value H (.callM x m q as p) fun _ => rfl
  | callN f q as p => exact cd_value H (.callN f q as p) fun _ => rfl
  | const => exact cd_const _ _ _
  | _ => exact dead
theorem ex_ok {o : TOps} (F : FactsAll C G) (H : OpsOK C d o.out) (HL : LoopsOK C d o.out) (HK : CompsOK C d o.out.comp) (sc s env ρ σ) : Ex C d (exec (srcS s) env) sc env ρ σ (tex G o sc s ρ σ).out := by
  cases s with
  | expr => exact ex_Expr H _ _
  | pass => exact ex_Pass _
  | cont => exact ex_Continue _
  | ret0 => exact ex_Return0 _
  | ret => exact ex_Return H _ _
  | asg => exact (ex_Assign F.f2 H _ _ _).eq (guard_out (bnd_out fun _ _ => congrArg (fun r => Res.bind r fun (ρ' : VE) τ' => .ok (VF.next, ρ') τ') assign_out))
  | asgL => exact (ex_AssignList H HK _ _ _ _ _ _ _ _ _ _).eq (guard_out (congrArg (fun r => Res.bind r fun (v : VV) τ => .ok (VF.next, assocSet _ v ρ) τ) compL_out))
  | asgD => exact ex_AssignDict F.f1 H _ _ _ _ _ _ _ _ _ _ _ _ _
  | augN => exact (ex_AugName F.f1 H _ _ _ _).eq (guard_out (bnd_out fun _ _ => bnd_out fun _ _ => iadd_out))
  | augA => exact ex_AugAttr F.f2 H _ _ _ _ _
  | augS => exact (ex_AugSub H _ _ _ _ _).eq (bnd_out fun _ _ => bnd_out fun _ _ => get_out.trans (bnd_out fun _ _ => bnd_out fun _ _ => augS_out))
  | del => exact (ex_Del H _ _ _ _).eq (bnd_out fun _ _ => bnd_out fun _ _ => del_out)
  | delF => exact (ex_DelFrom H _ _ _ _ _ _).eq (bnd_out fun _ _ => bnd_out fun _ _ => delBy_out)
  | ite => exact ex_If H _ _ _ _
  | whl => exact ex_While H HL _ _ _
  | «for» => exact (ex_For H HL _ _ _ _ _).eq (bnd_out fun v τ => it_out.trans (by cases (itOf τ v).bind notKeys <;> rfl))
  | raise => exact (ex_Raise F.f5 H _ _).eq (bnd_out fun _ _ => raise_out)
  | «try» => exact (ex_Try F.f1 F.f5 H _ _ _ _ _ _ _ _ _ _).eq (guard_out try_out)
theorem exs_ok {o : TOps} (H : OpsOK C d o.out) (ss env sc ρ σ) : Ex C d (execs (srcSs ss) env) sc env ρ σ (texs o sc ss ρ σ).out := by
  induction ss with
  | nil => exact exs_nil
  | cons s r => exact (exs_cons H s r).eq (bnd_out fun _ _ => exsAft_out)
structure AllOK (C : Cx) (d : Nat) (o : Ops) : Prop where
  ops : OpsOK C d o
  loops : LoopsOK C d o
  comps : CompsOK C d o.comp
theorem none_ok : AllOK C d TOps.none.out where
  ops := ⟨fun _ _ _ _ _ _ _ _ _ _ _ _ _ _ K => K.dead, fun _ _ _ _ _ _ _ _ _ _ _ _ _ _ K => K.dead, fun _ _ _ _ _ _ _ _ _ _ _ _ _ _ _ K => K.dead, fun _ _ _ _ _ _ _ _ _ _ _ _ _ _ K => K.dead, fun _ _ _ _ _ _ _ _ _ _ _ _ _ _ K => K.dead⟩
  loops := ⟨fun _ _ _ _ _ _ _ _ _ _ _ _ _ _ _ _ _ _ _ _ _ _ _ _ _ _ _ K => K.dead, fun _ _ _ _ _ _ _ _ _ _ _ _ _ _ _ _ _ _ _ _ _ _ K => K.dead⟩
  comps := by
    intro csc elt x px iter i ifs D env ρ σ σ' l A s α it a lo n₀ α₀ scope pos R _ _ _ _ _ _ _ _ _ _ _ _ K
    exact nomatch K
theorem ops_ok {cl : TCall} (F : FactsAll C G) (HC : CallS C d (outC cl)) (hx : ExcMk C d G) (n : Nat) : AllOK C d (tops G cl n).out := by
  induction n with
  | zero => exact none_ok
  | succ n ih =>
    obtain ⟨H, HL, HK⟩ := ih
    refine ⟨⟨fun sc e env ρ σ => ev_ok F HC hx H HK sc e env ρ σ, fun sc e env ρ σ => cd_ok H e env sc ρ σ, fun sc es pos env ρ σ => evs_ok H es pos env sc ρ σ, fun sc s env ρ σ => ex_ok F H HL HK sc s env ρ σ, fun sc ss env ρ σ => exs_ok H ss env sc ρ σ⟩, ⟨?_, ?_⟩, ?_⟩
    · intro sc x px i body env ρ σ l A s α it lo n₀ α₀ Q E rm st er hC hg hdr hos ir nx K
      exact loop_ok H HL sc x px i body env ρ σ l A s α it lo n₀ α₀ Q E rm st er hC hg hdr hos ir nx (K.eq loop_out)
    · intro sc c body env ρ σ l A s α n₀ α₀ lo Q E rm st er hg hdr hos nx K
      exact whl_ok H HL sc c body env ρ σ l A s α n₀ α₀ lo Q E rm st er hg hdr hos nx (K.eq (congrArg whlOk whl_out))
    · have e : (stepT G cl (tops G cl n)).out.comp = compF (tops G cl n).out := funext fun _ => funext fun _ => funext fun _ => funext fun _ => funext fun _ => funext fun _ => funext fun _ => funext fun _ => comp_out
      show CompsOK C d (stepT G cl (tops G cl n)).out.comp
      rw [e]
      exact comp_ok H HK
theorem calls_ok (F : FactsAll C G) (d : Nat) : CallS C (d + 2) (outC (tcallG G d)) := by
  induction d with
  | zero => exact ⟨fun _ _ _ _ _ _ _ _ _ _ _ _ _ K => K.dead, fun _ _ _ q => (q rfl).elim⟩
  | succ d HC =>
    have H := (ops_ok F HC (excMk F.f1 F.f3 F.f6) 400).ops
    refine ⟨fun f as σ l A s α vals Q E rm st ra K => call_ok _ F.f3 (fun r bs _ _ env => H.exs r.scope r.body env _ σ) l A s α vals Q E rm st ra (K.eq call_out), fun f as σ q => ?_⟩
    cases e : G.fn f with
    | some r => exact F.keep f r e
    | none => exact (q (congrArg (fun r => (tcallR (tops G (tcallG G d) 400) as σ r).out) e)).elim
theorem top_ok (F : FactsAll C G) (d : Nat) : OpsOK C (d + 2) (tops G (tcallG G d) 400).out := (ops_ok F (calls_ok F d) (excMk F.f1 F.f3 F.f6) 400).ops
end
end Mine
end
section
open PySem.Calls
set_option backward.match.sparseCases false
namespace Mine
noncomputable def obOf (K : Frag) (f : Addr) : Obj := match K.lookup f with | some o => o | none => emptyDict
noncomputable def fdOf (K : Frag) (f : Addr) : FuncData := match (obOf K f).data with | .func fd => fd | _ => default
noncomputable def nodupB : List Str → Bool
  | [] => true
  | x :: r => !r.contains x && nodupB r
theorem nodup_of : ∀ {l : List Str}, nodupB l = true → l.Nodup
  | [], _ => .nil
  | x :: r, h => by
    simp only [nodupB, Bool.and_eq_true, Bool.not_eq_true', List.contains_eq_mem, decide_eq_false_iff_not] at h
    exact List.nodup_cons.mpr ⟨h.1, nodup_of h.2⟩
noncomputable def kindB : ScopeKind → Bool
  | .function => true
  | _ => false
noncomputable def freeB : NameKind → Bool
  | .cell => false
  | .free => false
  | _ => true
noncomputable def localB : Option NameKind → Bool
  | some .local => true
  | _ => false
noncomputable def fnChk (r : FnRec) : Bool := kindB r.scope.kind && (!r.scope.isGenerator && (!r.scope.isCoroutine && (r.scope.names.all (fun x => freeB x.2) && (r.params.all (fun x => localB (r.scope.names.lookup x)) && nodupB r.params))))
noncomputable def valsN (n : Nat) (v : Nat → Value) : List Value := (List.range n).map v
theorem valsN_of (l : List Value) : ∃ v, valsN l.length v = l := by
  refine ⟨fun i => l.getD i .none, List.ext_getElem (by simp [valsN]) fun i h1 h2 => ?_⟩
  simp [valsN, h2]
noncomputable abbrev Say := Option Obj × FuncBody × Scope × Addr × Addr × List (Str × Addr) × ((Nat → Value) → Setting → Option (List (Str × Value)))
noncomputable def sayOf (K : Frag) (f : Addr) (r : FnRec) : Say := (K.lookup f, (fdOf K f).body, (fdOf K f).scope, (fdOf K f).globals, (fdOf K f).builtins, (fdOf K f).closure, fun (v : Nat → Value) (S : Setting) => peek K S (bindArgs (fdOf K f) ⟨valsN r.params.length v, []⟩))
noncomputable def wantOf (K : Frag) (f : Addr) (r : FnRec) : Say := (some ⟨(obOf K f).cls, (obOf K f).dict, .func (fdOf K f), (obOf K f).slots⟩, .stmts (srcSs r.body), r.scope, mainGlobals, builtinsNs, [], fun v _ => some (r.params.zip (valsN r.params.length v)))
noncomputable def fnB (K : Frag) (p : Addr × FnRec) : Bool := codeIn K (fdOf K p.1).code (fdOf K p.1).qualname && (fnChk p.2 && (p.1 == 581 || p.2.dflt.isEmpty))
noncomputable def dfl581 : List Value := [.int 100000 995, .bool true, .int 4096 996]
structure DfCk (K : Frag) : Prop where
  n : f_Areas_init.params.length = 6
  d : f_Areas_init.dflt = [.int 100000, .bool true, .int 4096]
  b : (fun (S : Setting) v0 v1 v2 => peek K S (bindArgs (fdOf K 581) ⟨[v0, v1, v2], []⟩)) = fun S v0 v1 v2 => some (f_Areas_init.params.zip ([v0, v1, v2] ++ dfl581))
theorem kindB_of {k : ScopeKind} (h : kindB k = true) : k = .function := by induction k <;> first | rfl | exact nomatch h
theorem localB_of {k : Option NameKind} (h : localB k = true) : k = some .local := by
  induction k with
  | none => exact nomatch h
  | some k => induction k <;> first | rfl | exact nomatch h
theorem fn_ok {K : Frag} {f : Addr} {r : FnRec} (hb : fnB K (f, r) = true) (hs : sayOf K f r = wantOf K f r) (hd : DfCk K) (h581 : f = 581 → r = f_Areas_init) : FnFact K f r := by
  unfold fnB fnChk at hb
  simp only [Bool.and_eq_true, Bool.not_eq_true', List.all_eq_true] at hb
  obtain ⟨h2, ⟨a1, a2, a3, a4, a5, a6⟩, h3⟩ := hb
  refine ⟨fdOf K f, _, _, _, congrArg (·.1) hs, congrArg (·.2.1) hs, congrArg (·.2.2.1) hs, congrArg (·.2.2.2.1) hs, congrArg (·.2.2.2.2.1) hs, congrArg (·.2.2.2.2.2.1) hs, h2, kindB_of a1, a2, a3, fun x hx => ?_, fun x hx => localB_of (a5 x hx), nodup_of a6, fun s vals X hl => ?_, fun s vals X hne hl => ?_⟩
  · have := a4 x hx
    constructor <;> intro q <;> rw [q] at this <;> exact nomatch this
  · obtain ⟨v, hv⟩ := valsN_of vals
    refine kp_binds X fun S => ?_
    have e2 := congrFun (congrFun (congrArg (fun x => x.2.2.2.2.2.2) hs) v) S
    rw [hl] at hv
    dsimp only [sayOf, wantOf] at e2
    rwa [hv] at e2
  · by_cases q : f = 581
    · have := h581 q
      subst this q
      rw [hd.n, hd.d] at hl
      rw [hd.d]
      obtain ⟨a, t, rfl⟩ := List.exists_cons_of_length_eq_add_one (show vals.length = 2 + 1 from Nat.add_right_cancel (m := 3) hl)
      obtain ⟨b, t, rfl⟩ := List.exists_cons_of_length_eq_add_one (show t.length = 1 + 1 from Nat.add_right_cancel (m := 4) hl)
      obtain ⟨c, t, rfl⟩ := List.exists_cons_of_length_eq_add_one (show t.length = 0 + 1 from Nat.add_right_cancel (m := 5) hl)
      obtain rfl := List.eq_nil_of_length_eq_zero (show t.length = 0 from Nat.add_right_cancel (m := 6) ((Nat.zero_add 6).symm ▸ hl))
      exact ⟨dfl581, fun h α n => .cons (.int _ _) (.cons (.bool _) (.cons (.int _ _) .nil)), kp_binds X fun S => congrFun (congrFun (congrFun (congrFun hd.b S) a) b) c⟩
    · rw [show (f == 581) = false by simpa using q] at h3
      simp at h3
      exact (hne h3).elim
noncomputable def tok1 : Value → VV
  | .int i _ => .int i
  | .str s _ => .str s
  | v => .val v
noncomputable def itsOf : Data → Option (Array Value)
  | .seq its _ => some its
  | _ => none
noncomputable def tupK (K : Frag) (a : Addr) : Option (Array Value) := (K.lookup a).bind fun o => bif o.cls == .type "tuple" then itsOf o.data else none
noncomputable def noTok (K : Frag) : Value → VV
  | .ref a => match tupK K a with
    | some its => .tup (its.toList.map tok1)
    | none => .val (.ref a)
  | v => tok1 v
noncomputable def gBy (K : Frag) (x : Str) : Option (Option Value) → Option VV
  | some (some v) => some (noTok K v)
  | some none => bif x == ("__name__" : Str) then none else (bootBuiltins x).map .val
  | none => none
theorem assoc_mem {A B : Type} [DecidableEq A] {k : A} {v : B} {l : List (A × B)} (h : assocGet k l = some v) : (k, v) ∈ l := by
  induction l with
  | nil => exact nomatch h
  | cons p r ih =>
    by_cases q : p.1 = k
    · have := Option.some.inj ((if_pos q).symm.trans h)
      obtain ⟨a, b⟩ := p
      obtain rfl : a = k := q
      obtain rfl : b = v := this
      exact .head _
    · exact .tail _ (ih ((if_neg q).symm.trans h))
theorem tok1_rel {h : Heap} {α : Nat → Addr} {n : Nat} (v : Value) : RelV h α n (tok1 v) v := by
  induction v with
  | int i t => exact .int i t
  | str s t => exact .str s t
  | _ => exact .val _
theorem toks_rel {h : Heap} {α : Nat → Addr} {n : Nat} : ∀ l : List Value, RelVs h α n (l.map tok1) l
  | [] => .nil
  | v :: r => .cons (tok1_rel v) (toks_rel r)
theorem noTok_rel {K : Frag} {h : Heap} (X : K.In h) {α : Nat → Addr} {n : Nat} (v : Value) : RelV h α n (noTok K v) v := by
  induction v with
  | ref a =>
    show RelV h α n (match tupK K a with | some its => _ | none => _) _
    cases e : tupK K a with
    | none => exact .val _
    | some its =>
      obtain ⟨o, e1, e2⟩ := Option.bind_eq_some_iff.mp e
      cases q : o.cls == .type "tuple" with
      | false => rw [q] at e2; exact nomatch e2
      | true =>
        rw [q] at e2
        refine .tup (vs := its) ⟨o, X _ _ e1, eq_of_beq q, ?_⟩ (toks_rel _)
        cases ed : o.data with
        | seq xs ep => rw [ed] at e2; exact ⟨ep, (Option.some.inj e2) ▸ rfl⟩
        | _ => rw [ed] at e2; exact nomatch e2
  | int i t => exact .int i t
  | str s t => exact .str s t
  | _ => exact .val _
noncomputable def GlGoal (C : Cx) (x : Str) (v : VV) : Prop := (∃ val, C.mg x = some val ∧ ∀ h, C.H.StaysIn h → ∀ α n, RelV h α n v val) ∨ (C.mg x = none ∧ ∃ b, C.mb x = some b ∧ v = .val b)
theorem gl_ok {C : Cx} {x : Str} {v : VV} (h : gBy C.K x (nsIn C.K mainGlobals x) = some v) : GlGoal C x v := by
  cases e : nsIn C.K mainGlobals x with
  | none => rw [e] at h; exact nomatch h
  | some o =>
    rw [e] at h
    induction o with
    | some a =>
      obtain rfl := Option.some.inj h
      exact .inl ⟨a, mg_of C.inK C.top.g e, fun h st α n => noTok_rel (fun b o z => st _ _ (C.inK _ _ z)) a⟩
    | none =>
      cases q : x == ("__name__" : Str) with
      | true => rw [show gBy C.K x (some none) = bif x == ("__name__" : Str) then none else (bootBuiltins x).map .val from rfl, q] at h; exact nomatch h
      | false =>
        rw [show gBy C.K x (some none) = bif x == ("__name__" : Str) then none else (bootBuiltins x).map .val from rfl, q] at h
        obtain ⟨b, hb, rfl⟩ := Option.map_eq_some_iff.mp h
        exact .inr ⟨mg_none_of C.inK C.top.g e, b, by rw [C.top.builtins x (by simpa using q)]; exact hb, rfl⟩
noncomputable def initB (K : Frag) (p : Addr × Addr) : Bool := makesIn K p.1 && (findIn K (.ref p.1) "__init__" == some (some (.ref p.2)) && (typeIn K (.ref p.2) == some (.type "function") && keepIn K (.ref p.1)))
structure CmCk (K : Frag) : Prop where
  a : specialIn K (.ref 724) "__getattribute__" = some (some (.builtin "type.__getattribute__"))
  b : readsIn K 724 (.type "type") = true
  c : findCls K (.ref 724) (.type "type") "__init__" = some (.val (.ref 581))
noncomputable def clsB (K : Frag) : Bool := methT.all (fun p => clsOK K p.1 && p.2.all fun q => methIn K p.1 q.1 q.2) && (fieldT.all (fun p => clsOK K p.1 && p.2.all fun q => fieldIn K p.1 q) && (initT.all (initB K) && keepIn K (.ref 51)))
structure ExCk (K : Frag) : Prop where
  ga : findIn K (.ref 51) "__getattribute__" = some (some (.builtin "BaseException.__getattribute__"))
  gh : findIn K (.ref 51) "__getattr__" = some none
  me : exmOne K (.ref 51) (.ref 51) = some true
  bs : subIn K (.ref 51) (.type "BaseException") = some true
  ty : typeIn K (.ref 51) = some (.type "type")
  ball : findIn K (.ref 51) "ball" = some none
  sa : findIn K (.ref 51) "__setattr__" = some (some (.builtin "object.__setattr__"))
  init : findIn K (.ref 51) "__init__" = some (some (.ref 48))
  fty : typeIn K (.ref 48) = some (.type "function")
  nw : K.lookup 51 = some (excK K 51 31)
  tl : tailIn K bmE (.ref 31 :: bmE) = true
structure KCk (K : Frag) : Prop where
  b : (fnT.all (fnB K) && clsB K) = true
  g : glT.map (fun p => gBy K p.1 (nsIn K mainGlobals p.1)) = glT.map (fun p => some p.2)
  f : fnT.map (fun p => sayOf K p.1 p.2) = fnT.map (fun p => wantOf K p.1 p.2)
  d : DfCk K
  c : CmCk K
  x : ExCk K
theorem init_48 : InitOK f_PrologError_init := ⟨⟨⟨10, 8, 10, 12⟩, ⟨10, 8, 10, 17⟩, ⟨10, 20, 10, 24⟩, ⟨10, 8, 10, 24⟩, by kernel_rfl⟩, by kernel_rfl, by kernel_rfl, by kernel_rfl, by kernel_rfl⟩
theorem fn581 : gFn 581 = some f_Areas_init := by kernel_rfl
theorem fn48 : gFn 48 = some f_PrologError_init := by kernel_rfl
theorem hasIn_of {x : Str} {o : Option (List Str)} (h : hasIn x o = true) : ∃ l, o = some l ∧ x ∈ l := by
  induction o with
  | none => exact nomatch h
  | some l => exact ⟨l, rfl, by simpa using (show l.contains x = true from h)⟩
section
variable {w : World} {vp : Program} {H : Heap} {loose : List Str} {mg mb : Str → Option Value} {K : Params → Frag}
noncomputable abbrev cx (inK : (K w.params).In H) (top : TopRead vp loose mg mb H) (seer : H.NoSeer) : Cx := ⟨w, vp, K w.params, H, loose, mg, mb, inK, top, seer⟩
theorem factsAll (k : KCk (K w.params)) (inK : (K w.params).In H) (top : TopRead vp loose mg mb H) (seer : H.NoSeer) : FactsAll (cx inK top seer) G := by
  have kb := k.b
  unfold clsB initB at kb
  simp only [Bool.and_eq_true, List.all_eq_true, beq_iff_eq] at kb
  obtain ⟨b2, b3, b4, b5, b6⟩ := kb
  obtain ⟨cd, hcd, hhd, _⟩ := clsIn_exc k.x.nw
  have x51 : ExcCls2 (K w.params) 51 48 31 := ⟨⟨k.x.ga, k.x.gh, k.x.me, k.x.bs, k.x.ty, k.x.ball, cd, hcd, hhd⟩, k.x.sa, k.x.init, k.x.fty, k.x.nw, k.x.tl⟩
  have f3 : ∀ f r, gFn f = some r → FnFact (K w.params) f r := fun f r e => by
    have m := assoc_mem e
    refine fn_ok (b2 _ m) (List.map_inj_left.mp k.f _ m) k.d fun q => ?_
    rw [q, fn581] at e
    exact (Option.some.inj e).symm
  refine ⟨⟨fun x v e => gl_ok (C := cx inK top seer) (List.map_inj_left.mp k.g _ (assoc_mem e))⟩, ⟨fun D a e => ?_, fun D a f e => ?_⟩, ⟨f3⟩, ⟨fun D f e => b5 _ (assoc_mem e), fun D e => ?_, fun D a f e => ?_⟩, fun D e => ?_, ⟨fun D e => ?_⟩, fun f r e => ?_⟩
  · obtain ⟨l, e1, e2⟩ := hasIn_of e
    obtain ⟨h1, h2⟩ := b4 _ (assoc_mem e1)
    exact ⟨h1, h2 _ e2⟩
  · obtain ⟨l, e1, e2⟩ := Option.bind_eq_some_iff.mp e
    obtain ⟨h1, h2⟩ := b3 _ (assoc_mem e1)
    exact ⟨h1, h2 _ (assoc_mem e2)⟩
  · rw [show D = 51 from eq_of_beq e]; exact b6
  · obtain ⟨⟨rfl, rfl⟩, rfl⟩ := some_ite e
    exact ⟨_, k.c.a, k.c.b, k.c.c⟩
  · rw [show D = 51 from eq_of_beq e]; exact x51.toExcCls
  · have h : D = 51 := eq_of_beq e
    subst h
    exact ⟨48, 31, f_PrologError_init, x51, fn48, init_48⟩
  · obtain ⟨fd, oc, od, osl, h, _⟩ := f3 f r e
    show keepIn (K w.params) _ = true
    unfold keepIn
    dsimp only
    rw [h]
end
end Mine
end
section
open PySem.Calls
set_option backward.match.sparseCases false
namespace Mine
noncomputable def lawOne : XS := .asg (.name ("pool" : Str) ⟨625, 4, 625, 8⟩) (.list [.take ("script" : Str) ⟨625, 12, 625, 18⟩ 63 0 ⟨625, 20, 625, 22⟩ ⟨625, 19, 625, 22⟩ ⟨625, 12, 625, 23⟩, .const (.int 0) 0 ⟨625, 25, 625, 26⟩, .neg (.const (.int 1) 0 ⟨625, 29, 625, 30⟩) ⟨625, 28, 625, 30⟩, .const (.int 0) 0 ⟨625, 32, 625, 33⟩] ⟨625, 11, 625, 34⟩) ⟨625, 4, 625, 34⟩
theorem law_first : f_law.body = lawOne :: f_law.body.drop 1 := by kernel_rfl
noncomputable def lawNames (sc : Scope) : Bool := sc.names.all fun p => match p.2 with
  | .free => false
  | .cell => p.1 == ("pool" : Str) || p.1 == ("names" : Str) || p.1 == ("number" : Str) || p.1 == ("before" : Str)
  | _ => true
theorem ints_rel {h : Heap} {α : Nat → Addr} {n : Nat} : ∀ {vs : List Value} {xs : List Int}, IntsAre vs xs → RelVs h α n (xs.map .int) vs
  | _, _, .nil => .nil
  | _, _, .cons n t r => .cons (.int _ _) (ints_rel r)
theorem IntsAre.len : ∀ {vs : List Value} {xs : List Int}, IntsAre vs xs → vs.length = xs.length
  | _, _, .nil => rfl
  | _, _, .cons n t r => by simp [IntsAre.len r]
noncomputable abbrev cellsL (L : Addr) : List (Str × Addr) := [(("before" : Str), L + 1 + 1 + 1 + 1), (("number" : Str), L + 1 + 1 + 1), (("names" : Str), L + 1 + 1), (("pool" : Str), L + 1)]
theorem mem_inj {l : List (Str × Addr)} (hn : (l.map (·.2)).Nodup) {x y : Str} {c : Addr} (m1 : (x, c) ∈ l) (m2 : (y, c) ∈ l) : x = y := by
  induction l with
  | nil => exact nomatch m1
  | cons p r ih =>
    have hn := List.nodup_cons.mp hn
    rcases List.mem_cons.mp m1 with e1 | n1
    · rcases List.mem_cons.mp m2 with e2 | n2
      · exact congrArg (·.1) (e1.trans e2.symm)
      · exact (hn.1 (List.mem_map.mpr ⟨_, n2, congrArg (·.2) e1⟩)).elim
    · rcases List.mem_cons.mp m2 with e2 | n2
      · exact (hn.1 (List.mem_map.mpr ⟨_, n1, congrArg (·.2) e2⟩)).elim
      · exact ih hn.2 n1 n2
theorem above {L n : Nat} : (L + 1 + n) ≠ L := Nat.ne_of_gt (Nat.lt_of_lt_of_le (Nat.lt_succ_self L) (Nat.le_add_right _ _))
theorem cells_mem {L c : Addr} {x : Str} (h : (cellsL L).lookup x = some c) : c ∈ [L + 1, L + 1 + 1, L + 1 + 1 + 1, L + 1 + 1 + 1 + 1] ∧ L ≠ c := by
  have := lookup_mem h
  simp only [cellsL, List.mem_cons, Prod.mk.injEq, List.not_mem_nil, or_false] at this
  rcases this with ⟨_, rfl⟩ | ⟨_, rfl⟩ | ⟨_, rfl⟩ | ⟨_, rfl⟩
  · exact ⟨by simp, fun q => above (n := 1 + 1 + 1) q.symm⟩
  · exact ⟨by simp, fun q => above (n := 1 + 1) q.symm⟩
  · exact ⟨by simp, fun q => above (n := 1) q.symm⟩
  · exact ⟨by simp, fun q => above (n := 0) q.symm⟩
theorem cells_has {L : Addr} {x : Str} (h : (x == ("pool" : Str) || x == ("names" : Str) || x == ("number" : Str) || x == ("before" : Str)) = true) : ∃ c, (cellsL L).lookup x = some c := by
  simp only [Bool.or_eq_true, beq_iff_eq] at h
  rcases h with ((rfl | rfl) | rfl) | rfl
  · exact ⟨L + 1, by kernel_rfl⟩
  · exact ⟨L + 1 + 1, by kernel_rfl⟩
  · exact ⟨L + 1 + 1 + 1, by kernel_rfl⟩
  · exact ⟨L + 1 + 1 + 1 + 1, by kernel_rfl⟩
section
variable {C : Cx} {env : Env} {sc : Scope} {L : Addr} {h₁ : Heap} {m : Str → Option Value}
structure LawEnv (env : Env) (sc : Scope) (L : Addr) : Prop where
  scope : env.scope = sc
  frame : env.frame = some L
  locals : env.locals = L
  cells : env.cells = cellsL L
  glob : env.globals = mainGlobals
  blt : env.builtins = builtinsNs
structure LawSc (sc : Scope) : Prop where
  kind : sc.kind = .function
  gen : sc.isGenerator = false
  co : sc.isCoroutine = false
  names : lawNames sc = true
theorem law_er (r : FnRec) (V : LawEnv env sc L) (W : LawSc sc) (hns : h₁.Ns L m) (hL : C.H.get? L = none) (hc : ∀ c ∈ [L + 1, L + 1 + 1, L + 1 + 1 + 1, L + 1 + 1 + 1 + 1], C.H.get? c = none ∧ Y2 fun o v => h₁.get? c = some o ∧ o.data = .cell v) : EnvR C sc env [env] h₁ (fun _ => 0) 0 (junks r) := by
  have all := List.all_eq_true.mp W.names
  refine ⟨V.glob, V.blt, by rw [V.scope]; exact W.kind, ⟨env, [], rfl, rfl, by rw [V.scope]; exact W.gen, by rw [V.scope]; exact W.co, V.blt, V.glob⟩, fun x => ?_, ⟨m, by rw [V.locals]; exact hns, fun x v e => nomatch lookE_junk (ρ := []) e⟩, by rw [V.locals]; exact hL, fun i hi => absurd hi (Nat.not_lt_zero _), fun x c q => ?_, fun x y c q1 q2 => ?_, fun x q => ?_⟩
  · have ek : env.kindOf x = sc.names.lookup x := by unfold Env.kindOf; rw [V.scope]
    rw [ek]
    cases q : sc.names.lookup x with
    | none => trivial
    | some k =>
      induction k with
      | free => exact nomatch all _ (lookup_mem q)
      | globalExplicit => trivial
      | _ => rfl
  · rw [V.cells] at q
    obtain ⟨q1, q2⟩ := cells_mem q
    obtain ⟨h1, o, v, h2, h3⟩ := hc c q1
    refine ⟨h1, fun i hi => absurd hi (Nat.not_lt_zero _), fun q => ?_, fun q => q2 (V.locals.symm.trans q.symm), o, v, h2, h3⟩
    have : frs [env] = [L] := by simp [frs, V.frame]
    rw [this] at q
    exact q2 (List.mem_singleton.mp q).symm
  · rw [V.cells] at q1 q2
    exact mem_inj (by simp [cellsL]; exact ⟨⟨above (n := 1), above (n := 1 + 1)⟩, above (n := 1)⟩) (lookup_mem q1) (lookup_mem q2)
  · rw [V.cells]
    exact cells_has (all _ (lookup_mem q))
theorem law_run (F : FactsAll C G) {name : Str} {fa : Addr} {cd : Value} {a : Addr} {items : List Value} {xs : List Int} {B : List Stmt} {sc' : Scope} {g : Array GenState} {dr : Drawn} {tk : Tok} {os : OsState} {Q : Flow → Shared → Prop} {E : Value → Shared → Prop}
    (hB : B = srcSs f_law.body) (hsc : sc' = f_law.scope) (hF : Fr C.H L h₁ m) (hL : C.H.get? L = none) (hm : m ("script" : Str) = some (.ref a))
    (hl : C.H.IsList a items.toArray) (hi : IntsAre items xs) (hlen : xs.length ≤ 63)
    (hc : ∀ c ∈ [L + 1, L + 1 + 1, L + 1 + 1 + 1, L + 1 + 1 + 1 + 1], C.H.get? c = none ∧ Y2 fun o v => h₁.get? c = some o ∧ o.data = .cell v)
    (hvm : Y2 fun ρ' σ' => (Od 20 400).exs f_law.scope (f_law.body.drop 1) (assocSet ("pool" : Str) (.ref 1) (junks f_law)) [.list ((xs.take 63).map .int), .list [.ref 0, .int 0, .int (-1), .int 0]] = .ok (.ret (.bool true), ρ') σ')
    (hQ : ∀ h' tk', C.H.StaysIn h' → Q (.ret (.bool true)) ⟨h', g, dr, tk', os⟩) :
    wpAny C.M (callerA.deeper (envOfC name sc' L fa cd)) (execs B (envOfC name sc' L fa cd)) Q E ⟨h₁, g, dr, tk, os⟩ := by
  subst hB hsc
  have hcells : cellsFrom (L + 1) f_law.scope.names [] = cellsL L := by kernel_rfl
  have V : LawEnv (envOfC name f_law.scope L fa cd) f_law.scope L := ⟨rfl, rfl, rfl, hcells, rfl, rfl⟩
  generalize envOfC name f_law.scope L fa cd = env at V
  have WS : LawSc f_law.scope := ⟨by kernel_rfl, by kernel_rfl, by kernel_rfl, by kernel_rfl⟩
  have hpool : f_law.scope.names.lookup ("pool" : Str) = some .cell := by kernel_rfl
  have hscript : f_law.scope.names.lookup ("script" : Str) = some .local := by kernel_rfl
  rw [law_first]
  generalize f_law.body.drop 1 = r at hvm
  generalize f_law.scope = sc at *
  have rm : Room 22 [env] (callerA.deeper env) := by
    refine ⟨rfl, rfl, ?_, ?_⟩
    · show (callerA.depth + 1) + 2 * 22 ≤ 890
      decide +kernel
    · show callerA.units + 3 + 60 * 22 ≤ 9000
      decide +kernel
  have hns := hF.ns
  have st0 : St C [env] (fun _ => 0) [] h₁ := by
    refine ⟨hF.keep, (fun i o e => nomatch e), fun i j hi => absurd hi (Nat.not_lt_zero _), fun i hi => absurd hi (Nat.not_lt_zero _), fun e he => ?_, fun i hi => absurd hi (Nat.not_lt_zero _)⟩
    obtain rfl := List.mem_singleton.mp he
    obtain ⟨o, es, ep, q1, q2, _⟩ := id hns
    exact ⟨(by rw [V.scope, WS.kind]; exact fun q => nomatch q), L, o, es, ep, V.frame, hL, q1, q2⟩
  have er0 := law_er f_law V WS hns hL hc
  have H := top_ok (C := C) F 20
  refine wpAny_execs_cons (wpAny_Assign_stores ?_ (by rfl) (by rfl))
  refine wpAny_List (wpAny_items_cons ?_ (by rfl))
  refine wpAny_Subscript_list_slice ?_
  have hks : env.kindOf ("script" : Str) = some .local := by unfold Env.kindOf; rw [V.scope]; exact hscript
  refine wpAny_Name (wpAny_loadName_local er0.kind hks (by rw [V.locals]; exact hns) hm ?_) (by rfl)
  rw [evalPart_none, evalPart_some]
  have hls : h₁.IsList a items.toArray := hl.at fun o e => hF.keep _ o e
  have hsz : items.toArray.size ≤ sizeLine := by
    rw [List.size_toArray, IntsAre.len hi]
    exact Nat.le_trans hlen (by rw [sizeLine_eq]; decide)
  refine wpAny_pure (wpAny_Constant_int ⟨a, items.toArray, none, some ((63 : Nat) : Int), rfl, hls, hsz, .none, .int _ _, ?_⟩)
  rw [slicePick_upto' items.toArray 63]
  dsimp only
  generalize hsl : ({ cls := .type "slice", data := .fields #[Value.none, .int (Int.ofNat 63) tk, .none] } : Obj) = osl
  have k1 : ∀ b ob, h₁.get? b = some ob → ((h₁.push osl).push { cls := .type "list", data := .seq (items.toArray.toList.take 63).toArray }).get? b = some ob := fun b ob e => push_keeps _ _ b ob (push_keeps _ _ b ob e)
  have hz : (h₁.push osl).objs.size = h₁.objs.size + 1 := Heap.size_push ..
  have hgt : ((h₁.push osl).push { cls := .type "list", data := .seq (items.toArray.toList.take 63).toArray }).get? (h₁.objs.size + 1) = some (W.listOf (items.toArray.toList.take 63).toArray 0) := by
    rw [← hz]; exact Heap.get?_push_size _ rfl
  have hnew : h₁.get? (h₁.objs.size + 1) = none := by
    cases q : h₁.get? (h₁.objs.size + 1) with
    | none => rfl
    | some o => exact absurd (Heap.lt_size q) (Nat.not_lt_of_le (Nat.le_succ _))
  have rel1 : ∀ h α n, RelVs h α n ((xs.take 63).map .int) (items.take 63) := fun h α n => by
    have := (ints_rel (h := h) (α := α) (n := n) hi).take 63
    rwa [← List.map_take] at this
  have st1 : St C [env] (aext (fun _ => 0) 0 (h₁.objs.size + 1)) ([] ++ [VO.list ((xs.take 63).map .int)]) ((h₁.push osl).push { cls := .type "list", data := .seq (items.toArray.toList.take 63).toArray }) := by
    refine st0.alloc k1 hnew ⟨_, 0, hgt, ?_⟩
    simpa using rel1 _ _ _
  have nx1 : Nx noX [env] 0 (fun _ => 0) h₁ 1 (aext (fun _ => 0) 0 (h₁.objs.size + 1)) ((h₁.push osl).push { cls := .type "list", data := .seq (items.toArray.toList.take 63).toArray }) := .alloc k1 hnew
  have er1 := er0.nx st0 nx1
  generalize hh2 : (h₁.push osl).push { cls := .type "list", data := .seq (items.toArray.toList.take 63).toArray } = h2 at k1 st1 nx1 er1 hgt ⊢
  generalize hα1 : aext (fun _ => 0) 0 (h₁.objs.size + 1) = α1 at st1 nx1 er1
  have a0 : α1 0 = h₁.objs.size + 1 := by rw [← hα1]; exact aext_new
  refine (H.evs sc [.const (.int 0) 0 ⟨625, 25, 625, 26⟩, .neg (.const (.int 1) 0 ⟨625, 29, 625, 30⟩) ⟨625, 28, 625, 30⟩, .const (.int 0) 0 ⟨625, 32, 625, 33⟩] ⟨625, 11, 625, 34⟩ env (junks f_law) [.list ((xs.take 63).map .int)]).okay (s := ⟨h2, g, dr, _, os⟩) rm st1 er1 (show _ = Res.ok [.int 0, .int (-1), .int 0] _ from rfl) fun α' vals h' t' st' nx' rel => ?_
  refine ⟨by simp [rel.length]; rw [sizeLine_eq]; decide, ?_⟩
  have er' := er1.nx st1 nx'
  have a0' : α' 0 = h₁.objs.size + 1 := (nx'.ext 0 (Nat.succ_pos _)).trans a0
  have k2 := push_keeps h' { cls := .type "list", data := .seq ((Value.ref (h₁.objs.size + 1)) :: vals).toArray }
  have st2 : St C [env] (aext α' 1 h'.objs.size) ([.list ((xs.take 63).map .int)] ++ [VO.list [.ref 0, .int 0, .int (-1), .int 0]]) (h'.push { cls := .type "list", data := .seq ((Value.ref (h₁.objs.size + 1)) :: vals).toArray }) := by
    refine st'.alloc k2 (fresh_size _) ⟨_, 0, Heap.get?_push_size _ rfl, .cons ?_ (RelVs.keeps (Keeps.of k2) (Nat.le_succ _) aext_old rel)⟩
    have : (Value.ref (h₁.objs.size + 1)) = .ref ((aext α' 1 h'.objs.size) 0) := by rw [aext_old 0 (by decide), a0']
    rw [this]
    exact .ref (Nat.succ_pos _)
  have nx2 : Nx noX [env] 1 α' h' 2 (aext α' 1 h'.objs.size) (h'.push { cls := .type "list", data := .seq ((Value.ref (h₁.objs.size + 1)) :: vals).toArray }) := .alloc k2 (fresh_size _)
  have er2 := er'.nx st' nx2
  show wpAny C.M _ (assign (.Name ("pool" : Str) ⟨625, 4, 625, 8⟩) env (.ref h'.objs.size)) _ E _
  refine wpAny_assign_Name (store_ok (s := ⟨_, g, dr, _, os⟩) st2 er2 relRef_new (.inr hpool) fun h3 t3 st3 er3 nx3 => ?_)
  show wpAny C.M _ (execs (srcSs r) env) Q E _
  obtain ⟨ρ', σ', hv⟩ := hvm
  refine (H.exs sc r env (assocSet ("pool" : Str) (.ref 1) (junks f_law)) [.list ((xs.take 63).map .int), .list [.ref 0, .int 0, .int (-1), .int 0]]).okay (s := ⟨h3, g, dr, t3, os⟩) rm st3 er3 hv fun α'' f h4 t4 st4 nx4 rel => ?_
  obtain ⟨w, rfl, rw'⟩ := fl_inv rel.1
  obtain rfl := rw'.inv
  exact hQ h4 t4 st4.stay
end
end Mine
end
section
set_option genInjectivity false
set_option genSizeOf false
set_option genCtorIdx false
set_option backward.match.sparseCases false
namespace Mine
structure Fc where
  x : Vl
  y : Vl
  h : x = y
structure Tp where
  n : Nat
  fs : List (Fc × Nat)
  l : List Vl
  r : List Vl
noncomputable def Tp.Ok (t : Tp) : Prop := t.l = t.r
inductive XR (α : Type) where
  | ok (a : α) (σ : VH) (t : Tp)
  | exc (i : Nat) (σ : VH) (t : Tp)
  | no
noncomputable def XR.bind {α β : Type} (x : XR α) (f : α → VH → Tp → XR β) : XR β := match x with
  | .ok a σ t => f a σ t
  | .exc i σ t => .exc i σ t
  | .no => .no
noncomputable def XR.tr {α β : Type} (x : XR α) (f : Res α → Tp → XR β) : XR β := match x with
  | .ok a σ t => f (.ok a σ) t
  | .exc i σ t => f (.exc i σ) t
  | .no => .no
noncomputable def XR.lift {α : Type} (r : Res α) (t : Tp) : XR α := match r with
  | .ok a σ => .ok a σ t
  | .exc i σ => .exc i σ t
  | .stuck => .no
noncomputable def taking {α : Type} (t : Tp) (q : Vl) (e : Tp → XR α) (k : Vl → Tp → XR α) : XR α := match t with
  | ⟨n, fs, l, r⟩ => match n with
    | n + 1 => e ⟨n, fs, l, r⟩
    | 0 => match fs with
      | [] => e ⟨0, [], l, r⟩
      | F :: fs => k F.1.y ⟨F.2, fs, q :: l, F.1.x :: r⟩
noncomputable def MT.run {α : Type} (m : MT α) : Tp → XR α := MT.rec (motive := fun α _ => Tp → XR α) XR.lift (fun q _ ih t => taking t q (ih q) ih) (fun _ _ ihm ihk t => (ihm t).bind ihk) (fun _ _ ihm ihk t => (ihm t).tr ihk)
  (fun w u _ m ihm t => taking t (w m.out) ihm fun c t => XR.lift (u c) t) m
noncomputable def Sim {α : Type} (x : XR α) (r : Res α) (t : Tp) : Prop := match x with
  | .ok a σ t' => t'.Ok → t.Ok ∧ r = .ok a σ
  | .exc i σ t' => t'.Ok → t.Ok ∧ r = .exc i σ
  | .no => True
theorem Sim.to {α : Type} {x : XR α} {r r' : Res α} {t t' : Tp} (h : Sim x r t') (k : t'.Ok → t.Ok ∧ r' = r) : Sim x r' t := by
  induction x with
  | no => trivial
  | _ => exact fun z => ⟨(k (h z).1).1, (k (h z).1).2.trans (h z).2⟩
theorem Sim.lift {α : Type} {r : Res α} {t : Tp} : Sim (XR.lift r t) r t := by
  induction r with
  | stuck => trivial
  | _ => exact fun h => ⟨h, rfl⟩
theorem Sim.taking {α : Type} {t : Tp} {q : Vl} {e : Tp → XR α} {k : Vl → Tp → XR α} {κ : Vl → Res α} (he : ∀ t, Sim (e t) (κ q) t) (hk : ∀ c t, Sim (k c t) (κ c) t) : Sim (taking t q e k) (κ q) t := by
  obtain ⟨n, fs, l, r⟩ := t
  induction n with
  | succ n => exact (he _).to fun z => ⟨z, rfl⟩
  | zero =>
    induction fs with
    | nil => exact he _
    | cons F fs => exact (hk _ _).to fun e => ⟨(List.cons.inj e).2, congrArg κ ((List.cons.inj e).1.trans F.1.h)⟩
theorem Sim.after {α β : Type} {x : XR α} {r : Res α} {t : Tp} (h : Sim x r t) {k : Res α → Tp → XR β} {κ : Res α → Res β} (hk : ∀ r t, Sim (k r t) (κ r) t) : Sim (x.tr k) (κ r) t := by
  induction x with
  | no => trivial
  | _ => exact (hk _ _).to fun z => ⟨(h z).1, congrArg κ (h z).2⟩
noncomputable def thn {α β : Type} (k : α → VH → Tp → XR β) (r : Res α) (t : Tp) : XR β := (XR.lift r t).bind k
theorem tr_bind {α β : Type} {x : XR α} {k : α → VH → Tp → XR β} : x.bind k = x.tr (thn k) := by induction x <;> rfl
theorem run_ok {α : Type} (m : MT α) : ∀ t, Sim (m.run t) m.out t := by
  induction m with
  | lift r => exact fun t => .lift
  | ask q k ih => exact fun t => Sim.taking (κ := fun c => (k c).out) (ih q) ih
  | bnd m k ihm ihk =>
    intro t
    show Sim ((m.run t).bind fun a σ => (k a σ).run) (m.out.bind fun a σ => (k a σ).out) t
    rw [tr_bind]
    exact (ihm t).after (κ := fun r => r.bind fun a σ => (k a σ).out) fun r t => by
      induction r with
      | ok a σ => exact ihk a σ t
      | exc i σ => exact fun h => ⟨h, rfl⟩
      | stuck => trivial
  | tr m k ihm ihk => exact fun t => (ihm t).after (κ := fun r => (k r).out) ihk
  | sub w u h m ihm =>
    intro t
    have e : m.out = u (w m.out) := (h _).symm
    have s := Sim.taking (t := t) (q := w m.out) (κ := u) (fun t => e ▸ ihm t) fun c t => Sim.lift (r := u c)
    rw [← e] at s
    exact s
noncomputable def tape (n : Nat) (fs : List (Fc × Nat)) : Tp := ⟨n, fs, [], []⟩
noncomputable def XR.res {α : Type} (x : XR α) : Res α × (List Vl × List Vl) := match x with
  | .ok a σ t => (.ok a σ, t.l, t.r)
  | .exc i σ t => (.exc i σ, t.l, t.r)
  | .no => (.stuck, [], [])
noncomputable def asked (fs : List (Fc × Nat)) : List Vl := fs.foldl (fun l p => p.1.x :: l) []
theorem sim_run {α : Type} {m : MT α} {r' : Res α} {n : Nat} {fs : List (Fc × Nat)} {l : List Vl} (h : (m.run (tape n fs)).res = (r', l, l)) (hr : r' ≠ .stuck) : m.out = r' := by
  have s := run_ok m (tape n fs)
  revert h s
  generalize m.run (tape n fs) = x
  intro h s
  induction x with
  | no => cases h; exact (hr rfl).elim
  | _ =>
    injection h with h1 h2
    injection h2 with h2 h3
    exact (s (h2.trans h3.symm)).2.trans h1
theorem walk {d : Nat} {f : Addr} {as : List VV} {σ τ : VH} {v : VV} {fs : List (Fc × Nat)} {n : Nat} (h : ((tcallD d f as σ).run (tape n fs)).res = (.ok v τ, asked fs, asked fs)) : callD G noSpec d f as σ = .ok v τ := sim_run h fun z => nomatch z
theorem walkX {d : Nat} {f : Addr} {as : List VV} {σ τ : VH} {i : Nat} {fs : List (Fc × Nat)} {n : Nat} (h : ((tcallD d f as σ).run (tape n fs)).res = (.exc i τ, asked fs, asked fs)) : callD G noSpec d f as σ = .exc i τ := sim_run h fun z => nomatch z
theorem walkE {d n : Nat} {sc : Scope} {ss : List XS} {ρ : VE} {σ τ : VH} {p : VF × VE} {fs : List (Fc × Nat)} {k : Nat} (h : (((Td d n).exs sc ss ρ σ).run (tape k fs)).res = (.ok p τ, asked fs, asked fs)) : (Od d n).exs sc ss ρ σ = .ok p τ := sim_run h fun z => nomatch z
theorem walkEX {d n : Nat} {sc : Scope} {ss : List XS} {ρ : VE} {σ τ : VH} {i : Nat} {fs : List (Fc × Nat)} {k : Nat} (h : (((Td d n).exs sc ss ρ σ).run (tape k fs)).res = (.exc i τ, asked fs, asked fs)) : (Od d n).exs sc ss ρ σ = .exc i τ := sim_run h fun z => nomatch z
theorem walkL {d n : Nat} {sc : Scope} {y : Str} {i : It} {b : List XS} {ρ : VE} {σ τ : VH} {p : VF × VE} {fs : List (Fc × Nat)} {k : Nat} (h : (((Td d n).loop sc y i b ρ σ).run (tape k fs)).res = (.ok p τ, asked fs, asked fs)) : (Od d n).loop sc y i b ρ σ = .ok p τ := sim_run h fun z => nomatch z
theorem walkW {d n : Nat} {sc : Scope} {c : XE} {b : List XS} {ρ : VE} {σ τ : VH} {p : VF × VE} {fs : List (Fc × Nat)} {k : Nat} (h : (((Td d n).whl sc c b ρ σ).run (tape k fs)).res = (.ok p τ, asked fs, asked fs)) : (Od d n).whl sc c b ρ σ = .ok p τ := sim_run h fun z => nomatch z
theorem walkC {d n : Nat} {sc : Scope} {c : XE} {ρ : VE} {σ τ : VH} {q : Bool} {fs : List (Fc × Nat)} {k : Nat} (h : (((Td d n).cd sc c ρ σ).run (tape k fs)).res = (.ok q τ, asked fs, asked fs)) : (Od d n).cd sc c ρ σ = .ok q τ := sim_run h fun z => nomatch z
noncomputable def Fc.B {a b : Bool} (h : a = b) : Fc := ⟨.b a, .b b, congrArg _ h⟩
noncomputable def Fc.V {a b : Option VV} (h : a = b) : Fc := ⟨.v a, .v b, congrArg _ h⟩
noncomputable def Fc.O {a b : Option VO} (h : a = b) : Fc := ⟨.o a, .o b, congrArg _ h⟩
noncomputable def Fc.T {a b : List VO} (h : a = b) : Fc := ⟨.t a, .t b, congrArg _ h⟩
noncomputable def Fc.Q {a b : Option Bool} (h : a = b) : Fc := ⟨.q a, .q b, congrArg _ h⟩
noncomputable def Fc.W {a b : Option BR} (h : a = b) : Fc := ⟨.w a, .w b, congrArg _ h⟩
noncomputable def Fc.G {a b : Option String} (h : a = b) : Fc := ⟨.g a, .g b, congrArg _ h⟩
noncomputable def Fc.R {a b : Res VV} (h : a = b) : Fc := ⟨.r a, .r b, congrArg _ h⟩
noncomputable def Fc.F {a b : Res (VF × VE)} (h : a = b) : Fc := ⟨.f a, .f b, congrArg _ h⟩
noncomputable def Fc.U {a b : Res Unit} (h : a = b) : Fc := ⟨.u a, .u b, congrArg _ h⟩
end Mine
end
section
set_option genInjectivity false
set_option genSizeOf false
set_option genCtorIdx false
set_option backward.match.sparseCases false
namespace Mine
noncomputable def anOf (k : Nat) : List Str → List (Str × VV)
  | [] => []
  | t :: r => (t, .int (Int.ofNat k)) :: anOf (k + 1) r
noncomputable def fnV (p : Nat × Nat) : VV := .tup [.int (Int.ofNat p.1), .int (Int.ofNat p.2)]
noncomputable def fnOf (k : Nat) : List (Nat × Nat) → List (List Int × VV)
  | [] => []
  | p :: r => ([Int.ofNat p.1, Int.ofNat p.2], .int (Int.ofNat k)) :: fnOf (k + 1) r
noncomputable def anD : List Str → VO
  | [] => .edict
  | t :: r => .sdict (anOf 0 (t :: r))
noncomputable def fnD : List (Nat × Nat) → VO
  | [] => .edict
  | t :: r => .tdict (fnOf 0 (t :: r))
noncomputable def symA : VO := .attrs [("texts", .ref 4), ("atom_numbers", .ref 5), ("functors", .ref 6), ("functor_numbers", .ref 7)]
structure Sy where
  tx : List Str
  fn : List (Nat × Nat)
noncomputable def mkS (a b : VO) (y : Sy) (R : List VO) : VH :=
  a :: b :: symA :: .inst 154 2 false :: .list (y.tx.map .str) :: anD y.tx :: .list (y.fn.map fnV) :: fnD y.fn :: R
structure MS where
  X : List VV
  pa : Int
  pi : Int
  pc : Int
  ins : List (Int × VV)
  outs : List (Int × VV)
  ci : Int
  co : Int
  nn : Int
  al : VO
  hp : List VV
  xs : List VV
noncomputable abbrev cell (t : Int) (v : Int) : VV := .tup [.int t, .int v]
noncomputable def objs (m : MS) (T : List VO) : List VO :=
  .attrs [("inputs", .ref 10), ("outputs", .ref 13), ("current_input", .int m.ci), ("current_output", .int m.co), ("files", .ref 15), ("aliases", .ref 16), ("actions", .ref 17), ("past", .ref 18), ("next_number", .int m.nn)] :: .inst 562 8 false ::
  .idict m.ins :: .list [] :: .list [.ref 11, .int 0] :: .idict m.outs :: .list [] :: .edict :: m.al :: .edict :: .edict ::
  .attrs [("symbols", .ref 3), ("code", .ref 21), ("max_heap", .int 100000), ("occurs", .bool true), ("max_bits", .int 4096), ("store", .ref 23), ("x", .ref 27), ("p", .int 0), ("cp", .int 0), ("e", .int (-1)), ("b", .int (-1)), ("b0", .int (-1)), ("mode", .str "read"), ("s", .int 0), ("guard", cell 5 0), ("roots", .ref 28), ("bags", .ref 29), ("collect_wanted", .bool false), ("database", .ref 31)] :: .inst 766 19 false ::
  .list [] ::
  .attrs [("symbols", .ref 3), ("max_heap", .int 100000), ("heap", .ref 24), ("stack", .ref 25), ("trail", .ref 26), ("hb", .int 0), ("bb", .int 0)] :: .inst 409 22 false ::
  .list m.hp :: .list [] :: .list [] :: .list m.xs :: .list [] :: .edict ::
  .attrs [("streams", .ref 9), ("operators", .none), ("flags", .none)] :: .inst 745 30 false :: T
noncomputable def mk (m : MS) (y : Sy) (T : List VO) : VH := mkS (.list m.X) (.list [.ref 0, .int m.pa, .int m.pi, .int m.pc]) y (objs m T)
noncomputable def m0 (X : List VV) : MS := { X := X, pa := 0, pi := -1, pc := 0, ins := [(0, .ref 12)], outs := [(0, .ref 14)], ci := 0, co := 0, nn := 1, al := .edict, hp := [], xs := [cell 5 0] }
end Mine
end
section
set_option backward.match.sparseCases false
namespace Mine
theorem okLen_iff {n : Nat} : okLen n = true ↔ n ≤ 16000000 := by unfold okLen; simp [Nat.ble_eq]
theorem idx_ok {i n : Nat} (h : i < n) (hn : n ≤ 1000000) : idxV (.ofNat i) n = some i := by
  have e1 : Nat.blt i n = true := by simpa using h
  show (if (Nat.blt i n && okLen i) = true then some i else none) = some i
  rw [if_pos]
  simp only [Bool.and_eq_true]
  exact ⟨e1, okLen_iff.mpr (by lia)⟩
theorem oget_list {xs : List VV} {i : Nat} {v : VV} (h : xs[i]? = some v) (hl : xs.length ≤ 1000000) : oget (.list xs) (.int (Int.ofNat i)) = some v := by
  show lget xs _ = _
  unfold lget
  rw [idx_ok (List.getElem?_eq_some_iff.mp h).1 hl]; exact h
noncomputable def Solid (c : VV) : Prop := Y2 fun t v : Int => C3 (c = cell t v) (t ≠ 0) (t ≠ 1)
noncomputable def IsVar (hp : List VV) (c : VV) : Prop := ∃ z : Nat, c = cell 0 (Int.ofNat z) ∧ hp[z]? = some c
section
variable {a b : VO} {m : MS} {y : Sy} {T R : List VO} {d : Nat} {σ : VH}
theorem text_run (t : Str) (n : Nat) (h : y.tx[n]? = some t) (hl : y.tx.length ≤ 1000000) : callD G noSpec (d + 1) 95 [.ref 3, .int (Int.ofNat n)] (mkS a b y R) = .ok (.str t) (mkS a b y R) :=
  walk (n := 0) (fs := [(.V (oget_list (xs := y.tx.map .str) (i := n) (v := .str t) (by simp [h]) (by simpa using hl)), 0)]) (by kernel_rfl)
theorem ne_int {i j : Int} (h : i ≠ j) : some (decide (i = j)) = some false := by rw [decide_eq_false h]
theorem eqW_cell (σ : VH) (t v : Int) : eqW σ (cell t v) (cell t v) = some true := by
  have : eqW σ (cell t v) (cell t v) = some (((decide (t = t)) && ((decide (v = v)) && true)) && true) := by kernel_rfl
  rw [this]; simp
theorem deref_run {c : VV} (hl : m.hp.length ≤ 1000000) (h : Solid c ∨ IsVar m.hp c) : callD G noSpec (d + 1) 258 [.ref 23, c] (mk m y T) = .ok c (mk m y T) := by
  rcases h with ⟨t, v, rfl, h0, h1⟩ | ⟨z, rfl, h⟩
  · exact walk (n := 1) (fs := [(.Q (ne_int h0), 0), (.Q (ne_int h1), 0)]) (by kernel_rfl)
  · exact walk (n := 2) (fs := [(.V (oget_list h hl), 0), (.Q (eqW_cell (mk m y T) 0 (Int.ofNat z)), 0)]) (by kernel_rfl)
end
end Mine
end
section
set_option backward.match.sparseCases false
namespace Mine
noncomputable def tx0 : List Str := ["[]", ".", "{}", "-", "+", "*", "/", ",", "|", ";", "->", "\\+", ":-", "?-", "-->", "!", "true", "fail", "false", "call", "=", "^", "error", "", "end_of_file", "system", "$VAR", "catch", "throw"]
noncomputable def fn0 : List (Nat × Nat) := [(1, 2), (7, 2), (9, 2), (10, 2), (11, 1), (12, 2), (12, 1), (13, 1), (14, 2), (2, 1), (20, 2), (21, 2), (3, 1), (3, 2), (4, 2), (6, 2), (22, 2), (26, 1), (27, 3), (28, 1), (15, 0), (16, 0), (17, 0), (18, 0), (19, 1), (19, 2), (19, 3), (19, 4), (19, 5), (19, 6), (19, 7), (19, 8)]
noncomputable def y0 : Sy := ⟨tx0, fn0⟩
theorem anOf_get {t : Str} {v : VV} : ∀ {k : Nat} {tx : List Str}, assocGet t (anOf k tx) = some v → ∃ i, v = .int (Int.ofNat (k + i)) ∧ tx[i]? = some t := by
  intro k tx h
  induction tx generalizing k with
  | nil => exact nn h
  | cons y r ih =>
    by_cases q : y = t
    · cases (if_pos q).symm.trans h
      exact ⟨0, rfl, congrArg some q⟩
    · obtain ⟨i, e1, e2⟩ := ih ((if_neg q).symm.trans h)
      exact ⟨i + 1, by rw [e1]; congr 2; exact Nat.add_right_comm _ _ _, e2⟩
theorem anOf_none {t : Str} : ∀ {k : Nat} {tx : List Str}, assocGet t (anOf k tx) = none → t ∉ tx ∧ ∀ v, assocSet t v (anOf k tx) = anOf k tx ++ [(t, v)] := by
  intro k tx h
  induction tx generalizing k with
  | nil => exact ⟨List.not_mem_nil, fun v => rfl⟩
  | cons y r ih =>
    by_cases q : y = t
    · cases (if_pos q).symm.trans h
    · obtain ⟨e1, e2⟩ := ih ((if_neg q).symm.trans h)
      refine ⟨fun z => ?_, fun v => (if_neg q).trans (congrArg _ (e2 v))⟩
      cases z with
      | head => exact q rfl
      | tail _ z => exact e1 z
theorem anOf_snoc {t : Str} {k : Nat} {tx : List Str} : anOf k (tx ++ [t]) = anOf k tx ++ [(t, .int (Int.ofNat (k + tx.length)))] := by
  induction tx generalizing k with
  | nil => rfl
  | cons y r ih =>
    refine congrArg (List.cons _) (ih.trans ?_)
    congr 5
    show k + 1 + r.length = k + (r.length + 1)
    exact Nat.add_right_comm _ _ _
theorem fnOf_get {p : Nat × Nat} {v : VV} {k : Nat} {fn : List (Nat × Nat)} : assocGet [Int.ofNat p.1, Int.ofNat p.2] (fnOf k fn) = some v → ∃ i, v = .int (Int.ofNat (k + i)) ∧ fn[i]? = some p := by
  intro h
  induction fn generalizing k with
  | nil => exact nn h
  | cons y r ih =>
    by_cases q : [Int.ofNat y.1, Int.ofNat y.2] = [Int.ofNat p.1, Int.ofNat p.2]
    · cases (if_pos q).symm.trans h
      refine ⟨0, rfl, congrArg some ?_⟩
      injection q with q1 q2
      injection q2 with q2
      exact Prod.ext (Int.ofNat.inj q1) (Int.ofNat.inj q2)
    · obtain ⟨i, e1, e2⟩ := ih ((if_neg q).symm.trans h)
      exact ⟨i + 1, by rw [e1]; congr 2; exact Nat.add_right_comm _ _ _, e2⟩
theorem fnOf_none {p : Nat × Nat} {k : Nat} {fn : List (Nat × Nat)} : assocGet [Int.ofNat p.1, Int.ofNat p.2] (fnOf k fn) = none → p ∉ fn ∧ ∀ v, assocSet [Int.ofNat p.1, Int.ofNat p.2] v (fnOf k fn) = fnOf k fn ++ [([Int.ofNat p.1, Int.ofNat p.2], v)] := by
  intro h
  induction fn generalizing k with
  | nil => exact ⟨List.not_mem_nil, fun v => rfl⟩
  | cons y r ih =>
    by_cases q : [Int.ofNat y.1, Int.ofNat y.2] = [Int.ofNat p.1, Int.ofNat p.2]
    · cases (if_pos q).symm.trans h
    · obtain ⟨e1, e2⟩ := ih ((if_neg q).symm.trans h)
      refine ⟨fun z => ?_, fun v => (if_neg q).trans (congrArg _ (e2 v))⟩
      cases z with
      | head => exact q rfl
      | tail _ z => exact e1 z
theorem fnOf_snoc {t : Nat × Nat} {k : Nat} {tx : List (Nat × Nat)} : fnOf k (tx ++ [t]) = fnOf k tx ++ [([Int.ofNat t.1, Int.ofNat t.2], .int (Int.ofNat (k + tx.length)))] := by
  induction tx generalizing k with
  | nil => rfl
  | cons y r ih =>
    refine congrArg (List.cons _) (ih.trans ?_)
    congr 5
    show k + 1 + r.length = k + (r.length + 1)
    exact Nat.add_right_comm _ _ _
theorem anOf_len {k : Nat} {tx : List Str} : (anOf k tx).length = tx.length := by
  induction tx generalizing k with
  | nil => rfl
  | cons y r ih => exact congrArg (· + 1) ih
theorem fnOf_len {k : Nat} {tx : List (Nat × Nat)} : (fnOf k tx).length = tx.length := by
  induction tx generalizing k with
  | nil => rfl
  | cons y r ih => exact congrArg (· + 1) ih
theorem an_mth (tx : List Str) : mthId (anD tx) "get" = some "dict.get" := by induction tx <;> kernel_rfl
theorem fn_mth (tx : List (Nat × Nat)) : mthId (fnD tx) "get" = some "dict.get" := by induction tx <;> kernel_rfl
theorem an_get (tx : List Str) (t : Str) (d : VV) {q : Option VV} (e : assocGet t (anOf 0 tx) = q) : omth "dict.get" (anD tx) [.str t, d] = some (.v (q.getD d)) := by
  subst e; induction tx <;> rfl
theorem fn_get (fn : List (Nat × Nat)) (x k : Nat) (d : VV) {q : Option VV} (e : assocGet [Int.ofNat x, Int.ofNat k] (fnOf 0 fn) = q) : omth "dict.get" (fnD fn) [.tup [.int (Int.ofNat x), .int (Int.ofNat k)], d] = some (.v (q.getD d)) := by
  subst e; induction fn <;> rfl
theorem an_set (tx : List Str) (t : Str) (hl : tx.length ≤ 1000000) (e : assocGet t (anOf 0 tx) = none) : oset (anD tx) (.str t) (.int (Int.ofNat tx.length)) = some (anD (tx ++ [t])) := by
  have h : oset (anD tx) (.str t) (.int (Int.ofNat tx.length)) = if okLen (anOf 0 tx).length = true then some (.sdict (assocSet t (.int (Int.ofNat tx.length)) (anOf 0 tx))) else none := by induction tx <;> rfl
  rw [h, anOf_len, if_pos (okLen_iff.mpr (by exact Nat.le_trans (by assumption) (by decide))), (anOf_none e).2]
  have e2 := anOf_snoc (t := t) (k := 0) (tx := tx)
  rw [Nat.zero_add] at e2
  rw [← e2]
  induction tx <;> rfl
theorem fn_set (fn : List (Nat × Nat)) (x k : Nat) (hl : fn.length ≤ 1000000) (e : assocGet [Int.ofNat x, Int.ofNat k] (fnOf 0 fn) = none) : oset (fnD fn) (.tup [.int (Int.ofNat x), .int (Int.ofNat k)]) (.int (Int.ofNat fn.length)) = some (fnD (fn ++ [(x, k)])) := by
  have h : oset (fnD fn) (.tup [.int (Int.ofNat x), .int (Int.ofNat k)]) (.int (Int.ofNat fn.length)) = if okLen (fnOf 0 fn).length = true then some (.tdict (assocSet [Int.ofNat x, Int.ofNat k] (.int (Int.ofNat fn.length)) (fnOf 0 fn))) else none := by induction fn <;> rfl
  rw [h, fnOf_len, if_pos (okLen_iff.mpr (by exact Nat.le_trans (by assumption) (by decide))), (fnOf_none (p := (x, k)) e).2]
  have e2 := fnOf_snoc (t := (x, k)) (k := 0) (tx := fn)
  rw [Nat.zero_add] at e2
  rw [← e2]
  induction fn <;> rfl
theorem len_l {xs : List VV} {n : Nat} (e : xs.length = n) (h : n ≤ 1000000) : blt1 (.builtin "len") (.list xs) = some (.v (.int (Int.ofNat n))) := by
  subst e
  exact if_pos (okLen_iff.mpr (by exact Nat.le_trans (by assumption) (by decide)))
theorem app_l {xs ys : List VV} {v : VV} (e : xs ++ [v] = ys) (h : xs.length ≤ 1000000) : omth "list.append" (.list xs) [v] = some (.o .none (.list ys)) := by
  subst e
  exact congrArg (Option.map _) (if_pos (okLen_iff.mpr (by exact Nat.le_trans (by assumption) (by decide))))
section
variable {a b : VO} {y : Sy} {T R : List VO} {d : Nat}
theorem atom_run (t : Str) (hl : y.tx.length ≤ 1000000) : (∃ n, callD G noSpec (d + 1) 88 [.ref 3, .str t] (mkS a b y R) = .ok (.int (Int.ofNat n)) (mkS a b y R) ∧ y.tx[n]? = some t) ∨
    (t ∉ y.tx ∧ callD G noSpec (d + 1) 88 [.ref 3, .str t] (mkS a b y R) = .ok (.int (Int.ofNat y.tx.length)) (mkS a b ⟨y.tx ++ [t], y.fn⟩ R)) := by
  cases h : assocGet t (anOf 0 y.tx) with
  | some v =>
    refine cps fun G k_ => ?_
    obtain ⟨i, rfl, e⟩ := anOf_get h
    refine k_ ?_
    rw [Nat.zero_add] at h
    exact .inl ⟨i, walk (n := 0) (fs := [(.G (an_mth y.tx), 0), (.W (an_get y.tx t (.int (-1)) h), 9)]) (by kernel_rfl), e⟩
  | none =>
    exact .inr ⟨(anOf_none h).1, walk (n := 0) (fs := [(.G (an_mth y.tx), 0), (.W (an_get y.tx t (.int (-1)) h), 1), (.W (len_l (xs := y.tx.map .str) (n := y.tx.length) (by simp) hl), 1),
      (.W (app_l (xs := y.tx.map .str) (v := .str t) (ys := (y.tx ++ [t]).map .str) (by simp) (by simpa using hl)), 0), (.O (an_set y.tx t hl h), 9)]) (by kernel_rfl)⟩
theorem functor_run (x k : Nat) (hl : y.fn.length ≤ 1000000) : (∃ n, callD G noSpec (d + 1) 102 [.ref 3, .int (Int.ofNat x), .int (Int.ofNat k)] (mkS a b y R) = .ok (.int (Int.ofNat n)) (mkS a b y R) ∧ y.fn[n]? = some (x, k)) ∨
    ((x, k) ∉ y.fn ∧ callD G noSpec (d + 1) 102 [.ref 3, .int (Int.ofNat x), .int (Int.ofNat k)] (mkS a b y R) = .ok (.int (Int.ofNat y.fn.length)) (mkS a b ⟨y.tx, y.fn ++ [(x, k)]⟩ R)) := by
  cases h : assocGet [Int.ofNat x, Int.ofNat k] (fnOf 0 y.fn) with
  | some v =>
    refine cps fun G k_ => ?_
    obtain ⟨i, rfl, e⟩ := fnOf_get (p := (x, k)) h
    refine k_ ?_
    rw [Nat.zero_add] at h
    exact .inl ⟨i, walk (n := 0) (fs := [(.G (fn_mth y.fn), 0), (.W (fn_get y.fn x k (.int (-1)) h), 9)]) (by kernel_rfl), e⟩
  | none =>
    exact .inr ⟨(fnOf_none (p := (x, k)) h).1, walk (n := 0) (fs := [(.G (fn_mth y.fn), 0), (.W (fn_get y.fn x k (.int (-1)) h), 1), (.W (len_l (xs := y.fn.map fnV) (n := y.fn.length) (by simp) hl), 1),
      (.W (app_l (xs := y.fn.map fnV) (v := fnV (x, k)) (ys := (y.fn ++ [(x, k)]).map fnV) (by simp) (by simpa using hl)), 0), (.O (fn_set y.fn x k hl h), 9)]) (by kernel_rfl)⟩
theorem name_run (x k n : Nat) (h : y.fn[n]? = some (x, k)) (hl : y.fn.length ≤ 1000000) : callD G noSpec (d + 1) 116 [.ref 3, .int (Int.ofNat n)] (mkS a b y R) = .ok (.int (Int.ofNat x)) (mkS a b y R) :=
  walk (n := 0) (fs := [(.V (oget_list (xs := y.fn.map fnV) (i := n) (v := fnV (x, k)) (by simp [h]) (by simpa using hl)), 0)]) (by kernel_rfl)
theorem arity_run (x k n : Nat) (h : y.fn[n]? = some (x, k)) (hl : y.fn.length ≤ 1000000) : callD G noSpec (d + 1) 123 [.ref 3, .int (Int.ofNat n)] (mkS a b y R) = .ok (.int (Int.ofNat k)) (mkS a b y R) :=
  walk (n := 0) (fs := [(.V (oget_list (xs := y.fn.map fnV) (i := n) (v := fnV (x, k)) (by simp [h]) (by simpa using hl)), 0)]) (by kernel_rfl)
end
end Mine
end
section
set_option backward.match.sparseCases false
namespace Mine
structure Ext (c : Nat) (y z : Sy) : Prop where
  tx : ∃ l, z.tx = y.tx ++ l
  fn : ∃ l, z.fn = y.fn ++ l
  lt : z.tx.length ≤ y.tx.length + c
  lf : z.fn.length ≤ y.fn.length + c
  nt : y.tx.Nodup → z.tx.Nodup
  nf : y.fn.Nodup → z.fn.Nodup
theorem Ext.refl (y : Sy) : Ext 0 y y := ⟨⟨[], by simp⟩, ⟨[], by simp⟩, Nat.le_refl _, Nat.le_refl _, id, id⟩
theorem Ext.trans {c c' : Nat} {x y z : Sy} (p : Ext c x y) (q : Ext c' y z) : Ext (c + c') x z := by
  obtain ⟨l1, e1⟩ := p.tx; obtain ⟨l2, e2⟩ := q.tx
  obtain ⟨k1, g1⟩ := p.fn; obtain ⟨k2, g2⟩ := q.fn
  refine ⟨⟨l1 ++ l2, by rw [e2, e1, List.append_assoc]⟩, ⟨k1 ++ k2, by rw [g2, g1, List.append_assoc]⟩, ?_, ?_, fun h => q.nt (p.nt h), fun h => q.nf (p.nf h)⟩
  · have := p.lt; have := q.lt; lia
  · have := p.lf; have := q.lf; lia
theorem Ext.le {c c' : Nat} {x y : Sy} (p : Ext c x y) (h : c ≤ c') : Ext c' x y := ⟨p.tx, p.fn, Nat.le_trans p.lt (Nat.add_le_add_left h _), Nat.le_trans p.lf (Nat.add_le_add_left h _), p.nt, p.nf⟩
theorem Ext.at {c : Nat} {x y : Sy} (p : Ext c x y) {n : Nat} {t : Str} (h : x.tx[n]? = some t) : y.tx[n]? = some t := by
  obtain ⟨l, e⟩ := p.tx
  rw [e, List.getElem?_append_left (List.getElem?_eq_some_iff.mp h).1]; exact h
theorem Ext.fa {c : Nat} {x y : Sy} (p : Ext c x y) {n : Nat} {t : Nat × Nat} (h : x.fn[n]? = some t) : y.fn[n]? = some t := by
  obtain ⟨l, e⟩ := p.fn
  rw [e, List.getElem?_append_left (List.getElem?_eq_some_iff.mp h).1]; exact h
noncomputable def Rm (c : Nat) (y : Sy) : Prop := y.tx.length + c ≤ 900000 ∧ y.fn.length + c ≤ 900000
theorem Rm.t {c y} (h : Rm c y) : y.tx.length ≤ 1000000 := Nat.le_trans (Nat.le_add_right _ c) (Nat.le_trans h.1 (by decide))
theorem Rm.f {c y} (h : Rm c y) : y.fn.length ≤ 1000000 := Nat.le_trans (Nat.le_add_right _ c) (Nat.le_trans h.2 (by decide))
theorem Rm.ext {c c' y z} (h : Rm c y) (p : Ext c' y z) {c'' : Nat} (hc : c' + c'' ≤ c) : Rm c'' z := ⟨by have := h.1; have := p.lt; lia, by have := h.2; have := p.lf; lia⟩
theorem Rm.le {c c' y} (h : Rm c y) (hc : c' ≤ c) : Rm c' y := ⟨by have := h.1; lia, by have := h.2; lia⟩
theorem nodup_snoc {α : Type} {l : List α} {x : α} (h : l.Nodup) (hx : x ∉ l) : (l ++ [x]).Nodup := by
  rw [List.nodup_append]
  refine ⟨h, by simp, fun u hu v hv => ?_⟩
  simp at hv
  subst hv
  exact fun q => hx (q ▸ hu)
section
variable {y : Sy} {d : Nat}
theorem atomM (m : MS) (T : List VO) (t : Str) (hs : y.tx.length ≤ 1000000) : Y2 fun n z => C3 (callD G noSpec (d + 1) 88 [.ref 3, .str t] (mk m y T) = .ok (.int (Int.ofNat n)) (mk m z T)) (Ext 1 y z) (z.tx[n]? = some t) := by
  rcases atom_run (d := d) t hs with ⟨n, e, h⟩ | ⟨h, e⟩
  · exact ⟨n, y, e, (Ext.refl y).le (by decide), h⟩
  · exact ⟨y.tx.length, ⟨y.tx ++ [t], y.fn⟩, e, ⟨⟨[t], rfl⟩, ⟨[], by simp⟩, by simp, by simp, fun q => nodup_snoc q h, id⟩, by simp⟩
theorem functorM (m : MS) (T : List VO) (x k : Nat) (hs : y.fn.length ≤ 1000000) : Y2 fun n z => C3 (callD G noSpec (d + 1) 102 [.ref 3, .int (Int.ofNat x), .int (Int.ofNat k)] (mk m y T) = .ok (.int (Int.ofNat n)) (mk m z T)) (Ext 1 y z) (z.fn[n]? = some (x, k)) := by
  rcases functor_run (d := d) x k hs with ⟨n, e, h⟩ | ⟨h, e⟩
  · exact ⟨n, y, e, (Ext.refl y).le (by decide), h⟩
  · exact ⟨y.fn.length, ⟨y.tx, y.fn ++ [(x, k)]⟩, e, ⟨⟨[], by simp⟩, ⟨[(x, k)], rfl⟩, by simp, by simp, id, fun q => nodup_snoc q h⟩, by simp⟩
theorem funcM (m : MS) (T : List VO) (t : Str) (k : Nat) (hs : Rm 2 y) : Y3 fun n x z => C4 (callD G noSpec (d + 2) 109 [.ref 3, .str t, .int (Int.ofNat k)] (mk m y T) = .ok (.int (Int.ofNat n)) (mk m z T)) (Ext 2 y z) (z.tx[x]? = some t) (z.fn[n]? = some (x, k)) := by
  obtain ⟨x, z1, e1, p1, h1⟩ := atomM (d := d) m T t hs.t
  obtain ⟨n, z2, e2, p2, h2⟩ := functorM (d := d) m T x k (hs.ext p1 (c'' := 1) (by decide)).f
  exact ⟨n, x, z2, walk (n := 2) (fs := [(.R e1, 0), (.R e2, 0)]) (by kernel_rfl), p1.trans p2, p2.at h1, h2⟩
noncomputable def ballOf (formal : VV) : VV := .tup [.str "s", .int 16, .tup [formal, .tup [.str "a", .int 25]]]
noncomputable def errT (T : List VO) (b : VV) : List VO := T ++ [.inst 51 (T.length + 33) true, .attrs [("ball", b)]]
theorem last_get (T : List VO) (o : VO) : (T ++ [o])[T.length]? = some o := by simp
theorem last_set (T : List VO) (o o' : VO) : (T ++ [o]).set T.length o' = T ++ [o'] := by simp
theorem inst_error_run (m : MS) (T : List VO) (hs : Rm 1 y) : Y2 fun n z => C3 (callD G noSpec (d + 2) 179 [.ref 3] (mk m y T) = .ok (.ref (T.length + 32)) (mk m z (errT T (ballOf (.tup [.str "a", .int (Int.ofNat n)]))))) (Ext 1 y z) (z.tx[n]? = some ("instantiation_error" : Str)) := by
  obtain ⟨n, z, e, p, h⟩ := atomM (d := d) m T "instantiation_error" hs.t
  exact ⟨n, z, walk (n := 1) (fs := [(.R e, 9)]) (by kernel_rfl), p, h⟩
theorem formal_run (m : MS) (T : List VO) (nm kd : Str) (c : List VV) (hs : Rm 3 y) : Y4 fun f x k z => C5 (callD G noSpec (d + 3) 172 [.ref 3, .str nm, .tup [.str kd, .tup c]] (mk m y T) = .ok (.tup [.str "s", .int (Int.ofNat f), .tup [.tup [.str "a", .int (Int.ofNat k)], .tup c]]) (mk m z (T ++ [.list [.tup [.str "a", .int (Int.ofNat k)], .tup c]])))
    (Ext 3 y z) (z.tx[x]? = some nm) (z.fn[f]? = some (x, 2)) (z.tx[k]? = some kd) := by
  obtain ⟨k, z1, e1, p1, h1⟩ := atomM (d := d + 1) m (T ++ [.list []]) kd hs.t
  obtain ⟨f, x, z2, e2, p2, h2, h3⟩ := funcM (d := d) m (T ++ [.list [.tup [.str "a", .int (Int.ofNat k)], .tup c]]) nm 2 (hs.ext p1 (c'' := 2) (by decide))
  exact ⟨f, x, k, z2, walk (n := 1) (fs := [(.O (last_get T (.list [])), 2), (.R e1, 0), (.O (last_get T (.list [])), 1), (.T (last_set T (.list []) (.list [.tup [.str "a", .int (Int.ofNat k)]])), 1), (.O (last_get T (.list [.tup [.str "a", .int (Int.ofNat k)]])), 1), (.O (last_get T (.list [.tup [.str "a", .int (Int.ofNat k)]])), 1),
    (.T (last_set T (.list [.tup [.str "a", .int (Int.ofNat k)]]) (.list [.tup [.str "a", .int (Int.ofNat k)], .tup c])), 2), (.O (last_get T (.list [.tup [.str "a", .int (Int.ofNat k)], .tup c])), 1), (.R e2, 0), (.O (last_get T (.list [.tup [.str "a", .int (Int.ofNat k)], .tup c])), 9)]) (by kernel_rfl), p1.trans p2, h2, h3, p2.at h1⟩
end
end Mine
end
section
set_option backward.match.sparseCases false
set_option genInjectivity false
set_option genSizeOf false
set_option genCtorIdx false
namespace Mine
noncomputable def stAt (l : List XS) (i : Nat) : XS := l.getD i dumS
noncomputable def bodyOf : XS → List XS
  | .for _ _ _ b _ => b
  | .whl _ b _ => b
  | .ite _ b _ _ => b
  | _ => []
noncomputable def condOf : XS → XE
  | .whl c _ _ => c
  | .ite c _ _ _ => c
  | _ => dumE
noncomputable abbrev c0 (L : Nat) : VV := cell 0 (Int.ofNat L)
set_option genCtorIdx true in
inductive Itm where
  | atom (n : Int)
  | num (z : Int)
  | var (v : Int)
  | lis (as : List VV)
  | str (f : Nat) (as : List VV)
noncomputable def Itm.val : Itm → VV
  | .atom n => .tup [.str "a", .int n]
  | .num z => .tup [.str "i", .int z]
  | .var v => .tup [.str "v", .int v]
  | .lis as => .tup [.str "s", .int 0, .tup as]
  | .str f as => .tup [.str "s", .int (Int.ofNat f), .tup as]
structure PS where
  hp : List VV
  es : List (Int × VV)
  w : List VV
noncomputable abbrev Wt (h : Nat) (as : List VV) : VV := .tup [.int (Int.ofNat h), .tup as]
noncomputable def putV (p : Nat) (s : PS) (v : Int) : Option VV → PS
  | some c => { s with hp := s.hp.set p c }
  | none => { s with es := assocSet v (c0 p) s.es }
noncomputable def putI (p : Nat) (s : PS) : Itm → PS
  | .atom n => { s with hp := s.hp.set p (cell 4 n) }
  | .num z => { s with hp := s.hp.set p (cell 5 z) }
  | .var v => putV p s v (assocGet v s.es)
  | .lis as => { s with hp := (s.hp ++ [c0 s.hp.length, c0 (s.hp.length + 1)]).set p (cell 3 (Int.ofNat s.hp.length)), w := s.w ++ [Wt s.hp.length as] }
  | .str f as => { s with hp := (s.hp ++ [cell 6 (Int.ofNat f), c0 (s.hp.length + 1)]).set p (cell 2 (Int.ofNat s.hp.length)), w := s.w ++ [Wt (s.hp.length + 1) as] }
noncomputable def tbV : List (Int × VV) → VO
  | [] => .edict
  | e :: r => .idict (e :: r)
noncomputable def itmOK (y : Sy) : Itm → Prop
  | .str f _ => f ≠ 0 ∧ ∃ x, y.fn[f]? = some (x, 1)
  | _ => True
structure Tl (F : List (Int × VV) → List VV → List VO) (i j : Nat) : Prop where
  g1 : ∀ es w, (F es w)[i]? = some (tbV es)
  g2 : ∀ es w, (F es w)[j]? = some (.list w)
  s1 : ∀ es w es', (F es w).set i (tbV es') = F es' w
  s2 : ∀ es w w', (F es w).set j (.list w') = F es w'
noncomputable abbrev psc : Scope := f_Store_put_term.scope
noncomputable abbrev wl : XS := stAt f_Store_put_term.body 8
noncomputable abbrev il : XS := stAt (bodyOf wl) 2
noncomputable def ρP (tm : VV) (i : Nat) (k kd md : VV) (j : Nat) (a pl its it inr : VV) : VE := [("self", .ref 23), ("term", tm), ("table", .ref (i + 32)), ("k", k), ("kind", kd), ("made", md), ("waiting", .ref (j + 32)), ("at", a), ("place", pl), ("items", its), ("item", it), ("inner", inr)]
noncomputable def stP (m : MS) (y : Sy) (F : List (Int × VV) → List VV → List VO) (s : PS) : VH := mk { m with hp := s.hp } y (F s.es s.w)
theorem tb_in (k : Int) (es : List (Int × VV)) {q : Option VV} (e : assocGet k es = q) : oinD (tbV es) (.int k) = some q.isSome := by subst e; induction es <;> rfl
theorem tb_get (k : Int) (es : List (Int × VV)) {q : Option VV} (e : assocGet k es = q) : oget (tbV es) (.int k) = q := by subst e; induction es <;> rfl
theorem tb_set (k : Int) (v : VV) (es : List (Int × VV)) (hl : es.length ≤ 1000000) : oset (tbV es) (.int k) v = some (tbV (assocSet k v es)) := by
  have h : oset (tbV es) (.int k) v = if okLen es.length = true then some (.idict (assocSet k v es)) else none := by induction es <;> rfl
  rw [h, if_pos (okLen_iff.mpr (by exact Nat.le_trans (by assumption) (by decide)))]
  induction es with
  | nil => rfl
  | cons e r =>
    obtain ⟨x, u⟩ := e
    by_cases q : x = k
    · rw [assocSet, if_pos q]; rfl
    · rw [assocSet, if_neg q]; rfl
theorem set_l {xs : List VV} {j : Nat} (v : VV) (h : j < xs.length) (hl : xs.length ≤ 1000000) : oset (.list xs) (.int (Int.ofNat j)) v = some (.list (xs.set j v)) := by
  show Option.map _ (idxV _ _) = _
  rw [idx_ok h hl]; rfl
theorem gt_no {i : Int} (h : ¬ (100000 : Int) < i) : some (decide ((100000 : Int) < i)) = some false := by rw [decide_eq_false h]
section
variable {m : MS} {y : Sy} {T : List VO} {d : Nat}
theorem new_block_lis (hl : m.hp.length ≤ 90000) : callD G noSpec (d + 2) 349 [.ref 23, .int 0] (mk m y T) = .ok (cell 3 (Int.ofNat m.hp.length)) (mk { m with hp := m.hp ++ [c0 m.hp.length, c0 (m.hp.length + 1)] } y T) :=
  walk (n := 3) (fs := [(.W (len_l (xs := m.hp) (n := m.hp.length) rfl (by exact Nat.le_trans (by assumption) (by decide))), 0), (.Q (gt_no (i := Int.ofNat m.hp.length + 2) (by simp; lia)), 4), (.W (app_l (xs := m.hp) (v := c0 m.hp.length) (ys := m.hp ++ [c0 m.hp.length]) rfl (by exact Nat.le_trans (by assumption) (by decide))), 3),
    (.W (app_l (xs := m.hp ++ [c0 m.hp.length]) (v := c0 (m.hp.length + 1)) (ys := m.hp ++ [c0 m.hp.length, c0 (m.hp.length + 1)]) (by simp) (by simp; exact Nat.le_trans (by assumption) (by decide))), 9)]) (by kernel_rfl)
theorem set_l' {xs ys : List VV} {j : Nat} {v : VV} (e : xs.set j v = ys) (h : j < xs.length) (hl : xs.length ≤ 1000000) : oset (.list xs) (.int (Int.ofNat j)) v = some (.list ys) := by subst e; exact set_l v h hl
theorem new_block_str {f x : Nat} (hl : m.hp.length ≤ 90000) (hs : y.fn.length ≤ 1000000) (hf : y.fn[f]? = some (x, 1)) (h0 : f ≠ 0) : callD G noSpec (d + 2) 349 [.ref 23, .int (Int.ofNat f)] (mk m y T) = .ok (cell 2 (Int.ofNat m.hp.length)) (mk { m with hp := m.hp ++ [cell 6 (Int.ofNat f), c0 (m.hp.length + 1)] } y T) :=
  walk (n := 0) (fs := [(.Q (ne_int (i := Int.ofNat f) (j := 0) (fun e => h0 (Int.ofNat.inj e))), 2), (.R (arity_run (d := d) (y := y) (a := .list m.X) (b := .list [.ref 0, .int m.pa, .int m.pi, .int m.pc]) (R := objs m T) x 1 f hf hs), 1), (.W (len_l (xs := m.hp) (n := m.hp.length) rfl (by exact Nat.le_trans (by assumption) (by decide))), 0), (.Q (gt_no (i := Int.ofNat m.hp.length + 2) (by simp; lia)), 4), (.W (app_l (xs := m.hp) (v := c0 m.hp.length) (ys := m.hp ++ [c0 m.hp.length]) rfl (by exact Nat.le_trans (by assumption) (by decide))), 3),
    (.W (app_l (xs := m.hp ++ [c0 m.hp.length]) (v := c0 (m.hp.length + 1)) (ys := m.hp ++ [c0 m.hp.length, c0 (m.hp.length + 1)]) (by simp) (by simp; exact Nat.le_trans (by assumption) (by decide))), 2), (.O (set_l' (xs := m.hp ++ [c0 m.hp.length, c0 (m.hp.length + 1)]) (j := m.hp.length) (v := cell 6 (Int.ofNat f)) (ys := m.hp ++ [cell 6 (Int.ofNat f), c0 (m.hp.length + 1)]) (by simp) (by simp) (by simp; exact Nat.le_trans (by assumption) (by decide))), 9)]) (by kernel_rfl)
theorem item_run {F : List (Int × VV) → List VV → List VO} {i j : Nat} (H : Tl F i j) {s : PS} {it : Itm} {p : Nat} {n : Nat} (hs : y.fn.length ≤ 1000000) (ok : itmOK y it) (hp : p < s.hp.length) (hl : s.hp.length ≤ 80000) (hw : s.w.length ≤ 80000) (he : s.es.length ≤ 80000) (tm k kd md a its inr : VV) :
    Y2 fun kd' inr' => (Od (d + 3) (n + 30)).exs psc (bodyOf il) (ρP tm i k kd md j a (.int (Int.ofNat p)) its it.val inr) (stP m y F s) = .ok (.next, ρP tm i k kd' md j a (.int (Int.ofNat (p + 1))) its it.val inr') (stP m y F (putI p s it)) := by
  induction it with
  | atom c => exact ⟨.str "a", inr, walkE (k := 2) (fs := [(.O (set_l (xs := s.hp) (cell 4 c) hp (by exact Nat.le_trans (by assumption) (by decide))), 9)]) (by kernel_rfl)⟩
  | num c => exact ⟨.str "i", inr, walkE (k := 3) (fs := [(.O (set_l (xs := s.hp) (cell 5 c) hp (by exact Nat.le_trans (by assumption) (by decide))), 9)]) (by kernel_rfl)⟩
  | var v =>
    cases hg : assocGet v s.es with
    | some c =>
      have e : putI p s (.var v) = { s with hp := s.hp.set p c } := congrArg (putV p s v) hg
      rw [e]
      exact ⟨.str "v", inr, walkE (k := 1) (fs := [(.O (H.g1 s.es s.w), 0), (.Q (tb_in v s.es hg), 0), (.O (H.g1 s.es s.w), 0), (.V (tb_get v s.es hg), 0), (.O (set_l (xs := s.hp) c hp (by exact Nat.le_trans (by assumption) (by decide))), 9)]) (by kernel_rfl)⟩
    | none =>
      have e : putI p s (.var v) = { s with es := assocSet v (c0 p) s.es } := congrArg (putV p s v) hg
      rw [e]
      exact ⟨.str "v", inr, walkE (k := 1) (fs := [(.O (H.g1 s.es s.w), 0), (.Q (tb_in v s.es hg), 0), (.O (H.g1 s.es s.w), 0), (.O (tb_set v (c0 p) s.es (by exact Nat.le_trans (by assumption) (by decide))), 0), (.T (H.s1 s.es s.w (assocSet v (c0 p) s.es)), 9)]) (by kernel_rfl)⟩
  | lis as =>
    exact ⟨.str "s", cell 3 (Int.ofNat s.hp.length), walkE (k := 4) (fs := [(.R (new_block_lis (d := d + 1) (m := { m with hp := s.hp }) (y := y) (T := F s.es s.w) (by show s.hp.length ≤ _; exact Nat.le_trans (by assumption) (by decide))), 0), (.O (set_l (xs := s.hp ++ [c0 s.hp.length, c0 (s.hp.length + 1)]) (j := p) (cell 3 (Int.ofNat s.hp.length)) (by simp; lia) (by simp; exact Nat.le_trans (by assumption) (by decide))), 0),
      (.O (H.g2 s.es s.w), 4), (.O (H.g2 s.es s.w), 0), (.W (app_l (xs := s.w) (v := Wt s.hp.length as) rfl (by exact Nat.le_trans (by assumption) (by decide))), 0), (.T (H.s2 s.es s.w (s.w ++ [Wt s.hp.length as])), 9)]) (by kernel_rfl)⟩
  | str f as =>
    obtain ⟨hf0, x, hfx⟩ := ok
    exact ⟨.str "s", cell 2 (Int.ofNat s.hp.length), walkE (k := 4) (fs := [(.R (new_block_str (d := d + 1) (m := { m with hp := s.hp }) (y := y) (T := F s.es s.w) (by show s.hp.length ≤ _; exact Nat.le_trans (by assumption) (by decide)) hs hfx hf0), 0), (.O (set_l (xs := s.hp ++ [cell 6 (Int.ofNat f), c0 (s.hp.length + 1)]) (j := p) (cell 2 (Int.ofNat s.hp.length)) (by simp; lia) (by simp; exact Nat.le_trans (by assumption) (by decide))), 0),
      (.O (H.g2 s.es s.w), 4), (.O (H.g2 s.es s.w), 0), (.W (app_l (xs := s.w) (v := Wt (s.hp.length + 1) as) rfl (by exact Nat.le_trans (by assumption) (by decide))), 0), (.T (H.s2 s.es s.w (s.w ++ [Wt (s.hp.length + 1) as])), 9)]) (by kernel_rfl)⟩
end
end Mine
end
section
set_option backward.match.sparseCases false
namespace Mine
theorem lv_of {k l M : Nat} (h : l + k ≤ M) : ∃ n, M = n + k := Nat.exists_eq_add_of_le' (Nat.le_trans (Nat.le_add_left _ _) h)
section
variable {d n : Nat} {sc : Scope} {x : Str} {i i' : It} {b : List XS} {ρ ρ' : VE} {σ τ τ' : VH} {v w : VV} {c : XE}
theorem loop_out' : (Od d (n + 1)).loop sc x i b ρ σ = loopBy (Od d n) sc x b ρ (nextV σ i) σ := loop_out
theorem whl_out' : (Od d (n + 1)).whl sc c b ρ σ = ((Od d n).cd sc c ρ σ).bind (whlBy (Od d n) sc c b ρ) := whl_out
theorem loop_end (h : nextV σ i = some none) : (Od d (n + 1)).loop sc x i b ρ σ = .ok (.next, ρ) σ := loop_out'.trans (congrArg (fun c => loopBy (Od d n) sc x b ρ c σ) h)
theorem loop_step {r : Res (VF × VE)} (h : nextV σ i = some (some (v, i'))) (hx : sc.names.lookup x = some .local) (e : (Od d n).exs sc b (assocSet x v ρ) σ = r) : (Od d (n + 1)).loop sc x i b ρ σ = r.bind (loopAft (Od d n) sc x i' b) := by
  refine loop_out'.trans ((congrArg (fun c => loopBy (Od d n) sc x b ρ c σ) h).trans ?_)
  show Res.guard (isLocal (sc.names.lookup x)) _ = _
  rw [hx, e]; rfl
theorem loop_go (h : nextV σ i = some (some (v, i'))) (hx : sc.names.lookup x = some .local) (e : (Od d n).exs sc b (assocSet x v ρ) σ = .ok (.next, ρ') τ) : (Od d (n + 1)).loop sc x i b ρ σ = (Od d n).loop sc x i' b ρ' τ := loop_step h hx e
theorem whl_step {r : Res (VF × VE)} (hc : (Od d n).cd sc c ρ σ = .ok true σ) (e : (Od d n).exs sc b ρ σ = r) : (Od d (n + 1)).whl sc c b ρ σ = r.bind (whlAft (Od d n) sc c b) := by
  rw [whl_out', hc, ← e]; rfl
theorem whl_go (hc : (Od d n).cd sc c ρ σ = .ok true σ) (e : (Od d n).exs sc b ρ σ = .ok (.next, ρ') τ') : (Od d (n + 1)).whl sc c b ρ σ = (Od d n).whl sc c b ρ' τ' := whl_step hc e
theorem whl_end (hc : (Od d n).cd sc c ρ σ = .ok false τ) : (Od d (n + 1)).whl sc c b ρ σ = .ok (.next, ρ) τ := by
  rw [whl_out', hc]; rfl
end
noncomputable def putL (p : Nat) (s : PS) : List Itm → PS
  | [] => s
  | it :: r => putL (p + 1) (putI p s it) r
section
variable {m : MS} {y : Sy} {d : Nat} {F : List (Int × VV) → List VV → List VO} {i j : Nat}
theorem putI_len (p : Nat) (s : PS) (it : Itm) : C4 (s.hp.length ≤ (putI p s it).hp.length) ((putI p s it).hp.length ≤ s.hp.length + 2) ((putI p s it).w.length ≤ s.w.length + 1) ((putI p s it).es.length ≤ s.es.length + 1) := by
  have sl (l : List (Int × VV)) (k : Int) (v : VV) : (assocSet k v l).length ≤ l.length + 1 := by
    induction l with
    | nil => exact Nat.le_refl _
    | cons e r ih =>
      by_cases q : e.1 = k
      · exact Nat.le_trans (Nat.le_of_eq (congrArg List.length (if_pos q))) (Nat.le_succ _)
      · exact Nat.le_trans (Nat.le_of_eq (congrArg List.length (if_neg q))) (Nat.succ_le_succ ih)
  induction it with
  | var v =>
    have e : putI p s (.var v) = putV p s v (assocGet v s.es) := rfl
    rw [e]
    cases assocGet v s.es with
    | some c => exact ⟨by simp [putV], by simp [putV], by simp [putV], by simp [putV]⟩
    | none => exact ⟨Nat.le_refl _, Nat.le_add_right _ _, Nat.le_add_right _ _, sl _ _ _⟩
  | _ => exact ⟨by simp [putI], by simp [putI], by simp [putI], by simp [putI]⟩
theorem for_items (H : Tl F i j) (hs : y.fn.length ≤ 1000000) (tm k md a its : VV) (l : List Itm) : ∀ (p M : Nat) (s : PS) (kd it inr : VV), (∀ x ∈ l, itmOK y x) → p + l.length ≤ s.hp.length → s.hp.length + 2 * l.length ≤ 80000 → s.w.length + l.length ≤ 80000 → s.es.length + l.length ≤ 80000 → l.length + 31 ≤ M →
    Y3 fun kd' it' inr' => (Od (d + 3) M).loop psc "item" (.tup (l.map Itm.val)) (bodyOf il) (ρP tm i k kd md j a (.int (Int.ofNat p)) its it inr) (stP m y F s) = .ok (.next, ρP tm i k kd' md j a (.int (Int.ofNat (p + l.length))) its it' inr') (stP m y F (putL p s l)) := by
  induction l with
  | nil =>
    intro p M s kd it inr _ _ _ _ _ hM
    obtain ⟨n, rfl⟩ := lv_of (k := 1) hM
    exact ⟨kd, it, inr, loop_end rfl⟩
  | cons x r ih =>
    intro p M s kd it inr ok h1 h2 h3 h4 hM
    simp only [List.length_cons] at h1 h2 h3 h4 hM
    obtain ⟨n, rfl⟩ := lv_of (k := 31) hM
    obtain ⟨kd1, inr1, e1⟩ := item_run (m := m) (d := d) (n := n) H (s := s) (p := p) hs (ok x (.head _)) (by lia) (by lia) (by lia) (by lia) tm k kd md a its inr
    obtain ⟨g1, g2, g3, g4⟩ := putI_len p s x
    obtain ⟨kd2, it2, inr2, e2⟩ := ih (p + 1) (n + 30) (putI p s x) kd1 x.val inr1 (fun z hz => ok z (.tail _ hz)) (by lia) (by lia) (by lia) (by lia) (by exact Nat.le_of_succ_le_succ (by assumption))
    rw [show p + 1 + r.length = p + (r.length + 1) by exact Nat.add_right_comm _ _ _] at e2
    exact ⟨kd2, it2, inr2, (loop_go rfl (by kernel_rfl) e1).trans e2⟩
theorem lt_t {a b : Nat} (h : a < b) : some (decide (Int.ofNat a < Int.ofNat b)) = some true := congrArg some (decide_eq_true (Int.ofNat_lt.mpr h))
theorem lt_f {a b : Nat} (h : ¬ a < b) : some (decide (Int.ofNat a < Int.ofNat b)) = some false := congrArg some (decide_eq_false fun q => h (Int.ofNat_lt.mp q))
theorem put_iter (H : Tl F i j) (hs : y.fn.length ≤ 1000000) {s : PS} {q h M : Nat} {l : List Itm} (tm k kd md pl its it inr : VV) (hi : s.w[q]? = some (Wt h (l.map Itm.val))) (ok : ∀ x ∈ l, itmOK y x) (hh : h + l.length ≤ s.hp.length) (hl : s.hp.length + 2 * l.length ≤ 80000) (hw : s.w.length + l.length ≤ 80000) (he : s.es.length + l.length ≤ 80000) (hM : l.length + 40 ≤ M) :
    Y5 fun kd' pl' its' it' inr' => (Od (d + 3) (M + 1)).whl psc (condOf wl) (bodyOf wl) (ρP tm i k kd md j (.int (Int.ofNat q)) pl its it inr) (stP m y F s) = (Od (d + 3) M).whl psc (condOf wl) (bodyOf wl) (ρP tm i k kd' md j (.int (Int.ofNat (q + 1))) pl' its' it' inr') (stP m y F (putL h s l)) := by
  obtain ⟨n, rfl⟩ := lv_of (k := 40) hM
  have hq := (List.getElem?_eq_some_iff.mp hi).1
  obtain ⟨kd1, it1, inr1, e1⟩ := for_items (m := m) (d := d) H hs tm k md (.int (Int.ofNat (q + 1))) (.tup (l.map Itm.val)) l h (n + 36) s kd it inr ok hh hl hw he (by lia)
  exact ⟨kd1, .int (Int.ofNat (h + l.length)), .tup (l.map Itm.val), it1, inr1, whl_go (walkC (k := 0) (fs := [(.O (H.g2 s.es s.w), 0), (.W (len_l (xs := s.w) rfl (by lia)), 0), (.Q (lt_t hq), 9)]) (by kernel_rfl))
    (walkE (k := 0) (fs := [(.O (H.g2 s.es s.w), 0), (.V (oget_list hi (by lia)), 0), (.F e1, 9)]) (by kernel_rfl))⟩
theorem put_end (H : Tl F i j) {s : PS} {M : Nat} (tm k kd md pl its it inr : VV) (hw : s.w.length ≤ 80000) (hM : 31 ≤ M) : (Od d M).whl psc (condOf wl) (bodyOf wl) (ρP tm i k kd md j (.int (Int.ofNat s.w.length)) pl its it inr) (stP m y F s) = .ok (.next, ρP tm i k kd md j (.int (Int.ofNat s.w.length)) pl its it inr) (stP m y F s) := by
  obtain ⟨n, rfl⟩ := lv_of (k := 31) hM
  exact whl_end (walkC (k := 0) (fs := [(.O (H.g2 s.es s.w), 0), (.W (len_l (xs := s.w) rfl (by exact Nat.le_trans (by assumption) (by decide))), 0), (.Q (lt_f (Nat.lt_irrefl s.w.length)), 9)]) (by kernel_rfl))
end
end Mine
end
section
set_option backward.match.sparseCases false
set_option genInjectivity false
set_option genSizeOf false
set_option genCtorIdx false
namespace Mine
set_option genCtorIdx true in
inductive Op where
  | con (n : Int)
  | free
  | app (f : Nat) (n : Int)
  | appv (f : Nat)
set_option genCtorIdx true in
inductive En where
  | con (n : Int)
  | var
noncomputable def Op.itm : Op → Itm
  | .con n => .atom n
  | .free => .var 0
  | .app f n => .str f [(Itm.atom n).val]
  | .appv f => .str f [(Itm.var 0).val]
noncomputable def restI : List Op → En → Itm
  | [], .con n => .atom n
  | [], .var => .var 1
  | o :: r, e => .lis [o.itm.val, (restI r e).val]
noncomputable def opOK (y : Sy) (o : Op) : Prop := itmOK y o.itm
theorem rest_ok (y : Sy) (os : List Op) (e : En) : itmOK y (restI os e) := by
  induction os with
  | nil => induction e <;> trivial
  | cons o r => trivial
noncomputable def putR (h p : Nat) (q : PS) : Itm → PS
  | .atom n => { q with hp := q.hp.set p (cell 4 n) }
  | .num z => { q with hp := q.hp.set p (cell 5 z) }
  | .var v => putV' (assocGet v q.es) v
  | .lis as => { q with hp := (q.hp ++ [c0 (h + q.hp.length), c0 (h + q.hp.length + 1)]).set p (cell 3 (Int.ofNat (h + q.hp.length))), w := q.w ++ [Wt (h + q.hp.length) as] }
  | .str f as => { q with hp := (q.hp ++ [cell 6 (Int.ofNat f), c0 (h + q.hp.length + 1)]).set p (cell 2 (Int.ofNat (h + q.hp.length))), w := q.w ++ [Wt (h + q.hp.length + 1) as] }
where putV' (c : Option VV) (v : Int) : PS := match c with
  | some c => { q with hp := q.hp.set p c }
  | none => { q with es := assocSet v (c0 (h + p)) q.es }
noncomputable def onto (pre : List VV) (q : PS) : PS := { q with hp := pre ++ q.hp }
theorem set_on {pre l : List VV} {p : Nat} {x : VV} : (pre ++ l).set (pre.length + p) x = pre ++ l.set p x := by
  rw [List.set_append_right _ _ (Nat.le_add_right _ _), Nat.add_sub_cancel_left]
theorem put_on (pre : List VV) (p : Nat) (q : PS) (it : Itm) : putI (pre.length + p) (onto pre q) it = onto pre (putR pre.length p q it) := by
  induction it with
  | atom n => exact congrArg (fun z => (⟨z, q.es, q.w⟩ : PS)) set_on
  | num n => exact congrArg (fun z => (⟨z, q.es, q.w⟩ : PS)) set_on
  | var v =>
    show putV _ _ _ (assocGet v q.es) = onto pre (putR.putV' _ p q (assocGet v q.es) v)
    cases assocGet v q.es with
    | some c => exact congrArg (fun z => (⟨z, q.es, q.w⟩ : PS)) set_on
    | none => rfl
  | lis as =>
    unfold putI onto putR
    simp only [List.length_append, List.append_assoc, set_on]
  | str f as =>
    unfold putI onto putR
    simp only [List.length_append, List.append_assoc, set_on]
noncomputable def argOf : Op → Option Itm
  | .app _ n => some (.atom n)
  | .appv _ => some (.var 0)
  | _ => none
noncomputable def oC (h : Nat) (vz : Option Nat) : Op → VV
  | .con n => cell 4 n
  | .free => c0 (vz.getD h)
  | _ => cell 2 (Int.ofNat (h + 2))
noncomputable def oX (h : Nat) (vz : Option Nat) : Op → List VV
  | .app f n => [cell 6 (Int.ofNat f), cell 4 n]
  | .appv f => [cell 6 (Int.ofNat f), c0 (vz.getD (h + 3))]
  | _ => []
noncomputable def oV (h : Nat) (vz : Option Nat) : Op → Option Nat
  | .free => some (vz.getD h)
  | .appv _ => some (vz.getD (h + 3))
  | _ => vz
noncomputable def eC (h : Nat) : En → VV
  | .con n => cell 4 n
  | .var => c0 h
noncomputable def rowC (h : Nat) (vz : Option Nat) (o : Op) : List Op → En → List VV
  | [], e => oC h vz o :: eC (h + 1) e :: oX h vz o
  | o2 :: os, e => oC h vz o :: cell 3 (Int.ofNat (h + 2 + (oX h vz o).length)) :: (oX h vz o ++ rowC (h + 2 + (oX h vz o).length) (oV h vz o) o2 os e)
noncomputable def nArg (o : Op) : Nat := match argOf o with
  | none => 1
  | some _ => 2
noncomputable def turns : List Op → Nat
  | [] => 0
  | o :: r => nArg o + turns r
theorem assocGet_set' {K V : Type} [DecidableEq K] {k x : K} {v : V} {l : List (K × V)} : assocGet x (assocSet k v l) = if x = k then some v else assocGet x l := by
  induction l with
  | nil =>
    by_cases q : x = k
    · exact (if_pos q.symm).trans (if_pos q).symm
    · exact (if_neg fun e => q e.symm).trans (if_neg q).symm
  | cons p r ih =>
    by_cases q : p.1 = k
    · have e : assocSet k v (p :: r) = (p.1, v) :: r := if_pos q
      rw [e]
      by_cases z : p.1 = x
      · exact (if_pos z).trans (if_pos (z.symm.trans q)).symm
      · exact (if_neg z).trans ((if_neg z).symm.trans (if_neg fun e => z (q.trans e.symm)).symm)
    · have e : assocSet k v (p :: r) = p :: assocSet k v r := if_neg q
      rw [e]
      by_cases z : p.1 = x
      · exact (if_pos z).trans ((if_pos z).symm.trans (if_neg fun e => q (z.trans e)).symm)
      · exact (if_neg z).trans (ih.trans (by
          by_cases u : x = k
          · rw [if_pos u, if_pos u]
          · rw [if_neg u, if_neg u]; exact (if_neg z).symm))
section
variable {m : MS} {y : Sy} {d : Nat} {F : List (Int × VV) → List VV → List VO} {i j : Nat} {tm k md : VV} {X : Res (VF × VE)}
noncomputable def At (m : MS) (y : Sy) (d : Nat) (F : List (Int × VV) → List VV → List VO) (i j : Nat) (tm k md : VV) (X : Res (VF × VE)) (M q : Nat) (s : PS) : Prop :=
  Y5 fun kd pl its it inr => X = (Od (d + 3) M).whl psc (condOf wl) (bodyOf wl) (ρP tm i k kd md j (.int (Int.ofNat q)) pl its it inr) (stP m y F s)
theorem At.iter (H : Tl F i j) (hs : y.fn.length ≤ 1000000) {s : PS} {q h M : Nat} {l : List Itm} (hi : s.w[q]? = some (Wt h (l.map Itm.val))) (ok : ∀ x ∈ l, itmOK y x) (hh : h + l.length ≤ s.hp.length) (hl : s.hp.length + 2 * l.length ≤ 80000) (hw : s.w.length + l.length ≤ 80000) (he : s.es.length + l.length ≤ 80000) (hM : l.length + 40 ≤ M)
    (A : At m y d F i j tm k md X (M + 1) q s) : At m y d F i j tm k md X M (q + 1) (putL h s l) := by
  obtain ⟨kd, pl, its, it, inr, e⟩ := A
  obtain ⟨kd', pl', its', it', inr', e'⟩ := put_iter (m := m) (d := d) H hs tm k kd md pl its it inr hi ok hh hl hw he hM
  exact ⟨kd', pl', its', it', inr', e.trans e'⟩
noncomputable def rC (h : Nat) (n : Nat) : Itm → VV
  | .atom c => cell 4 c
  | .lis _ => cell 3 (Int.ofNat n)
  | _ => c0 (h + 1)
noncomputable def rX (n : Nat) : Itm → List VV
  | .lis _ => [c0 n, c0 (n + 1)]
  | _ => []
noncomputable def rW (n : Nat) : Itm → List VV
  | .lis as => [Wt n as]
  | _ => []
noncomputable def rE (h : Nat) (es : List (Int × VV)) : Itm → List (Int × VV)
  | .var v => assocSet v (c0 (h + 1)) es
  | _ => es
noncomputable def plainR : Itm → Prop
  | .atom _ => True
  | .var v => v = 1
  | .lis _ => True
  | _ => False
theorem put_r {h : Nat} {x : VV} {ex w : List VV} {es : List (Int × VV)} {r : Itm} (hr : plainR r) (h1 : assocGet 1 es = none) :
    putR h 1 ⟨x :: c0 (h + 1) :: ex, es, w⟩ r = ⟨x :: rC h (h + (ex.length + 2)) r :: (ex ++ rX (h + (ex.length + 2)) r), rE h es r, w ++ rW (h + (ex.length + 2)) r⟩ := by
  induction r with
  | atom n =>
    show (⟨_, _, _⟩ : PS) = _
    simp only [rX, rW, List.append_nil]; rfl
  | var v =>
    subst hr
    show putR.putV' h 1 _ (assocGet 1 es) 1 = _
    rw [h1]
    simp only [rX, rW, List.append_nil]; rfl
  | lis as => rfl
  | num n => induction hr
  | str f as => induction hr
theorem rX_le {n : Nat} {r : Itm} : (rX n r).length ≤ 2 := by induction r <;> first | exact Nat.zero_le _ | exact Nat.le_refl _ | exact Nat.le_succ _
theorem rW_le {n : Nat} {r : Itm} : (rW n r).length ≤ 1 := by induction r <;> first | exact Nat.zero_le _ | exact Nat.le_refl _ | exact Nat.le_succ _
theorem len_set (k : Int) (v : VV) (l : List (Int × VV)) : (assocSet k v l).length ≤ l.length + 1 := by
  induction l with
  | nil => exact Nat.le_refl _
  | cons e r ih =>
    by_cases q : e.1 = k
    · exact Nat.le_trans (Nat.le_of_eq (congrArg List.length (if_pos q))) (Nat.le_succ _)
    · exact Nat.le_trans (Nat.le_of_eq (congrArg List.length (if_neg q))) (Nat.succ_le_succ ih)
theorem rE_le {h : Nat} {e : List (Int × VV)} {r : Itm} : (rE h e r).length ≤ e.length + 1 := by
  induction r <;> first | exact Nat.le_succ _ | exact len_set _ _ _
theorem rE_one {h : Nat} {e : List (Int × VV)} {r : Itm} (q : assocGet 1 e = none) (z : ∀ v, r ≠ .var v) : assocGet 1 (rE h e r) = none := by
  induction r <;> first | exact q | exact (z _ rfl).elim
theorem get_same {V : Type} (k : Int) (v : V) (l : List (Int × V)) : assocGet k (assocSet k v l) = some v := by rw [assocGet_set', if_pos rfl]
theorem get_other {V : Type} {j k : Int} (v : V) (l : List (Int × V)) (h : j ≠ k) : assocGet j (assocSet k v l) = assocGet j l := by rw [assocGet_set', if_neg h]
theorem rE_zero {h : Nat} {e : List (Int × VV)} {r : Itm} (hr : plainR r) : assocGet 0 (rE h e r) = assocGet 0 e := by
  induction r <;> first | rfl | (subst hr; exact get_other _ _ (by decide))
noncomputable def Tb (vz : Option Nat) (es : List (Int × VV)) : Prop := assocGet 0 es = vz.map c0
theorem turn (H : Tl F i j) (hs : y.fn.length ≤ 1000000) {M : Nat} {pre w0 : List VV} {es : List (Int × VV)} {vz : Option Nat} {o : Op} {r : Itm} (ok : opOK y o) (okr : itmOK y r) (hr : plainR r) (tb : Tb vz es) (h1 : assocGet 1 es = none) (bl : pre.length ≤ 70000) (bw : w0.length ≤ 70000) (be : es.length ≤ 70000) (hM : 45 ≤ M)
    (A : At m y d F i j tm k md X (M + nArg o) w0.length (onto pre ⟨[c0 pre.length, c0 (pre.length + 1)], es, w0 ++ [Wt pre.length [o.itm.val, r.val]]⟩)) :
    Y2 fun es2 w2 => C5 (Tb (oV pre.length vz o) es2) (plainR r → (∀ v, r ≠ .var v) → assocGet 1 es2 = none) (w2.length = w0.length + nArg o) (es2.length ≤ es.length + 2)
      (At m y d F i j tm k md X M (w0.length + nArg o) (onto pre ⟨oC pre.length vz o :: rC pre.length (pre.length + 2 + (oX pre.length vz o).length) r :: (oX pre.length vz o ++ rX (pre.length + 2 + (oX pre.length vz o).length) r), es2, w2 ++ rW (pre.length + 2 + (oX pre.length vz o).length) r⟩)) := by
  have hi : (w0 ++ [Wt pre.length [o.itm.val, r.val]])[w0.length]? = some (Wt pre.length ([o.itm, r].map Itm.val)) := by simp
  have two : ∀ x ∈ [o.itm, r], itmOK y x := fun x hx => by
    simp only [List.mem_cons, List.not_mem_nil, or_false] at hx
    rcases hx with rfl | rfl
    · exact ok
    · exact okr
  have one (M : Nat) (hM : 42 ≤ M) := At.iter (m := m) (d := d) (X := X) (tm := tm) (k := k) (md := md) (M := M) H hs (s := onto pre ⟨[c0 pre.length, c0 (pre.length + 1)], es, w0 ++ [Wt pre.length [o.itm.val, r.val]]⟩) hi two (by simp [onto]) (by simp [onto]; exact Nat.le_trans (by assumption) (by decide)) (by simp [onto]; exact Nat.le_trans (by assumption) (by decide)) (by simp [onto]; exact Nat.le_trans (by assumption) (by decide)) hM
  have pl (q : PS) : putL pre.length (onto pre q) [o.itm, r] = onto pre (putR pre.length 1 (putR pre.length 0 q o.itm) r) := by
    show putI (pre.length + 1) (putI (pre.length + 0) (onto pre q) o.itm) r = _
    rw [put_on, put_on]
  induction o with
  | con n =>
    have A1 := one M (by lia) A
    rw [pl] at A1
    have e : putR pre.length 1 (putR pre.length 0 ⟨[c0 pre.length, c0 (pre.length + 1)], es, w0 ++ [Wt pre.length [(Op.con n).itm.val, r.val]]⟩ (Op.con n).itm) r = _ := put_r (x := cell 4 n) (ex := []) hr h1
    rw [e] at A1
    exact ⟨_, _, (rE_zero hr).trans tb, fun _ => rE_one h1, by simp [nArg, argOf], Nat.le_trans rE_le (Nat.le_succ _), A1⟩
  | free =>
    have A1 := one M (by lia) A
    rw [pl] at A1
    induction vz with
    | some z =>
      have e0 : putR pre.length 0 ⟨[c0 pre.length, c0 (pre.length + 1)], es, w0 ++ [Wt pre.length [Op.free.itm.val, r.val]]⟩ Op.free.itm = ⟨[c0 z, c0 (pre.length + 1)], es, w0 ++ [Wt pre.length [Op.free.itm.val, r.val]]⟩ := congrArg (fun c => putR.putV' pre.length 0 ⟨[c0 pre.length, c0 (pre.length + 1)], es, w0 ++ [Wt pre.length [Op.free.itm.val, r.val]]⟩ c 0) tb
      rw [e0, put_r (ex := []) hr h1] at A1
      exact ⟨_, _, (rE_zero hr).trans tb, fun _ => rE_one h1, by simp [nArg, argOf], Nat.le_trans rE_le (Nat.le_succ _), A1⟩
    | none =>
      have e0 : putR pre.length 0 ⟨[c0 pre.length, c0 (pre.length + 1)], es, w0 ++ [Wt pre.length [Op.free.itm.val, r.val]]⟩ Op.free.itm = ⟨[c0 pre.length, c0 (pre.length + 1)], assocSet 0 (c0 pre.length) es, w0 ++ [Wt pre.length [Op.free.itm.val, r.val]]⟩ := congrArg (fun c => putR.putV' pre.length 0 ⟨[c0 pre.length, c0 (pre.length + 1)], es, w0 ++ [Wt pre.length [Op.free.itm.val, r.val]]⟩ c 0) tb
      have q1 : assocGet 1 (assocSet 0 (c0 pre.length) es) = none := (get_other _ _ (by decide)).trans h1
      rw [e0, put_r (ex := []) hr q1] at A1
      exact ⟨_, _, (rE_zero hr).trans (get_same _ _ _), fun _ => rE_one q1, by simp [nArg, argOf], Nat.le_trans rE_le (Nat.succ_le_succ (len_set _ _ _)), A1⟩
  | app f n =>
    have A1 := one (M + 1) (by lia) A
    rw [pl] at A1
    have e : putR pre.length 1 (putR pre.length 0 ⟨[c0 pre.length, c0 (pre.length + 1)], es, w0 ++ [Wt pre.length [(Op.app f n).itm.val, r.val]]⟩ (Op.app f n).itm) r = _ := put_r (x := cell 2 (Int.ofNat (pre.length + 2))) (ex := [cell 6 (Int.ofNat f), c0 (pre.length + 3)]) (w := w0 ++ [Wt pre.length [(Op.app f n).itm.val, r.val]] ++ [Wt (pre.length + 3) [(Itm.atom n).val]]) hr h1
    rw [e] at A1
    have A2 := At.iter (l := [Itm.atom n]) (h := pre.length + 3) H hs (by simp [onto]) (fun x hx => by cases List.mem_singleton.mp hx; trivial) (by simp [onto]; lia) (by have := rX_le (n := pre.length + (2 + 2)) (r := r); simp [onto]; lia) (by have := rW_le (n := pre.length + (2 + 2)) (r := r); simp [onto]; lia) (by have := rE_le (h := pre.length) (e := es) (r := r); simp [onto]; lia) (by simp; lia) A1
    have e2 (q : PS) : putL (pre.length + 3) (onto pre q) [Itm.atom n] = onto pre (putR pre.length 3 q (.atom n)) := put_on pre 3 q (.atom n)
    rw [e2] at A2
    exact ⟨_, _, (rE_zero hr).trans tb, fun _ => rE_one h1, by simp [nArg, argOf], Nat.le_trans rE_le (Nat.le_succ _), A2⟩
  | appv f =>
    have A1 := one (M + 1) (by lia) A
    rw [pl] at A1
    have e : putR pre.length 1 (putR pre.length 0 ⟨[c0 pre.length, c0 (pre.length + 1)], es, w0 ++ [Wt pre.length [(Op.appv f).itm.val, r.val]]⟩ (Op.appv f).itm) r = _ := put_r (x := cell 2 (Int.ofNat (pre.length + 2))) (ex := [cell 6 (Int.ofNat f), c0 (pre.length + 3)]) (w := w0 ++ [Wt pre.length [(Op.appv f).itm.val, r.val]] ++ [Wt (pre.length + 3) [(Itm.var 0).val]]) hr h1
    rw [e] at A1
    have A2 := At.iter (l := [Itm.var 0]) (h := pre.length + 3) H hs (by simp [onto]) (fun x hx => by cases List.mem_singleton.mp hx; trivial) (by simp [onto]; lia) (by have := rX_le (n := pre.length + (2 + 2)) (r := r); simp [onto]; lia) (by have := rW_le (n := pre.length + (2 + 2)) (r := r); simp [onto]; lia) (by have := rE_le (h := pre.length) (e := es) (r := r); simp [onto]; lia) (by simp; lia) A1
    have e2 (q : PS) : putL (pre.length + 3) (onto pre q) [Itm.var 0] = onto pre (putR.putV' pre.length 3 q (assocGet 0 q.es) 0) := put_on pre 3 q (.var 0)
    rw [e2, (rE_zero hr).trans tb] at A2
    induction vz with
    | some z => exact ⟨_, _, (rE_zero hr).trans tb, fun _ => rE_one h1, by simp [nArg, argOf], Nat.le_trans rE_le (Nat.le_succ _), A2⟩
    | none => exact ⟨_, _, get_same _ _ _, fun _ z => (get_other _ _ (by decide)).trans (rE_one h1 z), by simp [nArg, argOf], Nat.le_trans (len_set _ _ _) (Nat.succ_le_succ rE_le), A2⟩
end
end Mine
end
section
set_option backward.match.sparseCases false
namespace Mine
section
variable {m : MS} {y : Sy} {d : Nat} {F : List (Int × VV) → List VV → List VO} {i j : Nat} {tm k md : VV} {X : Res (VF × VE)}
theorem oX_len (h : Nat) (vz : Option Nat) (o : Op) : (oX h vz o).length ≤ 2 := by induction o <;> first | exact Nat.zero_le _ | exact Nat.le_refl _
theorem nArg_le (o : Op) : nArg o ≤ 2 := by induction o <;> first | exact Nat.le_refl 2 | exact Nat.le_succ 1
theorem rows (H : Tl F i j) (hs : y.fn.length ≤ 1000000) (e : En) (os : List Op) : ∀ (o : Op) (pre w0 : List VV) (es : List (Int × VV)) (vz : Option Nat) (M : Nat), (∀ u ∈ o :: os, opOK y u) → Tb vz es → assocGet 1 es = none → pre.length + 4 * os.length ≤ 70000 → w0.length + 2 * os.length ≤ 70000 → es.length + 2 * os.length ≤ 70000 → 45 ≤ M →
    At m y d F i j tm k md X (M + turns (o :: os)) w0.length (onto pre ⟨[c0 pre.length, c0 (pre.length + 1)], es, w0 ++ [Wt pre.length [o.itm.val, (restI os e).val]]⟩) →
    Y2 fun es2 w2 => w2.length ≤ w0.length + 2 * (os.length + 1) ∧ At m y d F i j tm k md X M w2.length (onto pre ⟨rowC pre.length vz o os e, es2, w2⟩) := by
  induction os with
  | nil =>
    intro o pre w0 es vz M ok tb h1 b1 b2 b3 hM A
    have hn := nArg_le o
    obtain ⟨es2, w2, _, _, l2, _, A2⟩ := turn H hs (ok o (.head _)) (rest_ok y [] e) (by induction e <;> first | trivial | rfl) tb h1 b1 b2 b3 hM A
    refine ⟨es2, w2, by rw [l2]; exact Nat.add_le_add_left hn _, ?_⟩
    rw [l2]
    have key : ∀ (r : Itm) (c : VV), rX (pre.length + 2 + (oX pre.length vz o).length) r = [] → rW (pre.length + 2 + (oX pre.length vz o).length) r = [] → rC pre.length (pre.length + 2 + (oX pre.length vz o).length) r = c → onto pre ⟨oC pre.length vz o :: rC pre.length (pre.length + 2 + (oX pre.length vz o).length) r :: (oX pre.length vz o ++ rX (pre.length + 2 + (oX pre.length vz o).length) r), es2, w2 ++ rW (pre.length + 2 + (oX pre.length vz o).length) r⟩ = onto pre ⟨oC pre.length vz o :: c :: oX pre.length vz o, es2, w2⟩ := fun r c h1 h2 h3 => by
      rw [h1, h2, h3, List.append_nil, List.append_nil]
    induction e with
    | con n => rw [key _ (cell 4 n) rfl rfl rfl] at A2; exact A2
    | var => rw [key _ (c0 (pre.length + 1)) rfl rfl rfl] at A2; exact A2
  | cons o2 os ih =>
    intro o pre w0 es vz M ok tb h1 b1 b2 b3 hM A
    simp only [List.length_cons] at b1 b2 b3
    have hn := nArg_le o
    have hx := oX_len pre.length vz o
    obtain ⟨es2, w2, tb2, g1, l2, l3, A2⟩ := turn (pre := pre) (w0 := w0) (o := o) (M := M + turns (o2 :: os)) H hs (ok o (.head _)) (rest_ok y (o2 :: os) e) trivial tb h1 (by lia) (by lia) (by lia) (by lia) (by
      rw [show M + turns (o2 :: os) + nArg o = M + turns (o :: o2 :: os) from (Nat.add_assoc _ _ _).trans (congrArg (M + ·) (Nat.add_comm _ _))]
      exact A)
    rw [← l2] at A2
    have hp : (pre ++ oC pre.length vz o :: cell 3 (Int.ofNat (pre.length + 2 + (oX pre.length vz o).length)) :: oX pre.length vz o).length = pre.length + 2 + (oX pre.length vz o).length := by simp; lia
    have key : ∀ (l : List VV) (es : List (Int × VV)) (w : List VV), onto pre ⟨oC pre.length vz o :: cell 3 (Int.ofNat (pre.length + 2 + (oX pre.length vz o).length)) :: (oX pre.length vz o ++ l), es, w⟩ = onto (pre ++ oC pre.length vz o :: cell 3 (Int.ofNat (pre.length + 2 + (oX pre.length vz o).length)) :: oX pre.length vz o) ⟨l, es, w⟩ := fun l es w => by simp [onto]
    obtain ⟨es3, w3, l4, A3⟩ := ih o2 (pre ++ oC pre.length vz o :: cell 3 (Int.ofNat (pre.length + 2 + (oX pre.length vz o).length)) :: oX pre.length vz o) w2 es2 (oV pre.length vz o) M (fun u hu => ok u (.tail _ hu)) tb2 (g1 trivial fun v q => nomatch q) (by rw [hp]; lia) (by lia) (by lia) hM (by
      rw [hp, ← key]; exact A2)
    rw [hp, ← key] at A3
    exact ⟨es3, w3, by simp only [List.length_cons]; lia, A3⟩
end
end Mine
end
section
set_option backward.match.sparseCases false
namespace Mine
theorem ge_no {i : Int} (h : ¬ (100000 : Int) ≤ i) : some (decide ((100000 : Int) ≤ i)) = some false := congrArg some (decide_eq_false h)
theorem prev_get (T : List VO) (a b : VO) : (T ++ [a] ++ [b])[T.length]? = some a := by simp
theorem prev_set (T : List VO) (a b c : VO) : (T ++ [a] ++ [b]).set T.length c = T ++ [c] ++ [b] := by simp
theorem oget_one (n : Int) (c : VV) : oget (.idict [(n, c)]) (.int n) = some c := if_pos rfl
noncomputable def pF (T : List VO) (es : List (Int × VV)) (w : List VV) : List VO := T ++ [tbV es] ++ [.list []] ++ [.list w]
noncomputable abbrev jT (T : List VO) : Nat := (T ++ [VO.edict] ++ [VO.list []]).length
theorem pF_ok (T : List VO) : Tl (pF T) T.length (jT T) := ⟨fun es w => by simp [pF], fun es w => by simp [pF, jT], fun es w e => by simp [pF], fun es w w' => by simp [pF, jT]⟩
section
variable {y : Sy} {d : Nat}
theorem new_var_run (m : MS) (y : Sy) (T : List VO) (hl : m.hp.length ≤ 90000) : callD G noSpec (d + 2) 237 [.ref 23] (mk m y T) = .ok (c0 m.hp.length) (mk { m with hp := m.hp ++ [c0 m.hp.length] } y T) :=
  walk (n := 0) (fs := [(.W (len_l (xs := m.hp) rfl (by exact Nat.le_trans (by assumption) (by decide))), 2), (.W (len_l (xs := m.hp) rfl (by exact Nat.le_trans (by assumption) (by decide))), 0), (.Q (ge_no (i := Int.ofNat m.hp.length) (by simp; lia)), 1), (.W (app_l (xs := m.hp) (v := c0 m.hp.length) rfl (by exact Nat.le_trans (by assumption) (by decide))), 9)]) (by kernel_rfl)
theorem put_atom (m : MS) (T : List VO) (n : Int) : callD G noSpec (d + 2) 630 [.ref 20, .tup [.str "a", .int n]] (mk m y T) = .ok (cell 4 n) (mk m y (T ++ [.edict] ++ [.list []])) :=
  walk (n := 2) (fs := [(.O (last_get T .edict), 1), (.O (last_get (T ++ [.edict]) (.list [])), 1), (.O (last_get (T ++ [.edict]) (.list [])), 9)]) (by kernel_rfl)
theorem put_free (m : MS) (T : List VO) (n : Int) (hl : m.hp.length ≤ 90000) : callD G noSpec (d + 4) 630 [.ref 20, .tup [.str "v", .int n]] (mk m y T) = .ok (c0 m.hp.length) (mk { m with hp := m.hp ++ [c0 m.hp.length] } y (T ++ [.idict [(n, c0 m.hp.length)]] ++ [.list []])) :=
  walk (n := 2) (fs := [(.O (last_get T .edict), 1), (.O (last_get (T ++ [.edict]) (.list [])), 1), (.O (last_get (T ++ [.edict]) (.list [])), 2), (.O (prev_get T .edict (.list [])), 2), (.R (new_var_run (d := d) m y (T ++ [.edict] ++ [.list []]) hl), 0), (.O (prev_get T .edict (.list [])), 1),
    (.T (prev_set T .edict (.list []) (.idict [(n, c0 m.hp.length)])), 0), (.O (prev_get T (.idict [(n, c0 m.hp.length)]) (.list [])), 0), (.V (oget_one n (c0 m.hp.length)), 9)]) (by kernel_rfl)
theorem put_handle (m : MS) (T : List VO) {f x : Nat} (z : Int) (hs : y.fn.length ≤ 1000000) (hf : y.fn[f]? = some (x, 1)) (h0 : f ≠ 0) (hl : m.hp.length ≤ 70000) : ∃ U, callD G noSpec (d + 5) 630 [.ref 20, .tup [.str "s", .int (Int.ofNat f), .tup [.tup [.str "i", .int z]]]] (mk m y T) = .ok (cell 2 (Int.ofNat m.hp.length)) (mk { m with hp := m.hp ++ [cell 6 (Int.ofNat f), cell 5 z] } y (T ++ U)) := by
  have A0 : At m y d (pF T) T.length (jT T) (.tup [.str "s", .int (Int.ofNat f), .tup [.tup [.str "i", .int z]]]) .junk (cell 2 (Int.ofNat m.hp.length))
      ((Od (d + 3) 390).whl psc (condOf wl) (bodyOf wl) (ρP (.tup [.str "s", .int (Int.ofNat f), .tup [.tup [.str "i", .int z]]]) T.length .junk (.str "s") (cell 2 (Int.ofNat m.hp.length)) (jT T) (.int 0) .junk .junk .junk .junk)
        (mk { m with hp := m.hp ++ [cell 6 (Int.ofNat f), c0 (m.hp.length + 1)] } y (pF T [] [Wt (m.hp.length + 1) [(Itm.num z).val]]))) 390 0 ⟨m.hp ++ [cell 6 (Int.ofNat f), c0 (m.hp.length + 1)], [], [Wt (m.hp.length + 1) [(Itm.num z).val]]⟩ := ⟨_, _, _, _, _, rfl⟩
  have A1 := At.iter (M := 389) (pF_ok T) hs (l := [Itm.num z]) (h := m.hp.length + 1) rfl (fun x hx => by cases List.mem_singleton.mp hx; trivial) (by simp) (by simp; exact Nat.le_trans (by assumption) (by decide)) (by simp) (by simp) (by simp) A0
  obtain ⟨kd, pl, its, it, inr, e⟩ := A1
  have e2 := e.trans (put_end (m := m) (y := y) (d := d + 3) (s := ⟨(m.hp ++ [cell 6 (Int.ofNat f), c0 (m.hp.length + 1)]).set (m.hp.length + 1) (cell 5 z), [], [Wt (m.hp.length + 1) [(Itm.num z).val]]⟩) (M := 389) (pF_ok T) _ _ _ _ _ _ _ _ (by simp) (by decide))
  have e3 : (m.hp ++ [cell 6 (Int.ofNat f), c0 (m.hp.length + 1)]).set (m.hp.length + 1) (cell 5 z) = m.hp ++ [cell 6 (Int.ofNat f), cell 5 z] := set_on
  refine ⟨[.edict] ++ [.list []] ++ [.list [Wt (m.hp.length + 1) [(Itm.num z).val]]], ?_⟩
  have e4 : T ++ ([VO.edict] ++ [VO.list []] ++ [VO.list [Wt (m.hp.length + 1) [(Itm.num z).val]]]) = pF T [] [Wt (m.hp.length + 1) [(Itm.num z).val]] := by simp [pF, tbV]
  rw [e4, ← e3]
  exact walk (n := 2) (fs := [(.O (last_get T .edict), 1), (.O (last_get (T ++ [.edict]) (.list [])), 1), (.O (last_get (T ++ [.edict]) (.list [])), 5), (.R (new_block_str (d := d + 1) (m := m) (y := y) (T := T ++ [.edict] ++ [.list []]) (by exact Nat.le_trans (by assumption) (by decide)) hs hf h0), 3), (.F e2, 9)]) (by kernel_rfl)
end
end Mine
end
section
set_option backward.match.sparseCases false
namespace Mine
theorem turns_le (os : List Op) : turns os ≤ 2 * os.length := by
  induction os with
  | nil => exact Nat.le_refl _
  | cons o r ih =>
    have := nArg_le o
    show nArg o + turns r ≤ 2 * (r.length + 1)
    omega
section
variable {y : Sy} {d : Nat}
theorem put_row (m : MS) (T : List VO) {o : Op} {os : List Op} {e : En} (hs : y.fn.length ≤ 1000000) (ok : ∀ u ∈ o :: os, opOK y u) (hl : m.hp.length ≤ 60000) (hn : os.length ≤ 50) :
    ∃ U, callD G noSpec (d + 5) 630 [.ref 20, (restI (o :: os) e).val] (mk m y T) = .ok (cell 3 (Int.ofNat m.hp.length)) (mk { m with hp := m.hp ++ rowC m.hp.length none o os e } y (T ++ U)) := by
  obtain ⟨j, hj⟩ := Nat.exists_eq_add_of_le' (Nat.le_trans (turns_le (o :: os)) (Nat.mul_le_mul_left 2 (Nat.succ_le_succ hn)))
  have hM : j + 288 + turns (o :: os) = 390 := by rw [Nat.add_right_comm, ← hj]
  have A0 : At m y d (pF T) T.length (jT T) (restI (o :: os) e).val .junk (cell 3 (Int.ofNat m.hp.length))
      ((Od (d + 3) 390).whl psc (condOf wl) (bodyOf wl) (ρP (restI (o :: os) e).val T.length .junk (.str "s") (cell 3 (Int.ofNat m.hp.length)) (jT T) (.int 0) .junk .junk .junk .junk)
        (mk { m with hp := m.hp ++ [c0 m.hp.length, c0 (m.hp.length + 1)] } y (pF T [] [Wt m.hp.length [o.itm.val, (restI os e).val]]))) 390 0 (onto m.hp ⟨[c0 m.hp.length, c0 (m.hp.length + 1)], [], [Wt m.hp.length [o.itm.val, (restI os e).val]]⟩) := ⟨_, _, _, _, _, rfl⟩
  rw [← hM] at A0
  obtain ⟨es2, w2, lw, kd, pl, its, it, inr, e1⟩ := rows (pF_ok T) hs e os o m.hp [] [] none (j + 288) ok rfl rfl (by omega) (by simp; omega) (by simp; omega) (by exact Nat.le_add_left _ _) A0
  rw [hM] at e1
  have e2 := e1.trans (put_end (m := m) (y := y) (d := d + 3) (s := onto m.hp ⟨rowC m.hp.length none o os e, es2, w2⟩) (M := j + 288) (pF_ok T) _ _ _ _ _ _ _ _ (by show w2.length ≤ _; simp at lw; omega) (by exact Nat.le_add_left _ _))
  refine ⟨[tbV es2] ++ [.list []] ++ [.list w2], ?_⟩
  have e4 : T ++ ([tbV es2] ++ [VO.list []] ++ [VO.list w2]) = pF T es2 w2 := by simp [pF]
  rw [e4]
  exact walk (n := 2) (fs := [(.O (last_get T .edict), 1), (.O (last_get (T ++ [.edict]) (.list [])), 1), (.O (last_get (T ++ [.edict]) (.list [])), 5), (.R (new_block_lis (d := d + 1) (m := m) (y := y) (T := T ++ [.edict] ++ [.list []]) (by exact Nat.le_trans (by assumption) (by decide))), 3), (.F e2, 9)]) (by kernel_rfl)
end
inductive OpC (hp : List VV) (z lo hi : Nat) : VV → Op → Prop
  | con (n) : lo ≤ hi → OpC hp z lo hi (cell 4 n) (.con n)
  | free : lo ≤ hi → hp[z]? = some (c0 z) → OpC hp z lo hi (c0 z) .free
  | app (f n a) : lo ≤ a → a + 2 ≤ hi → hp[a]? = some (cell 6 (Int.ofNat f)) → hp[a + 1]? = some (cell 4 n) → OpC hp z lo hi (cell 2 (Int.ofNat a)) (.app f n)
  | appv (f a) : lo ≤ a → a + 2 ≤ hi → hp[a]? = some (cell 6 (Int.ofNat f)) → hp[a + 1]? = some (c0 z) → hp[z]? = some (c0 z) → OpC hp z lo hi (cell 2 (Int.ofNat a)) (.appv f)
noncomputable def OInv (hp : List VV) (z lo hi : Nat) (c : VV) : Op → Prop
  | .con n => c = cell 4 n ∧ lo ≤ hi
  | .free => C3 (c = c0 z) (lo ≤ hi) (hp[z]? = some (c0 z))
  | .app f n => ∃ a, C5 (c = cell 2 (Int.ofNat a)) (lo ≤ a) (a + 2 ≤ hi) (hp[a]? = some (cell 6 (Int.ofNat f))) (hp[a + 1]? = some (cell 4 n))
  | .appv f => ∃ a, C6 (c = cell 2 (Int.ofNat a)) (lo ≤ a) (a + 2 ≤ hi) (hp[a]? = some (cell 6 (Int.ofNat f))) (hp[a + 1]? = some (c0 z)) (hp[z]? = some (c0 z))
theorem OpC.inv {hp : List VV} {z lo hi : Nat} {c : VV} {o : Op} (h : OpC hp z lo hi c o) : OInv hp z lo hi c o :=
  OpC.casesOn (motive := fun c o _ => OInv hp z lo hi c o) h (fun _ a => ⟨rfl, a⟩) (fun a b => ⟨rfl, a, b⟩) (fun _ _ a h1 h2 h3 h4 => ⟨a, rfl, h1, h2, h3, h4⟩) fun _ a h1 h2 h3 h4 h5 => ⟨a, rfl, h1, h2, h3, h4, h5⟩
inductive Lst (hp : List VV) (z : Nat) : Nat → Nat → VV → List Op → En → Prop
  | nilc {lo hi} (n) : lo ≤ hi → Lst hp z lo hi (cell 4 n) [] (.con n)
  | nilv {lo hi} (v) : lo ≤ hi → hp[v]? = some (c0 v) → Lst hp z lo hi (c0 v) [] .var
  | cons {lo hi} (h oc rc o os e mid) : lo ≤ h → h + 2 ≤ mid → hp[h]? = some oc → hp[h + 1]? = some rc → OpC hp z (h + 2) mid oc o → Lst hp z mid hi rc os e → Lst hp z lo hi (cell 3 (Int.ofNat h)) (o :: os) e
noncomputable def rowV (h : Nat) (vz : Option Nat) (o : Op) : List Op → Option Nat
  | [] => oV h vz o
  | o2 :: os => rowV (h + 2 + (oX h vz o).length) (oV h vz o) o2 os
theorem rowV_some {z : Nat} : ∀ (os : List Op) (o : Op) (h : Nat), rowV h (some z) o os = some z := by
  intro os
  induction os with
  | nil => intro o h; induction o <;> rfl
  | cons o2 os ih => intro o h; induction o <;> exact ih _ _
theorem opC_of {hp : List VV} {h : Nat} {vz : Option Nat} {o : Op} {z : Nat} (hc : hp[h]? = some (oC h vz o)) (hx : ∀ i x, (oX h vz o)[i]? = some x → hp[h + 2 + i]? = some x) (hz : ∀ u, oV h vz o = some u → u = z) (hv : ∀ u, vz = some u → hp[u]? = some (c0 u)) :
    OpC hp z (h + 2) (h + 2 + (oX h vz o).length) (oC h vz o) o ∧ ∀ u, oV h vz o = some u → hp[u]? = some (c0 u) := by
  induction o with
  | con n => exact ⟨.con n (Nat.le_refl _), hv⟩
  | app f n => exact ⟨.app f n _ (Nat.le_refl _) (Nat.le_refl _) (hx 0 _ rfl) (hx 1 _ rfl), hv⟩
  | free =>
    obtain rfl := hz _ rfl
    have key : hp[vz.getD h]? = some (c0 (vz.getD h)) := by
      induction vz with
      | none => exact hc
      | some u => exact hv u rfl
    exact ⟨.free (Nat.le_refl _) key, fun u q => by obtain rfl := Option.some.inj q; exact key⟩
  | appv f =>
    obtain rfl := hz _ rfl
    have key : hp[vz.getD (h + 3)]? = some (c0 (vz.getD (h + 3))) := by
      induction vz with
      | none => exact hx 1 _ rfl
      | some u => exact hv u rfl
    exact ⟨.appv f _ (Nat.le_refl _) (Nat.le_refl _) (hx 0 _ rfl) (hx 1 _ rfl) key, fun u q => by obtain rfl := Option.some.inj q; exact key⟩
theorem lst_of {hp : List VV} {e : En} {z : Nat} (os : List Op) : ∀ (o : Op) (h : Nat) (vz : Option Nat), (∀ i x, (rowC h vz o os e)[i]? = some x → hp[h + i]? = some x) → (∀ u, rowV h vz o os = some u → u = z) → (∀ u, vz = some u → hp[u]? = some (c0 u)) →
    Lst hp z h (h + (rowC h vz o os e).length) (cell 3 (Int.ofNat h)) (o :: os) e := by
  induction os with
  | nil =>
    intro o h vz hc hz hv
    obtain ⟨a, b⟩ := opC_of (h := h) (z := z) (hc 0 _ rfl) (fun i x q => by have := hc (i + 2) x q; rwa [show h + (i + 2) = h + 2 + i by omega] at this) hz hv
    have e1 : h + (rowC h vz o [] e).length = h + 2 + (oX h vz o).length := by simp [rowC]; omega
    rw [e1]
    refine .cons h _ (eC (h + 1) e) o [] e (h + 2 + (oX h vz o).length) (Nat.le_refl _) (Nat.le_add_right _ _) (hc 0 _ rfl) (hc 1 _ rfl) a ?_
    induction e with
    | con n => exact .nilc n (Nat.le_refl _)
    | var => exact .nilv (h + 1) (Nat.le_refl _) (hc 1 _ rfl)
  | cons o2 os ih =>
    intro o h vz hc hz hv
    have hz1 : ∀ u, oV h vz o = some u → u = z := fun u q => hz u (by show rowV _ (oV h vz o) o2 os = _; rw [q]; exact rowV_some _ _ _)
    obtain ⟨a, b⟩ := opC_of (h := h) (z := z) (hc 0 _ rfl) (fun i x q => by
      have q2 : (rowC h vz o (o2 :: os) e)[i + 2]? = some x := by
        show (oX h vz o ++ _)[i]? = some x
        rw [List.getElem?_append_left (List.getElem?_eq_some_iff.mp q).1]; exact q
      have := hc (i + 2) x q2
      rwa [show h + (i + 2) = h + 2 + i by omega] at this) hz1 hv
    have e1 : h + (rowC h vz o (o2 :: os) e).length = h + 2 + (oX h vz o).length + (rowC (h + 2 + (oX h vz o).length) (oV h vz o) o2 os e).length := by simp [rowC]; omega
    rw [e1]
    refine .cons h _ _ o (o2 :: os) e (h + 2 + (oX h vz o).length) (Nat.le_refl _) (Nat.le_add_right _ _) (hc 0 _ rfl) (hc 1 _ rfl) a (ih o2 _ _ (fun i x q => ?_) hz b)
    have q2 : (rowC h vz o (o2 :: os) e)[i + (oX h vz o).length + 2]? = some x := by
      show (oX h vz o ++ rowC (h + 2 + (oX h vz o).length) (oV h vz o) o2 os e)[i + (oX h vz o).length]? = some x
      rw [List.getElem?_append_right (Nat.le_add_left _ _), Nat.add_sub_cancel]; exact q
    have := hc _ x q2
    rwa [show h + (i + (oX h vz o).length + 2) = h + 2 + (oX h vz o).length + i by omega] at this
end Mine
end
section
set_option backward.match.sparseCases false
namespace Mine
inductive CellsOf (hp : List VV) (z : Nat) : List VV → List Op → Prop
  | nil : CellsOf hp z [] []
  | cons {lo hi oc o cs os} : OpC hp z lo hi oc o → CellsOf hp z cs os → CellsOf hp z (oc :: cs) (o :: os)
noncomputable def EndC (hp : List VV) (c : VV) : En → Prop
  | .con n => c = cell 4 n
  | .var => IsVar hp c
theorem solid4 {n : Int} : Solid (cell 4 n) := ⟨4, n, rfl, by decide, by decide⟩
theorem solid2 {n : Int} : Solid (cell 2 n) := ⟨2, n, rfl, by decide, by decide⟩
theorem solid3 {n : Int} : Solid (cell 3 n) := ⟨3, n, rfl, by decide, by decide⟩
theorem OpC.der {hp z lo hi c o} (h : OpC hp z lo hi c o) : Solid c ∨ IsVar hp c := by
  induction h with
  | con => exact .inl solid4
  | free _ hz => exact .inr ⟨_, rfl, hz⟩
  | app => exact .inl solid2
  | appv => exact .inl solid2
theorem Lst.der {hp z lo hi c os e} (h : Lst hp z lo hi c os e) : Solid c ∨ IsVar hp c := by
  induction h with
  | nilc => exact .inl solid4
  | nilv v _ hv => exact .inr ⟨_, rfl, hv⟩
  | cons => exact .inl solid3
theorem der_cell {hp : List VV} {c : VV} (h : Solid c ∨ IsVar hp c) : ∃ t v : Int, c = cell t v := by
  rcases h with ⟨t, v, h, _⟩ | ⟨z, h, _⟩
  · exact ⟨t, v, h⟩
  · exact ⟨0, z, h⟩
theorem EndC.der {hp : List VV} {c : VV} {e : En} (h : EndC hp c e) : Solid c ∨ IsVar hp c := by
  induction e with
  | con n => subst h; exact .inl solid4
  | var => exact .inr h
theorem add_s {S : List Int} {k : Int} (hk : k ∉ S) (h : S.length ≤ 100) : omth "set.add" (.set S) [.int k] = some (.o .none (.set (S ++ [k]))) := by
  have e : omth "set.add" (.set S) [.int k] = if Nat.ble S.length 100 then some (.o .none (.set (if k ∈ S then S else S ++ [k]))) else none := rfl
  rw [e, if_pos (by simpa using h), if_neg hk]
theorem in_s {S : List Int} {k : Int} (hk : k ∉ S) : oinD (.set S) (.int k) = some false := congrArg some (decide_eq_false hk)
noncomputable abbrev lsc : Scope := f_Store_list_cells.scope
noncomputable abbrev ll : XS := stAt f_Store_list_cells.body 3
noncomputable def lF (T : List VO) (F : List VV) (S : List Int) : List VO := T ++ [.list F] ++ [.set S]
noncomputable abbrev lj (T : List VO) : Nat := (T ++ [VO.list []]).length
theorem lF1 (T F S) : (lF T F S)[T.length]? = some (.list F) := by simp [lF]
theorem lF2 (T F S) : (lF T F S)[lj T]? = some (.set S) := by simp [lF, lj]
theorem lFs1 (T F S F') : (lF T F S).set T.length (.list F') = lF T F' S := by simp [lF]
theorem lFs2 (T F S S') : (lF T F S).set (lj T) (.set S') = lF T F S' := by simp [lF, lj]
noncomputable def ρL (T : List VO) (c : VV) : VE := [("self", .ref 23), ("cell", c), ("found", .ref (T.length + 32)), ("seen", .ref (lj T + 32))]
section
variable {m : MS} {y : Sy} {T : List VO} {d : Nat}
theorem lc_run (hm : m.hp.length ≤ 1000000) {z lo hi : Nat} {os : List Op} {e : En} {c : VV} (L : Lst m.hp z lo hi c os e) : ∀ (F : List VV) (S : List Int) (M : Nat), (∀ k ∈ S, k < Int.ofNat lo) → S.length + os.length ≤ 100 → F.length + os.length ≤ 1000 → os.length + 32 ≤ M →
    Y3 fun cs c' S' => C3 ((Od (d + 1) M).whl lsc (condOf ll) (bodyOf ll) (ρL T c) (mk m y (lF T F S)) = .ok (.next, ρL T c') (mk m y (lF T (F ++ cs) S'))) (CellsOf m.hp z cs os) (EndC m.hp c' e) := by
  induction L with
  | nilc k _ =>
    intro F S M hS h1 h2 hM
    obtain ⟨n, rfl⟩ := lv_of hM
    exact ⟨[], cell 4 k, S, by rw [List.append_nil]; exact whl_end (walkC (k := 9) (fs := []) (by kernel_rfl)), .nil, rfl⟩
  | nilv v _ hv =>
    intro F S M hS h1 h2 hM
    obtain ⟨n, rfl⟩ := lv_of hM
    exact ⟨[], c0 v, S, by rw [List.append_nil]; exact whl_end (walkC (k := 9) (fs := []) (by kernel_rfl)), .nil, v, rfl, hv⟩
  | cons h oc rc o os e mid i1 i2 a1 a2 O L ih =>
    intro F S M hS h1 h2 hM
    obtain ⟨n, rfl⟩ := lv_of (Nat.le_trans (Nat.le_of_eq (Nat.add_right_comm os.length 32 1)) hM : os.length + 1 + 32 ≤ M)
    have hk : (Int.ofNat h) ∉ S := fun q => Nat.not_lt.mpr i1 (Int.ofNat_lt.mp (hS _ q))
    have hlt : h < mid := Nat.lt_of_lt_of_le (Nat.lt_add_of_pos_right (by decide)) i2
    have b1 : S.length ≤ 100 := Nat.le_trans (Nat.le_add_right _ _) h1
    have b2 : F.length ≤ 1000000 := Nat.le_trans (Nat.le_add_right _ _) (Nat.le_trans h2 (by decide))
    obtain ⟨cs, c', S', e1, g1, g2⟩ := ih (F ++ [oc]) (S ++ [Int.ofNat h]) (n + 31) (fun k hk => by
      rcases List.mem_append.mp hk with q | q
      · exact Int.lt_trans (hS k q) (Int.ofNat_lt.mpr (Nat.lt_of_le_of_lt i1 hlt))
      · exact List.mem_singleton.mp q ▸ Int.ofNat_lt.mpr hlt) (by rw [List.length_append, Nat.add_assoc, Nat.add_comm _ os.length]; exact h1) (by rw [List.length_append, Nat.add_assoc, Nat.add_comm _ os.length]; exact h2) (Nat.le_of_succ_le_succ hM)
    refine ⟨oc :: cs, c', S', ?_, .cons O g1, g2⟩
    rw [List.append_assoc] at e1
    refine (whl_go (walkC (k := 1) (fs := [(.O (lF2 T F S), 0), (.Q (in_s hk), 9)]) (by kernel_rfl)) (walkE (k := 0) (fs := [(.O (lF2 T F S), 1), (.O (lF2 T F S), 0), (.W (add_s hk b1), 0), (.T (lFs2 T F S (S ++ [Int.ofNat h])), 0),
      (.O (lF1 T F (S ++ [Int.ofNat h])), 2), (.V (oget_list a1 hm), 0), (.R (deref_run (d := d) (m := m) (y := y) (T := lF T F (S ++ [Int.ofNat h])) hm O.der), 0), (.O (lF1 T F (S ++ [Int.ofNat h])), 0), (.W (app_l (xs := F) (v := oc) rfl b2), 0), (.T (lFs1 T F (S ++ [Int.ofNat h]) (F ++ [oc])), 1),
      (.V (oget_list a2 hm), 0), (.R (deref_run (d := d) (m := m) (y := y) (T := lF T (F ++ [oc]) (S ++ [Int.ofNat h])) hm L.der), 9)]) (by kernel_rfl))).trans e1
theorem list_cells_run (hm : m.hp.length ≤ 1000000) {z : Nat} {os : List Op} {e : En} {lo hi : Nat} {c : VV} (L : Lst m.hp z lo hi c os e) (hn : os.length ≤ 50) :
    Y3 fun cs c' S => C3 (callD G noSpec (d + 2) 385 [.ref 23, c] (mk m y T) = .ok (.tup [.ref (T.length + 32), c']) (mk m y (lF T cs S))) (CellsOf m.hp z cs os) (EndC m.hp c' e) := by
  obtain ⟨cs, c', S, e1, g1, g2⟩ := lc_run (m := m) (y := y) (T := T) (d := d) hm L [] [] 395 (fun k hk => nomatch hk) (by simp; exact Nat.le_trans (by assumption) (by decide)) (by simp; exact Nat.le_trans (by assumption) (by decide)) (by omega)
  have hd := L.der
  obtain ⟨t, v, rfl⟩ := der_cell hd
  obtain ⟨t', v', rfl⟩ := der_cell g2.der
  exact ⟨cs, _, S, walk (n := 1) (fs := [(.R (deref_run (d := d) (m := m) (y := y) (T := lF T [] []) hm hd), 0), (.F e1, 9)]) (by kernel_rfl), g1, g2⟩
end
end Mine
end
section
set_option genInjectivity false
set_option genSizeOf false
set_option genCtorIdx false
set_option backward.match.sparseCases false
namespace Mine
structure TS where
  te : List (Int × VV)
  kn : List (Int × VV)
  sz : List (Int × VV)
  R : List VV
  W : List VV
  J : List VO
noncomputable def tF (T : List VO) (s : TS) : List VO := T ++ [tbV s.te] ++ [tbV s.kn] ++ [tbV s.sz] ++ [.list s.R] ++ [.list s.W] ++ s.J
noncomputable abbrev t1 (T : List VO) : Nat := (T ++ [VO.edict]).length
noncomputable abbrev t2 (T : List VO) : Nat := (T ++ [VO.edict] ++ [VO.edict]).length
noncomputable abbrev t3 (T : List VO) : Nat := (T ++ [VO.edict] ++ [VO.edict] ++ [VO.edict]).length
noncomputable abbrev t4 (T : List VO) : Nat := (T ++ [VO.edict] ++ [VO.edict] ++ [VO.edict] ++ [VO.list []]).length
section
variable (T : List VO) (s : TS)
theorem tg0 : (tF T s)[T.length]? = some (tbV s.te) := by simp [tF]
theorem tg1 : (tF T s)[t1 T]? = some (tbV s.kn) := by simp [tF, t1]
theorem tg2 : (tF T s)[t2 T]? = some (tbV s.sz) := by simp [tF, t2]
theorem tg3 : (tF T s)[t3 T]? = some (.list s.R) := by simp [tF, t3]
theorem tg4 : (tF T s)[t4 T]? = some (.list s.W) := by simp [tF, t4]
theorem ts0 (x : List (Int × VV)) : (tF T s).set T.length (tbV x) = tF T { s with te := x } := by simp [tF]
theorem ts1 (x : List (Int × VV)) : (tF T s).set (t1 T) (tbV x) = tF T { s with kn := x } := by simp [tF, t1]
theorem ts2 (x : List (Int × VV)) : (tF T s).set (t2 T) (tbV x) = tF T { s with sz := x } := by simp [tF, t2]
theorem ts3 (x : List VV) : (tF T s).set (t3 T) (.list x) = tF T { s with R := x } := by simp [tF, t3]
theorem ts4 (x : List VV) : (tF T s).set (t4 T) (.list x) = tF T { s with W := x } := by simp [tF, t4]
theorem tgJ (o : VO) : (tF T s ++ [o])[t3 T]? = some (.list s.R) := by simp [tF, t3]
theorem tsJ (o : VO) (x : List VV) : (tF T s ++ [o]).set (t3 T) (.list x) = tF T { s with R := x, J := s.J ++ [o] } := by simp [tF, t3]
end
noncomputable abbrev tsc : Scope := f_Store_take_term.scope
noncomputable abbrev tl : XS := stAt f_Store_take_term.body 4
noncomputable abbrev wsc : Scope := f_Store_whole_size.scope
noncomputable abbrev wB : List XS := bodyOf (stAt f_Store_whole_size.body 2)
noncomputable def ChS (hi : Nat) (sz : List (Int × VV)) (c : VV) (s : Nat) : Prop := (Y2 fun t v : Int => C4 (c = cell t v) (t ≠ 2) (t ≠ 3) (s = 1)) ∨ Y2 fun (t : Int) (a : Nat) => C4 (c = cell t (Int.ofNat a)) (t = 2 ∨ t = 3) (a < hi) (assocGet (Int.ofNat a) sz = some (.int (Int.ofNat s)))
theorem eq_t {i j : Int} (h : i = j) : some (decide (i = j)) = some true := congrArg some (decide_eq_true h)
noncomputable def ρW (T : List VO) (c p n st pt : VV) : VE := [("self", .ref 23), ("cell", c), ("sizes", .ref (t2 T + 32)), ("size", n), ("place", p), ("step", st), ("part", pt)]
section
variable {m : MS} {y : Sy} {T : List VO} {d : Nat} {s : TS}
theorem ws_step {c pt : VV} {p n k M u hi : Nat} (hm : m.hp.length ≤ 1000000) {c1 : VV} (h1 : m.hp[p + k]? = some c1) (d1 : Solid c1 ∨ IsVar m.hp c1) (k1 : ChS hi s.sz c1 u) :
    (Od (d + 1) (M + 30)).exs wsc wB (ρW T c (.int (Int.ofNat p)) (.int (Int.ofNat n)) (.int (Int.ofNat k)) pt) (mk m y (tF T s)) = .ok (.next, ρW T c (.int (Int.ofNat p)) (.int (Int.ofNat (n + u))) (.int (Int.ofNat k)) c1) (mk m y (tF T s)) := by
  rcases k1 with ⟨t, v, rfl, h2, h3, rfl⟩ | ⟨t, a, rfl, ht, ha, hz⟩
  · exact walkE (k := 1) (fs := [(.V (oget_list h1 hm), 0), (.R (deref_run (d := d) (m := m) (y := y) (T := tF T s) hm d1), 2), (.Q (ne_int h2), 0), (.Q (ne_int h3), 9)]) (by kernel_rfl)
  · rcases ht with rfl | rfl
    · exact walkE (k := 1) (fs := [(.V (oget_list h1 hm), 0), (.R (deref_run (d := d) (m := m) (y := y) (T := tF T s) hm d1), 3), (.O (tg2 T s), 0), (.V (tb_get (Int.ofNat a) s.sz hz), 9)]) (by kernel_rfl)
    · exact walkE (k := 1) (fs := [(.V (oget_list h1 hm), 0), (.R (deref_run (d := d) (m := m) (y := y) (T := tF T s) hm d1), 4), (.O (tg2 T s), 0), (.V (tb_get (Int.ofNat a) s.sz hz), 9)]) (by kernel_rfl)
theorem hst : wsc.names.lookup ("step" : Str) = some .local := by kernel_rfl
theorem wsize_lis {h s1 s2 hi : Nat} {c1 c2 : VV} (hm : m.hp.length ≤ 1000000) (h1 : m.hp[h]? = some c1) (h2 : m.hp[h + 1]? = some c2) (d1 : Solid c1 ∨ IsVar m.hp c1) (d2 : Solid c2 ∨ IsVar m.hp c2) (k1 : ChS hi s.sz c1 s1) (k2 : ChS hi s.sz c2 s2) :
    callD G noSpec (d + 2) 399 [.ref 23, cell 3 (Int.ofNat h), .ref (t2 T + 32)] (mk m y (tF T s)) = .ok (.int (Int.ofNat (1 + s1 + s2))) (mk m y (tF T s)) := by
  have e : (Od (d + 1) 396).loop wsc "step" (.rng 0 2 1) wB (ρW T (cell 3 (Int.ofNat h)) (.int (Int.ofNat h)) (.int (Int.ofNat 1)) .junk .junk) (mk m y (tF T s)) = .ok (.next, ρW T (cell 3 (Int.ofNat h)) (.int (Int.ofNat h)) (.int (Int.ofNat (1 + s1 + s2))) (.int (Int.ofNat 1)) c2) (mk m y (tF T s)) :=
    (loop_go (v := .int (Int.ofNat 0)) (i' := .rng 1 2 1) (by kernel_rfl) hst (ws_step (k := 0) (M := 365) hm h1 d1 k1)).trans ((loop_go (v := .int (Int.ofNat 1)) (i' := .rng 2 2 1) (by kernel_rfl) hst (ws_step (k := 1) (M := 364) hm h2 d2 k2)).trans (loop_end (by kernel_rfl)))
  exact walk (n := 7) (fs := [(.F e, 9)]) (by kernel_rfl)
theorem wsize_str {a s1 hi f x : Nat} {c1 : VV} (hs : y.fn.length ≤ 1000000) (hm : m.hp.length ≤ 1000000) (h0 : m.hp[a]? = some (cell 6 (Int.ofNat f))) (hf : y.fn[f]? = some (x, 1)) (h1 : m.hp[a + 1]? = some c1) (d1 : Solid c1 ∨ IsVar m.hp c1) (k1 : ChS hi s.sz c1 s1) :
    callD G noSpec (d + 3) 399 [.ref 23, cell 2 (Int.ofNat a), .ref (t2 T + 32)] (mk m y (tF T s)) = .ok (.int (Int.ofNat (1 + s1))) (mk m y (tF T s)) := by
  have e : (Od (d + 2) 396).loop wsc "step" (.rng 0 1 1) wB (ρW T (cell 2 (Int.ofNat a)) (.int (Int.ofNat (a + 1))) (.int (Int.ofNat 1)) .junk .junk) (mk m y (tF T s)) = .ok (.next, ρW T (cell 2 (Int.ofNat a)) (.int (Int.ofNat (a + 1))) (.int (Int.ofNat (1 + s1))) (.int (Int.ofNat 0)) c1) (mk m y (tF T s)) :=
    (loop_go (v := .int (Int.ofNat 0)) (i' := .rng 1 1 1) (by kernel_rfl) hst (ws_step (k := 0) (M := 365) hm h1 d1 k1)).trans (loop_end (by kernel_rfl))
  exact walk (n := 8) (fs := [(.V (oget_list h0 hm), 0), (.R (arity_run (d := d) (y := y) (a := .list m.X) (b := .list [.ref 0, .int m.pa, .int m.pi, .int m.pc]) (R := objs m (tF T s)) x 1 f hf hs), 1), (.F e, 9)]) (by kernel_rfl)
noncomputable def ρT (T : List VO) (c w f r e t p st : VV) : VE := [("self", .ref 23), ("cell", c), ("table", .ref (T.length + 32)), ("known", .ref (t1 T + 32)), ("sizes", .ref (t2 T + 32)), ("results", .ref (t3 T + 32)), ("work", .ref (t4 T + 32)), ("what", w), ("f", f), ("first", r), ("term", e), ("tag", t), ("place", p), ("step", st)]
noncomputable def Ta (m : MS) (y : Sy) (T : List VO) (d : Nat) (X : Res (VF × VE)) (M : Nat) (s : TS) : Prop := Y8 fun c w f r e t p st => X = (Od (d + 3) M).whl tsc (condOf tl) (bodyOf tl) (ρT T c w f r e t p st) (mk m y (tF T s))
theorem pop_l (W : List VV) (v : VV) (h : W.length + 1 ≤ 1000000) : omth "list.pop" (.list (W ++ [v])) [] = some (.o v (.list W)) := by
  have e : omth "list.pop" (.list (W ++ [v])) [] = if okLen (W ++ [v]).length = true then (W ++ [v]).getLast?.map (fun u => .o u (.list (W ++ [v]).dropLast)) else none := by kernel_rfl
  rw [e, if_pos (okLen_iff.mpr (by simp; lia)), List.getLast?_concat]
  simp
theorem gt_t (a : Nat) : some (decide ((0 : Int) < Int.ofNat (a + 1))) = some true := congrArg some (decide_eq_true (Int.ofNat_lt.mpr (Nat.succ_pos a)))
section
variable {X : Res (VF × VE)} {M : Nat} {R W : List VV} {J : List VO} {te kn sz : List (Int × VV)}
theorem w_cond {ρc w f r e t p st v : VV} {n : Nat} (hW : W.length ≤ 100000) : (Od (d + 3) (n + 40)).cd tsc (condOf tl) (ρT T ρc w f r e t p st) (mk m y (tF T ⟨te, kn, sz, R, W ++ [v], J⟩)) = .ok true (mk m y (tF T ⟨te, kn, sz, R, W ++ [v], J⟩)) :=
  walkC (k := 0) (fs := [(.O (tg4 T ⟨te, kn, sz, R, W ++ [v], J⟩), 0), (.W (len_l (xs := W ++ [v]) (n := W.length + 1) (by simp) (by lia)), 0), (.Q (gt_t W.length), 9)]) (by kernel_rfl)
theorem t_con (n : Int) (hW : W.length ≤ 100000) (hR : R.length ≤ 100000) (hM : 45 ≤ M) (A : Ta m y T d X (M + 1) ⟨te, kn, sz, R, W ++ [.tup [.int 0, cell 4 n]], J⟩) : Ta m y T d X M ⟨te, kn, sz, R ++ [.tup [.str "a", .int n]], W, J⟩ := by
  obtain ⟨k, rfl⟩ := lv_of (k := 40) hM
  obtain ⟨c, w, f, r, e, t, p, st, h⟩ := A
  exact ⟨cell 4 n, .int 0, f, r, e, .int 4, p, st, h.trans (whl_go (w_cond hW) (walkE (k := 0) (fs := [(.O (tg4 T ⟨te, kn, sz, R, W ++ [.tup [.int 0, cell 4 n]], J⟩), 1), (.O (tg4 T ⟨te, kn, sz, R, W ++ [.tup [.int 0, cell 4 n]], J⟩), 0), (.W (pop_l W (.tup [.int 0, cell 4 n]) (by lia)), 0), (.T (ts4 T ⟨te, kn, sz, R, W ++ [.tup [.int 0, cell 4 n]], J⟩ W), 8),
    (.O (tg3 T ⟨te, kn, sz, R, W, J⟩), 1), (.O (tg3 T ⟨te, kn, sz, R, W, J⟩), 0), (.W (app_l (xs := R) (v := .tup [.str "a", .int n]) rfl (by exact Nat.le_trans (by assumption) (by decide))), 0), (.T (ts3 T ⟨te, kn, sz, R, W, J⟩ (R ++ [.tup [.str "a", .int n]])), 9)]) (by kernel_rfl)))⟩
theorem t_int (n : Int) (hW : W.length ≤ 100000) (hR : R.length ≤ 100000) (hM : 45 ≤ M) (A : Ta m y T d X (M + 1) ⟨te, kn, sz, R, W ++ [.tup [.int 0, cell 5 n]], J⟩) : Ta m y T d X M ⟨te, kn, sz, R ++ [.tup [.str "i", .int n]], W, J⟩ := by
  obtain ⟨k, rfl⟩ := lv_of (k := 40) hM
  obtain ⟨c, w, f, r, e, t, p, st, h⟩ := A
  exact ⟨cell 5 n, .int 0, f, r, e, .int 5, p, st, h.trans (whl_go (w_cond hW) (walkE (k := 0) (fs := [(.O (tg4 T ⟨te, kn, sz, R, W ++ [.tup [.int 0, cell 5 n]], J⟩), 1), (.O (tg4 T ⟨te, kn, sz, R, W ++ [.tup [.int 0, cell 5 n]], J⟩), 0), (.W (pop_l W (.tup [.int 0, cell 5 n]) (by lia)), 0), (.T (ts4 T ⟨te, kn, sz, R, W ++ [.tup [.int 0, cell 5 n]], J⟩ W), 9),
    (.O (tg3 T ⟨te, kn, sz, R, W, J⟩), 1), (.O (tg3 T ⟨te, kn, sz, R, W, J⟩), 0), (.W (app_l (xs := R) (v := .tup [.str "i", .int n]) rfl (by exact Nat.le_trans (by assumption) (by decide))), 0), (.T (ts3 T ⟨te, kn, sz, R, W, J⟩ (R ++ [.tup [.str "i", .int n]])), 9)]) (by kernel_rfl)))⟩
theorem t_var {z : Nat} (hm : m.hp.length ≤ 1000000) (hz : m.hp[z]? = some (c0 z)) (ht : te = [] ∨ te = [(Int.ofNat z, .int 0)]) (hW : W.length ≤ 100000) (hR : R.length ≤ 100000) (hM : 45 ≤ M) (A : Ta m y T d X (M + 1) ⟨te, kn, sz, R, W ++ [.tup [.int 0, c0 z]], J⟩) : Ta m y T d X M ⟨[(Int.ofNat z, .int 0)], kn, sz, R ++ [.tup [.str "v", .int 0]], W, J⟩ := by
  obtain ⟨k, rfl⟩ := lv_of (k := 40) hM
  obtain ⟨c, w, f, r, e, t, p, st, h⟩ := A
  refine ⟨c0 z, .int 0, f, r, e, .int 0, p, st, h.trans (whl_go (w_cond hW) ?_)⟩
  rcases ht with rfl | rfl
  · exact walkE (k := 0) (fs := [(.O (tg4 T ⟨[], kn, sz, R, W ++ [.tup [.int 0, c0 z]], J⟩), 1), (.O (tg4 T ⟨[], kn, sz, R, W ++ [.tup [.int 0, c0 z]], J⟩), 0), (.W (pop_l W (.tup [.int 0, c0 z]) (by lia)), 0), (.T (ts4 T ⟨[], kn, sz, R, W ++ [.tup [.int 0, c0 z]], J⟩ W), 2), (.R (deref_run (d := d + 2) (m := m) (y := y) (T := tF T ⟨[], kn, sz, R, W, J⟩) hm (.inr ⟨z, rfl, hz⟩)), 1), (.O (tg0 T ⟨[], kn, sz, R, W, J⟩), 1), (.O (tg0 T ⟨[], kn, sz, R, W, J⟩), 1), (.O (tg0 T ⟨[], kn, sz, R, W, J⟩), 1), (.T (ts0 T ⟨[], kn, sz, R, W, J⟩ [(Int.ofNat z, .int 0)]), 0),
      (.O (tg3 T ⟨[(Int.ofNat z, .int 0)], kn, sz, R, W, J⟩), 1), (.O (tg0 T ⟨[(Int.ofNat z, .int 0)], kn, sz, R, W, J⟩), 0), (.V (oget_one (Int.ofNat z) (.int 0)), 0), (.O (tg3 T ⟨[(Int.ofNat z, .int 0)], kn, sz, R, W, J⟩), 0), (.W (app_l (xs := R) (v := .tup [.str "v", .int 0]) rfl (by exact Nat.le_trans (by assumption) (by decide))), 0), (.T (ts3 T ⟨[(Int.ofNat z, .int 0)], kn, sz, R, W, J⟩ (R ++ [.tup [.str "v", .int 0]])), 9)]) (by kernel_rfl)
  · exact walkE (k := 0) (fs := [(.O (tg4 T ⟨[(Int.ofNat z, .int 0)], kn, sz, R, W ++ [.tup [.int 0, c0 z]], J⟩), 1), (.O (tg4 T ⟨[(Int.ofNat z, .int 0)], kn, sz, R, W ++ [.tup [.int 0, c0 z]], J⟩), 0), (.W (pop_l W (.tup [.int 0, c0 z]) (by lia)), 0), (.T (ts4 T ⟨[(Int.ofNat z, .int 0)], kn, sz, R, W ++ [.tup [.int 0, c0 z]], J⟩ W), 2), (.R (deref_run (d := d + 2) (m := m) (y := y) (T := tF T ⟨[(Int.ofNat z, .int 0)], kn, sz, R, W, J⟩) hm (.inr ⟨z, rfl, hz⟩)), 1), (.O (tg0 T ⟨[(Int.ofNat z, .int 0)], kn, sz, R, W, J⟩), 0), (.Q (tb_in (Int.ofNat z) [(Int.ofNat z, .int 0)] (oget_one (Int.ofNat z) (.int 0))), 0),
      (.O (tg3 T ⟨[(Int.ofNat z, .int 0)], kn, sz, R, W, J⟩), 1), (.O (tg0 T ⟨[(Int.ofNat z, .int 0)], kn, sz, R, W, J⟩), 0), (.V (oget_one (Int.ofNat z) (.int 0)), 0), (.O (tg3 T ⟨[(Int.ofNat z, .int 0)], kn, sz, R, W, J⟩), 0), (.W (app_l (xs := R) (v := .tup [.str "v", .int 0]) rfl (by exact Nat.le_trans (by assumption) (by decide))), 0), (.T (ts3 T ⟨[(Int.ofNat z, .int 0)], kn, sz, R, W, J⟩ (R ++ [.tup [.str "v", .int 0]])), 9)]) (by kernel_rfl)
theorem t_str {a g x : Nat} {c1 : VV} (hs : y.fn.length ≤ 1000000) (hm : m.hp.length ≤ 1000000) (hk : assocGet (Int.ofNat a) kn = none) (h0 : m.hp[a]? = some (cell 6 (Int.ofNat g))) (hf : y.fn[g]? = some (x, 1)) (h1 : m.hp[a + 1]? = some c1) (hK : kn.length ≤ 100000) (hW : W.length ≤ 100000) (hM : 45 ≤ M) (A : Ta m y T d X (M + 1) ⟨te, kn, sz, R, W ++ [.tup [.int 0, cell 2 (Int.ofNat a)]], J⟩) :
    Ta m y T d X M ⟨te, assocSet (Int.ofNat a) .none kn, sz, R, W ++ [.tup [.int 1, cell 2 (Int.ofNat a)]] ++ [.tup [.int 0, c1]], J⟩ := by
  obtain ⟨k, rfl⟩ := lv_of (k := 40) hM
  obtain ⟨c, w, f, r, e, t, p, st, h⟩ := A
  exact ⟨cell 2 (Int.ofNat a), .int 0, f, r, e, .int 2, .int (Int.ofNat (a + 1)), .int 0, h.trans (whl_go (w_cond hW) (walkE (k := 0) (fs := [(.O (tg4 T ⟨te, kn, sz, R, W ++ [.tup [.int 0, cell 2 (Int.ofNat a)]], J⟩), 1), (.O (tg4 T ⟨te, kn, sz, R, W ++ [.tup [.int 0, cell 2 (Int.ofNat a)]], J⟩), 0), (.W (pop_l W (.tup [.int 0, cell 2 (Int.ofNat a)]) (by lia)), 0), (.T (ts4 T ⟨te, kn, sz, R, W ++ [.tup [.int 0, cell 2 (Int.ofNat a)]], J⟩ W), 9), (.O (tg1 T ⟨te, kn, sz, R, W, J⟩), 0), (.Q (tb_in (Int.ofNat a) kn hk), 0), (.O (tg1 T ⟨te, kn, sz, R, W, J⟩), 0), (.O (tb_set (Int.ofNat a) .none kn (by exact Nat.le_trans (by assumption) (by decide))), 0), (.T (ts1 T ⟨te, kn, sz, R, W, J⟩ (assocSet (Int.ofNat a) .none kn)), 0),
    (.O (tg4 T ⟨te, assocSet (Int.ofNat a) .none kn, sz, R, W, J⟩), 1), (.O (tg4 T ⟨te, assocSet (Int.ofNat a) .none kn, sz, R, W, J⟩), 0), (.W (app_l (xs := W) (v := .tup [.int 1, cell 2 (Int.ofNat a)]) rfl (by exact Nat.le_trans (by assumption) (by decide))), 0), (.T (ts4 T ⟨te, assocSet (Int.ofNat a) .none kn, sz, R, W, J⟩ (W ++ [.tup [.int 1, cell 2 (Int.ofNat a)]])), 8), (.V (oget_list h0 hm), 0), (.R (arity_run (d := d + 1) (y := y) (a := .list m.X) (b := .list [.ref 0, .int m.pa, .int m.pi, .int m.pc]) (R := objs m (tF T ⟨te, assocSet (Int.ofNat a) .none kn, sz, R, W ++ [.tup [.int 1, cell 2 (Int.ofNat a)]], J⟩)) x 1 g hf hs), 3),
    (.O (tg4 T ⟨te, assocSet (Int.ofNat a) .none kn, sz, R, W ++ [.tup [.int 1, cell 2 (Int.ofNat a)]], J⟩), 1), (.V (oget_list h1 hm), 0), (.O (tg4 T ⟨te, assocSet (Int.ofNat a) .none kn, sz, R, W ++ [.tup [.int 1, cell 2 (Int.ofNat a)]], J⟩), 0), (.W (app_l (xs := W ++ [.tup [.int 1, cell 2 (Int.ofNat a)]]) (v := .tup [.int 0, c1]) rfl (by simp; exact Nat.le_trans (by assumption) (by decide))), 0), (.T (ts4 T ⟨te, assocSet (Int.ofNat a) .none kn, sz, R, W ++ [.tup [.int 1, cell 2 (Int.ofNat a)]], J⟩ (W ++ [.tup [.int 1, cell 2 (Int.ofNat a)]] ++ [.tup [.int 0, c1]])), 9)]) (by kernel_rfl)))⟩
theorem t_lis {a : Nat} {c1 c2 : VV} (hm : m.hp.length ≤ 1000000) (hk : assocGet (Int.ofNat a) kn = none) (h1 : m.hp[a]? = some c1) (h2 : m.hp[a + 1]? = some c2) (hK : kn.length ≤ 100000) (hW : W.length ≤ 100000) (hM : 45 ≤ M) (A : Ta m y T d X (M + 1) ⟨te, kn, sz, R, W ++ [.tup [.int 0, cell 3 (Int.ofNat a)]], J⟩) :
    Ta m y T d X M ⟨te, assocSet (Int.ofNat a) .none kn, sz, R, W ++ [.tup [.int 1, cell 3 (Int.ofNat a)]] ++ [.tup [.int 0, c2]] ++ [.tup [.int 0, c1]], J⟩ := by
  obtain ⟨k, rfl⟩ := lv_of (k := 40) hM
  obtain ⟨c, w, f, r, e, t, p, st, h⟩ := A
  exact ⟨cell 3 (Int.ofNat a), .int 0, f, r, e, .int 3, .int (Int.ofNat a), .int 0, h.trans (whl_go (w_cond hW) (walkE (k := 0) (fs := [(.O (tg4 T ⟨te, kn, sz, R, W ++ [.tup [.int 0, cell 3 (Int.ofNat a)]], J⟩), 1), (.O (tg4 T ⟨te, kn, sz, R, W ++ [.tup [.int 0, cell 3 (Int.ofNat a)]], J⟩), 0), (.W (pop_l W (.tup [.int 0, cell 3 (Int.ofNat a)]) (by lia)), 0), (.T (ts4 T ⟨te, kn, sz, R, W ++ [.tup [.int 0, cell 3 (Int.ofNat a)]], J⟩ W), 9), (.O (tg1 T ⟨te, kn, sz, R, W, J⟩), 0), (.Q (tb_in (Int.ofNat a) kn hk), 0), (.O (tg1 T ⟨te, kn, sz, R, W, J⟩), 0), (.O (tb_set (Int.ofNat a) .none kn (by exact Nat.le_trans (by assumption) (by decide))), 0), (.T (ts1 T ⟨te, kn, sz, R, W, J⟩ (assocSet (Int.ofNat a) .none kn)), 0),
    (.O (tg4 T ⟨te, assocSet (Int.ofNat a) .none kn, sz, R, W, J⟩), 1), (.O (tg4 T ⟨te, assocSet (Int.ofNat a) .none kn, sz, R, W, J⟩), 0), (.W (app_l (xs := W) (v := .tup [.int 1, cell 3 (Int.ofNat a)]) rfl (by exact Nat.le_trans (by assumption) (by decide))), 0), (.T (ts4 T ⟨te, assocSet (Int.ofNat a) .none kn, sz, R, W, J⟩ (W ++ [.tup [.int 1, cell 3 (Int.ofNat a)]])), 9),
    (.O (tg4 T ⟨te, assocSet (Int.ofNat a) .none kn, sz, R, W ++ [.tup [.int 1, cell 3 (Int.ofNat a)]], J⟩), 1), (.V (oget_list h2 hm), 0), (.O (tg4 T ⟨te, assocSet (Int.ofNat a) .none kn, sz, R, W ++ [.tup [.int 1, cell 3 (Int.ofNat a)]], J⟩), 0), (.W (app_l (xs := W ++ [.tup [.int 1, cell 3 (Int.ofNat a)]]) (v := .tup [.int 0, c2]) rfl (by simp; exact Nat.le_trans (by assumption) (by decide))), 0), (.T (ts4 T ⟨te, assocSet (Int.ofNat a) .none kn, sz, R, W ++ [.tup [.int 1, cell 3 (Int.ofNat a)]], J⟩ (W ++ [.tup [.int 1, cell 3 (Int.ofNat a)]] ++ [.tup [.int 0, c2]])), 2),
    (.O (tg4 T ⟨te, assocSet (Int.ofNat a) .none kn, sz, R, W ++ [.tup [.int 1, cell 3 (Int.ofNat a)]] ++ [.tup [.int 0, c2]], J⟩), 1), (.V (oget_list h1 hm), 0), (.O (tg4 T ⟨te, assocSet (Int.ofNat a) .none kn, sz, R, W ++ [.tup [.int 1, cell 3 (Int.ofNat a)]] ++ [.tup [.int 0, c2]], J⟩), 0), (.W (app_l (xs := W ++ [.tup [.int 1, cell 3 (Int.ofNat a)]] ++ [.tup [.int 0, c2]]) (v := .tup [.int 0, c1]) rfl (by simp; exact Nat.le_trans (by assumption) (by decide))), 0), (.T (ts4 T ⟨te, assocSet (Int.ofNat a) .none kn, sz, R, W ++ [.tup [.int 1, cell 3 (Int.ofNat a)]] ++ [.tup [.int 0, c2]], J⟩ (W ++ [.tup [.int 1, cell 3 (Int.ofNat a)]] ++ [.tup [.int 0, c2]] ++ [.tup [.int 0, c1]])), 9)]) (by kernel_rfl)))⟩
end
end
end Mine
end
section
set_option backward.match.sparseCases false
namespace Mine
theorem whl_co {d n : Nat} {sc : Scope} {b : List XS} {ρ ρ' : VE} {σ τ' : VH} {c : XE} (hc : (Od d n).cd sc c ρ σ = .ok true σ) (e : (Od d n).exs sc b ρ σ = .ok (.cont, ρ') τ') : (Od d (n + 1)).whl sc c b ρ σ = (Od d n).whl sc c b ρ' τ' := whl_step hc e
theorem nat_sub (n k : Nat) : (some (.int (Int.ofNat (n + k) - Int.ofNat k)) : Option VV) = some (.int (Int.ofNat n)) := by
  rw [show Int.ofNat (n + k) - Int.ofNat k = Int.ofNat n by simp]
theorem drop_l {R ts : List VV} (h : (R ++ ts).length ≤ 1000000) : omap (·.drop R.length) (.list (R ++ ts)) = some (.list ts) := by
  refine (if_pos (okLen_iff.mpr (by exact Nat.le_trans (by assumption) (by decide)))).trans ?_
  show some (VO.list (List.drop R.length (R ++ ts))) = _
  rw [List.drop_left]
theorem take_l {R ts : List VV} (h : (R ++ ts).length ≤ 1000000) : omap (·.take R.length) (.list (R ++ ts)) = some (.list R) := by
  refine (if_pos (okLen_iff.mpr (by exact Nat.le_trans (by assumption) (by decide)))).trans ?_
  show some (VO.list (List.take R.length (R ++ ts))) = _
  rw [List.take_left]
theorem tup_l {xs : List VV} (h : xs.length ≤ 1000000) : blt1 (.type "tuple") (.list xs) = some (.v (.tup xs)) := if_pos (okLen_iff.mpr (by exact Nat.le_trans (by assumption) (by decide)))
theorem gt_no' {n : Nat} (h : n ≤ 100000) : some (decide ((100000 : Int) + 1 < Int.ofNat n)) = some false := congrArg some (decide_eq_false (by simp; lia))
section
variable {m : MS} {y : Sy} {T : List VO} {d : Nat} {X : Res (VF × VE)} {M : Nat} {R W : List VV} {J : List VO} {te kn sz : List (Int × VV)}
theorem b_str {a g x s1 hi : Nat} {c1 t1 : VV} (hs : y.fn.length ≤ 1000000) (hm : m.hp.length ≤ 1000000) (h0 : m.hp[a]? = some (cell 6 (Int.ofNat g))) (hf : y.fn[g]? = some (x, 1)) (h1 : m.hp[a + 1]? = some c1) (d1 : Solid c1 ∨ IsVar m.hp c1) (k1 : ChS hi sz c1 s1) (hK : kn.length ≤ 100000) (hS : sz.length ≤ 100000) (hW : W.length ≤ 100000) (hR : R.length ≤ 100000) (hM : 45 ≤ M) (hz : 1 + s1 ≤ 100000) (A : Ta m y T d X (M + 1) ⟨te, kn, sz, R ++ [t1], W ++ [.tup [.int 1, cell 2 (Int.ofNat a)]], J⟩) :
    Ta m y T d X M ⟨te, assocSet (Int.ofNat a) (.tup [.str "s", .int (Int.ofNat g), .tup [t1]]) kn, assocSet (Int.ofNat a) (.int (Int.ofNat (1 + s1))) sz, R ++ [.tup [.str "s", .int (Int.ofNat g), .tup [t1]]], W, J ++ [.list [t1]]⟩ := by
  obtain ⟨k, rfl⟩ := lv_of (k := 40) hM
  obtain ⟨c, w, f, r, e, t, p, st, h⟩ := A
  exact ⟨cell 2 (Int.ofNat a), .int 1, .int (Int.ofNat g), .int (Int.ofNat (R.length + 1) - Int.ofNat 1), .tup [.str "s", .int (Int.ofNat g), .tup [t1]], t, p, st, h.trans (whl_co (w_cond hW) (walkE (k := 0) (fs := [(.O (tg4 T ⟨te, kn, sz, R ++ [t1], W ++ [.tup [.int 1, cell 2 (Int.ofNat a)]], J⟩), 1), (.O (tg4 T ⟨te, kn, sz, R ++ [t1], W ++ [.tup [.int 1, cell 2 (Int.ofNat a)]], J⟩), 0), (.W (pop_l W (.tup [.int 1, cell 2 (Int.ofNat a)]) (by lia)), 0), (.T (ts4 T ⟨te, kn, sz, R ++ [t1], W ++ [.tup [.int 1, cell 2 (Int.ofNat a)]], J⟩ W), 4), (.V (oget_list h0 hm), 0),
    (.O (tg3 T ⟨te, kn, sz, R ++ [t1], W, J⟩), 0), (.W (len_l (xs := R ++ [t1]) (n := R.length + 1) (by simp) (by lia)), 5), (.V (oget_list h0 hm), 0), (.R (arity_run (d := d + 1) (y := y) (a := .list m.X) (b := .list [.ref 0, .int m.pa, .int m.pi, .int m.pc]) (R := objs m (tF T ⟨te, kn, sz, R ++ [t1], W, J⟩)) x 1 g hf hs), 0),
    (.V (nat_sub R.length 1), 0), (.O (tg3 T ⟨te, kn, sz, R ++ [t1], W, J⟩), 0), (.O (drop_l (R := R) (ts := [t1]) (by simp; exact Nat.le_trans (by assumption) (by decide))), 0), (.O (last_get (tF T ⟨te, kn, sz, R ++ [t1], W, J⟩) (.list [t1])), 0), (.W (tup_l (xs := [t1]) (by simp)), 0),
    (.V (nat_sub R.length 1), 0), (.O (tgJ T ⟨te, kn, sz, R ++ [t1], W, J⟩ (.list [t1])), 0), (.O (take_l (R := R) (ts := [t1]) (by simp; exact Nat.le_trans (by assumption) (by decide))), 0), (.T (tsJ T ⟨te, kn, sz, R ++ [t1], W, J⟩ (.list [t1]) R), 0),
    (.O (tg1 T ⟨te, kn, sz, R, W, J ++ [.list [t1]]⟩), 0), (.O (tb_set (Int.ofNat a) (.tup [.str "s", .int (Int.ofNat g), .tup [t1]]) kn (by exact Nat.le_trans (by assumption) (by decide))), 0), (.T (ts1 T ⟨te, kn, sz, R, W, J ++ [.list [t1]]⟩ (assocSet (Int.ofNat a) (.tup [.str "s", .int (Int.ofNat g), .tup [t1]]) kn)), 1), (.R (wsize_str (d := d) (m := m) (y := y) (T := T) (s := ⟨te, assocSet (Int.ofNat a) (.tup [.str "s", .int (Int.ofNat g), .tup [t1]]) kn, sz, R, W, J ++ [.list [t1]]⟩) hs hm h0 hf h1 d1 k1), 0), (.O (tg2 T ⟨te, assocSet (Int.ofNat a) (.tup [.str "s", .int (Int.ofNat g), .tup [t1]]) kn, sz, R, W, J ++ [.list [t1]]⟩), 0), (.O (tb_set (Int.ofNat a) (.int (Int.ofNat (1 + s1))) sz (by exact Nat.le_trans (by assumption) (by decide))), 0), (.T (ts2 T ⟨te, assocSet (Int.ofNat a) (.tup [.str "s", .int (Int.ofNat g), .tup [t1]]) kn, sz, R, W, J ++ [.list [t1]]⟩ (assocSet (Int.ofNat a) (.int (Int.ofNat (1 + s1))) sz)), 0),
    (.O (tg2 T ⟨te, assocSet (Int.ofNat a) (.tup [.str "s", .int (Int.ofNat g), .tup [t1]]) kn, assocSet (Int.ofNat a) (.int (Int.ofNat (1 + s1))) sz, R, W, J ++ [.list [t1]]⟩), 0), (.V (tb_get (Int.ofNat a) _ (get_same (Int.ofNat a) (.int (Int.ofNat (1 + s1))) sz)), 0), (.Q (gt_no' hz), 0), (.O (tg3 T ⟨te, assocSet (Int.ofNat a) (.tup [.str "s", .int (Int.ofNat g), .tup [t1]]) kn, assocSet (Int.ofNat a) (.int (Int.ofNat (1 + s1))) sz, R, W, J ++ [.list [t1]]⟩), 1), (.O (tg3 T ⟨te, assocSet (Int.ofNat a) (.tup [.str "s", .int (Int.ofNat g), .tup [t1]]) kn, assocSet (Int.ofNat a) (.int (Int.ofNat (1 + s1))) sz, R, W, J ++ [.list [t1]]⟩), 0), (.W (app_l (xs := R) (v := .tup [.str "s", .int (Int.ofNat g), .tup [t1]]) rfl (by exact Nat.le_trans (by assumption) (by decide))), 0), (.T (ts3 T ⟨te, assocSet (Int.ofNat a) (.tup [.str "s", .int (Int.ofNat g), .tup [t1]]) kn, assocSet (Int.ofNat a) (.int (Int.ofNat (1 + s1))) sz, R, W, J ++ [.list [t1]]⟩ (R ++ [.tup [.str "s", .int (Int.ofNat g), .tup [t1]]])), 9)]) (by kernel_rfl)))⟩
theorem b_lis {a s1 s2 hi : Nat} {c1 c2 t1 t2 : VV} (hm : m.hp.length ≤ 1000000) (h1 : m.hp[a]? = some c1) (h2 : m.hp[a + 1]? = some c2) (d1 : Solid c1 ∨ IsVar m.hp c1) (d2 : Solid c2 ∨ IsVar m.hp c2) (k1 : ChS hi sz c1 s1) (k2 : ChS hi sz c2 s2) (hK : kn.length ≤ 100000) (hS : sz.length ≤ 100000) (hW : W.length ≤ 100000) (hR : R.length ≤ 100000) (hM : 45 ≤ M) (hz : 1 + s1 + s2 ≤ 100000) (A : Ta m y T d X (M + 1) ⟨te, kn, sz, R ++ [t1, t2], W ++ [.tup [.int 1, cell 3 (Int.ofNat a)]], J⟩) :
    Ta m y T d X M ⟨te, assocSet (Int.ofNat a) (.tup [.str "s", .int 0, .tup [t1, t2]]) kn, assocSet (Int.ofNat a) (.int (Int.ofNat (1 + s1 + s2))) sz, R ++ [.tup [.str "s", .int 0, .tup [t1, t2]]], W, J ++ [.list [t1, t2]]⟩ := by
  obtain ⟨k, rfl⟩ := lv_of (k := 40) hM
  obtain ⟨c, w, f, r, e, t, p, st, h⟩ := A
  exact ⟨cell 3 (Int.ofNat a), .int 1, .int 0, .int (Int.ofNat (R.length + 2) - Int.ofNat 2), .tup [.str "s", .int 0, .tup [t1, t2]], t, p, st, h.trans (whl_co (w_cond hW) (walkE (k := 0) (fs := [(.O (tg4 T ⟨te, kn, sz, R ++ [t1, t2], W ++ [.tup [.int 1, cell 3 (Int.ofNat a)]], J⟩), 1), (.O (tg4 T ⟨te, kn, sz, R ++ [t1, t2], W ++ [.tup [.int 1, cell 3 (Int.ofNat a)]], J⟩), 0), (.W (pop_l W (.tup [.int 1, cell 3 (Int.ofNat a)]) (by lia)), 0), (.T (ts4 T ⟨te, kn, sz, R ++ [t1, t2], W ++ [.tup [.int 1, cell 3 (Int.ofNat a)]], J⟩ W), 5),
    (.O (tg3 T ⟨te, kn, sz, R ++ [t1, t2], W, J⟩), 0), (.W (len_l (xs := R ++ [t1, t2]) (n := R.length + 2) (by simp) (by lia)), 3),
    (.V (nat_sub R.length 2), 0), (.O (tg3 T ⟨te, kn, sz, R ++ [t1, t2], W, J⟩), 0), (.O (drop_l (R := R) (ts := [t1, t2]) (by simp; exact Nat.le_trans (by assumption) (by decide))), 0), (.O (last_get (tF T ⟨te, kn, sz, R ++ [t1, t2], W, J⟩) (.list [t1, t2])), 0), (.W (tup_l (xs := [t1, t2]) (by simp)), 0),
    (.V (nat_sub R.length 2), 0), (.O (tgJ T ⟨te, kn, sz, R ++ [t1, t2], W, J⟩ (.list [t1, t2])), 0), (.O (take_l (R := R) (ts := [t1, t2]) (by simp; exact Nat.le_trans (by assumption) (by decide))), 0), (.T (tsJ T ⟨te, kn, sz, R ++ [t1, t2], W, J⟩ (.list [t1, t2]) R), 0),
    (.O (tg1 T ⟨te, kn, sz, R, W, J ++ [.list [t1, t2]]⟩), 0), (.O (tb_set (Int.ofNat a) (.tup [.str "s", .int 0, .tup [t1, t2]]) kn (by exact Nat.le_trans (by assumption) (by decide))), 0), (.T (ts1 T ⟨te, kn, sz, R, W, J ++ [.list [t1, t2]]⟩ (assocSet (Int.ofNat a) (.tup [.str "s", .int 0, .tup [t1, t2]]) kn)), 1), (.R (wsize_lis (d := d + 1) (m := m) (y := y) (T := T) (s := ⟨te, assocSet (Int.ofNat a) (.tup [.str "s", .int 0, .tup [t1, t2]]) kn, sz, R, W, J ++ [.list [t1, t2]]⟩) hm h1 h2 d1 d2 k1 k2), 0), (.O (tg2 T ⟨te, assocSet (Int.ofNat a) (.tup [.str "s", .int 0, .tup [t1, t2]]) kn, sz, R, W, J ++ [.list [t1, t2]]⟩), 0), (.O (tb_set (Int.ofNat a) (.int (Int.ofNat (1 + s1 + s2))) sz (by exact Nat.le_trans (by assumption) (by decide))), 0), (.T (ts2 T ⟨te, assocSet (Int.ofNat a) (.tup [.str "s", .int 0, .tup [t1, t2]]) kn, sz, R, W, J ++ [.list [t1, t2]]⟩ (assocSet (Int.ofNat a) (.int (Int.ofNat (1 + s1 + s2))) sz)), 0),
    (.O (tg2 T ⟨te, assocSet (Int.ofNat a) (.tup [.str "s", .int 0, .tup [t1, t2]]) kn, assocSet (Int.ofNat a) (.int (Int.ofNat (1 + s1 + s2))) sz, R, W, J ++ [.list [t1, t2]]⟩), 0), (.V (tb_get (Int.ofNat a) _ (get_same (Int.ofNat a) (.int (Int.ofNat (1 + s1 + s2))) sz)), 0), (.Q (gt_no' hz), 0), (.O (tg3 T ⟨te, assocSet (Int.ofNat a) (.tup [.str "s", .int 0, .tup [t1, t2]]) kn, assocSet (Int.ofNat a) (.int (Int.ofNat (1 + s1 + s2))) sz, R, W, J ++ [.list [t1, t2]]⟩), 1), (.O (tg3 T ⟨te, assocSet (Int.ofNat a) (.tup [.str "s", .int 0, .tup [t1, t2]]) kn, assocSet (Int.ofNat a) (.int (Int.ofNat (1 + s1 + s2))) sz, R, W, J ++ [.list [t1, t2]]⟩), 0), (.W (app_l (xs := R) (v := .tup [.str "s", .int 0, .tup [t1, t2]]) rfl (by exact Nat.le_trans (by assumption) (by decide))), 0), (.T (ts3 T ⟨te, assocSet (Int.ofNat a) (.tup [.str "s", .int 0, .tup [t1, t2]]) kn, assocSet (Int.ofNat a) (.int (Int.ofNat (1 + s1 + s2))) sz, R, W, J ++ [.list [t1, t2]]⟩ (R ++ [.tup [.str "s", .int 0, .tup [t1, t2]]])), 9)]) (by kernel_rfl)))⟩
end
end Mine
end
section
set_option backward.match.sparseCases false
namespace Mine
inductive Rp (hp : List VV) (fn : List (Nat × Nat)) (vz : Nat) : Nat → Nat → VV → VV → Nat → Nat → Prop
  | con {lo hi} (n : Int) : lo ≤ hi → Rp hp fn vz lo hi (cell 4 n) (.tup [.str "a", .int n]) 1 1
  | int {lo hi} (n : Int) : lo ≤ hi → Rp hp fn vz lo hi (cell 5 n) (.tup [.str "i", .int n]) 1 1
  | var {lo hi} : lo ≤ hi → hp[vz]? = some (c0 vz) → Rp hp fn vz lo hi (c0 vz) (.tup [.str "v", .int 0]) 1 1
  | str {lo hi} (a f x c t s k) : lo ≤ a → hp[a]? = some (cell 6 (Int.ofNat f)) → fn[f]? = some (x, 1) → hp[a + 1]? = some c → Rp hp fn vz (a + 1) hi c t s k → Rp hp fn vz lo hi (cell 2 (Int.ofNat a)) (.tup [.str "s", .int (Int.ofNat f), .tup [t]]) (1 + s) (2 + k)
  | lis {lo hi} (h c1 c2 t1 t2 s1 s2 k1 k2 mid) : lo ≤ h → hp[h]? = some c1 → hp[h + 1]? = some c2 → Rp hp fn vz (h + 1) mid c1 t1 s1 k1 → Rp hp fn vz mid hi c2 t2 s2 k2 → Rp hp fn vz lo hi (cell 3 (Int.ofNat h)) (.tup [.str "s", .int 0, .tup [t1, t2]]) (1 + s1 + s2) (2 + k1 + k2)
theorem Rp.le {hp fn vz lo hi c t s k} (h : Rp hp fn vz lo hi c t s k) : lo ≤ hi := by
  induction h with
  | con n h => exact h
  | int n h => exact h
  | var h => exact h
  | str a f x c t s k h1 _ _ _ _ ih => exact Nat.le_trans h1 (Nat.le_of_succ_le ih)
  | lis h c1 c2 t1 t2 s1 s2 k1 k2 mid h1 _ _ _ _ i1 i2 => exact Nat.le_trans h1 (Nat.le_of_succ_le (Nat.le_trans i1 i2))
theorem Rp.der {hp fn vz lo hi c t s k} (h : Rp hp fn vz lo hi c t s k) : Solid c ∨ IsVar hp c := by
  induction h with
  | con => exact .inl solid4
  | int n => exact .inl ⟨5, n, rfl, by decide, by decide⟩
  | var h h2 => exact .inr ⟨vz, rfl, h2⟩
  | str => exact .inl solid2
  | lis => exact .inl solid3
noncomputable def teOK (vz : Nat) (te : List (Int × VV)) : Prop := te = [] ∨ te = [(Int.ofNat vz, .int 0)]
noncomputable def Fr (lo : Nat) (kn : List (Int × VV)) : Prop := ∀ n, lo ≤ n → assocGet (Int.ofNat n) kn = none
noncomputable def Eqs (lo : Nat) (sz sz' : List (Int × VV)) : Prop := ∀ n, n < lo → assocGet (Int.ofNat n) sz' = assocGet (Int.ofNat n) sz
structure Rom (N : Nat) (kn sz : List (Int × VV)) (R W : List VV) : Prop where
  k : kn.length ≤ N
  s : sz.length ≤ N
  r : R.length ≤ N
  w : W.length ≤ N
noncomputable def VisitOK (m : MS) (y : Sy) (T : List VO) (d vz lo hi : Nat) (c t : VV) (s k : Nat) : Prop := ∀ (te kn sz : List (Int × VV)) (R W : List VV) (J : List VO) (M N : Nat) (X : Res (VF × VE)), teOK vz te → Fr lo kn → Rom N kn sz R W → N + 4 * s ≤ 80000 → 60 ≤ M →
  Ta m y T d X (M + k) ⟨te, kn, sz, R, W ++ [.tup [.int 0, c]], J⟩ → Y4 fun te' kn' sz' J' => C7 (Ta m y T d X M ⟨te', kn', sz', R ++ [t], W, J'⟩) (teOK vz te') (Fr hi kn') (Eqs lo sz sz') (ChS hi sz' c s) (kn'.length ≤ N + 4 * s) (sz'.length ≤ N + 4 * s)
theorem set_len {V : Type} (l : List (Int × V)) (k : Int) (v : V) : (assocSet k v l).length ≤ l.length + 1 := by
  induction l with
  | nil => exact Nat.le_refl _
  | cons e r ih =>
    by_cases q : e.1 = k
    · exact Nat.le_trans (Nat.le_of_eq (congrArg List.length (if_pos q))) (Nat.le_succ _)
    · exact Nat.le_trans (Nat.le_of_eq (congrArg List.length (if_neg q))) (Nat.succ_le_succ ih)
theorem ofNat_ne {a b : Nat} (h : a ≠ b) : Int.ofNat a ≠ Int.ofNat b := fun q => h (Int.ofNat.inj q)
theorem Fr.set {lo a : Nat} {kn : List (Int × VV)} (h : Fr lo kn) {hi : Nat} (h1 : lo ≤ hi) (h2 : a < hi) (v : VV) : Fr hi (assocSet (Int.ofNat a) v kn) := fun n hn => (get_other v kn (ofNat_ne (Nat.ne_of_gt (Nat.lt_of_lt_of_le h2 hn)))).trans (h n (Nat.le_trans h1 hn))
theorem ChS.mono {hi hi' : Nat} {sz sz' : List (Int × VV)} {c : VV} {s : Nat} (h : ChS hi sz c s) (hh : hi ≤ hi') (hz : Eqs hi sz sz') : ChS hi' sz' c s := by
  rcases h with h | ⟨t, a, e, h1, h2, h3⟩
  · exact .inl h
  · exact .inr ⟨t, a, e, h1, Nat.lt_of_lt_of_le h2 hh, (hz a h2).trans h3⟩
section
variable {m : MS} {y : Sy} {T : List VO} {d : Nat}
set_option maxHeartbeats 2000000 in
theorem visit (hs : y.fn.length ≤ 1000000) (hm : m.hp.length ≤ 1000000) {vz lo hi : Nat} {c t : VV} {s k : Nat} (h : Rp m.hp y.fn vz lo hi c t s k) : VisitOK m y T d vz lo hi c t s k := by
  induction h with
  | con n hl =>
    intro te kn sz R W J M N X ht hk r b hM A
    have hR := r.r
    have hW := r.w
    exact ⟨te, kn, sz, J, t_con n (by lia) (by lia) (by lia) A, ht, fun n hn => hk n (Nat.le_trans hl hn), fun _ _ => rfl, .inl ⟨4, n, rfl, by decide, by decide, rfl⟩, Nat.le_trans r.k (Nat.le_add_right _ _), Nat.le_trans r.s (Nat.le_add_right _ _)⟩
  | int n hl =>
    intro te kn sz R W J M N X ht hk r b hM A
    have hR := r.r
    have hW := r.w
    exact ⟨te, kn, sz, J, t_int n (by lia) (by lia) (by lia) A, ht, fun n hn => hk n (Nat.le_trans hl hn), fun _ _ => rfl, .inl ⟨5, n, rfl, by decide, by decide, rfl⟩, Nat.le_trans r.k (Nat.le_add_right _ _), Nat.le_trans r.s (Nat.le_add_right _ _)⟩
  | var hl hz =>
    intro te kn sz R W J M N X ht hk r b hM A
    have hR := r.r
    have hW := r.w
    exact ⟨_, kn, sz, J, t_var hm hz ht (by lia) (by lia) (by lia) A, .inr rfl, fun n hn => hk n (Nat.le_trans hl hn), fun _ _ => rfl, .inl ⟨0, _, rfl, by decide, by decide, rfl⟩, Nat.le_trans r.k (Nat.le_add_right _ _), Nat.le_trans r.s (Nat.le_add_right _ _)⟩
  | @str lo hi a f x c t s k hl h0 hf h1 rp ih =>
    intro te kn sz R W J M N X ht hk r b hM A
    have hR := r.r
    have hW := r.w
    have hK := r.k
    have hS := r.s
    have hle := rp.le
    have a1 := set_len kn (Int.ofNat a) .none
    have A1 := t_str (te := te) (kn := kn) (sz := sz) (R := R) (W := W) (J := J) (M := M + 1 + k) hs hm (hk a hl) h0 hf h1 (by lia) (by lia) (by lia) (by rw [show M + 1 + k + 1 = M + (2 + k) by lia]; exact A)
    obtain ⟨te', kn', sz', J', A2, t', k', z', c', l1, l2⟩ := ih te (assocSet (Int.ofNat a) .none kn) sz R (W ++ [.tup [.int 1, cell 2 (Int.ofNat a)]]) J (M + 1) (N + 1) X ht (hk.set (Nat.le_succ_of_le hl) (Nat.lt_succ_self a) .none) ⟨by lia, by exact Nat.le_succ_of_le (by assumption), by exact Nat.le_succ_of_le (by assumption), by simp; assumption⟩ (by lia) (by exact Nat.le_succ_of_le (by assumption)) A1
    have A3 := b_str hs hm h0 hf h1 rp.der c' (by lia) (by lia) (by lia) (by lia) (by lia) (by lia) A2
    have a2 := set_len kn' (Int.ofNat a) (.tup [.str "s", .int (Int.ofNat f), .tup [t]])
    have a3 := set_len sz' (Int.ofNat a) (.int (Int.ofNat (1 + s)))
    exact ⟨te', assocSet (Int.ofNat a) (.tup [.str "s", .int (Int.ofNat f), .tup [t]]) kn', assocSet (Int.ofNat a) (.int (Int.ofNat (1 + s))) sz', J' ++ [.list [t]], A3, t', k'.set (Nat.le_refl _) hle _, fun n hn => (get_other _ _ (ofNat_ne (by lia))).trans (z' n (by lia)), .inr ⟨2, a, rfl, .inl rfl, hle, get_same _ _ _⟩, by lia, by lia⟩
  | @lis lo hi h c1 c2 t1 t2 s1 s2 k1 k2 mid hl h1 h2 r1 r2 i1 i2 =>
    intro te kn sz R W J M N X ht hk r b hM A
    have hR := r.r
    have hW := r.w
    have hK := r.k
    have hS := r.s
    have l1 := r1.le
    have l2 := r2.le
    have a1 := set_len kn (Int.ofNat h) .none
    have A1 := t_lis (te := te) (kn := kn) (sz := sz) (R := R) (W := W) (J := J) (M := M + 1 + k2 + k1) hm (hk h hl) h1 h2 (by lia) (by lia) (by lia) (by rw [show M + 1 + k2 + k1 + 1 = M + (2 + k1 + k2) by lia]; exact A)
    obtain ⟨te1, kn1, sz1, J1, A2, t1', f1, z1, c1', m1, m2⟩ := i1 te (assocSet (Int.ofNat h) .none kn) sz R (W ++ [.tup [.int 1, cell 3 (Int.ofNat h)]] ++ [.tup [.int 0, c2]]) J (M + 1 + k2) (N + 2) X ht (hk.set (Nat.le_succ_of_le hl) (Nat.lt_succ_self h) .none) ⟨by lia, by lia, by lia, by simp; assumption⟩ (by lia) (by lia) A1
    obtain ⟨te2, kn2, sz2, J2, A3, t2', f2, z2, c2', m3, m4⟩ := i2 te1 kn1 sz1 (R ++ [t1]) (W ++ [.tup [.int 1, cell 3 (Int.ofNat h)]]) J1 (M + 1) (N + 2 + 4 * s1) X t1' f1 ⟨m1, m2, by simp; lia, by simp; lia⟩ (by lia) (by exact Nat.le_succ_of_le (by assumption)) A2
    rw [List.append_assoc] at A3
    have A4 := b_lis hm h1 h2 r1.der r2.der (c1'.mono l2 z2) c2' (by lia) (by lia) (by lia) (by lia) (by lia) (by lia) A3
    have a2 := set_len kn2 (Int.ofNat h) (.tup [.str "s", .int 0, .tup [t1, t2]])
    have a3 := set_len sz2 (Int.ofNat h) (.int (Int.ofNat (1 + s1 + s2)))
    exact ⟨te2, assocSet (Int.ofNat h) (.tup [.str "s", .int 0, .tup [t1, t2]]) kn2, assocSet (Int.ofNat h) (.int (Int.ofNat (1 + s1 + s2))) sz2, J2 ++ [.list [t1, t2]], A4, t2', f2.set (Nat.le_refl _) (Nat.lt_of_lt_of_le l1 l2) _, fun n hn => (get_other _ _ (ofNat_ne (by lia))).trans ((z2 n (by lia)).trans (z1 n (by lia))), .inr ⟨3, h, rfl, .inr rfl, Nat.lt_of_lt_of_le l1 l2, get_same _ _ _⟩, by lia, by lia⟩
end
end Mine
end
section
set_option backward.match.sparseCases false
namespace Mine
section
variable {m : MS} {y : Sy} {T : List VO} {d : Nat}
theorem take_run {vz lo hi : Nat} {t v : Int} {tm : VV} {s k : Nat} (hs : y.fn.length ≤ 1000000) (hm : m.hp.length ≤ 1000000) (h : Rp m.hp y.fn vz lo hi (cell t v) tm s k) (h0 : t ≠ 0) (h1 : t ≠ 1) (b1 : s ≤ 1000) (b2 : k ≤ 300) :
    ∃ U, callD G noSpec (d + 5) 623 [.ref 20, cell t v] (mk m y T) = .ok tm (mk m y (T ++ U)) := by
  obtain ⟨j, hj⟩ := Nat.exists_eq_add_of_le' b2
  have hk : j + 94 + k = 394 := by rw [Nat.add_right_comm, ← hj]
  have A0 : Ta m y T d ((Od (d + 3) 394).whl tsc (condOf tl) (bodyOf tl) (ρT T (cell t v) .junk .junk .junk .junk .junk .junk .junk) (mk m y (T ++ [VO.edict] ++ [VO.edict] ++ [VO.edict] ++ [VO.list []] ++ [VO.list [.tup [.int 0, cell t v]]]))) (j + 94 + k) ⟨[], [], [], [], [] ++ [.tup [.int 0, cell t v]], []⟩ := by
    rw [hk]
    refine ⟨cell t v, .junk, .junk, .junk, .junk, .junk, .junk, .junk, ?_⟩
    rw [show tF T ⟨[], [], [], [], [] ++ [.tup [.int 0, cell t v]], []⟩ = T ++ [VO.edict] ++ [VO.edict] ++ [VO.edict] ++ [VO.list []] ++ [VO.list [.tup [.int 0, cell t v]]] from List.append_nil _]
  obtain ⟨te, kn, sz, J, A1, _⟩ := visit hs hm h [] [] [] [] [] [] (j + 94) 10 _ (.inl rfl) (fun n _ => rfl) ⟨by simp, by simp, by simp, by simp⟩ (Nat.le_trans (Nat.add_le_add_left (Nat.mul_le_mul_left 4 b1) 10) (by decide)) (Nat.le_trans (by decide) (Nat.le_add_left 94 j)) A0
  obtain ⟨c, w, f, r, e, tg, p, st, h2⟩ := A1
  have e2 := h2.trans (whl_end (τ := mk m y (tF T ⟨te, kn, sz, [tm], [], J⟩)) (walkC (k := 0) (fs := [(.O (tg4 T ⟨te, kn, sz, [tm], [], J⟩), 9)]) (by kernel_rfl)))
  refine ⟨[tbV te] ++ [tbV kn] ++ [tbV sz] ++ [.list [tm]] ++ [.list []] ++ J, ?_⟩
  have e4 : T ++ ([tbV te] ++ [tbV kn] ++ [tbV sz] ++ [VO.list [tm]] ++ [VO.list []] ++ J) = tF T ⟨te, kn, sz, [tm], [], J⟩ := by simp [tF]
  rw [e4]
  exact walk (n := 7) (fs := [(.Q (ne_int h0), 0), (.Q (ne_int h1), 0), (.Q (ne_int h1), 0), (.F e2, 0), (.O (tg3 T ⟨te, kn, sz, [tm], [], J⟩), 9)]) (by kernel_rfl)
end
noncomputable def fnP (fn : List (Nat × Nat)) : Op → Prop
  | .app f _ => ∃ x, fn[f]? = some (x, 1)
  | .appv f => ∃ x, fn[f]? = some (x, 1)
  | _ => True
theorem OpC.rp {hp : List VV} {fn : List (Nat × Nat)} {z lo hi : Nat} {c : VV} {o : Op} (h : OpC hp z lo hi c o) (ok : fnP fn o) : Y2 fun s k => C3 (Rp hp fn z lo hi c o.itm.val s k) (s ≤ 2) (k ≤ 3) := by
  induction h with
  | con n h => exact ⟨1, 1, .con n h, by decide, by decide⟩
  | free h h1 => exact ⟨1, 1, .var h h1, by decide, by decide⟩
  | app f n a h1 h2 h3 h4 =>
    obtain ⟨x, hx⟩ := ok
    exact ⟨1 + 1, 2 + 1, .str a f x _ _ 1 1 h1 h3 hx h4 (.con n (Nat.le_of_succ_le h2)), by decide, by decide⟩
  | appv f a h1 h2 h3 h4 h5 =>
    obtain ⟨x, hx⟩ := ok
    exact ⟨1 + 1, 2 + 1, .str a f x _ _ 1 1 h1 h3 hx h4 (.var (Nat.le_of_succ_le h2) h5), by decide, by decide⟩
theorem opOK_fn {y : Sy} {o : Op} (h : opOK y o) : fnP y.fn o := by
  induction o with
  | app f n => exact h.2
  | appv f => exact h.2
  | _ => trivial
theorem Rp.mono {hp fn vz lo hi c t s k lo'} (h : Rp hp fn vz lo hi c t s k) (hl : lo' ≤ lo) : Rp hp fn vz lo' hi c t s k := by
  induction h with
  | con n h => exact .con n (Nat.le_trans hl h)
  | int n h => exact .int n (Nat.le_trans hl h)
  | var h h2 => exact .var (Nat.le_trans hl h) h2
  | str a f x c t s k h1 h2 h3 h4 h5 => exact .str a f x c t s k (Nat.le_trans hl h1) h2 h3 h4 h5
  | lis h c1 c2 t1 t2 s1 s2 k1 k2 mid h1 h2 h3 h4 h5 => exact .lis h c1 c2 t1 t2 s1 s2 k1 k2 mid (Nat.le_trans hl h1) h2 h3 h4 h5
theorem Lst.rp {hp : List VV} {y : Sy} {z : Nat} {n : Int} {os : List Op} {e : En} {lo hi : Nat} {c : VV} (h : Lst hp z lo hi c os e) (he : e = .con n) (ok : ∀ o ∈ os, opOK y o) : Y2 fun s k => C3 (Rp hp y.fn z lo hi c (restI os e).val s k) (s ≤ 1 + 3 * os.length) (k ≤ 1 + 5 * os.length) := by
  induction h with
  | nilc n h => exact ⟨1, 1, .con n h, Nat.le_refl _, Nat.le_refl _⟩
  | nilv => exact nomatch he
  | cons h oc rc o os e mid h1 h2 h3 h4 h5 h6 ih =>
    obtain ⟨s1, k1, r1, b1, b2⟩ := h5.rp (opOK_fn (ok o (.head _)))
    obtain ⟨s2, k2, r2, b3, b4⟩ := ih he fun u hu => ok u (.tail _ hu)
    exact ⟨1 + s1 + s2, 2 + k1 + k2, .lis h oc rc _ _ s1 s2 k1 k2 mid h1 h3 h4 (r1.mono (Nat.le_succ _)) r2, by simp; omega, by simp; omega⟩
end Mine
end
section
set_option backward.match.sparseCases false
namespace Mine
noncomputable def IsErr (z : Sy) (nm kd : Str) (c F : VV) : Prop := Y3 fun f x k : Nat => C4 (F = .tup [.str "s", .int (Int.ofNat f), .tup [.tup [.str "a", .int (Int.ofNat k)], c]]) (z.tx[x]? = some nm) (z.fn[f]? = some (x, 2)) (z.tx[k]? = some kd)
noncomputable def IsInst (z : Sy) (F : VV) : Prop := ∃ n : Nat, F = .tup [.str "a", .int (Int.ofNat n)] ∧ z.tx[n]? = some ("instantiation_error" : Str)
noncomputable def ErrOut (r : Res VV) (m : MS) (y : Sy) (T : List VO) (c : Nat) (P : Sy → VV → Prop) : Prop := Y3 fun U z F => C4 (r = .exc (U.length + 32) (mk m z (errT U (ballOf F)))) (T <+: U) (Ext c y z) (P z F)
theorem nodup_get {α : Type} {l : List α} (h : l.Nodup) {i j : Nat} {x : α} (hi : l[i]? = some x) (hj : l[j]? = some x) : i = j := by
  obtain ⟨a, b⟩ := List.getElem?_eq_some_iff.mp hi
  obtain ⟨c, e⟩ := List.getElem?_eq_some_iff.mp hj
  exact (List.getElem_inj h).mp (b.trans e.symm)
theorem al_mth {o : VO} {as : List (Str × VV)} (h : dictS o = some as) : mthId o "get" = some "dict.get" := by
  induction o <;> first | ((first | exact nn h | obtain rfl := Option.some.inj h); done) | kernel_rfl
theorem al_get {o : VO} {as : List (Str × VV)} (h : dictS o = some as) (t : Str) (d : VV) : omth "dict.get" o [.str t, d] = some (.v ((assocGet t as).getD d)) := by
  have e : omth "dict.get" o [.str t, d] = ((dictS o).map fun es => (assocGet t es).getD d).map .v := by kernel_rfl
  rw [e, h]; rfl
theorem str_ne {σ : VH} {a b : Str} (h : (a == b) = false) : cmpV σ .Eq (.str a) (.str b) = some false := by
  have e : cmpV σ .Eq (.str a) (.str b) = some (decide (a = b)) := by kernel_rfl
  rw [e, decide_eq_false fun q => by rw [q] at h; simp at h]
section
variable {m : MS} {y : Sy} {T : List VO} {d : Nat}
theorem set_args_run {i : Nat} {t1 v1 t2 v2 : Int} {x : VV} (hi : T[i]? = some (.list [cell t1 v1, cell t2 v2])) (hx : m.xs = [x] ∨ Y2 fun a b => m.xs = [x, a, b]) : callD G noSpec (d + 2) 602 [.ref 20, .ref (i + 32)] (mk m y T) = .ok .none (mk { m with xs := [x, cell t1 v1, cell t2 v2] } y T) := by
  obtain ⟨X, pa, pi, pc, ins, outs, ci, co, nn, al, hp, xs⟩ := m
  rcases hx with hx | ⟨a, b, hx⟩
  · subst hx
    exact walk (n := 0) (fs := [(.O hi, 1), (.O hi, 13), (.O hi, 13), (.O hi, 9)]) (by kernel_rfl)
  · subst hx
    exact walk (n := 0) (fs := [(.O hi, 1), (.O hi, 8), (.O hi, 8), (.O hi, 9)]) (by kernel_rfl)
theorem arg_run {i : Nat} {t v : Int} (hx : m.xs[i]? = some (cell t v)) (hl : m.xs.length ≤ 1000) (hm : m.hp.length ≤ 1000000) (hd : Solid (cell t v) ∨ IsVar m.hp (cell t v)) : callD G noSpec (d + 3) 609 [.ref 20, .int (Int.ofNat i)] (mk m y T) = .ok (cell t v) (mk m y T) := by
  have e := deref_run (d := d) (m := m) (y := y) (T := T) hm hd
  have h1 : t ≠ 1 := by
    rcases hd with ⟨t', v', q, _, h⟩ | ⟨z, q, _⟩
    · cases q; exact h
    · cases q; decide
  exact walk (n := 1) (fs := [(.V (oget_list hx (by exact Nat.le_trans (by assumption) (by decide))), 2), (.R e, 0), (.Q (ne_int h1), 9)]) (by kernel_rfl)
theorem stream_alias {w : Nat} {t : Str} {as : List (Str × VV)} (hs : y.tx.length ≤ 1000000) (ht : y.tx[w]? = some t) (h1 : (t == ("user_input" : Str)) = false) (h2 : (t == ("user_output" : Str)) = false) (ha : dictS m.al = some as) : callD G noSpec (d + 2) 418 [.ref 20, cell 4 (Int.ofNat w)] (mk m y T) = .ok ((assocGet t as).getD (.int (-1))) (mk m y T) :=
  walk (n := 6) (fs := [(.R (text_run (d := d) (y := y) (a := .list m.X) (b := .list [.ref 0, .int m.pa, .int m.pi, .int m.pc]) (R := objs m T) t w ht hs), 0), (.Q (str_ne (σ := mk m y T) h1), 0), (.Q (str_ne (σ := mk m y T) h2), 0), (.G (al_mth ha), 0), (.W (al_get ha t (.int (-1))), 9)]) (by kernel_rfl)
theorem in_i {es : List (Int × VV)} (k : Int) {q : Bool} (h : (assocGet k es).isSome = q) : oinD (.idict es) (.int k) = some q := congrArg some h
theorem stream_num {a f x : Nat} {z : Int} (hs : Rm 2 y) (hn : y.tx.Nodup) (hn2 : y.fn.Nodup) (hm : m.hp.length ≤ 1000000) (h0 : m.hp[a]? = some (cell 6 (Int.ofNat f))) (h1 : m.hp[a + 1]? = some (cell 5 z)) (hf : y.fn[f]? = some (x, 1)) (hx : y.tx[x]? = some ("$stream" : Str)) :
    ∃ u, callD G noSpec (d + 4) 418 [.ref 20, cell 2 (Int.ofNat a)] (mk m y T) = .ok (.int (if (assocGet z m.ins).isSome || (assocGet z m.outs).isSome then z else -1)) (mk m u T) ∧ Ext 2 y u := by
  obtain ⟨n, x', u, e, p, g1, g2⟩ := funcM (d := d + 1) m T "$stream" 1 hs
  cases nodup_get (p.nt hn) (p.at hx) g1
  cases nodup_get (p.nf hn2) (p.fa hf) g2
  have i1 : oget (.list m.hp) (.int (Int.ofNat a + 1 + 1 - 1)) = some (cell 5 z) := by
    rw [show Int.ofNat a + 1 + 1 - 1 = Int.ofNat (a + 1) by simp only [Int.ofNat_eq_natCast]; lia]
    exact oget_list h1 hm
  refine ⟨u, ?_, p⟩
  cases h3 : (assocGet z m.ins).isSome with
  | true => exact walk (n := 9) (fs := [(.V (oget_list h0 hm), 1), (.R e, 0), (.Q (eq_t (i := Int.ofNat f) rfl), 6), (.V i1, 5), (.Q (in_i z h3), 9)]) (by kernel_rfl)
  | false =>
    cases h4 : (assocGet z m.outs).isSome with
    | true => exact walk (n := 9) (fs := [(.V (oget_list h0 hm), 1), (.R e, 0), (.Q (eq_t (i := Int.ofNat f) rfl), 6), (.V i1, 5), (.Q (in_i z h3), 0), (.Q (in_i z h4), 9)]) (by kernel_rfl)
    | false => exact walk (n := 9) (fs := [(.V (oget_list h0 hm), 1), (.R e, 0), (.Q (eq_t (i := Int.ofNat f) rfl), 6), (.V i1, 5), (.Q (in_i z h3), 0), (.Q (in_i z h4), 9)]) (by kernel_rfl)
end
end Mine
end
section
set_option backward.match.sparseCases false
namespace Mine
theorem drop_hd {α : Type} {all r : List α} {j : Nat} {v : α} (h : all.drop j = v :: r) : all[j]? = some v := by rw [← Nat.add_zero j, ← List.getElem?_drop, h]; rfl
theorem drop_tl {α : Type} {all r : List α} {j : Nat} {v : α} (h : all.drop j = v :: r) : all.drop (j + 1) = r := by rw [← List.drop_drop, h]; rfl
theorem drop_no {α : Type} {all : List α} {j : Nat} (h : all.drop j = []) : all[j]? = none := List.getElem?_eq_none (List.drop_eq_nil_iff.mp h)
theorem loop_exc {d n k : Nat} {sc : Scope} {x : Str} {i i' : It} {b : List XS} {ρ : VE} {σ τ : VH} {v : VV} (h : nextV σ i = some (some (v, i'))) (hx : sc.names.lookup x = some .local) (e : (Od d n).exs sc b (assocSet x v ρ) σ = .exc k τ) : (Od d (n + 1)).loop sc x i b ρ σ = .exc k τ := loop_step h hx e
theorem err_get (T : List VO) (b : VV) : (errT T b)[T.length]? = some (.inst 51 (T.length + 33) true) := by simp [errT]
section
variable {m : MS} {y : Sy} {T : List VO} {d : Nat}
theorem nx_list {i j : Nat} {xs : List VV} {v : VV} (h : T[i]? = some (.list xs)) (hj : xs[j]? = some v) : nextV (mk m y T) (.lst (i + 32) j) = some (some (v, .lst (i + 32) (j + 1))) := by
  have e : nextV (mk m y T) (.lst (i + 32) j) = match T[i]? with
    | some (.list xs) => match xs[j]? with
      | some x => some (some (x, .lst (i + 32) (j + 1)))
      | none => some none
    | _ => none := by kernel_rfl
  rw [e, h]
  dsimp only
  rw [hj]
theorem nx_list0 {i j : Nat} {xs : List VV} (h : T[i]? = some (.list xs)) (hj : xs[j]? = none) : nextV (mk m y T) (.lst (i + 32) j) = some none := by
  have e : nextV (mk m y T) (.lst (i + 32) j) = match T[i]? with
    | some (.list xs) => match xs[j]? with
      | some x => some (some (x, .lst (i + 32) (j + 1)))
      | none => some none
    | _ => none := by kernel_rfl
  rw [e, h]
  dsimp only
  rw [hj]
theorem ge_f {σ : VH} {n : Int} (h : 0 ≤ n) : cmpV σ .Lt (.int n) (.int 0) = some false := by
  have e : cmpV σ .Lt (.int n) (.int 0) = some (decide (n < 0)) := by kernel_rfl
  rw [e, decide_eq_false (Int.not_lt.mpr h)]
theorem open_ok {t v n : Int} {u : Sy} (hx : m.xs[1]? = some (cell t v)) (hl : m.xs.length ≤ 1000) (hm : m.hp.length ≤ 1000000) (hd : Solid (cell t v)) (e : callD G noSpec (d + 4) 418 [.ref 20, cell t v] (mk m y T) = .ok (.int n) (mk m u T)) (hn : 0 ≤ n) : callD G noSpec (d + 5) 425 [.ref 20, .int 1] (mk m y T) = .ok (.int n) (mk m u T) :=
  walk (n := 1) (fs := [(.R (arg_run (d := d + 1) (m := m) (y := y) (T := T) hx hl hm (.inl hd)), 0), (.R e, 0), (.Q (ge_f (σ := mk m u T) hn), 9)]) (by kernel_rfl)
noncomputable def EFn (q : Nat) (nm : Str) : Prop := ∀ (d : Nat) (m : MS) (y : Sy) (T : List VO) (kd : Str) (cs : List VV), Rm 3 y → Y3 fun V z F => C4 (callD G noSpec (d + 4) q [.ref 3, .str kd, .tup cs] (mk m y T) = .ok (.ref (V.length + 32)) (mk m z (errT V (ballOf F)))) (T <+: V) (Ext 3 y z) (IsErr z nm kd (.tup cs) F)
theorem ex_err : EFn 200 "existence_error" := fun d m y T kd cs hs => by
  obtain ⟨f, x, k, z, e2, p2, q1, q2, q3⟩ := formal_run (d := d) m T "existence_error" kd cs hs
  exact ⟨T ++ [.list [.tup [.str "a", .int (Int.ofNat k)], .tup cs]], z, .tup [.str "s", .int (Int.ofNat f), .tup [.tup [.str "a", .int (Int.ofNat k)], .tup cs]], walk (n := 0) (fs := [(.R e2, 9)]) (by kernel_rfl), List.prefix_append _ _, p2, f, x, k, rfl, q1, q2, q3⟩
theorem ty_err : EFn 186 "type_error" := fun d m y T kd cs hs => by
  obtain ⟨f, x, k, z, e2, p2, q1, q2, q3⟩ := formal_run (d := d) m T "type_error" kd cs hs
  exact ⟨T ++ [.list [.tup [.str "a", .int (Int.ofNat k)], .tup cs]], z, .tup [.str "s", .int (Int.ofNat f), .tup [.tup [.str "a", .int (Int.ofNat k)], .tup cs]], walk (n := 0) (fs := [(.R e2, 9)]) (by kernel_rfl), List.prefix_append _ _, p2, f, x, k, rfl, q1, q2, q3⟩
theorem dom_err : EFn 193 "domain_error" := fun d m y T kd cs hs => by
  obtain ⟨f, x, k, z, e2, p2, q1, q2, q3⟩ := formal_run (d := d) m T "domain_error" kd cs hs
  exact ⟨T ++ [.list [.tup [.str "a", .int (Int.ofNat k)], .tup cs]], z, .tup [.str "s", .int (Int.ofNat f), .tup [.tup [.str "a", .int (Int.ofNat k)], .tup cs]], walk (n := 0) (fs := [(.R e2, 9)]) (by kernel_rfl), List.prefix_append _ _, p2, f, x, k, rfl, q1, q2, q3⟩
theorem open_bad {t v : Int} {cs : List VV} {u : Sy} {cc : Nat} (hs : Rm 3 u) (hx : m.xs[1]? = some (cell t v)) (hl : m.xs.length ≤ 1000) (hm : m.hp.length ≤ 1000000) (hd : Solid (cell t v)) (e : callD G noSpec (d + 7) 418 [.ref 20, cell t v] (mk m y T) = .ok (.int (-1)) (mk m u T)) (p : Ext cc y u) (ht : ∀ T, ∃ U, callD G noSpec (d + 7) 623 [.ref 20, cell t v] (mk m u T) = .ok (.tup cs) (mk m u (T ++ U))) : ErrOut (callD G noSpec (d + 8) 425 [.ref 20, .int 1] (mk m y T)) m y T (cc + 3) (fun z F => IsErr z "existence_error" "stream" (.tup cs) F) := by
  obtain ⟨U, eu⟩ := ht T
  obtain ⟨V, z, F, e2, h1, p2, h2⟩ := ex_err (d + 3) m u (T ++ U) "stream" cs hs
  exact ⟨V, z, F, walkX (n := 1) (fs := [(.R (arg_run (d := d + 4) (m := m) (y := y) (T := T) hx hl hm (.inl hd)), 0), (.R e, 2), (.R eu, 0), (.R e2, 0), (.O (err_get V (ballOf F)), 9)]) (by kernel_rfl), (List.prefix_append _ _).trans h1, p.trans p2, h2⟩
end
end Mine
end
section
set_option backward.match.sparseCases false
namespace Mine
noncomputable abbrev ocs : Scope := f_option_cells.scope
noncomputable abbrev oB : List XS := bodyOf (stAt f_option_cells.body 3)
noncomputable def ρI (c tl : VV) (i : Nat) (it : VV) : VE := [("m", .ref 20), ("cell", c), ("items", .ref (i + 32)), ("tail", tl), ("item", it)]
section
variable {m : MS} {y : Sy} {T : List VO} {d : Nat}
theorem unb_solid {t v : Int} (h : Solid (cell t v)) : callD G noSpec (d + 1) 265 [.ref 23, cell t v] (mk m y T) = .ok (.bool false) (mk m y T) := by
  obtain ⟨t', v', e, h0, h1⟩ := h
  cases e
  exact walk (n := 0) (fs := [(.Q (ne_int h0), 0), (.Q (ne_int h1), 9)]) (by kernel_rfl)
theorem unb_var {c : VV} (hl : m.hp.length ≤ 1000000) (h : IsVar m.hp c) : callD G noSpec (d + 1) 265 [.ref 23, c] (mk m y T) = .ok (.bool true) (mk m y T) := by
  obtain ⟨z, rfl, h⟩ := h
  exact walk (n := 1) (fs := [(.V (oget_list h hl), 0), (.Q (eqW_cell (mk m y T) 0 (Int.ofNat z)), 9)]) (by kernel_rfl)
theorem CellsOf.len {hp : List VV} {z : Nat} {cs : List VV} {os : List Op} (h : CellsOf hp z cs os) : cs.length = os.length := by
  induction h with
  | nil => rfl
  | cons a _ ih => exact congrArg (· + 1) ih
theorem OpC.solid {hp z lo hi c o} (h : OpC hp z lo hi c o) (hf : o ≠ .free) : Solid c := by
  induction h with
  | con n => exact solid4
  | free => exact (hf rfl).elim
  | app f n a => exact solid2
  | appv f a => exact solid2
theorem OpC.isvar {hp z lo hi c} (h : OpC hp z lo hi c .free) : IsVar hp c := by
  cases h with
  | free _ h => exact ⟨z, rfl, h⟩
theorem items_ok {c tl : VV} {i z : Nat} {all l : List VV} {os : List Op} (hi : T[i]? = some (.list all)) (h : CellsOf m.hp z l os) : ∀ (j M : Nat) (it : VV), all.drop j = l → Op.free ∉ os → l.length + 32 ≤ M →
    ∃ it', (Od (d + 3) M).loop ocs "item" (.lst (i + 32) j) oB (ρI c tl i it) (mk m y T) = .ok (.next, ρI c tl i it') (mk m y T) := by
  induction h with
  | nil =>
    intro j M it hk _ hM
    obtain ⟨n, rfl⟩ := lv_of hM
    exact ⟨it, loop_end (nx_list0 hi (drop_no hk))⟩
  | @cons _ _ v _ r _ a _ ih =>
    intro j M it hk hf hM
    obtain ⟨n, rfl⟩ := lv_of hM
    have hs := a.solid fun q => hf (q ▸ .head _)
    obtain ⟨t, w, rfl, _⟩ := id hs
    obtain ⟨it', e1⟩ := ih (j + 1) (n + 31) (cell t w) (drop_tl hk) (fun q => hf (.tail _ q)) (Nat.le_of_succ_le_succ hM)
    exact ⟨it', (loop_go (nx_list hi (drop_hd hk)) (by kernel_rfl) (walkE (k := 1) (fs := [(.R (unb_solid (d := d + 2) (m := m) (y := y) (T := T) hs), 9)]) (by kernel_rfl))).trans e1⟩
theorem items_bad (hs : Rm 1 y) (hm : m.hp.length ≤ 1000000) {c tl : VV} {i z : Nat} {all l : List VV} {os : List Op} (hi : T[i]? = some (.list all)) (h : CellsOf m.hp z l os) : ∀ (j M : Nat) (it : VV), all.drop j = l → Op.free ∈ os → l.length + 32 ≤ M →
    Y2 fun z F => C3 ((Od (d + 3) M).loop ocs "item" (.lst (i + 32) j) oB (ρI c tl i it) (mk m y T) = .exc (T.length + 32) (mk m z (errT T (ballOf F)))) (Ext 1 y z) (IsInst z F) := by
  induction h with
  | nil => exact fun _ _ _ _ hf _ => (List.not_mem_nil hf).elim
  | @cons _ _ v o r _ a _ ih =>
    intro j M it hk hf hM
    obtain ⟨n, rfl⟩ := lv_of hM
    by_cases ho : o = .free
    · obtain ⟨nn, z, e1, p, h⟩ := inst_error_run (d := d + 1) m T hs
      have vu := (ho ▸ a).isvar
      have ev := unb_var (d := d + 2) (y := y) (T := T) hm vu
      obtain ⟨x, rfl, _⟩ := vu
      exact ⟨z, .tup [.str "a", .int (Int.ofNat nn)], loop_exc (nx_list hi (drop_hd hk)) (by kernel_rfl) (walkEX (k := 1) (fs := [(.R ev, 0), (.R e1, 0), (.O (err_get T (ballOf (.tup [.str "a", .int (Int.ofNat nn)]))), 9)]) (by kernel_rfl)), p, nn, rfl, h⟩
    · have su := a.solid ho
      obtain ⟨t, w, rfl, _⟩ := id su
      obtain ⟨z, F, e1, p, h⟩ := ih (j + 1) (n + 31) (cell t w) (drop_tl hk) ((List.mem_cons.mp hf).resolve_left fun q => ho q.symm) (Nat.le_of_succ_le_succ hM)
      exact ⟨z, F, (loop_go (nx_list hi (drop_hd hk)) (by kernel_rfl) (walkE (k := 1) (fs := [(.R (unb_solid (d := d + 2) (m := m) (y := y) (T := T) su), 9)]) (by kernel_rfl))).trans e1, p, h⟩
end
end Mine
end
section
set_option backward.match.sparseCases false
namespace Mine
section
variable {m : MS} {y : Sy} {T : List VO} {d : Nat}
theorem opts_ok {z : Nat} {os : List Op} {lo hi : Nat} {c : VV} (hm : m.hp.length ≤ 1000000) (L : Lst m.hp z lo hi c os (.con 0)) (hn : os.length ≤ 50) (hf : .free ∉ os) :
    Y2 fun cs S => And (callD G noSpec (d + 4) 432 [.ref 20, c] (mk m y T) = .ok (.ref (T.length + 32)) (mk m y (lF T cs S))) (CellsOf m.hp z cs os) := by
  obtain ⟨cs, c', S, e1, e2, e3⟩ := list_cells_run (y := y) (T := T) (d := d + 1) hm L hn
  subst e3
  obtain ⟨it', l1⟩ := items_ok (m := m) (y := y) (d := d) (c := c) (tl := cell 4 0) (lF1 T cs S) e2 0 395 .junk rfl hf (by have := e2.len; lia)
  obtain ⟨t, v, rfl⟩ := der_cell L.der
  exact ⟨cs, S, walk (n := 1) (fs := [(.R e1, 5), (.O (lF1 T cs S), 0), (.F l1, 9)]) (by kernel_rfl), e2⟩
theorem opts_open {z0 : Nat} {os : List Op} {lo hi : Nat} {c : VV} (hs : Rm 1 y) (hm : m.hp.length ≤ 1000000) (L : Lst m.hp z0 lo hi c os .var) (hn : os.length ≤ 50) : ErrOut (callD G noSpec (d + 4) 432 [.ref 20, c] (mk m y T)) m y T 1 IsInst := by
  obtain ⟨cs, c', S, e1, e2, e3⟩ := list_cells_run (y := y) (T := T) (d := d + 1) hm L hn
  obtain ⟨n, z, e4, p, h⟩ := inst_error_run (d := d + 1) m (lF T cs S) hs
  have ev := unb_var (d := d + 2) (y := y) (T := lF T cs S) hm e3
  obtain ⟨x, rfl, _⟩ := e3
  obtain ⟨t, v, rfl⟩ := der_cell L.der
  exact ⟨lF T cs S, z, .tup [.str "a", .int (Int.ofNat n)], walkX (n := 1) (fs := [(.R e1, 1), (.R ev, 0), (.R e4, 0), (.O (err_get (lF T cs S) (ballOf (.tup [.str "a", .int (Int.ofNat n)]))), 9)]) (by kernel_rfl), ⟨[.list cs, .set S], by simp [lF]⟩, p, n, rfl, h⟩
theorem opts_free {z0 : Nat} {os : List Op} {lo hi : Nat} {c : VV} (hs : Rm 1 y) (hm : m.hp.length ≤ 1000000) (L : Lst m.hp z0 lo hi c os (.con 0)) (hn : os.length ≤ 50) (hf : .free ∈ os) : ErrOut (callD G noSpec (d + 4) 432 [.ref 20, c] (mk m y T)) m y T 1 IsInst := by
  obtain ⟨cs, c', S, e1, e2, e3⟩ := list_cells_run (y := y) (T := T) (d := d + 1) hm L hn
  subst e3
  obtain ⟨z, F, l1, p, h⟩ := items_bad (m := m) (y := y) (d := d) hs hm (c := c) (tl := cell 4 0) (lF1 T cs S) e2 0 395 .junk rfl hf (by have := e2.len; lia)
  obtain ⟨t, v, rfl⟩ := der_cell L.der
  exact ⟨lF T cs S, z, F, walkX (n := 1) (fs := [(.R e1, 5), (.O (lF1 T cs S), 0), (.F l1, 9)]) (by kernel_rfl), ⟨[.list cs, .set S], by simp [lF]⟩, p, h⟩
theorem ne_nil {σ : VH} {k : Int} (h : k ≠ 0) : cmpV σ .NotEq (cell 4 k) (cell 4 0) = some true := by
  have e : cmpV σ .NotEq (cell 4 k) (cell 4 0) = some (!(((decide ((4 : Int) = 4)) && ((decide (k = 0)) && true)) && true)) := by kernel_rfl
  rw [e, decide_eq_false h]; rfl
theorem opts_end {z0 : Nat} {os : List Op} {lo hi : Nat} {c : VV} {k : Int} {ts : List VV} (hs : Rm 3 y) (hm : m.hp.length ≤ 1000000) (L : Lst m.hp z0 lo hi c os (.con k)) (hn : os.length ≤ 50) (hk : k ≠ 0) (ht : ∀ T, ∃ U, callD G noSpec (d + 7) 623 [.ref 20, c] (mk m y T) = .ok (.tup ts) (mk m y (T ++ U))) : ErrOut (callD G noSpec (d + 8) 432 [.ref 20, c] (mk m y T)) m y T 3 (fun z F => IsErr z "type_error" "list" (.tup ts) F) := by
  obtain ⟨cs, c', S, e1, e2, e3⟩ := list_cells_run (y := y) (T := T) (d := d + 5) hm L hn
  subst e3
  obtain ⟨U, eu⟩ := ht (lF T cs S)
  obtain ⟨V, z, F, e4, h1, p, h2⟩ := ty_err (d + 3) m y (lF T cs S ++ U) "list" ts hs
  obtain ⟨t, v, rfl⟩ := der_cell L.der
  refine ⟨V, z, F, walkX (n := 1) (fs := [(.R e1, 4), (.Q (ne_nil (σ := mk m y (lF T cs S)) hk), 1), (.R eu, 0), (.R e4, 0), (.O (err_get V (ballOf F)), 9)]) (by kernel_rfl), .trans ⟨[.list cs, .set S] ++ U, by simp [lF]⟩ h1, p, h2⟩
end
end Mine
end
section
set_option backward.match.sparseCases false
namespace Mine
noncomputable def Good (y : Sy) (o : Op) : Prop := ∃ f x k t, o = .app f (Int.ofNat k) ∧ f ≠ 0 ∧ y.fn[f]? = some (x, 1) ∧ y.tx[x]? = some ("force" : Str) ∧ y.tx[k]? = some t ∧ (t = ("true" : Str) ∨ t = ("false" : Str))
noncomputable def Unk (y : Sy) (o : Op) : Prop := ∃ f x, o = .appv f ∧ f ≠ 0 ∧ y.fn[f]? = some (x, 1) ∧ y.tx[x]? = some ("force" : Str)
noncomputable def Bad (y : Sy) (o : Op) : Prop := (∃ n, o = .con n) ∨ (∃ f x n t, o = .app f n ∧ f ≠ 0 ∧ y.fn[f]? = some (x, 1) ∧ y.tx[x]? = some t ∧ (t == ("force" : Str)) = false) ∨
  ∃ f x k t, o = .app f (Int.ofNat k) ∧ f ≠ 0 ∧ y.fn[f]? = some (x, 1) ∧ y.tx[x]? = some ("force" : Str) ∧ y.tx[k]? = some t ∧ (t == ("true" : Str)) = false ∧ (t == ("false" : Str)) = false
theorem Good.ext {c y z o} (h : Good y o) (p : Ext c y z) : Good z o := by
  obtain ⟨f, x, k, t, e, h0, h1, h2, h3, h4⟩ := h
  exact ⟨f, x, k, t, e, h0, p.fa h1, p.at h2, p.at h3, h4⟩
theorem Unk.ext {c y z o} (h : Unk y o) (p : Ext c y z) : Unk z o := by
  obtain ⟨f, x, e, h0, h1, h2⟩ := h
  exact ⟨f, x, e, h0, p.fa h1, p.at h2⟩
theorem Bad.ext {c y z o} (h : Bad y o) (p : Ext c y z) : Bad z o := by
  rcases h with h | ⟨f, x, n, t, e, h0, h1, h2, h3⟩ | ⟨f, x, k, t, e, h0, h1, h2, h3, h4⟩
  · exact .inl h
  · exact .inr (.inl ⟨f, x, n, t, e, h0, p.fa h1, p.at h2, h3⟩)
  · exact .inr (.inr ⟨f, x, k, t, e, h0, p.fa h1, p.at h2, p.at h3, h4⟩)
noncomputable def Kd (y : Sy) (o : Op) : Prop := o = .free ∨ Good y o ∨ Unk y o ∨ Bad y o
theorem Kd.ext {c y z o} (h : Kd y o) (p : Ext c y z) : Kd z o := h.imp id fun h => h.imp (·.ext p) fun h => h.imp (·.ext p) (·.ext p)
theorem Kd.ok {y o} (h : Kd y o) : opOK y o := by
  rcases h with rfl | ⟨f, x, k, t, rfl, h0, h1, _⟩ | ⟨f, x, rfl, h0, h1, _⟩ | ⟨n, rfl⟩ | ⟨f, x, n, t, rfl, h0, h1, _⟩ | ⟨f, x, k, t, rfl, h0, h1, _⟩
  · trivial
  · exact ⟨h0, x, h1⟩
  · exact ⟨h0, x, h1⟩
  · trivial
  · exact ⟨h0, x, h1⟩
  · exact ⟨h0, x, h1⟩
inductive FirstBad (y z : Sy) : List Op → VV → Prop
  | bad {o os F} : Bad y o → IsErr z "domain_error" "close_option" o.itm.val F → FirstBad y z (o :: os) F
  | unk {o os F} : Unk y o → IsInst z F → FirstBad y z (o :: os) F
  | next {o os F} : Good y o → FirstBad y z os F → FirstBad y z (o :: os) F
section
variable {m : MS} {y : Sy} {T : List VO} {d : Nat}
theorem op_tup (o : Op) : ∃ cs, o.itm.val = .tup cs := by induction o <;> exact ⟨_, rfl⟩
theorem take_op (hs : y.fn.length ≤ 1000000) (hm : m.hp.length ≤ 1000000) {z lo hi : Nat} {c : VV} {o : Op} (h : OpC m.hp z lo hi c o) (ok : opOK y o) (hf : o ≠ .free) (T : List VO) : ∃ U, callD G noSpec (d + 5) 623 [.ref 20, c] (mk m y T) = .ok o.itm.val (mk m y (T ++ U)) := by
  obtain ⟨s, k, r, b1, b2⟩ := h.rp (opOK_fn ok)
  obtain ⟨t, v, rfl, h0, h1⟩ := h.solid hf
  exact take_run hs hm r h0 h1 (by exact Nat.le_trans (by assumption) (by decide)) (by exact Nat.le_trans (by assumption) (by decide))
theorem parts_run {a f x : Nat} {t : Str} {t' v' : Int} (kd : Str) (hm : m.hp.length ≤ 1000000) (h0 : m.hp[a]? = some (cell 6 (Int.ofNat f))) (hfn : y.fn.length ≤ 1000000) (htx : y.tx.length ≤ 1000000) (hf : y.fn[f]? = some (x, 1)) (hx : y.tx[x]? = some t) (h1 : m.hp[a + 1]? = some (cell t' v')) (hd : Solid (cell t' v') ∨ IsVar m.hp (cell t' v')) : callD G noSpec (d + 4) 439 [.ref 20, cell 2 (Int.ofNat a), .str kd] (mk m y T) = .ok (.tup [.str t, cell t' v']) (mk m y T) := by
  have ar : callD G noSpec (d + 3) 123 [.ref 3, .int (Int.ofNat f)] (mk m y T) = .ok (.int (Int.ofNat 1)) (mk m y T) := arity_run x 1 f hf hfn
  have nr : callD G noSpec (d + 3) 116 [.ref 3, .int (Int.ofNat f)] (mk m y T) = .ok (.int (Int.ofNat x)) (mk m y T) := name_run x 1 f hf hfn
  have tr : callD G noSpec (d + 3) 95 [.ref 3, .int (Int.ofNat x)] (mk m y T) = .ok (.str t) (mk m y T) := text_run t x hx htx
  have i1 : oget (.list m.hp) (.int (Int.ofNat a + 1 + 1 - 1)) = some (cell t' v') := by
    rw [show Int.ofNat a + 1 + 1 - 1 = Int.ofNat (a + 1) by simp only [Int.ofNat_eq_natCast]; lia]
    exact oget_list h1 hm
  have de := deref_run (d := d + 2) (y := y) (T := T) hm hd
  exact walk (n := 4) (fs := [(.V (oget_list h0 hm), 1), (.R ar, 3), (.R nr, 0), (.R tr, 6), (.V i1, 0), (.R de, 9)]) (by kernel_rfl)
end
end Mine
end
section
set_option backward.match.sparseCases false
namespace Mine
noncomputable abbrev csc : Scope := f_close_two.scope
noncomputable abbrev cB : List XS := bodyOf (stAt f_close_two.body 1)
noncomputable def ρC (n c a b : VV) : VE := [("m", .ref 20), ("number", n), ("cell", c), ("name", a), ("value", b)]
theorem in_tf (σ : VH) (t : Str) : cmpV σ .In (.str t) (.tup [.str "true", .str "false"]) = some (decide (("true" : Str) = t) || (decide (("false" : Str) = t) || false)) := by kernel_rfl
section
variable {m : MS} {y : Sy} {T : List VO} {d : Nat}
theorem val_good {c : VV} {k : Nat} {t : Str} (htx : y.tx.length ≤ 1000000) (ht : y.tx[k]? = some t) (h : t = ("true" : Str) ∨ t = ("false" : Str)) (kd : Str) : callD G noSpec (d + 4) 446 [.ref 20, c, cell 4 (Int.ofNat k), .str kd, .tup [.str "true", .str "false"]] (mk m y T) = .ok (.str t) (mk m y T) := by
  have tr : callD G noSpec (d + 3) 95 [.ref 3, .int (Int.ofNat k)] (mk m y T) = .ok (.str t) (mk m y T) := text_run t k ht htx
  have hin : cmpV (mk m y T) .In (.str t) (.tup [.str "true", .str "false"]) = some true := by rcases h with rfl | rfl <;> kernel_rfl
  exact walk (n := 6) (fs := [(.R tr, 0), (.Q hin, 1), (.R tr, 9)]) (by kernel_rfl)
theorem ct_good {z lo hi M : Nat} {c num a0 b0 : VV} {o : Op} (hfn : y.fn.length ≤ 1000000) (htx : y.tx.length ≤ 1000000) (hm : m.hp.length ≤ 1000000) (h : OpC m.hp z lo hi c o) (g : Good y o) : Y2 fun a b => (Od (d + 5) (M + 31)).exs csc cB (ρC num c a0 b0) (mk m y T) = .ok (.next, ρC num c a b) (mk m y T) := by
  obtain ⟨f, x, kk, t, rfl, hf0, hf, hx, ht, htf⟩ := g
  obtain ⟨a, rfl, h1, h2, h3, h4⟩ := h.inv
  have pr := parts_run (d := d + 1) (T := T) "close_option" hm h3 hfn htx hf hx h4 (.inl solid4)
  have vr := val_good (m := m) (T := T) (d := d + 1) (c := cell 2 (Int.ofNat a)) htx ht htf "close_option"
  exact ⟨.str "force", cell 4 (Int.ofNat kk), walkE (k := 0) (fs := [(.R pr, 1), (.R vr, 9)]) (by kernel_rfl)⟩
theorem ct_unk {z lo hi M : Nat} {c num a0 b0 : VV} {o : Op} (hs : Rm 1 y) (hfn : y.fn.length ≤ 1000000) (htx : y.tx.length ≤ 1000000) (hm : m.hp.length ≤ 1000000) (h : OpC m.hp z lo hi c o) (g : Unk y o) : Y2 fun u F => C3 ((Od (d + 5) (M + 31)).exs csc cB (ρC num c a0 b0) (mk m y T) = .exc (T.length + 32) (mk m u (errT T (ballOf F)))) (Ext 1 y u) (IsInst u F) := by
  obtain ⟨f, x, rfl, hf0, hf, hx⟩ := g
  obtain ⟨a, rfl, h1, h2, h3, h4, h5⟩ := h.inv
  have hv : IsVar m.hp (c0 z) := ⟨z, rfl, h5⟩
  obtain ⟨n, u, e4, p, hh⟩ := inst_error_run (d := d + 2) m T hs
  have uv := unb_var (d := d + 3) (y := y) (T := T) hm hv
  have pr := parts_run (d := d + 1) (T := T) "close_option" hm h3 hfn htx hf hx h4 (.inr hv)
  have vr : callD G noSpec (d + 4 + 1) 446 [.ref 20, cell 2 (Int.ofNat a), c0 z, .str "close_option", .tup [.str "true", .str "false"]] (mk m y T) = .exc (T.length + 32) (mk m u (errT T (ballOf (.tup [.str "a", .int (Int.ofNat n)])))) := walkX (n := 1) (fs := [(.R uv, 0), (.R e4, 0), (.O (err_get T (ballOf (.tup [.str "a", .int (Int.ofNat n)]))), 9)]) (by kernel_rfl)
  exact ⟨u, .tup [.str "a", .int (Int.ofNat n)], walkEX (k := 0) (fs := [(.R pr, 1), (.R vr, 9)]) (by kernel_rfl), p, n, rfl, hh⟩
theorem ne_str {σ : VH} {a b : Str} (h : (a == b) = false) : cmpV σ .NotEq (.str a) (.str b) = some true := by
  have e : cmpV σ .NotEq (.str a) (.str b) = some (!decide (a = b)) := by kernel_rfl
  rw [e, decide_eq_false fun q => by rw [q] at h; simp at h]; rfl
theorem ct_bad {z lo hi M : Nat} {c num a0 b0 : VV} {o : Op} (hs : Rm 3 y) (hfn : y.fn.length ≤ 1000000) (htx : y.tx.length ≤ 1000000) (hm : m.hp.length ≤ 1000000) (h : OpC m.hp z lo hi c o) (g : Bad y o) : Y3 fun V u F => C4 ((Od (d + 8) (M + 31)).exs csc cB (ρC num c a0 b0) (mk m y T) = .exc (V.length + 32) (mk m u (errT V (ballOf F)))) (T <+: V) (Ext 3 y u) (IsErr u "domain_error" "close_option" o.itm.val F) := by
  rcases g with ⟨nn, rfl⟩ | ⟨f, x, nn, t, rfl, hf0, hf, hx, ht⟩ | ⟨f, x, kk, t, rfl, hf0, hf, hx, ht, t1, t2⟩
  · obtain ⟨rfl, _⟩ := h.inv
    obtain ⟨U, eu⟩ := take_op (d := d + 2) hfn hm h trivial (fun q => nomatch q) T
    obtain ⟨V, u, F, e4, h1, p, h2⟩ := dom_err (d + 3) m y (T ++ U) "close_option" [.str "a", .int nn] hs
    have pr : callD G noSpec (d + 8) 439 [.ref 20, cell 4 nn, .str "close_option"] (mk m y T) = .exc (V.length + 32) (mk m u (errT V (ballOf F))) := walkX (n := 2) (fs := [(.R eu, 0), (.R e4, 0), (.O (err_get V (ballOf F)), 9)]) (by kernel_rfl)
    exact ⟨V, u, F, walkEX (k := 0) (fs := [(.R pr, 9)]) (by kernel_rfl), (List.prefix_append _ _).trans h1, p, h2⟩
  · obtain ⟨a, rfl, _, _, i3, i4⟩ := h.inv
    obtain ⟨U, eu⟩ := take_op (d := d + 3) hfn hm h ⟨hf0, x, hf⟩ (fun q => nomatch q) T
    obtain ⟨V, u, F, e4, h1, p, h2⟩ := dom_err (d + 4) m y (T ++ U) "close_option" [.str "s", .int (Int.ofNat f), .tup [.tup [.str "a", .int nn]]] hs
    have pr := parts_run (d := d + 4) (T := T) "close_option" hm i3 hfn htx hf hx i4 (.inl solid4)
    exact ⟨V, u, F, walkEX (k := 0) (fs := [(.R pr, 0), (.Q (ne_str (σ := mk m y T) ht), 1), (.R eu, 0), (.R e4, 0), (.O (err_get V (ballOf F)), 9)]) (by kernel_rfl), (List.prefix_append _ _).trans h1, p, h2⟩
  · obtain ⟨a, rfl, _, _, i3, i4⟩ := h.inv
    obtain ⟨U, eu⟩ := take_op (d := d + 2) hfn hm h ⟨hf0, x, hf⟩ (fun q => nomatch q) T
    obtain ⟨V, u, F, e4, h1, p, h2⟩ := dom_err (d + 3) m y (T ++ U) "close_option" [.str "s", .int (Int.ofNat f), .tup [.tup [.str "a", .int (Int.ofNat kk)]]] hs
    have pr := parts_run (d := d + 4) (T := T) "close_option" hm i3 hfn htx hf hx i4 (.inl solid4)
    have tr : callD G noSpec (d + 7) 95 [.ref 3, .int (Int.ofNat kk)] (mk m y T) = .ok (.str t) (mk m y T) := text_run t kk ht htx
    have hin : cmpV (mk m y T) .In (.str t) (.tup [.str "true", .str "false"]) = some false := by
      rw [in_tf, decide_eq_false fun q => by rw [← q] at t1; exact tf t1, decide_eq_false fun q => by rw [← q] at t2; exact tf t2]; rfl
    have vr : callD G noSpec (d + 8) 446 [.ref 20, cell 2 (Int.ofNat a), cell 4 (Int.ofNat kk), .str "close_option", .tup [.str "true", .str "false"]] (mk m y T) = .exc (V.length + 32) (mk m u (errT V (ballOf F))) := walkX (n := 6) (fs := [(.R tr, 0), (.Q hin, 1), (.R eu, 0), (.R e4, 0), (.O (err_get V (ballOf F)), 9)]) (by kernel_rfl)
    exact ⟨V, u, F, walkEX (k := 0) (fs := [(.R pr, 1), (.R vr, 9)]) (by kernel_rfl), (List.prefix_append _ _).trans h1, p, h2⟩
end
end Mine
end
section
set_option backward.match.sparseCases false
namespace Mine
section
variable {m : MS} {y : Sy} {T : List VO} {d : Nat}
theorem ct_all (hfn : y.fn.length ≤ 1000000) (htx : y.tx.length ≤ 1000000) (hm : m.hp.length ≤ 1000000) {z : Nat} {num : VV} {i : Nat} {all l : List VV} {os : List Op} (hi : T[i]? = some (.list all)) (h : CellsOf m.hp z l os) : ∀ (j M : Nat) (c a b : VV), all.drop j = l → (∀ o ∈ os, Good y o) → l.length + 33 ≤ M → Y3 fun c' a' b' => (Od (d + 5) M).loop csc "cell" (.lst (i + 32) j) cB (ρC num c a b) (mk m y T) = .ok (.next, ρC num c' a' b') (mk m y T) := by
  induction h with
  | nil =>
    intro j M c a b hk _ hM
    obtain ⟨n, rfl⟩ := lv_of hM
    exact ⟨c, a, b, loop_end (nx_list0 hi (drop_no hk))⟩
  | @cons _ _ v _ r _ oc _ ih =>
    intro j M c a b hk hg hM
    obtain ⟨n, rfl⟩ := lv_of hM
    obtain ⟨a1, b1, e⟩ := ct_good (T := T) (d := d) (M := n + 1) (num := num) (a0 := a) (b0 := b) hfn htx hm oc (hg _ (.head _))
    obtain ⟨c', a', b', e1⟩ := ih (j + 1) (n + 32) v a1 b1 (drop_tl hk) (fun o ho => hg o (.tail _ ho)) (Nat.le_of_succ_le_succ hM)
    exact ⟨c', a', b', (loop_go (nx_list hi (drop_hd hk)) (by kernel_rfl) e).trans e1⟩
theorem ct_first {y0 : Sy} {cc : Nat} (p0 : Ext cc y0 y) (hs : Rm 3 y) (hfn : y.fn.length ≤ 1000000) (htx : y.tx.length ≤ 1000000) (hm : m.hp.length ≤ 1000000) {z : Nat} {num : VV} {i : Nat} {all l : List VV} {os : List Op} (hi : T[i]? = some (.list all)) (h : CellsOf m.hp z l os) : ∀ (j M : Nat) (c a b : VV), all.drop j = l → (∀ o ∈ os, Good y0 o ∨ Unk y0 o ∨ Bad y0 o) → l.length + 33 ≤ M → (¬ ∀ o ∈ os, Good y0 o) →
    Y3 fun V u F => C4 ((Od (d + 8) M).loop csc "cell" (.lst (i + 32) j) cB (ρC num c a b) (mk m y T) = .exc (V.length + 32) (mk m u (errT V (ballOf F)))) (T <+: V) (Ext 3 y u) (FirstBad y0 u os F) := by
  induction h with
  | nil => exact fun _ _ _ _ _ _ _ _ hx => (hx fun _ q => (List.not_mem_nil q).elim).elim
  | @cons _ _ v o r _ oc _ ih =>
    intro j M c a b hk hg hM hx
    obtain ⟨n, rfl⟩ := lv_of hM
    have nx := nx_list (m := m) (y := y) hi (drop_hd hk)
    by_cases hgu : Good y0 o
    · obtain ⟨a1, b1, e⟩ := ct_good (T := T) (d := d + 3) (M := n + 1) (num := num) (a0 := a) (b0 := b) hfn htx hm oc (hgu.ext p0)
      obtain ⟨V, u, F, e1, hp, p, hf⟩ := ih (j + 1) (n + 32) v a1 b1 (drop_tl hk) (fun o ho => hg o (.tail _ ho)) (Nat.le_of_succ_le_succ hM) fun q => hx fun o ho => (List.mem_cons.mp ho).elim (fun e => e ▸ hgu) (q o)
      exact ⟨V, u, F, (loop_go nx (by kernel_rfl) e).trans e1, hp, p, .next hgu hf⟩
    · rcases (hg o (.head _)).resolve_left hgu with h | h
      · obtain ⟨u, F, e, p, h3⟩ := ct_unk (T := T) (d := d + 3) (M := n + 1) (num := num) (a0 := a) (b0 := b) (hs.le (by decide)) hfn htx hm oc (h.ext p0)
        exact ⟨T, u, F, loop_exc nx (by kernel_rfl) e, List.prefix_rfl, p.le (by decide), .unk h h3⟩
      · obtain ⟨V, u, F, e, hp, p, h3⟩ := ct_bad (T := T) (d := d) (M := n + 1) (num := num) (a0 := a) (b0 := b) hs hfn htx hm oc (h.ext p0)
        exact ⟨V, u, F, loop_exc nx (by kernel_rfl) e, hp, p, .bad h h3⟩
end
end Mine
end
section
set_option backward.match.sparseCases false
namespace Mine
noncomputable def asV (l : List (Str × Int)) : List (Str × VV) := l.map fun p => (p.1, .int p.2)
noncomputable def shut (m : MS) (n : Int) (al : VO) : MS := { m with ins := assocDel n m.ins, outs := assocDel n m.outs, al := al, ci := bif decide (m.ci = n) then 0 else m.ci, co := bif decide (m.co = n) then 0 else m.co }
noncomputable abbrev ssc : Scope := f_Streams_close.scope
noncomputable abbrev sB1 : List XS := bodyOf (stAt f_Streams_close.body 1)
noncomputable abbrev sB2 : List XS := bodyOf (stAt f_Streams_close.body 2)
noncomputable def ρS (n : Int) (tb tx : VV) : VE := [("self", .ref 9), ("number", .int n), ("table", tb), ("text", tx)]
theorem del_none {K V : Type} [DecidableEq K] {k : K} {l : List (K × V)} (h : (assocGet k l).isSome = false) : assocDel k l = l := by
  induction l with
  | nil => rfl
  | cons e r ih =>
    have e1 : assocGet k (e :: r) = if e.1 = k then some e.2 else assocGet k r := rfl
    have e2 : assocDel k (e :: r) = if e.1 = k then r else e :: assocDel k r := rfl
    by_cases q : e.1 = k
    · rw [e1, if_pos q] at h; exact tf h
    · rw [e1, if_neg q] at h
      rw [e2, if_neg q, ih h]
theorem odel_i {l : List (Int × VV)} {k : Int} (h : (assocGet k l).isSome = true) (hl : okLen l.length = true) : odel (.idict l) (.int k) = some (.idict (assocDel k l)) :=
  if_pos (by rw [h, hl]; rfl)
theorem odel_s {o : VO} {l : List (Str × VV)} {k : Str} (ho : dictS o = some l) (h : (assocGet k l).isSome = true) (hl : okLen l.length = true) : odel o (.str k) = some (.sdict (assocDel k l)) := by
  show (dictS o).bind _ = _
  rw [ho]
  exact if_pos (by rw [h, hl]; rfl)
theorem oget_s {o : VO} {l : List (Str × VV)} {k : Str} (ho : dictS o = some l) : oget o (.str k) = assocGet k l := by
  have e : oget o (.str k) = (dictS o).bind fun es => assocGet k es := by induction o <;> first | rfl | cases ho
  rw [e, ho]; rfl
section
variable {m : MS} {y : Sy} {T : List VO} {d n : Nat} {k : Int} {tx u : VV}
theorem cl_ins (hl : okLen m.ins.length = true) : (Od d (n + 31)).exs ssc sB1 (ρS k (.ref 10) tx) (mk m y T) = .ok (.next, ρS k (.ref 10) tx) (mk { m with ins := assocDel k m.ins } y T) := by
  cases h : (assocGet k m.ins).isSome with
  | false => rw [del_none h]; exact walkE (k := 0) (fs := [(.Q (congrArg some h), 9)]) (by kernel_rfl)
  | true => exact walkE (k := 0) (fs := [(.Q (congrArg some h), 0), (.O (odel_i h hl), 9)]) (by kernel_rfl)
theorem cl_outs (hl : okLen m.outs.length = true) : (Od d (n + 31)).exs ssc sB1 (ρS k (.ref 13) tx) (mk m y T) = .ok (.next, ρS k (.ref 13) tx) (mk { m with outs := assocDel k m.outs } y T) := by
  cases h : (assocGet k m.outs).isSome with
  | false => rw [del_none h]; exact walkE (k := 0) (fs := [(.Q (congrArg some h), 9)]) (by kernel_rfl)
  | true => exact walkE (k := 0) (fs := [(.Q (congrArg some h), 0), (.O (odel_i h hl), 9)]) (by kernel_rfl)
theorem cl_tables (h1 : okLen m.ins.length = true) (h2 : okLen m.outs.length = true) : (Od d 397).loop ssc "table" (.tup [.ref 10, .ref 13, .ref 17, .ref 18]) sB1 (ρS k u tx) (mk m y T) = .ok (.next, ρS k (.ref 18) tx) (mk { m with ins := assocDel k m.ins, outs := assocDel k m.outs } y T) :=
  (loop_go rfl (by kernel_rfl) (cl_ins h1)).trans ((loop_go rfl (by kernel_rfl) (cl_outs (m := { m with ins := assocDel k m.ins }) h2)).trans (walkL (k := 9) (fs := []) (by kernel_rfl)))
theorem get_asV {t : Str} {l : List (Str × Int)} : assocGet t (asV l) = (assocGet t l).map .int := by
  induction l with
  | nil => rfl
  | cons e r ih =>
    show (if e.1 = t then some (VV.int e.2) else assocGet t (asV r)) = (if e.1 = t then some e.2 else assocGet t r).map .int
    by_cases q : e.1 = t
    · rw [if_pos q, if_pos q]; rfl
    · rw [if_neg q, if_neg q, ih]
theorem del_asV {t : Str} {l : List (Str × Int)} : assocDel t (asV l) = asV (assocDel t l) := by
  induction l with
  | nil => rfl
  | cons e r ih =>
    show (if e.1 = t then asV r else (e.1, VV.int e.2) :: assocDel t (asV r)) = asV (if e.1 = t then r else e :: assocDel t r)
    by_cases q : e.1 = t
    · rw [if_pos q, if_pos q]
    · rw [if_neg q, if_neg q, ih]; rfl
noncomputable def del1 (k : Int) (t : Str) (v : Int) (l : List (Str × Int)) : List (Str × Int) := bif decide (v = k) then assocDel t l else l
theorem cl_al {l : List (Str × Int)} {t : Str} {v : Int} (ha : dictS m.al = some (asV l)) (hv : assocGet t l = some v) (hl : okLen (asV l).length = true) : ∃ al, And ((Od d (n + 31)).exs ssc sB2 (ρS k u (.str t)) (mk m y T) = .ok (.next, ρS k u (.str t)) (mk { m with al := al } y T)) (dictS al = some (asV (del1 k t v l))) := by
  have hv' : assocGet t (asV l) = some (.int v) := get_asV.trans (by rw [hv]; rfl)
  unfold del1
  cases h : decide (v = k) with
  | false => exact ⟨m.al, walkE (k := 0) (fs := [(.V ((oget_s ha).trans hv'), 0), (.Q (congrArg some h), 9)]) (by kernel_rfl), ha⟩
  | true => exact ⟨.sdict (assocDel t (asV l)), walkE (k := 0) (fs := [(.V ((oget_s ha).trans hv'), 0), (.Q (congrArg some h), 0), (.O (odel_s ha (by rw [hv']; rfl) hl), 9)]) (by kernel_rfl), congrArg some del_asV⟩
inductive Dels (k : Int) : List Str → List (Str × Int) → List (Str × Int) → Prop
  | nil {l} : Dels k [] l l
  | cons {t v ts l l'} : assocGet t l = some v → okLen (asV l).length = true → Dels k ts (del1 k t v l) l' → Dels k (t :: ts) l l'
theorem al_loop {i : Nat} {all ks : List Str} {l l' : List (Str × Int)} (hi : T[i]? = some (.list (all.map .str))) (R : Dels k ks l l') : ∀ (j M : Nat) (m : MS) (tx : VV), all.drop j = ks → dictS m.al = some (asV l) → ks.length + 32 ≤ M → ∃ al tx', And ((Od d M).loop ssc "text" (.lst (i + 32) j) sB2 (ρS k u tx) (mk m y T) = .ok (.next, ρS k u tx') (mk { m with al := al } y T)) (dictS al = some (asV l')) := by
  induction R with
  | nil =>
    intro j M m tx hj ha hM
    obtain ⟨n, rfl⟩ := lv_of (k := 1) hM
    exact ⟨m.al, tx, loop_end (nx_list0 hi (by rw [List.getElem?_map, List.getElem?_eq_none (List.drop_eq_nil_iff.mp hj)]; rfl)), ha⟩
  | cons hv hl _ ih =>
    intro j M m tx hj ha hM
    obtain ⟨n, rfl⟩ := lv_of (k := 32) hM
    obtain ⟨al, e, h⟩ := cl_al (y := y) (T := T) (d := d) (n := n) (k := k) (u := u) ha hv hl
    obtain ⟨al', tx', e', h'⟩ := ih (j + 1) (n + 31) { m with al := al } _ (by rw [← List.drop_drop, hj]; rfl) h (by simp only [List.length_cons] at hM; exact Nat.le_of_succ_le_succ (by assumption))
    refine ⟨al', tx', (loop_go (nx_list hi ?_) (by kernel_rfl) e).trans e', h'⟩
    rw [List.getElem?_map, ← Nat.add_zero j, ← List.getElem?_drop, hj]; rfl
noncomputable def twoK (l : List (Str × Int)) : Prop := l = [] ∨ (∃ a, l = [a]) ∨ ∃ a b, l = [a, b] ∧ a.1 ≠ b.1
noncomputable def keepN (k : Int) (l : List (Str × Int)) : List (Str × Int) := l.filter fun p => decide (p.2 ≠ k)
theorem dels_two {l : List (Str × Int)} (hl : twoK l) : ∃ ks, And (sortS ((asV l).map (·.1)) = some ks) (And (Dels k ks l (keepN k l)) (ks.length ≤ 2)) := by
  rcases hl with rfl | ⟨⟨a, i⟩, rfl⟩ | ⟨⟨a, i⟩, ⟨b, j⟩, rfl, hab⟩
  · exact ⟨[], rfl, .nil, Nat.zero_le _⟩
  · refine ⟨[a], rfl, .cons (v := i) (if_pos rfl) rfl ?_, Nat.le_succ _⟩
    by_cases h : i = k
    · simp [del1, h, keepN, assocDel]; exact .nil
    · simp [del1, h, keepN]; exact .nil
  · have hba : ¬ b = a := fun q => hab q.symm
    replace hab : ¬ a = b := hab
    refine ⟨if PySem.Spec.ltCps b.cps.toList a.cps.toList then [b, a] else [a, b], rfl, ?_⟩
    by_cases q : PySem.Spec.ltCps b.cps.toList a.cps.toList
    · rw [if_pos q]
      refine ⟨.cons (v := j) (by simp [assocGet, hab]) rfl (.cons (v := i) ?_ ?_ ?_), Nat.le_refl _⟩
      · by_cases h : j = k <;> simp [h, del1, assocDel, assocGet, hab]
      · by_cases h : j = k <;> simp [h, del1, assocDel, hab] <;> rfl
      · by_cases h : j = k <;> by_cases h' : i = k <;> simp [h, h', del1, assocDel, keepN, hab] <;> exact .nil
    · rw [if_neg q]
      refine ⟨.cons (v := i) (by simp [assocGet]) rfl (.cons (v := j) ?_ ?_ ?_), Nat.le_refl _⟩
      · by_cases h : i = k <;> simp [h, del1, assocDel, assocGet, hab]
      · by_cases h : i = k <;> simp [h, del1, assocDel] <;> rfl
      · by_cases h : i = k <;> by_cases h' : j = k <;> simp [h, h', del1, assocDel, keepN, hab] <;> exact .nil
theorem close_zero : callD G noSpec (d + 1) 502 [.ref 9, .int 0] (mk m y T) = .ok .none (mk m y T) := walk (n := 9) (fs := []) (by kernel_rfl)
theorem osort_s {o : VO} {l : List (Str × VV)} {ks : List Str} (ho : dictS o = some l) (h : sortS (l.map (·.1)) = some ks) : blt1 (.builtin "sorted") o = some (.o .none (.list (ks.map .str))) := by
  have e : blt1 (.builtin "sorted") o = ((dictS o).bind fun es => sortS (es.map (·.1))).map fun ks => .o .none (.list (ks.map .str)) := by induction o <;> first | rfl | exact nn ho
  rw [e, ho, Option.bind_some, h]; rfl
theorem close_run {l : List (Str × Int)} (hn : k ≠ 0) (h1 : okLen m.ins.length = true) (h2 : okLen m.outs.length = true) (hl : twoK l) (ha : dictS m.al = some (asV l)) : Y2 fun al U => And (callD G noSpec (d + 1) 502 [.ref 9, .int k] (mk m y T) = .ok .none (mk (shut m k al) y (T ++ U))) (dictS al = some (asV (keepN k l))) := by
  obtain ⟨ks, hk, R, hks⟩ := dels_two (k := k) hl
  have e1 := cl_tables (y := y) (T := T) (d := d) (k := k) (u := .junk) (tx := .junk) h1 h2
  have hi : (T ++ [VO.list (ks.map .str)])[T.length]? = some (.list (ks.map .str)) := by simp
  obtain ⟨al, tx, e3, h⟩ := al_loop (y := y) (d := d) (u := .ref 18) hi R 0 396 { m with ins := assocDel k m.ins, outs := assocDel k m.outs } .junk rfl ha (by lia)
  refine ⟨al, [.list (ks.map .str)], ?_, h⟩
  unfold shut
  cases c1 : decide (m.ci = k) <;> cases c2 : decide (m.co = k) <;> exact walk (n := 0) (fs := [(.Q (congrArg some (decide_eq_false hn)), 0), (.F e1, 0), (.W (osort_s ha hk), 0), (.O hi, 0), (.F e3, 0), (.Q (congrArg some c1), 0), (.Q (congrArg some c2), 9)]) (by kernel_rfl)
end
end Mine
end
section
set_option backward.match.sparseCases false
namespace Mine
noncomputable def Told (y z : Sy) (n : Int) (hd row : VV) (os : List Op) (e : En) (F : VV) : Prop :=
  (n < 0 ∧ IsErr z "existence_error" "stream" hd F) ∨
  (0 ≤ n ∧ ((e = .var ∧ IsInst z F) ∨ (∃ k, e = .con k ∧ k ≠ 0 ∧ IsErr z "type_error" "list" row F) ∨ (e = .con 0 ∧ .free ∈ os ∧ IsInst z F) ∨ (e = .con 0 ∧ .free ∉ os ∧ FirstBad y z os F)))
noncomputable def AllGd (y : Sy) (n : Int) (os : List Op) (e : En) : Prop := C3 (0 ≤ n) (e = .con 0) (∀ o ∈ os, Good y o)
noncomputable def Shut (m : MS) (n : Int) (l : List (Str × Int)) (m' : MS) : Prop := (n = 0 ∧ m' = m) ∨ (n ≠ 0 ∧ ∃ al, m' = shut m n al ∧ dictS al = some (asV (keepN n l)))
section
variable {m : MS} {y u : Sy} {T : List VO} {d : Nat} {hc rc x : VV} {n : Int} {z : Nat} {os : List Op} {e : En} {lo hi : Nat} {l : List (Str × Int)}
theorem open_run (hm : m.hp.length ≤ 1000000) (hx : m.xs = [x, hc, rc]) (hsol : Solid hc) (en : callD G noSpec (d + 8) 418 [.ref 20, hc] (mk m y T) = .ok (.int n) (mk m u T)) (hn0 : 0 ≤ n) : callD G noSpec (d + 9) 425 [.ref 20, .int 1] (mk m y T) = .ok (.int n) (mk m u T) := by
  obtain ⟨t, v, rfl, h, h'⟩ := hsol
  exact open_ok (d := d + 4) (congrArg (·[1]?) hx) (hx ▸ Nat.le_of_ble_eq_true rfl) hm ⟨t, v, rfl, h, h'⟩ en hn0
theorem row_run (hm : m.hp.length ≤ 1000000) (hx : m.xs = [x, hc, rc]) (h : Solid rc ∨ IsVar m.hp rc) : callD G noSpec (d + 9) 609 [.ref 20, .int 2] (mk m y T) = .ok rc (mk m y T) := by
  obtain ⟨t, v, rfl⟩ := der_cell h
  exact arg_run (d := d + 6) (i := 2) (congrArg (·[2]?) hx) (hx ▸ Nat.le_of_ble_eq_true rfl) hm h
theorem close_two_ok (hs : Rm 20 y) (hm : m.hp.length ≤ 1000000) (hx : m.xs = [x, hc, rc]) (hsol : Solid hc) (en : callD G noSpec (d + 8) 418 [.ref 20, hc] (mk m y T) = .ok (.int n) (mk m u T)) (p : Ext 2 y u)
    (L : Lst m.hp z lo hi rc os e) (hn : os.length ≤ 50) (A : AllGd y n os e) (h1 : okLen m.ins.length = true) (h2 : okLen m.outs.length = true) (hl : twoK l) (ha : dictS m.al = some (asV l)) :
    Y2 fun m' U => And (callD G noSpec (d + 10) 453 [.ref 20] (mk m y T) = .ok (.bool true) (mk m' u (T ++ U))) (Shut m n l m') := by
  obtain ⟨hn0, rfl, hg⟩ := A
  have hnf : Op.free ∉ os := fun q => by obtain ⟨f, x, k, t, e, _⟩ := hg _ q; injection e
  have hsu := hs.ext p (c'' := 0) (by decide)
  obtain ⟨t2, v2, rfl⟩ := der_cell L.der
  have eo := open_run hm hx hsol en hn0
  have ea := row_run (y := u) (T := T) (d := d) hm hx L.der
  obtain ⟨cs, S, ec, hcs⟩ := opts_ok (y := u) (T := T) (d := d + 5) hm L hn hnf
  have hi : (lF T cs S)[T.length]? = some (.list cs) := by simp [lF]
  obtain ⟨c', a', b', e1⟩ := ct_all (y := u) (d := d + 4) (num := .int n) hsu.f hsu.t hm hi hcs 0 397 .junk .junk .junk rfl (fun o ho => (hg o ho).ext p) (by have := hcs.len; lia)
  have start : ∀ {m' V}, callD G noSpec (d + 9) 502 [.ref 9, .int n] (mk m u (lF T cs S)) = .ok .none (mk m' u V) → callD G noSpec (d + 10) 453 [.ref 20] (mk m y T) = .ok (.bool true) (mk m' u V) := fun ecl => walk (n := 0) (fs := [(.R eo, 1), (.R ea, 0), (.R ec, 0), (.O hi, 0), (.F e1, 1), (.R ecl, 9)]) (by kernel_rfl)
  have eT : lF T cs S = T ++ [.list cs, .set S] := by simp [lF]
  by_cases h0 : n = 0
  · subst h0
    exact ⟨m, _, eT ▸ start close_zero, .inl ⟨rfl, rfl⟩⟩
  · obtain ⟨al, U, ecl, hal⟩ := close_run (y := u) (T := lF T cs S) (d := d + 8) h0 h1 h2 hl ha
    exact ⟨_, _, (start ecl).trans (by rw [eT, List.append_assoc]), .inr ⟨h0, al, rfl, hal⟩⟩
theorem close_two_err {hd row : List VV} (hs : Rm 20 y) (hm : m.hp.length ≤ 1000000) (hx : m.xs = [x, hc, rc]) (hsol : Solid hc) (en : callD G noSpec (d + 8) 418 [.ref 20, hc] (mk m y T) = .ok (.int n) (mk m u T)) (p : Ext 2 y u) (hn1 : -1 ≤ n)
    (L : Lst m.hp z lo hi rc os e) (hn : os.length ≤ 50) (kd : ∀ o ∈ os, Kd y o) (A : ¬ AllGd y n os e) (ht : ∀ T, ∃ U, callD G noSpec (d + 8) 623 [.ref 20, hc] (mk m u T) = .ok (.tup hd) (mk m u (T ++ U))) (hr : (∃ k, e = .con k ∧ k ≠ 0) → ∀ T, ∃ U, callD G noSpec (d + 8) 623 [.ref 20, rc] (mk m u T) = .ok (.tup row) (mk m u (T ++ U))) :
    ErrOut (callD G noSpec (d + 10) 453 [.ref 20] (mk m y T)) m y T 5 (fun z F => Told y z n (.tup hd) (.tup row) os e F) := by
  have hsu := hs.ext p (c'' := 3) (by decide)
  by_cases hneg : n < 0
  · have hn2 : n = -1 := by lia
    subst hn2
    obtain ⟨t, v, rfl, h, h'⟩ := hsol
    obtain ⟨V, z, F, e1, h1, p1, h2⟩ := open_bad (d := d + 1) hsu (congrArg (·[1]?) hx) (hx ▸ Nat.le_of_ble_eq_true rfl) hm ⟨t, v, rfl, h, h'⟩ en p ht
    exact ⟨V, z, F, walkX (n := 0) (fs := [(.R e1, 9)]) (by kernel_rfl), h1, p1, .inl ⟨hneg, h2⟩⟩
  · have hn0 : 0 ≤ n := Int.not_lt.mp hneg
    have eo := open_run hm hx hsol en hn0
    have ea := row_run (y := u) (T := T) (d := d) hm hx L.der
    have opts : ∀ {c : Nat} {P : Sy → VV → Prop}, ErrOut (callD G noSpec (d + 9) 432 [.ref 20, rc] (mk m u T)) m u T c P → c ≤ 3 → (∀ {z F}, P z F → Told y z n (.tup hd) (.tup row) os e F) → ErrOut (callD G noSpec (d + 10) 453 [.ref 20] (mk m y T)) m y T 5 (fun z F => Told y z n (.tup hd) (.tup row) os e F) := by
      rintro c P ⟨V, z, F, e1, h1, p1, h2⟩ hc hP
      exact ⟨V, z, F, walkX (n := 0) (fs := [(.R eo, 1), (.R ea, 0), (.R e1, 9)]) (by kernel_rfl), h1, (p.trans p1).le (Nat.add_le_add_left hc 2), hP h2⟩
    induction e with
    | var => exact opts (opts_open (d := d + 5) (hsu.le (by decide)) hm L hn) (by decide) fun h => .inr ⟨hn0, .inl ⟨rfl, h⟩⟩
    | con k =>
      by_cases hk : k = 0
      · subst hk
        by_cases hf : Op.free ∈ os
        · exact opts (opts_free (d := d + 5) (hsu.le (by decide)) hm L hn hf) (by decide) fun h => .inr ⟨hn0, .inr (.inr (.inl ⟨rfl, hf, h⟩))⟩
        · obtain ⟨cs, S, ec, hcs⟩ := opts_ok (y := u) (T := T) (d := d + 5) hm L hn hf
          have hi : (lF T cs S)[T.length]? = some (.list cs) := by simp [lF]
          obtain ⟨V, z, F, e1, hp, p1, h1⟩ := ct_first (y := u) (d := d + 1) (num := .int n) p hsu hsu.f hsu.t hm hi hcs 0 397 .junk .junk .junk rfl (fun o ho => (kd o ho).resolve_left fun q => hf (q ▸ ho)) (by have := hcs.len; lia) fun q => A ⟨hn0, rfl, q⟩
          exact ⟨V, z, F, walkX (n := 0) (fs := [(.R eo, 1), (.R ea, 0), (.R ec, 0), (.O hi, 0), (.F e1, 9)]) (by kernel_rfl), .trans ⟨[.list cs, .set S], by simp [lF]⟩ hp, (p.trans p1).le (by decide), .inr ⟨hn0, .inr (.inr (.inr ⟨rfl, hf, h1⟩))⟩⟩
      · exact opts (opts_end (d := d + 1) hsu hm L hn hk (hr ⟨k, rfl, hk⟩)) (by decide) fun h => .inr ⟨hn0, .inr (.inl ⟨k, rfl, hk, h⟩)⟩
end
end Mine
end
section
set_option backward.match.sparseCases false
namespace Mine
inductive HKf (y : Sy) (ao : VO) (ins outs : List (Int × VV)) : VV → Int → Prop
  | al (w : Nat) (t : Str) (as : List (Str × VV)) (n : Int) : y.tx[w]? = some t → (t == ("user_input" : Str)) = false → (t == ("user_output" : Str)) = false → dictS ao = some as → (assocGet t as).getD (.int (-1)) = .int n → HKf y ao ins outs (.tup [.str "a", .int (Int.ofNat w)]) n
  | num (f x : Nat) (z : Int) : f ≠ 0 → y.fn[f]? = some (x, 1) → y.tx[x]? = some ("$stream" : Str) → HKf y ao ins outs (.tup [.str "s", .int (Int.ofNat f), .tup [.tup [.str "i", .int z]]]) (if (assocGet z ins).isSome || (assocGet z outs).isSome then z else -1)
noncomputable abbrev HK (y : Sy) (m : MS) (h : VV) (n : Int) : Prop := HKf y m.al m.ins m.outs h n
theorem HKf.tup {y al i o h n} (x : HKf y al i o h n) : ∃ hd, h = .tup hd := by induction x <;> exact ⟨_, rfl⟩
theorem rest_tup (os : List Op) (e : En) : ∃ row, (restI os e).val = .tup row := by
  induction os with
  | nil => induction e <;> exact ⟨_, rfl⟩
  | cons o r => exact ⟨_, rfl⟩
theorem rowC_len (os : List Op) (e : En) : ∀ (h : Nat) (vz : Option Nat) (o : Op), (rowC h vz o os e).length ≤ 4 * (os.length + 1) := by
  have ox (h : Nat) (vz : Option Nat) (o : Op) : (oX h vz o).length ≤ 2 := by induction o <;> simp [oX]
  induction os with
  | nil => exact fun h vz o => Nat.add_le_add_right (ox h vz o) 2
  | cons o2 os ih =>
    intro h vz o
    show (oX h vz o ++ _).length + 2 ≤ _
    rw [List.length_append]
    have := ox h vz o
    have := ih (h + 2 + (oX h vz o).length) (oV h vz o) o2
    simp only [List.length_cons]; lia
section
variable {m : MS} {y : Sy} {T : List VO} {d : Nat} {h : VV} {n : Int} {os : List Op} {e : En}
theorem put_hd (H : HK y m h n) (hs : Rm 10 y) (nt : y.tx.Nodup) (nf : y.fn.Nodup) (hl : m.hp.length ≤ 60000) : Y3 fun hp' U c => C4 (callD G noSpec (d + 5) 630 [.ref 20, h] (mk m y T) = .ok c (mk { m with hp := m.hp ++ hp' } y (T ++ U))) (Solid c) (hp'.length ≤ 2)
    (∀ (m2 : MS) (T : List VO) (dd : Nat), m.hp ++ hp' <+: m2.hp → m2.hp.length ≤ 900000 → m2.ins = m.ins → m2.outs = m.outs → m2.al = m.al → ∃ u, C3 (callD G noSpec (dd + 8) 418 [.ref 20, c] (mk m2 y T) = .ok (.int n) (mk m2 u T)) (Ext 2 y u) (∀ T, ∃ U, callD G noSpec (dd + 8) 623 [.ref 20, c] (mk m2 u T) = .ok h (mk m2 u (T ++ U)))) := by
  induction H with
  | al w t as n h1 h2 h3 h4 h5 =>
    refine ⟨[], [.edict, .list []], cell 4 (Int.ofNat w), ?_, solid4, Nat.zero_le _, fun m2 T dd hp hl2 hi ho ha => ⟨y, ?_, (Ext.refl y).le (by decide), fun T => ?_⟩⟩
    · rw [put_atom (d := d + 3), List.append_nil, List.append_assoc]; rfl
    · rw [stream_alias (d := dd + 6) hs.t h1 h2 h3 (ha ▸ h4), h5]
    · exact take_run (d := dd + 3) (vz := 0) (lo := 0) (hi := 0) hs.f (Nat.le_trans hl2 (by decide)) (.con _ (Nat.le_refl _)) (by decide) (by decide) (by decide) (by decide)
  | num f x z h0 h1 h2 =>
    obtain ⟨U, e⟩ := put_handle (m := m) (T := T) (d := d) z hs.f h1 h0 (Nat.le_trans hl (by decide))
    refine ⟨_, U, _, e, solid2, Nat.le_refl _, fun m2 T dd hp hl2 hi ho ha => ?_⟩
    obtain ⟨r, hr⟩ := hp
    have a0 : m2.hp[m.hp.length]? = some (cell 6 (Int.ofNat f)) := by rw [← hr]; simp
    have a1 : m2.hp[m.hp.length + 1]? = some (cell 5 z) := by rw [← hr]; simp
    have hl3 := Nat.le_trans hl2 (by decide : 900000 ≤ 1000000)
    obtain ⟨u, e1, p⟩ := stream_num (m := m2) (T := T) (d := dd + 4) (hs.le (by decide)) nt nf hl3 a0 a1 h1 h2
    exact ⟨u, by rw [e1, hi, ho], p, fun T => take_run (d := dd + 3) (vz := 0) (lo := 0) (hi := m.hp.length + 1) (hs.ext p (c'' := 0) (by decide)).f hl3 (.str _ f x _ _ 1 1 (Nat.zero_le _) a0 (p.fa h1) a1 (.int z (Nat.le_refl _))) (by decide) (by decide) (by decide) (by decide)⟩
theorem put_any (hs : y.fn.length ≤ 1000000) (ok : ∀ u ∈ os, opOK y u) (hl : m.hp.length ≤ 60000) (hn : os.length ≤ 50) : Y5 fun hp' z U c hi => C3 (callD G noSpec (d + 5) 630 [.ref 20, (restI os e).val] (mk m y T) = .ok c (mk { m with hp := m.hp ++ hp' } y (T ++ U))) (Lst (m.hp ++ hp') z m.hp.length hi c os e) (hp'.length ≤ 2 + 4 * os.length) := by
  induction os with
  | nil =>
    induction e with
    | con k => exact ⟨[], 0, [.edict, .list []], cell 4 k, _, (put_atom (d := d + 3) m T k).trans (by rw [List.append_nil, List.append_assoc]; rfl), .nilc k (Nat.le_refl _), Nat.zero_le _⟩
    | var => exact ⟨_, 0, _, _, _, (put_free (d := d + 1) m T 1 (Nat.le_trans hl (by decide))).trans (by rw [List.append_assoc]), .nilv _ (Nat.le_refl _) (by simp), Nat.le_succ _⟩
  | cons o os =>
    obtain ⟨U, e1⟩ := put_row (d := d) m T (e := e) hs ok hl (Nat.le_of_succ_le hn)
    have hg : ∀ i x, (rowC m.hp.length none o os e)[i]? = some x → (m.hp ++ rowC m.hp.length none o os e)[m.hp.length + i]? = some x := fun i x q => by
      rw [List.getElem?_append_right (Nat.le_add_right _ _), Nat.add_sub_cancel_left]; exact q
    exact ⟨_, _, U, _, _, e1, lst_of (z := (rowV m.hp.length none o os).getD 0) os o m.hp.length none hg (fun u q => by rw [q]; rfl) nofun, Nat.le_trans (rowC_len os e m.hp.length none o) (Nat.le_add_left _ _)⟩
noncomputable def MS.H (m : MS) (hp : List VV) : MS := { m with hp := hp }
noncomputable def MS.A (m : MS) (hp xs : List VV) : MS := { m with hp := hp, xs := xs }
noncomputable def argT (T U1 U2 : List VO) (hc rc : VV) : List VO := T ++ U1 ++ U2 ++ [.list [hc, rc]]
inductive Set2 (d : Nat) (m : MS) (y : Sy) (T : List VO) (h : VV) (n : Int) (os : List Op) (e : En) : Prop
  | mk (h1 h2 : List VV) (U1 U2 : List VO) (hc rc x : VV) (z lo hi : Nat) (u : Sy) :
    callD G noSpec (d + 10) 630 [.ref 20, h] (mk m y T) = .ok hc (mk (m.H (m.hp ++ h1)) y (T ++ U1)) →
    callD G noSpec (d + 10) 630 [.ref 20, (restI os e).val] (mk (m.H (m.hp ++ h1)) y (T ++ U1)) = .ok rc (mk (m.H (m.hp ++ h1 ++ h2)) y (T ++ U1 ++ U2)) →
    callD G noSpec (d + 10) 602 [.ref 20, .ref ((T ++ U1 ++ U2).length + 32)] (mk (m.H (m.hp ++ h1 ++ h2)) y (argT T U1 U2 hc rc)) = .ok .none (mk (m.A (m.hp ++ h1 ++ h2) [x, hc, rc]) y (argT T U1 U2 hc rc)) →
    Solid hc → Lst (m.hp ++ h1 ++ h2) z lo hi rc os e → h1.length + h2.length ≤ 4 + 4 * os.length →
    callD G noSpec (d + 8) 418 [.ref 20, hc] (mk (m.A (m.hp ++ h1 ++ h2) [x, hc, rc]) y (argT T U1 U2 hc rc)) = .ok (.int n) (mk (m.A (m.hp ++ h1 ++ h2) [x, hc, rc]) u (argT T U1 U2 hc rc)) → Ext 2 y u →
    (∀ T, ∃ V, callD G noSpec (d + 8) 623 [.ref 20, hc] (mk (m.A (m.hp ++ h1 ++ h2) [x, hc, rc]) u T) = .ok h (mk (m.A (m.hp ++ h1 ++ h2) [x, hc, rc]) u (T ++ V))) → Set2 d m y T h n os e
theorem set_two (H : HK y m h n) (hs : Rm 30 y) (nt : y.tx.Nodup) (nf : y.fn.Nodup) (ok : ∀ u ∈ os, opOK y u) (hl : m.hp.length ≤ 50000) (hn : os.length ≤ 50) (hx : (∃ x, m.xs = [x]) ∨ Y3 fun x a b => m.xs = [x, a, b]) : Set2 d m y T h n os e := by
  obtain ⟨h1, U1, hc, e1, sol, l1, later⟩ := put_hd (T := T) (d := d + 5) H (hs.le (by decide)) nt nf (Nat.le_trans hl (by decide))
  have l3 : (m.hp ++ h1).length ≤ 50002 := by rw [List.length_append]; exact Nat.add_le_add hl l1
  obtain ⟨h2, z, U2, rc, hi, e2, L, l2⟩ := put_any (m := (m.H (m.hp ++ h1))) (T := T ++ U1) (d := d + 5) (e := e) hs.f ok (Nat.le_trans l3 (by decide)) hn
  have l4 : (m.hp ++ h1 ++ h2).length ≤ 900000 := by rw [List.length_append]; lia
  obtain ⟨t1, v1, rfl, s0, s1⟩ := sol
  obtain ⟨t2, v2, rfl⟩ := der_cell L.der
  obtain ⟨x, e3⟩ : ∃ x, callD G noSpec (d + 10) 602 [.ref 20, .ref ((T ++ U1 ++ U2).length + 32)] (mk (m.H (m.hp ++ h1 ++ h2)) y (argT T U1 U2 (cell t1 v1) (cell t2 v2))) = .ok .none (mk (m.A (m.hp ++ h1 ++ h2) [x, cell t1 v1, cell t2 v2]) y (argT T U1 U2 (cell t1 v1) (cell t2 v2))) := by
    rcases hx with ⟨x, hx⟩ | ⟨x, a, b, hx⟩
    · exact ⟨x, set_args_run (d := d + 8) (m := (m.H (m.hp ++ h1 ++ h2))) (last_get (T ++ U1 ++ U2) _) (.inl hx)⟩
    · exact ⟨x, set_args_run (d := d + 8) (m := (m.H (m.hp ++ h1 ++ h2))) (last_get (T ++ U1 ++ U2) _) (.inr ⟨a, b, hx⟩)⟩
  obtain ⟨u, e4, p, e5⟩ := later (m.A (m.hp ++ h1 ++ h2) [x, cell t1 v1, cell t2 v2]) (argT T U1 U2 (cell t1 v1) (cell t2 v2)) d (List.prefix_append _ _) l4 rfl rfl rfl
  exact ⟨h1, h2, U1, U2, _, _, x, z, _, hi, u, e1, e2, e3, ⟨t1, v1, rfl, s0, s1⟩, L, by lia, e4, p, e5⟩
noncomputable def Done (m m' : MS) (n : Nat) : Prop := Y2 fun hp xs => C3 (m' = m.A hp xs) (Y3 fun x a b => xs = [x, a, b]) (hp.length ≤ m.hp.length + n)
theorem done_ok {l : List (Str × Int)} (H : HK y m h n) (hs : Rm 30 y) (nt : y.tx.Nodup) (nf : y.fn.Nodup) (kd : ∀ o ∈ os, Kd y o) (hl : m.hp.length ≤ 50000) (hn : os.length ≤ 50) (hx : (∃ x, m.xs = [x]) ∨ Y3 fun x a b => m.xs = [x, a, b]) (A : AllGd y n os e) (h1 : okLen m.ins.length = true) (h2 : okLen m.outs.length = true) (hl2 : twoK l) (ha : dictS m.al = some (asV l)) :
    Y4 fun m1 m' u U => C4 (callD G noSpec (d + 11) 803 [.ref 20, h, (restI os e).val] (mk m y T) = .ok (.str "closed") (mk m' u (T ++ U))) (Ext 2 y u) (Done m m1 (4 + 4 * os.length)) (Shut m1 n l m') := by
  obtain ⟨p1, p2, U1, U2, hc, rc, x, z, lo, hi, u, e1, e2, e3, sol, L, ll, e4, p, e5⟩ := set_two (T := T) (d := d) (e := e) H hs nt nf (fun o ho => (kd o ho).ok) hl hn hx
  have l4 : (m.hp ++ p1 ++ p2).length ≤ m.hp.length + (4 + 4 * os.length) := by rw [List.length_append, List.length_append]; lia
  obtain ⟨m', V, e6, h6⟩ := close_two_ok (d := d) (hs.le (by decide)) (by show (m.hp ++ p1 ++ p2).length ≤ _; lia) rfl sol e4 p L hn A h1 h2 hl2 ha
  obtain ⟨hd, rfl⟩ := H.tup
  obtain ⟨row, er⟩ := rest_tup os e
  rw [er] at e2 ⊢
  exact ⟨_, m', u, U1 ++ U2 ++ [.list [hc, rc]] ++ V, (walk (n := 2) (v := .str "closed") (τ := mk m' u (argT T U1 U2 hc rc ++ V)) (fs := [(.R e1, 1), (.R e2, 0), (.R e3, 0), (.R e6, 9)]) (by kernel_rfl)).trans (by simp only [argT, List.append_assoc]), p, ⟨_, _, rfl, ⟨x, hc, rc, rfl⟩, l4⟩, h6⟩
theorem Lst.solid {hp z lo hi c os e k} (h : Lst hp z lo hi c os e) (he : e = .con k) : Solid c := by
  induction h with
  | nilc => exact solid4
  | nilv => exact nomatch he
  | cons => exact solid3
theorem err_get1 (T : List VO) (b : VV) : (errT T b)[T.length + 1]? = some (.attrs [("ball", b)]) := by simp [errT]
theorem err_set (T : List VO) (b : VV) : (errT T b).set T.length .dead = T ++ [.dead, .attrs [("ball", b)]] := by simp [errT]
theorem done_err (H : HK y m h n) (hn1 : -1 ≤ n) (hs : Rm 30 y) (nt : y.tx.Nodup) (nf : y.fn.Nodup) (kd : ∀ o ∈ os, Kd y o) (hl : m.hp.length ≤ 50000) (hn : os.length ≤ 50) (hx : (∃ x, m.xs = [x]) ∨ Y3 fun x a b => m.xs = [x, a, b]) (A : ¬ AllGd y n os e) :
    Y4 fun m1 z U F => C4 (callD G noSpec (d + 11) 803 [.ref 20, h, (restI os e).val] (mk m y T) = .ok (ballOf F) (mk m1 z (T ++ U))) (Ext 5 y z) (Done m m1 (4 + 4 * os.length)) (Told y z n h (restI os e).val os e F) := by
  obtain ⟨p1, p2, U1, U2, hc, rc, x, z, lo, hi, u, e1, e2, e3, sol, L, ll, e4, p, e5⟩ := set_two (T := T) (d := d) (e := e) H hs nt nf (fun o ho => (kd o ho).ok) hl hn hx
  have l4 : (m.hp ++ p1 ++ p2).length ≤ m.hp.length + (4 + 4 * os.length) := by rw [List.length_append, List.length_append]; lia
  have l5 : (m.hp ++ p1 ++ p2).length ≤ 1000000 := by lia
  obtain ⟨hd, rfl⟩ := H.tup
  obtain ⟨row, er⟩ := rest_tup os e
  obtain ⟨V, z, F, e6, ⟨W, rfl⟩, p6, h6⟩ := close_two_err (d := d) (m := m.A (m.hp ++ p1 ++ p2) [x, hc, rc]) (row := row) (hs.le (by decide)) l5 rfl sol e4 p hn1 L hn kd A e5 (by
    rintro ⟨k, rfl, hk⟩ T
    obtain ⟨s, kk, r, b1, b2⟩ := L.rp (y := u) rfl fun o ho => ((kd o ho).ext p).ok
    rw [← er]
    obtain ⟨t, v, rfl, n0, n1⟩ := L.solid rfl
    exact take_run (d := d + 3) (hs.ext p (c'' := 0) (by decide)).f l5 r n0 n1 (by lia) (by lia))
  rw [er] at e2 ⊢
  have g0 := err_get (argT T U1 U2 hc rc ++ W) (ballOf F)
  have g1 := err_get1 (argT T U1 U2 hc rc ++ W) (ballOf F)
  have g2 := err_set (argT T U1 U2 hc rc ++ W) (ballOf F)
  exact ⟨_, z, U1 ++ U2 ++ [.list [hc, rc]] ++ W ++ [.dead, .attrs [("ball", ballOf F)]], F, (walk (n := 2) (v := ballOf F) (τ := mk (m.A (m.hp ++ p1 ++ p2) [x, hc, rc]) z (argT T U1 U2 hc rc ++ W ++ [.dead, .attrs [("ball", ballOf F)]])) (fs := [(.R e1, 1), (.R e2, 0), (.R e3, 0), (.R e6, 0), (.O g0, 0), (.O g1, 0), (.T g2, 9)]) (by kernel_rfl)).trans (by simp only [argT, List.append_assoc]), p6, ⟨_, _, rfl, ⟨x, hc, rc, rfl⟩, l4⟩, h6⟩
end
end Mine
end
section
set_option backward.match.sparseCases false
namespace Mine
structure Pool (X : List VV) (a b c : Int) : Prop where
  xi : ∃ xs : List Int, X = xs.map .int ∧ xs.length ≤ 1000
  pa : 0 ≤ a
  pi : -1 ≤ b
  pc : 0 ≤ c
noncomputable abbrev PoolOK (m : MS) : Prop := Pool m.X m.pa m.pi m.pc
noncomputable def setP (m : MS) (a b c : Int) : MS := { m with pa := a, pi := b, pc := c }
theorem mod_v {i L : Int} (h : 0 < L) (h2 : L < 100) : ∃ v : Nat, binV .Mod (.int i) (.int L) = some (.int (Int.ofNat v)) ∧ (v : Int) < L := by
  obtain ⟨v, hv⟩ := Int.eq_ofNat_of_zero_le (Int.fmod_nonneg_of_pos i h)
  have e : binV .Mod (.int i) (.int L) = some (.int (Int.fmod i L)) := congrArg (Option.map VV.int) (if_pos ⟨h, Int.lt_trans h2 (by decide)⟩)
  exact ⟨v, e.trans (congrArg (fun z => some (VV.int z)) hv), hv ▸ Int.fmod_lt_of_pos i h⟩
theorem div_v {i L : Int} (h : 0 < L) (h2 : L < 100) : binV .FloorDiv (.int i) (.int L) = some (.int (Int.fdiv i L)) := congrArg (Option.map VV.int) (if_pos ⟨h, Int.lt_trans h2 (by decide)⟩)
section
variable {m : MS} {y : Sy} {T : List VO} {d : Nat}
theorem draw_run {L : Int} (P : PoolOK m) (hL : 0 < L) (hL2 : L < 100) : Y4 fun (v : Nat) a b c => C3 (callD G noSpec (d + 1) 775 [.ref 1, .int L] (mk m y T) = .ok (.int (Int.ofNat v)) (mk (setP m a b c) y T)) ((v : Int) < L) (PoolOK (setP m a b c)) := by
  obtain ⟨⟨xs, hX, hxl⟩, pa, pi, pc⟩ := P
  cases h0 : decide (m.pa = 0) with
  | false =>
    obtain ⟨v, hv, hv2⟩ := mod_v (i := m.pa) hL hL2
    exact ⟨v, Int.fdiv m.pa L, m.pi, m.pc, walk (n := 1) (fs := [(.Q (congrArg some h0), 1), (.V hv, 1), (.V (div_v (i := m.pa) hL hL2), 9)]) (by kernel_rfl), hv2, ⟨xs, hX, hxl⟩, Int.fdiv_nonneg pa (Int.le_of_lt hL), pi, pc⟩
  | true =>
    have hle : m.X.length = xs.length := by rw [hX, List.length_map]
    have hl := len_l (xs := m.X) hle (by exact Nat.le_trans (by assumption) (by decide))
    have pi' : 0 ≤ m.pi + 1 := by lia
    cases h1 : decide (Int.ofNat xs.length ≤ m.pi + 1) with
    | true =>
      obtain ⟨v, hv, hv2⟩ := mod_v (i := m.pc + 1) hL hL2
      exact ⟨v, m.pa, m.pi + 1, m.pc + 1, walk (n := 1) (fs := [(.Q (congrArg some h0), 4), (.W hl, 0), (.Q (congrArg some h1), 3), (.V hv, 9)]) (by kernel_rfl), hv2, ⟨xs, hX, hxl⟩, pa, Int.le_trans (by decide) pi', Int.le_add_one pc⟩
    | false =>
      obtain ⟨q, hq⟩ := Int.eq_ofNat_of_zero_le pi'
      have hql : q < xs.length := Int.ofNat_lt.mp (Int.not_le.mp (hq ▸ of_decide_eq_false h1))
      have hg : oget (.list m.X) (.int (m.pi + 1)) = some (.int xs[q]) := by
        rw [hq]
        exact oget_list (by rw [hX, List.getElem?_map, List.getElem?_eq_getElem hql]; rfl) (by lia)
      obtain ⟨v, hv, hv2⟩ := mod_v (i := (xs[q]).natAbs) hL hL2
      exact ⟨v, Int.fdiv (xs[q]).natAbs L, m.pi + 1, m.pc, walk (n := 1) (fs := [(.Q (congrArg some h0), 4), (.W hl, 0), (.Q (congrArg some h1), 2), (.V hg, 2), (.V hv, 1), (.V (div_v (i := (xs[q]).natAbs) hL hL2), 9)]) (by kernel_rfl), hv2, ⟨xs, hX, hxl⟩, Int.fdiv_nonneg (Int.natCast_nonneg _) (Int.le_of_lt hL), Int.le_trans (by decide) pi', pc⟩
end
end Mine
end
section
set_option backward.match.sparseCases false
namespace Mine
noncomputable def EWn (p : Str × Int) : Prop := (p.1 = "east" ∨ p.1 = "west") ∧ 1 ≤ p.2
noncomputable def EW (l : List (Str × Int)) : Prop := l = [] ∨ (∃ a, l = [a] ∧ EWn a) ∨ Y2 fun a b => C4 (l = [a, b]) (a.1 ≠ b.1) (EWn a) (EWn b)
theorem EW.two {l} (h : EW l) : twoK l := by
  rcases h with h | ⟨a, h, _⟩ | ⟨a, b, h, n, _⟩
  · exact .inl h
  · exact .inr (.inl ⟨a, h⟩)
  · exact .inr (.inr ⟨a, b, h, n⟩)
theorem EW.set {l} (h : EW l) {w : Str} (hw : w = "east" ∨ w = "west") {v : Int} (hv : 1 ≤ v) : ∃ l', EW l' ∧ assocSet w (VV.int v) (asV l) = asV l' := by
  have st (a : Str) (x : VV) (r : List (Str × VV)) : assocSet w (VV.int v) ((a, x) :: r) = if a = w then (a, .int v) :: r else (a, x) :: assocSet w (.int v) r := rfl
  rcases h with rfl | ⟨⟨a, i⟩, rfl, ha, hi⟩ | ⟨⟨a, i⟩, ⟨b, j⟩, rfl, n, ⟨ha, hi⟩, hb, hj⟩
  · exact ⟨[(w, v)], .inr (.inl ⟨_, rfl, hw, hv⟩), rfl⟩
  · by_cases q : a = w
    · exact ⟨[(a, v)], .inr (.inl ⟨_, rfl, ha, hv⟩), (st _ _ _).trans (if_pos q)⟩
    · exact ⟨[(a, i), (w, v)], .inr (.inr ⟨_, _, rfl, q, ⟨ha, hi⟩, hw, hv⟩), (st _ _ _).trans (if_neg q)⟩
  · by_cases q : a = w
    · exact ⟨[(a, v), (b, j)], .inr (.inr ⟨_, _, rfl, n, ⟨ha, hv⟩, hb, hj⟩), (st _ _ _).trans (if_pos q)⟩
    · have q2 : b = w := by
        rcases ha with ha | ha <;> rcases hb with hb | hb <;> rcases hw with hw | hw <;> first | exact hb.trans hw.symm | exact (q (ha.trans hw.symm)).elim | exact (n (ha.trans hb.symm)).elim
      exact ⟨[(a, i), (b, v)], .inr (.inr ⟨_, _, rfl, n, ⟨ha, hi⟩, hb, hv⟩), (st _ _ _).trans ((if_neg q).trans (congrArg (_ :: ·) ((st _ _ _).trans (if_pos q2))))⟩
noncomputable def inR (k : Nat) (z : Int) : Bool := decide (0 ≤ z ∧ z < Int.ofNat k)
theorem inR_new (k : Nat) : inR k (Int.ofNat k) = false := decide_eq_false fun h => Int.lt_irrefl _ h.2
theorem inR_succ (k : Nat) (z : Int) : inR (k + 1) z = (inR k z || decide (z = Int.ofNat k)) := by
  unfold inR
  rw [← Bool.decide_or]
  refine decide_eq_decide.mpr ⟨fun h => (Int.lt_or_eq_of_le (Int.le_of_lt_add_one h.2)).imp (fun q => ⟨h.1, q⟩) id, fun h => h.elim (fun h => ⟨h.1, Int.lt_trans h.2 (Int.lt_succ _)⟩) fun e => e ▸ ⟨Int.natCast_nonneg k, Int.lt_succ _⟩⟩
structure Flow (nn : Int) (ins outs : List (Int × VV)) (al : VO) (ks : List (Int × VV)) (l : List (Str × Int)) (k : Nat) : Prop where
  nn : nn = Int.ofNat k
  k1 : 1 ≤ k
  kl : ks.length = k
  keys : ∀ z, (assocGet z ks).isSome = inR k z
  both : ∀ z, ((assocGet z ins).isSome || (assocGet z outs).isSome) = inR k z
  il : ins.length ≤ k
  ol : outs.length ≤ k
  ind : (ins.map (·.1)).Nodup
  outd : (outs.map (·.1)).Nodup
  ew : EW l
  al : dictS al = some (asV l)
noncomputable abbrev FlowOK (m : MS) (ks : List (Int × VV)) (l : List (Str × Int)) (k : Nat) : Prop := Flow m.nn m.ins m.outs m.al ks l k
section
variable {l : List (Int × VV)} {k z : Int} {v : VV}
theorem get_cons (e : Int × VV) (r : List (Int × VV)) : assocGet k (e :: r) = if e.1 = k then some e.2 else assocGet k r := rfl
theorem set_new (h : (assocGet k l).isSome = false) : assocSet k v l = l ++ [(k, v)] := by
  induction l with
  | nil => rfl
  | cons e r ih =>
    by_cases q : e.1 = k
    · rw [get_cons, if_pos q] at h; exact tf h
    · rw [get_cons, if_neg q] at h
      exact (if_neg q).trans (congrArg (e :: ·) (ih h))
theorem get_app : (assocGet z (l ++ [(k, v)])).isSome = ((assocGet z l).isSome || decide (z = k)) := by
  induction l with
  | nil =>
    show (if k = z then some v else none).isSome = (false || decide (z = k))
    by_cases q : k = z
    · rw [if_pos q, decide_eq_true q.symm]; rfl
    · rw [if_neg q, decide_eq_false (Ne.symm q)]; rfl
  | cons e r ih =>
    rw [List.cons_append, get_cons, get_cons]
    by_cases q : e.1 = z
    · rw [if_pos q, if_pos q]; rfl
    · rw [if_neg q, if_neg q, ih]
theorem not_key (h : (assocGet k l).isSome = false) : k ∉ l.map (·.1) := by
  induction l with
  | nil => exact List.not_mem_nil
  | cons e r ih =>
    by_cases q : e.1 = k
    · rw [get_cons, if_pos q] at h; exact tf h
    · rw [get_cons, if_neg q] at h
      exact fun hm => (List.mem_cons.mp hm).elim (fun p => q p.symm) (ih h)
theorem nodup_new (h : (assocGet k l).isSome = false) (n : (l.map (·.1)).Nodup) : ((l ++ [(k, v)]).map (·.1)).Nodup := by
  rw [List.map_append]; exact nodup_snoc n (not_key h)
theorem len_new : (l ++ [(k, v)]).length = l.length + 1 := List.length_append
theorem oset_new (h : (assocGet k l).isSome = false) (hl : l.length ≤ 1000) : oset (.idict l) (.int k) v = some (.idict (l ++ [(k, v)])) :=
  (if_pos (okLen_iff.mpr (Nat.le_trans hl (by decide)))).trans (by rw [set_new h])
end
section
variable {nn : Int} {ins outs ks : List (Int × VV)} {al : VO} {l : List (Str × Int)} {k : Nat}
theorem Flow.new (F : Flow nn ins outs al ks l k) : C3 ((assocGet nn ks).isSome = false) ((assocGet nn ins).isSome = false) ((assocGet nn outs).isSome = false) := by
  have h1 := F.keys nn
  have h2 := F.both nn
  rw [F.nn, inR_new] at h1 h2
  rw [F.nn]
  exact ⟨h1, (Bool.or_eq_false_iff.mp h2).1, (Bool.or_eq_false_iff.mp h2).2⟩
theorem Flow.addIn (F : Flow nn ins outs al ks l k) (v w : VV) : Flow (nn + 1) (ins ++ [(nn, v)]) outs al (ks ++ [(nn, w)]) l (k + 1) := by
  obtain ⟨n1, n2, n3⟩ := F.new
  refine ⟨by rw [F.nn]; rfl, Nat.le_add_left _ _, len_new.trans (congrArg (· + 1) F.kl), fun z => ?_, fun z => ?_, ?_, Nat.le_succ_of_le F.ol, nodup_new n2 F.ind, F.outd, F.ew, F.al⟩
  · rw [get_app, F.keys, inR_succ, F.nn]
  · rw [get_app, Bool.or_assoc, Bool.or_comm (decide _), ← Bool.or_assoc, F.both, inR_succ, F.nn]
  · rw [len_new]; exact Nat.succ_le_succ F.il
theorem Flow.addOut (F : Flow nn ins outs al ks l k) (v w : VV) : Flow (nn + 1) ins (outs ++ [(nn, v)]) al (ks ++ [(nn, w)]) l (k + 1) := by
  obtain ⟨n1, n2, n3⟩ := F.new
  refine ⟨by rw [F.nn]; rfl, Nat.le_add_left _ _, len_new.trans (congrArg (· + 1) F.kl), fun z => ?_, fun z => ?_, Nat.le_succ_of_le F.il, ?_, F.ind, nodup_new n3 F.outd, F.ew, F.al⟩
  · rw [get_app, F.keys, inR_succ, F.nn]
  · rw [get_app, ← Bool.or_assoc, F.both, inR_succ, F.nn]
  · rw [len_new]; exact Nat.succ_le_succ F.ol
end
section
variable {m : MS} {y : Sy} {T : List VO} {d : Nat}
theorem fresh_run : callD G noSpec (d + 1) 474 [.ref 9] (mk m y T) = .ok (.int m.nn) (mk { m with nn := m.nn + 1 } y T) := walk (n := 9) (fs := []) (by kernel_rfl)
noncomputable def MS.In (m : MS) (v : VV) : MS := { m with nn := m.nn + 1, ins := m.ins ++ [(m.nn, v)] }
noncomputable def MS.Out (m : MS) (v : VV) : MS := { m with nn := m.nn + 1, outs := m.outs ++ [(m.nn, v)] }
theorem olist_run {xs : List VV} (hl : xs.length ≤ 1000) : blt1 (.type "list") (.list xs) = some (.o .none (.list xs)) := if_pos (okLen_iff.mpr (Nat.le_trans hl (by decide)))
theorem open_in_run {i : Nat} {xs : List VV} (h : T[i]? = some (.list xs)) (hl : xs.length ≤ 1000) (hn : (assocGet m.nn m.ins).isSome = false) (hi : m.ins.length ≤ 1000) : Y2 fun v U => callD G noSpec (d + 2) 481 [.ref 9, .ref (i + 32)] (mk m y T) = .ok (.int m.nn) (mk (m.In v) y (T ++ U)) :=
  ⟨.ref ((T ++ [VO.list xs]).length + 32), [.list xs, .list [.ref (T.length + 32), .int 0]], (walk (n := 1) (v := .int m.nn) (τ := mk (m.In (.ref ((T ++ [VO.list xs]).length + 32))) y (T ++ [.list xs] ++ [.list [.ref (T.length + 32), .int 0]])) (fs := [(.R (fresh_run (d := d) (m := m) (y := y) (T := T)), 0), (.O h, 0), (.W (olist_run hl), 0), (.O (oset_new (v := .ref ((T ++ [VO.list xs]).length + 32)) hn hi), 9)]) (by kernel_rfl)).trans (by rw [List.append_assoc]; rfl)⟩
theorem open_out_run (hn : (assocGet m.nn m.outs).isSome = false) (hi : m.outs.length ≤ 1000) : Y2 fun v U => callD G noSpec (d + 2) 488 [.ref 9] (mk m y T) = .ok (.int m.nn) (mk (m.Out v) y (T ++ U)) :=
  ⟨.ref (T.length + 32), [.list []], walk (n := 1) (fs := [(.R (fresh_run (d := d) (m := m) (y := y) (T := T)), 0), (.O (oset_new (v := .ref (T.length + 32)) hn hi), 9)]) (by kernel_rfl)⟩
end
end Mine
end
section
set_option backward.match.sparseCases false
namespace Mine
theorem exs_out {d n : Nat} {sc : Scope} {s : XS} {r : List XS} {ρ : VE} {σ : VH} : (Od d (n + 1)).exs sc (s :: r) ρ σ = ((Od d n).ex sc s ρ σ).bind (exsAft (Od d n) sc r) := bnd_out fun _ _ => exsAft_out
theorem exs_one {d n : Nat} {sc : Scope} {s : XS} {r : List XS} {ρ ρ' : VE} {σ τ : VH} (h : (Od d (n + 2)).exs sc [s] ρ σ = .ok (.next, ρ') τ) : (Od d (n + 2)).exs sc (s :: r) ρ σ = (Od d (n + 1)).exs sc r ρ' τ := by
  rw [exs_out] at h ⊢
  generalize (Od d (n + 1)).ex sc s ρ σ = x at h
  induction x with
  | ok p τ' =>
    obtain ⟨f, ρ1⟩ := p
    induction f with
    | next => cases h; rfl
    | _ => cases h
  | _ => (first | exact rso h | exact reo h)
noncomputable abbrev bsc : Scope := f__law_begun.scope
noncomputable abbrev bB : List XS := bodyOf (stAt f__law_begun.body 1)
noncomputable def ρB (u a b c : VV) : VE := [("pool", .ref 1), ("flow", .ref 9), ("kinds", .ref 32), ("_", u), ("way", a), ("number", b), ("word", c)]
noncomputable def Bg (m0 : MS) (k : Nat) (m : MS) (T : List VO) : Prop := Y2 fun ks l => And (FlowOK m ks l k) (C4 (PoolOK m) (T[0]? = some (.idict ks)) (m.hp = m0.hp) (m.xs = m0.xs))
noncomputable abbrev wT (T : List VO) : List VO := T ++ [.list [.str "", .str "east", .str "west"]]
noncomputable def MS.Al (m : MS) (al : VO) : MS := { m with al := al }
section
variable {m m0 : MS} {y : Sy} {T : List VO} {d n k : Nat} {u a c : VV} {v : Int}
theorem head_app {ks : List (Int × VV)} (h : T[0]? = some (.idict ks)) (U : List VO) : (T ++ U)[0]? = some (.idict ks) := (List.getElem?_append_left (List.getElem?_eq_some_iff.mp h).1).trans h
theorem oset_al {o : VO} {l l' : List (Str × VV)} {w : Str} {v : VV} (ho : dictS o = some l) (hl : l.length ≤ 1000) (e : assocSet w v l = l') : oset o (.str w) v = some (.sdict l') := by
  have e1 : oset o (.str w) v = (dictS o).bind fun es => if okLen es.length then some (.sdict (assocSet w v es)) else none := by induction o <;> first | rfl | cases ho
  rw [e1, ho, ← e]
  exact if_pos (okLen_iff.mpr (Nat.le_trans hl (by decide)))
theorem EW.len {l} (h : EW l) : (asV l).length ≤ 1000 := by
  rcases h with rfl | ⟨a, rfl, _⟩ | ⟨a, b, rfl, _⟩ <;> exact Nat.le_of_ble_eq_true rfl
theorem word_run (B : Bg m0 k m T) (hv : 1 ≤ v) : Y3 fun m' T' c' => And ((Od (d + 3) (n + 31)).exs bsc (bB.drop 2) (ρB u a (.int v) c) (mk m y T) = .ok (.next, ρB u a (.int v) c') (mk m' y T')) (Bg m0 k m' T') := by
  obtain ⟨ks, l, F, P, hT, hh, hx⟩ := B
  obtain ⟨w, a', b', c', e1, hw, P1⟩ := draw_run (y := y) (T := wT T) (d := d + 2) (L := 3) P (by decide) (by decide)
  have g := last_get T (.list [.str "", .str "east", .str "west"])
  have nm : ∀ {t : Str}, t = "east" ∨ t = "west" → Y2 fun l' o => C3 (oset m.al (.str t) (.int v) = some o) (dictS o = some (asV l')) (EW l') := fun ht => by
    obtain ⟨l', h1, h2⟩ := F.ew.set ht hv
    exact ⟨l', _, oset_al F.al F.ew.len h2, rfl, h1⟩
  have w3 : w = 0 ∨ w = 1 ∨ w = 2 := by lia
  rcases w3 with rfl | rfl | rfl
  · exact ⟨setP m a' b' c', wT T, .str "", walkE (k := 0) (fs := [(.R e1, 0), (.O g, 9)]) (by kernel_rfl), ks, l, F, P1, head_app hT _, hh, hx⟩
  · obtain ⟨l', o, h1, h2, h3⟩ := nm (t := "east") (.inl rfl)
    exact ⟨(setP m a' b' c').Al o, wT T, .str "east", walkE (k := 0) (fs := [(.R e1, 0), (.O g, 2), (.O h1, 9)]) (by kernel_rfl), ks, l', ⟨F.nn, F.k1, F.kl, F.keys, F.both, F.il, F.ol, F.ind, F.outd, h3, h2⟩, P1, head_app hT _, hh, hx⟩
  · obtain ⟨l', o, h1, h2, h3⟩ := nm (t := "west") (.inr rfl)
    exact ⟨(setP m a' b' c').Al o, wT T, .str "west", walkE (k := 0) (fs := [(.R e1, 0), (.O g, 2), (.O h1, 9)]) (by kernel_rfl), ks, l', ⟨F.nn, F.k1, F.kl, F.keys, F.both, F.il, F.ol, F.ind, F.outd, h3, h2⟩, P1, head_app hT _, hh, hx⟩
noncomputable def MS.Ci (m : MS) (z : Int) : MS := { m with ci := z }
noncomputable def MS.Co (m : MS) (z : Int) : MS := { m with co := z }
theorem new_run (B : Bg m0 k m T) (hk : k ≤ 100) {w : Nat} (hw : w < 4) {b : VV} : Y2 fun m' T' => And ((Od (d + 3) (n + 31)).exs bsc [stAt bB 1] (ρB u (.int (Int.ofNat w)) b c) (mk m y T) = .ok (.next, ρB u (.int (Int.ofNat w)) (.int m.nn) c) (mk m' y T')) (Bg m0 (k + 1) m' T') := by
  obtain ⟨ks, l, F, P, hT, hh, hx⟩ := B
  obtain ⟨n1, n2, n3⟩ := F.new
  have kl : ks.length ≤ 1000 := F.kl ▸ Nat.le_trans hk (by decide)
  have hset (U : List VO) (o : VO) : ((T ++ U).set 0 o)[0]? = some o := List.getElem?_set_self (Nat.lt_of_lt_of_le (List.getElem?_eq_some_iff.mp hT).1 (List.length_append ▸ Nat.le_add_right _ _))
  have ki := oset_new (v := .str "in") n1 kl
  have ko := oset_new (v := .str "out") n1 kl
  have in1 : Y2 fun v U => callD G noSpec (d + 3) 481 [.ref 9, .ref (T.length + 32)] (mk m y (T ++ [.list [.int 65]])) = .ok (.int m.nn) (mk (m.In v) y (T ++ U)) := by
    obtain ⟨v, U, e⟩ := open_in_run (y := y) (d := d + 1) (last_get T (.list [.int 65])) (Nat.le_of_ble_eq_true rfl) n2 (Nat.le_trans F.il (Nat.le_trans hk (by decide)))
    exact ⟨v, _, e.trans (by rw [List.append_assoc])⟩
  obtain ⟨v, U, e⟩ := in1
  obtain ⟨v', U', e'⟩ := open_out_run (y := y) (T := T) (d := d + 1) n3 (Nat.le_trans F.ol (Nat.le_trans hk (by decide)))
  have w4 : w = 0 ∨ w = 1 ∨ w = 2 ∨ w = 3 := by lia
  rcases w4 with rfl | rfl | rfl | rfl
  · exact ⟨m.In v, (T ++ U).set 0 (.idict (ks ++ [(m.nn, .str "in")])), walkE (k := 3) (fs := [(.R e, 0), (.O (head_app hT U), 0), (.O ki, 9)]) (by kernel_rfl), _, l, F.addIn v (.str "in"), P, hset U _, hh, hx⟩
  · exact ⟨m.Out v', (T ++ U').set 0 (.idict (ks ++ [(m.nn, .str "out")])), walkE (k := 3) (fs := [(.R e', 0), (.O (head_app hT U'), 0), (.O ko, 9)]) (by kernel_rfl), _, l, F.addOut v' (.str "out"), P, hset U' _, hh, hx⟩
  · exact ⟨(m.In v).Ci m.nn, (T ++ U).set 0 (.idict (ks ++ [(m.nn, .str "in")])), walkE (k := 3) (fs := [(.R e, 0), (.O (head_app hT U), 0), (.O ki, 9)]) (by kernel_rfl), _, l, F.addIn v (.str "in"), P, hset U _, hh, hx⟩
  · exact ⟨(m.Out v').Co m.nn, (T ++ U').set 0 (.idict (ks ++ [(m.nn, .str "out")])), walkE (k := 3) (fs := [(.R e', 0), (.O (head_app hT U'), 0), (.O ko, 9)]) (by kernel_rfl), _, l, F.addOut v' (.str "out"), P, hset U' _, hh, hx⟩
theorem bg_turn (B : Bg m0 k m T) (hk : k ≤ 100) {a b : VV} : Y5 fun a' b' c' m' T' => And ((Od (d + 3) (n + 33)).exs bsc bB (ρB u a b c) (mk m y T) = .ok (.next, ρB u a' b' c') (mk m' y T')) (Bg m0 (k + 1) m' T') := by
  obtain ⟨ks, l, F, P, hT, hh, hx⟩ := B
  obtain ⟨w, p1, p2, p3, e1, hw, P1⟩ := draw_run (y := y) (T := T) (d := d + 2) (L := 4) P (by decide) (by decide)
  have s1 : (Od (d + 3) (n + 33)).exs bsc [stAt bB 0] (ρB u a b c) (mk m y T) = .ok (.next, ρB u (.int (Int.ofNat w)) b c) (mk (setP m p1 p2 p3) y T) := walkE (k := 0) (fs := [(.R e1, 9)]) (by kernel_rfl)
  obtain ⟨m2, T2, e2, B2⟩ := new_run (m0 := m0) (m := setP m p1 p2 p3) (y := y) (d := d) (n := n + 1) (u := u) (c := c) (b := b) ⟨ks, l, F, P1, hT, hh, hx⟩ hk (w := w) (Int.ofNat_lt.mp hw)
  have hv : 1 ≤ (setP m p1 p2 p3).nn := F.nn ▸ Int.ofNat_le.mpr F.k1
  obtain ⟨m3, T3, c3, e3, B3⟩ := word_run (y := y) (d := d) (n := n) (u := u) (a := .int (Int.ofNat w)) (c := c) B2 hv
  exact ⟨_, _, c3, m3, T3, (exs_one (r := bB.drop 1) s1).trans ((exs_one (r := bB.drop 2) e2).trans e3), B3⟩
end
end Mine
end
section
set_option backward.match.sparseCases false
namespace Mine
section
variable {m m0 : MS} {y : Sy} {d : Nat}
theorem nx_rng {σ : VH} {j r : Int} (h : j < r) : nextV σ (.rng j r 1) = some (some (.int j, .rng (j + 1) r 1)) := show (if j < r then some (some (VV.int j, It.rng (j + 1) r 1)) else some none) = _ from if_pos h
theorem nx_rng0 {σ : VH} {j r : Int} (h : ¬ j < r) : nextV σ (.rng j r 1) = some none := show (if j < r then some (some (VV.int j, It.rng (j + 1) r 1)) else some none) = _ from if_neg h
theorem bg_loop {r : Int} (q : Nat) : ∀ (j : Int) (M : Nat) (m : MS) (T : List VO) (u a b c : VV) (k : Nat), r = j + q → Bg m0 k m T → k + q ≤ 100 → q + 34 ≤ M →
    Y6 fun u' a' b' c' m' T' => And ((Od (d + 3) M).loop bsc "_" (.rng j r 1) bB (ρB u a b c) (mk m y T) = .ok (.next, ρB u' a' b' c') (mk m' y T')) (Bg m0 (k + q) m' T') := by
  induction q with
  | zero =>
    intro j M m T u a b c k hr B _ hM
    obtain ⟨n, rfl⟩ := lv_of (k := 1) hM
    exact ⟨u, a, b, c, m, T, loop_end (nx_rng0 (by lia)), B⟩
  | succ q ih =>
    intro j M m T u a b c k hr B hk hM
    obtain ⟨n, rfl⟩ := lv_of (k := 34) hM
    obtain ⟨a1, b1, c1, m1, T1, e1, B1⟩ := bg_turn (y := y) (d := d) (n := n) (u := .int j) (a := a) (b := b) (c := c) B (by lia)
    obtain ⟨u', a', b', c', m', T', e2, B2⟩ := ih (j + 1) (n + 33) m1 T1 (.int j) a1 b1 c1 (k + 1) (by lia) B1 (by lia) (by exact Nat.le_of_succ_le_succ (by assumption))
    exact ⟨u', a', b', c', m', T', (loop_go (nx_rng (by lia)) (by kernel_rfl) e1).trans e2, by rw [show k + (q + 1) = k + 1 + q by lia]; exact B2⟩
theorem begun_run (F : FlowOK m [(0, .str "both")] [] 1) (P : PoolOK m) : Y3 fun m' T' k => C3 (callD G noSpec (d + 4) 782 [.ref 1, .ref 9] (mk m y []) = .ok (.ref 32) (mk m' y T')) (Bg m k m' T') (k ≤ 6) := by
  obtain ⟨w, a, b, c, e1, hw, P1⟩ := draw_run (y := y) (T := [VO.idict [(0, .str "both")]]) (d := d + 2) (L := 6) P (by decide) (by decide)
  replace hw : w < 6 := Int.ofNat_lt.mp hw
  obtain ⟨u', a', b', c', m', T', e2, B⟩ := bg_loop (m0 := m) (r := Int.ofNat w) (y := y) (d := d) w 0 397 (setP m a b c) [VO.idict [(0, .str "both")]] .junk .junk .junk .junk 1 (by simp) ⟨_, [], F, P1, rfl, rfl, rfl⟩ (by lia) (by lia)
  refine ⟨m', T', 1 + w, ?_, B, by lia⟩
  have w6 : w = 0 ∨ w = 1 ∨ w = 2 ∨ w = 3 ∨ w = 4 ∨ w = 5 := by lia
  rcases w6 with rfl | rfl | rfl | rfl | rfl | rfl <;> exact walk (n := 2) (fs := [(.R e1, 1), (.F e2, 9)]) (by kernel_rfl)
end
end Mine
end
section
set_option backward.match.sparseCases false
namespace Mine
structure Base (y : Sy) : Prop where
  t0 : y.tx[0]? = some ("[]" : Str)
  f0 : y.fn[0]? = some (1, 2)
  nt : y.tx.Nodup
  nf : y.fn.Nodup
theorem Base.ext {c y z} (h : Base y) (p : Ext c y z) : Base z := ⟨p.at h.t0, p.fa h.f0, p.nt h.nt, p.nf h.nf⟩
theorem Base.fne {y : Sy} (h : Base y) {f x : Nat} (hf : y.fn[f]? = some (x, 1)) : f ≠ 0 := by
  rintro rfl
  exact (by decide : ¬ (2 : Nat) = 1) (congrArg Prod.snd (Option.some.inj (h.f0.symm.trans hf)))
theorem Base.tne {y : Sy} (h : Base y) {n : Nat} {t : Str} (hn : y.tx[n]? = some t) (ht : (t == ("[]" : Str)) = false) : n ≠ 0 := by
  rintro rfl
  rw [h.t0] at hn; obtain rfl := Option.some.inj hn
  simp at ht
inductive OptR (m : MS) (y : Sy) (T : List VO) (d : Nat) : Prop
  | mk (o : Op) (z : Sy) (a b c : Int) (U : List VO) : callD G noSpec (d + 3) 789 [.ref 1, .ref 3] (mk m y T) = .ok o.itm.val (Mine.mk (setP m a b c) z (T ++ U)) → Kd z o → Ext 5 y z → PoolOK (setP m a b c) → OptR m y T d
section
variable {m : MS} {y : Sy} {T : List VO} {d : Nat}
theorem option_run (P : PoolOK m) (B : Base y) (hs : Rm 10 y) : OptR m y T d := by
  obtain ⟨w, a, b, c, e1, hw, P1⟩ := draw_run (y := y) (T := T) (d := d + 1) (L := 9) P (by decide) (by decide)
  obtain ⟨f, x, z, e2, p, hx, hf⟩ := funcM (d := d) (setP m a b c) T "force" 1 (hs.le (by decide))
  have f0 := (B.ext p).fne hf
  have hs2 := hs.ext p (c'' := 8) (by decide)
  have g := last_get T (.list [.str "true", .str "false"])
  replace hw : w < 9 := Int.ofNat_lt.mp hw
  have tf (t : Str) (ht : t = "true" ∨ t = "false") (e : ∀ (k : Nat) (z2 : Sy), callD G noSpec (d + 2) 88 [.ref 3, .str t] (mk (setP m a b c) z (T ++ [.list [.str "true", .str "false"]])) = .ok (.int (Int.ofNat k)) (mk (setP m a b c) z2 (T ++ [.list [.str "true", .str "false"]])) → callD G noSpec (d + 3) 789 [.ref 1, .ref 3] (mk m y T) = .ok (Op.app f (Int.ofNat k)).itm.val (mk (setP m a b c) z2 (T ++ [.list [.str "true", .str "false"]]))) : OptR m y T d := by
    obtain ⟨k, z2, e3, p2, hk⟩ := atomM (d := d + 1) (setP m a b c) (T ++ [VO.list [.str "true", .str "false"]]) t hs2.t
    exact .mk _ z2 a b c _ (e k z2 e3) (.inr (.inl ⟨f, x, k, t, rfl, f0, p2.fa hf, p2.at hx, hk, ht⟩)) ((p.trans p2).le (by decide)) P1
  have nil {o : Op} {z2 : Sy} (k : Kd z2 o) (p2 : Ext 5 y z2) (e : callD G noSpec (d + 3) 789 [.ref 1, .ref 3] (mk m y T) = .ok o.itm.val (mk (setP m a b c) z2 T)) : OptR m y T d := .mk o z2 a b c [] (by rw [List.append_nil]; exact e) k p2 P1
  have w9 : w = 0 ∨ w = 1 ∨ w = 2 ∨ w = 3 ∨ w = 4 ∨ w = 5 ∨ w = 6 ∨ w = 7 ∨ w = 8 := by lia
  rcases w9 with rfl | rfl | rfl | rfl | rfl | rfl | rfl | rfl | rfl
  · exact tf "true" (.inl rfl) fun k z2 e3 => walk (n := 0) (fs := [(.R e1, 1), (.R e2, 3), (.O g, 1), (.R e3, 9)]) (by kernel_rfl)
  · exact tf "false" (.inr rfl) fun k z2 e3 => walk (n := 0) (fs := [(.R e1, 1), (.R e2, 3), (.O g, 1), (.R e3, 9)]) (by kernel_rfl)
  · exact tf "true" (.inl rfl) fun k z2 e3 => walk (n := 0) (fs := [(.R e1, 1), (.R e2, 3), (.O g, 1), (.R e3, 9)]) (by kernel_rfl)
  · exact tf "false" (.inr rfl) fun k z2 e3 => walk (n := 0) (fs := [(.R e1, 1), (.R e2, 3), (.O g, 1), (.R e3, 9)]) (by kernel_rfl)
  · obtain ⟨k, z2, e3, p2, hk⟩ := atomM (d := d + 1) (setP m a b c) T "yes" hs2.t
    exact nil (o := .app f (Int.ofNat k)) (.inr (.inr (.inr (.inr (.inr ⟨f, x, k, "yes", rfl, f0, p2.fa hf, p2.at hx, hk, by decide, by decide⟩))))) ((p.trans p2).le (by decide)) (walk (n := 0) (fs := [(.R e1, 1), (.R e2, 3), (.R e3, 9)]) (by kernel_rfl))
  · exact nil (o := .appv f) (.inr (.inr (.inl ⟨f, x, rfl, f0, hf, hx⟩))) (p.le (by decide)) (walk (n := 0) (fs := [(.R e1, 1), (.R e2, 9)]) (by kernel_rfl))
  · obtain ⟨f2, x2, z2, e3, p2, hx2, hf2⟩ := funcM (d := d) (setP m a b c) T "farce" 1 (hs2.le (by decide))
    obtain ⟨k, z3, e4, p3, hk⟩ := atomM (d := d + 1) (setP m a b c) T "true" (hs2.ext p2 (c'' := 2) (by decide)).t
    exact nil (o := .app f2 (Int.ofNat k)) (.inr (.inr (.inr (.inr (.inl ⟨f2, x2, _, "farce", rfl, ((B.ext p).ext p2).fne hf2, p3.fa hf2, p3.at hx2, by decide⟩))))) ((p.trans p2).trans p3) (walk (n := 0) (fs := [(.R e1, 1), (.R e2, 5), (.R e3, 1), (.R e4, 9)]) (by kernel_rfl))
  · obtain ⟨k, z2, e3, p2, hk⟩ := atomM (d := d + 1) (setP m a b c) T "force" hs2.t
    exact nil (o := .con (Int.ofNat k)) (.inr (.inr (.inr (.inl ⟨_, rfl⟩)))) ((p.trans p2).le (by decide)) (walk (n := 0) (fs := [(.R e1, 1), (.R e2, 6), (.R e3, 9)]) (by kernel_rfl))
  · exact nil (o := .free) (.inl rfl) (p.le (by decide)) (walk (n := 0) (fs := [(.R e1, 1), (.R e2, 9)]) (by kernel_rfl))
end
end Mine
end
section
set_option backward.match.sparseCases false
namespace Mine
noncomputable def FlawOf (y z : Sy) (o : Op) (F : VV) : Prop := (Good y o ∧ F = .tup [.str "a", .int 0]) ∨ (Unk y o ∧ IsInst z F) ∨ ((Bad y o ∨ o = .free) ∧ IsErr z "domain_error" "close_option" o.itm.val F)
section
variable {m : MS} {y : Sy} {T : List VO} {d : Nat}
theorem inL_tf {σ : VH} (t : Str) : oinL σ (.list [.str "true", .str "false"]) (.str t) = some (decide (("true" : Str) = t) || (decide (("false" : Str) = t) || false)) := by kernel_rfl
theorem flaw_run {o : Op} (k : Kd y o) (hs : Rm 10 y) : Y3 fun F z U => C3 (callD G noSpec (d + 3) 796 [.ref 3, o.itm.val] (mk m y T) = .ok F (mk m z (T ++ U))) (Ext 5 y z) (FlawOf y z o F) := by
  obtain ⟨f, x, z1, e1, p1, hx, hf⟩ := funcM (d := d) m T "domain_error" 2 (hs.le (by decide))
  obtain ⟨kk, z2, e2, p2, hk⟩ := atomM (d := d + 1) m T "close_option" (hs.ext p1 (c'' := 8) (by decide)).t
  have p12 := p1.trans p2
  have hs2 := hs.ext p12 (c'' := 6) (by decide)
  have wrong : IsErr z2 "domain_error" "close_option" o.itm.val (.tup [.str "s", .int (Int.ofNat f), .tup [.tup [.str "a", .int (Int.ofNat kk)], o.itm.val]]) := ⟨f, x, kk, rfl, p2.at hx, p2.fa hf, hk⟩
  have g := last_get T (.list [.str "true", .str "false"])
  have bad (h : Bad y o ∨ o = .free) (e : callD G noSpec (d + 3) 796 [.ref 3, o.itm.val] (mk m y T) = .ok (.tup [.str "s", .int (Int.ofNat f), .tup [.tup [.str "a", .int (Int.ofNat kk)], o.itm.val]]) (mk m z2 T)) : Y3 fun F z U => C3 (callD G noSpec (d + 3) 796 [.ref 3, o.itm.val] (mk m y T) = .ok F (mk m z (T ++ U))) (Ext 5 y z) (FlawOf y z o F) := ⟨_, z2, [], by rw [List.append_nil]; exact e, p12.le (by decide), .inr (.inr ⟨h, wrong⟩)⟩
  have nr {f' x' : Nat} (h : y.fn[f']? = some (x', 1)) : callD G noSpec (d + 2) 116 [.ref 3, .int (Int.ofNat f')] (mk m z2 T) = .ok (.int (Int.ofNat x')) (mk m z2 T) := name_run x' 1 f' (p12.fa h) hs2.f
  have tr {x' : Nat} {t : Str} (h : y.tx[x']? = some t) : callD G noSpec (d + 2) 95 [.ref 3, .int (Int.ofNat x')] (mk m z2 T) = .ok (.str t) (mk m z2 T) := text_run t x' (p12.at h) hs2.t
  rcases k with rfl | ⟨f', x', k', t', rfl, h0, h1, h2, h3, h4⟩ | ⟨f', x', rfl, h0, h1, h2⟩ | ⟨n', rfl⟩ | ⟨f', x', n', t', rfl, h0, h1, h2, h3⟩ | ⟨f', x', k', t', rfl, h0, h1, h2, h3, h4, h5⟩
  · exact bad (.inr rfl) (walk (n := 1) (fs := [(.R e1, 1), (.R e2, 9)]) (by kernel_rfl))
  · have hin : oinL (mk m z2 (T ++ [.list [.str "true", .str "false"]])) (.list [.str "true", .str "false"]) (.str t') = some true := by rcases h4 with rfl | rfl <;> kernel_rfl
    exact ⟨.tup [.str "a", .int 0], z2, [.list [.str "true", .str "false"]], walk (n := 1) (fs := [(.R e1, 1), (.R e2, 3), (.R (nr h1), 0), (.R (tr h2), 3), (.R (tr h3), 0), (.O g, 1), (.Q hin, 9)]) (by kernel_rfl), p12.le (by decide), .inl ⟨⟨f', x', k', t', rfl, h0, h1, h2, h3, h4⟩, rfl⟩⟩
  · obtain ⟨n, z3, e5, p3, hn⟩ := atomM (d := d + 1) m T "instantiation_error" hs2.t
    exact ⟨.tup [.str "a", .int (Int.ofNat n)], z3, [], by rw [List.append_nil]; exact walk (n := 1) (fs := [(.R e1, 1), (.R e2, 3), (.R (nr h1), 0), (.R (tr h2), 3), (.R e5, 9)]) (by kernel_rfl), (p12.trans p3).le (by decide), .inr (.inl ⟨⟨f', x', rfl, h0, h1, h2⟩, ⟨n, rfl, hn⟩⟩)⟩
  · exact bad (.inl (.inl ⟨n', rfl⟩)) (walk (n := 1) (fs := [(.R e1, 1), (.R e2, 9)]) (by kernel_rfl))
  · exact bad (.inl (.inr (.inl ⟨f', x', n', t', rfl, h0, h1, h2, h3⟩))) (walk (n := 1) (fs := [(.R e1, 1), (.R e2, 3), (.R (nr h1), 0), (.R (tr h2), 0), (.Q (ne_str (σ := mk m z2 T) h3), 9)]) (by kernel_rfl))
  · have hin : oinL (mk m z2 (T ++ [.list [.str "true", .str "false"]])) (.list [.str "true", .str "false"]) (.str t') = some false := by
      rw [inL_tf, decide_eq_false fun q => by rw [← q] at h4; simp at h4, decide_eq_false fun q => by rw [← q] at h5; simp at h5]; rfl
    exact ⟨_, z2, [.list [.str "true", .str "false"]], walk (n := 1) (fs := [(.R e1, 1), (.R e2, 3), (.R (nr h1), 0), (.R (tr h2), 3), (.R (tr h3), 0), (.O g, 1), (.Q hin, 9)]) (by kernel_rfl), p12.le (by decide), .inr (.inr ⟨.inl (.inr (.inr ⟨f', x', k', t', rfl, h0, h1, h2, h3, h4, h5⟩)), wrong⟩)⟩
end
end Mine
end
section
set_option backward.match.sparseCases false
namespace Mine
theorem ins_cons (x y : Int) (r : List Int) : insI x (y :: r) = if x ≤ y then x :: y :: r else y :: insI x r := rfl
theorem so_mem {x z : Int} {l : List Int} (h : z ∈ insI x l) : z = x ∨ z ∈ l := by
  induction l with
  | nil => exact .inl (List.mem_singleton.mp h)
  | cons y r ih =>
    rw [ins_cons] at h
    by_cases q : x ≤ y
    · rw [if_pos q] at h; exact List.mem_cons.mp h
    · rw [if_neg q] at h
      rcases List.mem_cons.mp h with h | h
      · exact .inr (h ▸ .head _)
      · exact (ih h).imp id (.tail _)
theorem so_ins {x : Int} {l : List Int} (h : l.Pairwise (· ≤ ·)) : (insI x l).Pairwise (· ≤ ·) := by
  induction h with
  | nil => exact List.pairwise_singleton _ _
  | @cons y r h1 h2 ih =>
    rw [ins_cons]
    by_cases q : x ≤ y
    · rw [if_pos q]
      exact .cons (fun z hz => (List.mem_cons.mp hz).elim (fun e => e ▸ q) fun hz => Int.le_trans q (h1 z hz)) (.cons h1 h2)
    · rw [if_neg q]
      exact .cons (fun z hz => (so_mem hz).elim (fun e => e ▸ Int.le_of_lt (Int.not_le.mp q)) (h1 z)) ih
theorem so_sort (l : List Int) : (sortI l).Pairwise (· ≤ ·) := by
  induction l with
  | nil => exact .nil
  | cons x r ih => exact so_ins ih
theorem so_le {x : Int} {l : List Int} (h : ∀ z ∈ l, x ≤ z) : insI x l = x :: l := by
  induction l with
  | nil => rfl
  | cons y r => exact if_pos (h y (.head _))
theorem so_filter {p : Int → Bool} {x : Int} {l : List Int} (h : l.Pairwise (· ≤ ·)) : (insI x l).filter p = bif p x then insI x (l.filter p) else l.filter p := by
  induction h with
  | nil => cases hp : p x <;> simp [insI, hp]
  | @cons y r h1 h2 ih =>
    rw [ins_cons]
    by_cases q : x ≤ y
    · rw [if_pos q, so_le fun z hz => (List.mem_cons.mp (List.mem_filter.mp hz).1).elim (fun e => e ▸ q) fun hz => Int.le_trans q (h1 z hz)]
      cases hp : p x
      · rw [List.filter_cons_of_neg (by rw [hp]; decide)]; rfl
      · rw [List.filter_cons_of_pos hp]; rfl
    · rw [if_neg q]
      cases hy : p y
      · rw [List.filter_cons_of_neg (by rw [hy]; decide), List.filter_cons_of_neg (by rw [hy]; decide), ih]
      · rw [List.filter_cons_of_pos hy, List.filter_cons_of_pos hy, ih]
        cases p x
        · rfl
        · exact (if_neg q).symm
theorem sort_filter (p : Int → Bool) (l : List Int) : (sortI l).filter p = sortI (l.filter p) := by
  induction l with
  | nil => rfl
  | cons x r ih =>
    show (insI x (sortI r)).filter p = _
    rw [so_filter (so_sort r), ih]
    cases hp : p x
    · rw [List.filter_cons_of_neg (by rw [hp]; decide)]; rfl
    · rw [List.filter_cons_of_pos hp]; rfl
noncomputable def offI (n : Int) (l : List Int) : List Int := l.filter fun z => decide (z ≠ n)
theorem sort_del {V : Type} {n : Int} {l : List (Int × V)} (h : (l.map (·.1)).Nodup) : sortI ((assocDel n l).map (·.1)) = offI n (sortI (l.map (·.1))) := by
  rw [offI, sort_filter]
  refine congrArg sortI ?_
  induction l with
  | nil => rfl
  | cons e r ih =>
    have h' := List.nodup_cons.mp h
    have e1 : assocDel n (e :: r) = if e.1 = n then r else e :: assocDel n r := rfl
    by_cases q : e.1 = n
    · rw [e1, if_pos q, List.map_cons, List.filter_cons_of_neg (by simp [q]), List.filter_eq_self.mpr]
      exact fun z hz => decide_eq_true fun e2 => h'.1 (show e.1 ∈ _ from (e2.trans q.symm : z = e.1) ▸ hz)
    · rw [e1, if_neg q, List.map_cons, List.map_cons, List.filter_cons_of_pos (p := fun z => decide (z ≠ n)) (decide_eq_true q), ih h'.2]
inductive SeenAt (T : List VO) (v : VV) (a b : List Int) (as : List (Str × VV)) (ci co : Int) (lo : Nat) : Prop
  | mk (i j p q : Nat) : v = .tup [.ref (i + 32), .ref (j + 32), .int ci, .int co] → T[p]? = some (.list (a.map .int)) → T[q]? = some (.list (b.map .int)) → T[i]? = some (.list [.ref (p + 32), .ref (q + 32)]) → T[j]? = some (.sdict as) → (∀ k ∈ [i, j, p, q], lo ≤ k ∧ k < lo + 4) → SeenAt T v a b as ci co lo
theorem SeenAt.pre {T U v a b as ci co i} (h : SeenAt T v a b as ci co i) : SeenAt (T ++ U) v a b as ci co i := by
  have g : ∀ {k : Nat} {o : VO}, T[k]? = some o → (T ++ U)[k]? = some o := fun {k o} e => (List.getElem?_append_left (List.getElem?_eq_some_iff.mp e).1).trans e
  obtain ⟨i, j, p, q, e, h1, h2, h3, h4, h5⟩ := h
  exact ⟨i, j, p, q, e, g h1, g h2, g h3, g h4, h5⟩
section
variable {m : MS} {y : Sy} {T : List VO} {d : Nat} {σ : VH}
theorem sort_w {es : List (Int × VV)} (h : es.length < 64) : blt1 (.builtin "sorted") (.idict es) = some (.o .none (.list ((sortI (es.map (·.1))).map .int))) := if_pos (Nat.blt_eq ▸ h)
theorem dict_w {o : VO} {as : List (Str × VV)} (ha : dictS o = some as) (hl : okLen as.length = true) : blt1 (.type "dict") o = some (.o .none (.sdict as)) := by
  show (dictS o).bind _ = _
  rw [ha]
  exact if_pos hl
theorem seen_run {as : List (Str × VV)} (ha : dictS m.al = some as) (hl : okLen as.length = true) (h1 : m.ins.length < 64) (h2 : m.outs.length < 64) : Y2 fun v U => C3 (callD G noSpec (d + 1) 810 [.ref 9] (mk m y T) = .ok v (mk m y (T ++ U))) (SeenAt (T ++ U) v (sortI (m.ins.map (·.1))) (sortI (m.outs.map (·.1))) as m.ci m.co T.length) (T.length + 4 ≤ (T ++ U).length) :=
  have w := walk (d := d + 1) (f := 810) (as := [.ref 9]) (σ := mk m y T) (n := 0) (v := .tup [.ref ((T ++ [VO.list ((sortI (m.ins.map (·.1))).map .int)] ++ [VO.list ((sortI (m.outs.map (·.1))).map .int)]).length + 32), .ref ((T ++ [VO.list ((sortI (m.ins.map (·.1))).map .int)] ++ [VO.list ((sortI (m.outs.map (·.1))).map .int)] ++ [VO.list [.ref (T.length + 32), .ref ((T ++ [VO.list ((sortI (m.ins.map (·.1))).map .int)]).length + 32)]]).length + 32), .int m.ci, .int m.co]) (τ := mk m y (T ++ [VO.list ((sortI (m.ins.map (·.1))).map .int)] ++ [VO.list ((sortI (m.outs.map (·.1))).map .int)] ++ [VO.list [.ref (T.length + 32), .ref ((T ++ [VO.list ((sortI (m.ins.map (·.1))).map .int)]).length + 32)]] ++ [.sdict as])) (fs := [(.W (sort_w h1), 0), (.W (sort_w h2), 0), (.W (dict_w ha hl), 9)]) (by kernel_rfl)
  ⟨_, _, by simpa only [List.append_assoc, List.length_append, List.length_cons, List.length_nil, Nat.zero_add, Nat.add_assoc, Nat.reduceAdd] using w, ⟨T.length + 2, T.length + 3, T.length, T.length + 1, rfl, by simp, by simp, by simp, by simp, fun k hk => by simp only [List.mem_cons, List.not_mem_nil, or_false] at hk; lia⟩, by simp⟩
theorem eqZ_conT {f : VV → VV → Option Bool} {x y : VV} {xs ys : List VV} (h : f x y = some true) (h' : eqZ f xs ys = some true) : eqZ f (x :: xs) (y :: ys) = some true := by
  have e : eqZ f (x :: xs) (y :: ys) = match f x y, eqZ f xs ys with
      | some a, some b => some (a && b)
      | _, _ => none := rfl
  rw [e, h, h']; rfl
theorem eqV_int (n : Nat) (z : Int) : eqV σ (n + 1) (.int z) (.int z) = some true := congrArg some (decide_eq_true rfl)
theorem eq_ints (n : Nat) (l : List Int) : eqZ (eqV σ (n + 1)) (l.map .int) (l.map .int) = some true := by
  induction l with
  | nil => rfl
  | cons x r ih => exact eqZ_conT (eqV_int n x) ih
theorem eq_lists {n i j : Nat} {xs : List VV} {ys : List VV} (h : T[i]? = some (.list xs)) (h' : T[j]? = some (.list ys)) (hij : i ≠ j) (hl : xs.length = ys.length) (hz : eqZ (eqV (mk m y T) n) xs ys = some true) : eqV (mk m y T) (n + 1) (.ref (i + 32)) (.ref (j + 32)) = some true := by
  have e : eqV (mk m y T) (n + 1) (.ref (i + 32)) (.ref (j + 32)) = if i + 32 = j + 32 then none else match T[i]?, T[j]? with
      | some (.list xs), some (.list ys) => if xs.length = ys.length then eqZ (eqV (mk m y T) n) xs ys else some false
      | _, _ => none := by kernel_rfl
  rw [e, if_neg fun q => hij (Nat.add_right_cancel q), h, h']
  exact (if_pos hl).trans hz
theorem eq_twoK {l : List (Str × Int)} (h : twoK l) : eqRows (eqV σ 30) (asV l) (asV l) = some true := by
  rcases h with rfl | ⟨a, rfl⟩ | ⟨a, b, rfl, hne⟩
  · rfl
  · simp [asV, eqRows, assocGet, eqV_int]
  · simp [asV, eqRows, assocGet, eqV_int, hne]
theorem seen_eq {v w : VV} {a b : List Int} {l : List (Str × Int)} {ci co : Int} {lo lo' : Nat} (h : SeenAt T v a b (asV l) ci co lo) (h' : SeenAt T w a b (asV l) ci co lo') (hd : lo + 4 ≤ lo' ∨ lo' + 4 ≤ lo) (hl : twoK l) : eqW (mk m y T) v w = some true := by
  obtain ⟨i, j, p, q, rfl, h1, h2, h3, h4, h5⟩ := h
  obtain ⟨i', j', p', q', rfl, h1', h2', h3', h4', h5'⟩ := h'
  have ne {k k' : Nat} (x : lo ≤ k ∧ k < lo + 4) (x' : lo' ≤ k' ∧ k' < lo' + 4) : k ≠ k' := by lia
  have e1 : eqV (mk m y T) 30 (.ref (i + 32)) (.ref (i' + 32)) = some true := eq_lists h3 h3' (ne (h5 i (by simp)) (h5' i' (by simp))) rfl (eqZ_conT (eq_lists h1 h1' (ne (h5 p (by simp)) (h5' p' (by simp))) rfl (eq_ints 27 a)) (eqZ_conT (eq_lists h2 h2' (ne (h5 q (by simp)) (h5' q' (by simp))) rfl (eq_ints 27 b)) rfl))
  have eD (i j : Nat) : eqD (mk m y T) (.ref (i + 32)) (.ref (j + 32)) = match T[i]?.bind dictS, T[j]?.bind dictS with
      | some es, some ds => if i + 32 = j + 32 then none else if es.length = ds.length then eqRows (eqV (mk m y T) 30) ds es else some false
      | _, _ => eqV (mk m y T) 30 (.ref (i + 32)) (.ref (j + 32)) := by kernel_rfl
  have e2 : eqD (mk m y T) (.ref (i + 32)) (.ref (i' + 32)) = some true := by rw [eD, h3, h3']; exact e1
  have e3 : eqD (mk m y T) (.ref (j + 32)) (.ref (j' + 32)) = some true := by
    rw [eD, h4, h4']
    exact (if_neg fun x => ne (h5 j (by simp)) (h5' j' (by simp)) (Nat.add_right_cancel x)).trans ((if_pos rfl).trans (eq_twoK hl))
  have ei (z : Int) : eqD (mk m y T) (.int z) (.int z) = some true := eqV_int (σ := mk m y T) 29 z
  have e4 := eqZ_conT e2 (eqZ_conT e3 (eqZ_conT (ei ci) (eqZ_conT (f := eqD (mk m y T)) (xs := []) (ys := []) (ei co) rfl)))
  have e : eqW (mk m y T) (.tup [.ref (i + 32), .ref (j + 32), .int ci, .int co]) (.tup [.ref (i' + 32), .ref (j' + 32), .int ci, .int co]) = match eqZ (eqD (mk m y T)) [.ref (i + 32), .ref (j + 32), .int ci, .int co] [.ref (i' + 32), .ref (j' + 32), .int ci, .int co] with
    | some b => some (b && true)
    | none => none := by kernel_rfl
  rw [e, e4]; rfl
end
end Mine
end
section
set_option genInjectivity false
set_option genSizeOf false
set_option genCtorIdx false
set_option backward.match.sparseCases false
namespace Mine
theorem exs_app {d : Nat} {sc : Scope} {b : List XS} {ρ' : VE} {τ : VH} (a : List XS) : ∀ (n : Nat) (ρ : VE) (σ : VH), (Od d (n + 1 + a.length)).exs sc a ρ σ = .ok (.next, ρ') τ → (Od d (n + 1 + a.length)).exs sc (a ++ b) ρ σ = (Od d (n + 1)).exs sc b ρ' τ := by
  induction a with
  | nil => intro n ρ σ h; cases h; rfl
  | cons s r ih =>
    intro n ρ σ h
    replace h := exs_out.symm.trans h
    refine exs_out.trans ?_
    generalize (Od d (n + 1 + r.length)).ex sc s ρ σ = x at h
    induction x with
    | ok p τ' =>
      obtain ⟨f, ρ1⟩ := p
      induction f with
      | next => exact ih n ρ1 τ' h
      | _ => cases h
    | _ => (first | exact rso h | exact reo h)
noncomputable abbrev laS : Scope := f_law.scope
noncomputable abbrev laB : List XS := f_law.body
structure LE where
  kinds : VV := .junk
  shape : VV := .junk
  word : VV := .junk
  handle : VV := .junk
  number : VV := .junk
  options : VV := .junk
  fin : VV := .junk
  row : VV := .junk
  option : VV := .junk
  lacks : VV := .junk
  flaws : VV := .junk
  before : VV := .junk
  told : VV := .junk
  due : VV := .junk
  sides : VV := .junk
  called : VV := .junk
  lost : VV := .junk
noncomputable def LE.rho (e : LE) : VE := [("pool", .ref 1), ("names", .ref 3), ("flow", .ref 9), ("m", .ref 20), ("kinds", e.kinds), ("shape", e.shape), ("word", e.word), ("handle", e.handle), ("number", e.number), ("options", e.options), ("end", e.fin), ("row", e.row), ("option", e.option), ("lacks", e.lacks), ("flaws", e.flaws), ("before", e.before), ("told", e.told), ("due", e.due), ("sides", e.sides), ("called", e.called), ("lost", e.lost)]
theorem law_new (X : List VV) : (Od 20 400).exs laS ((laB.drop 1).take 3) (assocSet "pool" (.ref 1) (junks f_law)) [.list X, .list [.ref 0, .int 0, .int (-1), .int 0]] = .ok (.next, LE.rho {}) (mk (m0 X) y0 []) := walkE (k := 1000000) (fs := []) (by kernel_rfl)
theorem base0 : Base y0 := ⟨by decide, by decide, by decide +kernel, by decide +kernel⟩
theorem rm0 : Rm 10000 y0 := ⟨by decide, by decide +kernel⟩
theorem one_key (z : Int) (v : VV) : (assocGet z [((0 : Int), v)]).isSome = inR 1 z := by
  show (if (0 : Int) = z then some v else none).isSome = _
  by_cases q : (0 : Int) = z
  · subst q; rfl
  · rw [if_neg q]
    exact (decide_eq_false fun h => q (by have := h.2; simp only [Int.ofNat_eq_natCast] at this; lia)).symm
theorem flow_ok0 (X : List VV) : FlowOK (m0 X) [(0, .str "both")] [] 1 :=
  ⟨rfl, Nat.le_refl _, rfl, fun z => one_key z _, fun z => by rw [show (assocGet z (m0 X).ins).isSome = inR 1 z from one_key z _, show (assocGet z (m0 X).outs).isSome = inR 1 z from one_key z _, Bool.or_self], Nat.le_refl _, Nat.le_refl _, List.nodup_cons.mpr ⟨List.not_mem_nil, List.nodup_nil⟩, List.nodup_cons.mpr ⟨List.not_mem_nil, List.nodup_nil⟩, .inl rfl, rfl⟩
end Mine
end
section
set_option backward.match.sparseCases false
namespace Mine
structure StBf (r : Nat) (y : Sy) (nn : Int) (ins outs : List (Int × VV)) (al : VO) (hp xs : List VV) (f : Nat) (h : VV) (nI : Int) (l : List (Str × Int)) : Prop where
  sh : ∃ x, C3 (f ≠ 0) (y.fn[f]? = some (x, 1)) (y.tx[x]? = some ("$stream" : Str))
  hk : HKf y al ins outs h nI
  n1 : -1 ≤ nI
  fl : Y2 fun ks k => And (Flow nn ins outs al ks l k) (k ≤ 6)
  hp : hp = []
  xs : xs = [cell 5 0]
  ba : Base y
  rm : Rm r y
noncomputable abbrev StB (r : Nat) (y : Sy) (m : MS) (f : Nat) (h : VV) (nI : Int) (l : List (Str × Int)) : Prop := StBf r y m.nn m.ins m.outs m.al m.hp m.xs f h nI l
theorem EW.get {l} (h : EW l) (t : Str) : ∃ z : Int, (assocGet t (asV l)).getD (.int (-1)) = .int z ∧ -1 ≤ z := by
  have key : ∀ l : List (Str × Int), (∀ p ∈ l, 1 ≤ p.2) → ∃ z : Int, (assocGet t (asV l)).getD (.int (-1)) = .int z ∧ -1 ≤ z := fun l hl => by
    induction l with
    | nil => exact ⟨-1, rfl, Int.le_refl _⟩
    | cons e r ih =>
      have k : assocGet t (asV (e :: r)) = if e.1 = t then some (.int e.2) else assocGet t (asV r) := rfl
      by_cases q : e.1 = t
      · exact ⟨e.2, by rw [k, if_pos q]; rfl, Int.le_trans (by decide) (hl e (.head _))⟩
      · rw [k, if_neg q]; exact ih fun p hp => hl p (.tail _ hp)
  refine key l ?_
  rcases h with rfl | ⟨a, rfl, ha⟩ | ⟨a, b, rfl, _, ha, hb⟩
  · exact fun p hp => nomatch hp
  · exact fun p hp => List.mem_singleton.mp hp ▸ ha.2
  · exact fun p hp => (List.mem_cons.mp hp).elim (fun e => e ▸ ha.2) fun hp => List.mem_singleton.mp hp ▸ hb.2
noncomputable abbrev laA : List XS := (laB.drop 4).take 3
theorem olen_i {es : List (Int × VV)} (h : es.length ≤ 1000) : olen (.idict es) = some (.v (.int (Int.ofNat es.length))) := if_pos (okLen_iff.mpr (Nat.le_trans h (by decide)))
theorem stA_run (X : List VV) (P : PoolOK (m0 X)) : Y6 fun e m y T l f => Y2 fun h nI => C4 ((Od 20 397).exs laS laA (LE.rho {}) (mk (m0 X) y0 []) = .ok (.next, LE.rho e) (mk m y T)) (StB 900 y m f h nI l) (PoolOK m) (∃ w, e = { kinds := .ref 32, shape := .int (Int.ofNat f), word := w, handle := h, number := .int nI }) := by
  obtain ⟨m1, T1, kk, e1, ⟨ks, l, F1, P1, hT1, hp1, hx1⟩, hk6⟩ := begun_run (y := y0) (d := 16) (flow_ok0 X) P
  obtain ⟨f, x, y1, e2, p1, hx, hf⟩ := funcM (d := 18) m1 T1 (y := y0) "$stream" 1 (rm0.le (by decide))
  have B1 := base0.ext p1
  have R1 : Rm 9000 y1 := rm0.ext p1 (by decide)
  have f0 := B1.fne hf
  obtain ⟨w0, a, b, c, e3, hw0, P2⟩ := draw_run (y := y1) (T := T1) (d := 19) (L := 3) P1 (by decide) (by decide)
  cases hw : decide ((Int.ofNat w0 : Int) = 0) with
  | true =>
    have g := last_get T1 (.list [.str "east", .str "west", .str "south"])
    obtain ⟨w1, a2, b2, c2, e4, hw1, P3⟩ := draw_run (y := y1) (T := T1 ++ [.list [.str "east", .str "west", .str "south"]]) (d := 19) (L := 3) P2 (by decide) (by decide)
    have go (t : Str) (ht1 : (t == ("user_input" : Str)) = false) (ht2 : (t == ("user_output" : Str)) = false) (hw : ∀ (wn : Nat) (y2 : Sy) (z : Int), callD G noSpec 20 88 [.ref 3, .str t] (mk (setP (setP m1 a b c) a2 b2 c2) y1 (T1 ++ [.list [.str "east", .str "west", .str "south"]])) = .ok (.int (Int.ofNat wn)) (mk (setP (setP m1 a b c) a2 b2 c2) y2 (T1 ++ [.list [.str "east", .str "west", .str "south"]])) → omth "dict.get" m1.al [.str t, .int (-1)] = some (.v (.int z)) → (Od 20 397).exs laS laA (LE.rho {}) (mk (m0 X) y0 []) = .ok (.next, LE.rho { kinds := .ref 32, shape := .int (Int.ofNat f), word := .str t, handle := .tup [.str "a", .int (Int.ofNat wn)], number := .int z }) (mk (setP (setP m1 a b c) a2 b2 c2) y2 (T1 ++ [.list [.str "east", .str "west", .str "south"]]))) : Y6 fun e m y T l f => Y2 fun h nI => C4 ((Od 20 397).exs laS laA (LE.rho {}) (mk (m0 X) y0 []) = .ok (.next, LE.rho e) (mk m y T)) (StB 900 y m f h nI l) (PoolOK m) (∃ w, e = { kinds := .ref 32, shape := .int (Int.ofNat f), word := w, handle := h, number := .int nI }) := by
      obtain ⟨wn, y2, e5, p2, hwn⟩ := atomM (d := 19) (setP (setP m1 a b c) a2 b2 c2) (T1 ++ [.list [.str "east", .str "west", .str "south"]]) (y := y1) t R1.t
      obtain ⟨z, hz, hz1⟩ := F1.ew.get t
      exact ⟨_, _, y2, _, l, f, _, z, hw wn y2 z e5 ((al_get F1.al t (.int (-1))).trans (by rw [hz])), ⟨⟨x, f0, p2.fa hf, p2.at hx⟩, .al wn t (asV l) z hwn ht1 ht2 F1.al hz, hz1, ⟨ks, kk, F1, hk6⟩, hp1, hx1, B1.ext p2, R1.ext p2 (by decide)⟩, P3, .str t, rfl⟩
    have w3 : w1 = 0 ∨ w1 = 1 ∨ w1 = 2 := by lia
    rcases w3 with rfl | rfl | rfl
    · exact go "east" (by decide) (by decide) fun wn y2 z e5 e6 => walkE (k := 0) (fs := [(.R e1, 1), (.R e2, 0), (.R e3, 0), (.Q (congrArg some hw), 0), (.R e4, 0), (.O g, 2), (.R e5, 0), (.G (al_mth F1.al), 0), (.W e6, 9)]) (by kernel_rfl)
    · exact go "west" (by decide) (by decide) fun wn y2 z e5 e6 => walkE (k := 0) (fs := [(.R e1, 1), (.R e2, 0), (.R e3, 0), (.Q (congrArg some hw), 0), (.R e4, 0), (.O g, 2), (.R e5, 0), (.G (al_mth F1.al), 0), (.W e6, 9)]) (by kernel_rfl)
    · exact go "south" (by decide) (by decide) fun wn y2 z e5 e6 => walkE (k := 0) (fs := [(.R e1, 1), (.R e2, 0), (.R e3, 0), (.Q (congrArg some hw), 0), (.R e4, 0), (.O g, 2), (.R e5, 0), (.G (al_mth F1.al), 0), (.W e6, 9)]) (by kernel_rfl)
  | false =>
    obtain ⟨w1, a2, b2, c2, e4, hw1, P3⟩ := draw_run (y := y1) (T := T1) (d := 19) (L := 8) P2 (by decide) (by decide)
    have hkl : ks.length ≤ 6 := F1.kl ▸ hk6
    obtain ⟨z, hz, hz1⟩ := mod_v (i := Int.ofNat w1) (L := Int.ofNat ks.length + 1) (by simp only [Int.ofNat_eq_natCast]; lia) (by simp only [Int.ofNat_eq_natCast]; lia)
    have H : HK y1 m1 (.tup [.str "s", .int (Int.ofNat f), .tup [.tup [.str "i", .int (Int.ofNat z)]]]) _ := .num f x (Int.ofNat z) f0 hf hx
    rw [F1.both, ← F1.keys] at H
    cases q : (assocGet (Int.ofNat z) ks).isSome with
    | true =>
      rw [q, if_pos rfl] at H
      exact ⟨_, setP (setP m1 a b c) a2 b2 c2, y1, T1, l, f, _, Int.ofNat z, walkE (k := 0) (fs := [(.R e1, 1), (.R e2, 0), (.R e3, 0), (.Q (congrArg some hw), 0), (.R e4, 0), (.O hT1, 0), (.W (olen_i (Nat.le_trans hkl (by decide))), 0), (.V hz, 0), (.O hT1, 0), (.Q (congrArg some q), 9)]) (by kernel_rfl), ⟨⟨x, f0, hf, hx⟩, H, Int.le_trans (by decide) (Int.natCast_nonneg z), ⟨ks, kk, F1, hk6⟩, hp1, hx1, B1, R1.le (by decide)⟩, P3, .junk, rfl⟩
    | false =>
      rw [q, if_neg (by decide)] at H
      exact ⟨_, setP (setP m1 a b c) a2 b2 c2, y1, T1, l, f, _, -1, walkE (k := 0) (fs := [(.R e1, 1), (.R e2, 0), (.R e3, 0), (.Q (congrArg some hw), 0), (.R e4, 0), (.O hT1, 0), (.W (olen_i (Nat.le_trans hkl (by decide))), 0), (.V hz, 0), (.O hT1, 0), (.Q (congrArg some q), 9)]) (by kernel_rfl), ⟨⟨x, f0, hf, hx⟩, H, Int.le_refl _, ⟨ks, kk, F1, hk6⟩, hp1, hx1, B1, R1.le (by decide)⟩, P3, .junk, rfl⟩
end Mine
end
section
set_option backward.match.sparseCases false
namespace Mine
theorem walkU {d n r : Nat} {sc : Scope} {e : XE} {x : Str} {i : It} {ifs : List XE} {ρ : VE} {σ τ : VH} {fs : List (Fc × Nat)} {k : Nat} (h : (((Td d n).comp sc e x i ifs r ρ σ).run (tape k fs)).res = (.ok () τ, asked fs, asked fs)) : (Od d n).comp sc e x i ifs r ρ σ = .ok () τ := sim_run h fun z => nomatch z
noncomputable def elOf : XS → XE
  | .asgL _ _ e _ _ _ _ _ _ _ => e
  | .augN _ _ (.comp e _ _ _ _ _ _) _ => e
  | _ => .const .none 0 default
noncomputable def ifOf : XS → List XE
  | .asgL _ _ _ _ _ _ ifs _ _ _ => ifs
  | _ => []
noncomputable def scOf : XS → Scope
  | .asgL _ _ _ _ _ _ _ s _ _ => s
  | .augN _ _ (.comp _ _ _ _ _ s _) _ => s
  | _ => f_law.scope
noncomputable abbrev c7 : XS := stAt laB 7
noncomputable abbrev opV (o : Op) : VV := o.itm.val
noncomputable def R7 (ρ : VE) : Prop := ρ = ([("pool", .ref 1), ("names", .ref 3)] : VE) ∨ ∃ u : VV, ρ = ([("pool", .ref 1), ("names", .ref 3), ("_", u)] : VE)
theorem set_get {T : List VO} {p : Nat} {o : VO} (h : T[p]? = some o) (v : VO) : (T.set p v)[p]? = some v := List.getElem?_set_self (List.getElem?_eq_some_iff.mp h).1
theorem app_get {T U : List VO} {p : Nat} {o : VO} (h : T[p]? = some o) : (T ++ U)[p]? = some o := (List.getElem?_append_left (List.getElem?_eq_some_iff.mp h).1).trans h
theorem opts7 {j : Int} (cnt : Nat) : ∀ (i : Int) (M : Nat) (ρ : VE) (acc : List Op) (m : MS) (y : Sy) (T : List VO) (p : Nat), R7 ρ → j = i + cnt → PoolOK m → Base y → Rm (10 + 5 * cnt) y → T[p]? = some (.list (acc.map opV)) → (∀ o ∈ acc, Kd y o) → acc.length + cnt ≤ 50 → cnt + 31 ≤ M →
    Y6 fun (os : List Op) a b c z T' => And ((Od 20 M).comp (scOf c7) (elOf c7) "_" (.rng i j 1) (ifOf c7) (p + 32) ρ (mk m y T) = .ok () (mk (setP m a b c) z T')) (And (T'[p]? = some (.list (os.map opV))) (And (os.length = acc.length + cnt) (C3 (∀ o ∈ os, Kd z o) (Ext (5 * cnt) y z) (PoolOK (setP m a b c))))) := by
  induction cnt with
  | zero =>
    intro i M ρ acc m y T p hρ hj P B R hT hk hl hM
    obtain ⟨n, rfl⟩ := lv_of (k := 31) hM
    refine ⟨acc, m.pa, m.pi, m.pc, y, T, ?_, hT, rfl, hk, Ext.refl y, P⟩
    exact walkU (k := 0) (fs := [(.B (decide_eq_false (p := i < j) (by lia)), 9)]) (by kernel_rfl)
  | succ cnt ih =>
    intro i M ρ acc m y T p hρ hj P B R hT hk hl hM
    obtain ⟨n, rfl⟩ := lv_of (k := 32) hM
    obtain ⟨o, z, a, b, c, U, e1, ko, p1, P1⟩ := option_run (d := 17) (T := T) P B (R.le (by exact Nat.le_add_right _ _))
    have hT1 : (T ++ U)[p]? = some (.list (acc.map opV)) := app_get hT
    obtain ⟨os, a', b', c', z', T', e2, hT', hos, hkd, p2, P2⟩ := ih (i + 1) (n + 31) [("pool", .ref 1), ("names", .ref 3), ("_", .int i)] (acc ++ [o]) (setP m a b c) z ((T ++ U).set p (.list (acc.map opV ++ [opV o]))) p (.inr ⟨_, rfl⟩) (by lia) P1 (B.ext p1) (R.ext p1 (by lia)) ((set_get hT1 _).trans (by rw [List.map_append]; rfl)) (fun q hq => by
      rcases List.mem_append.mp hq with hq | hq
      · exact (hk q hq).ext p1
      · exact List.mem_singleton.mp hq ▸ ko) (by rw [List.length_append]; show acc.length + 1 + cnt ≤ 50; lia) (by exact Nat.le_of_succ_le_succ (by assumption))
    rw [List.length_append] at hos
    refine ⟨os, a', b', c', z', T', ?_, hT', by rw [hos]; show acc.length + 1 + cnt = _; exact Nat.add_right_comm _ _ _, hkd, (p1.trans p2).le (by lia), P2⟩
    have hb : okLen (acc.map opV).length = true := okLen_iff.mpr (by rw [List.length_map]; lia)
    have hlt : decide (i < j) = true := decide_eq_true (by lia)
    obtain ⟨cs, ec⟩ := op_tup o
    have eo : opV o = .tup cs := ec
    rw [ec] at e1
    rw [eo] at e2
    rcases hρ with rfl | ⟨u, rfl⟩ <;> exact walkU (k := 0) (fs := [(.B hlt, 0), (.R e1, 0), (.O hT1, 0), (.B hb, 1), (.U e2, 9)]) (by kernel_rfl)
end Mine
end
section
set_option backward.match.sparseCases false
namespace Mine
noncomputable def LE.R (e : LE) (o r : VV) : VE := LE.rho { e with option := o, row := r }
noncomputable abbrev b10 : List XS := bodyOf (stAt laB 10)
section
variable {m : MS} {y : Sy} {T : List VO} {d : Nat}
theorem row_loop {i : Nat} {all : List VV} {en : En} {E : LE} (hi : T[i]? = some (.list all)) (td : List Op) : ∀ (k M : Nat) (dn : List Op) (o : VV), all.drop k = td.map opV → td.length + 34 ≤ M → ∃ o', (Od d M).loop laS "option" (.lst (i + 32) k) b10 (E.R o (restI dn en).val) (mk m y T) = .ok (.next, E.R o' (restI (td.reverse ++ dn) en).val) (mk m y T) := by
  induction td with
  | nil =>
    intro k M dn o hk hM
    obtain ⟨n, rfl⟩ := lv_of (k := 1) hM
    exact ⟨o, loop_end (nx_list0 hi (List.getElem?_eq_none (List.drop_eq_nil_iff.mp hk)))⟩
  | cons x td ih =>
    intro k M dn o hk hM
    obtain ⟨n, rfl⟩ := lv_of (k := 34) hM
    obtain ⟨o', e2⟩ := ih (k + 1) (n + 33) (x :: dn) (opV x) (by rw [← List.drop_drop, hk]; rfl) (by simp only [List.length_cons] at hM; exact Nat.le_of_succ_le_succ (by assumption))
    obtain ⟨row, er⟩ := rest_tup dn en
    obtain ⟨cs, ec⟩ := op_tup x
    have e1 : (Od d (n + 33)).exs laS b10 (E.R (opV x) (restI dn en).val) (mk m y T) = .ok (.next, E.R (opV x) (restI (x :: dn) en).val) (mk m y T) := by
      show (Od d (n + 33)).exs laS b10 (E.R x.itm.val (restI dn en).val) (mk m y T) = .ok (.next, E.R x.itm.val (.tup [.str "s", .int 0, .tup [x.itm.val, (restI dn en).val]])) (mk m y T)
      rw [er, ec]
      exact walkE (k := 9) (fs := []) (by kernel_rfl)
    refine ⟨o', (loop_go (nx_list hi ?_) (by kernel_rfl) e1).trans (e2.trans (by rw [List.reverse_cons, List.append_assoc]; rfl))⟩
    rw [← Nat.add_zero k, ← List.getElem?_drop, hk]; rfl
end
noncomputable def EndOK (e : En) : Prop := e = .con 0 ∨ e = .var ∨ ∃ k : Nat, e = .con (Int.ofNat k) ∧ k ≠ 0
section
variable {m : MS} {y : Sy} {T : List VO}
theorem st7_run {E : LE} (P : PoolOK m) (B : Base y) (R : Rm 50 y) : Y6 fun (os : List Op) a b c z T' => And ((Od 20 394).exs laS [stAt laB 7] (LE.rho E) (mk m y T) = .ok (.next, LE.rho { E with options := .ref (T.length + 32) }) (mk (setP m a b c) z T')) (And (T'[T.length]? = some (.list (os.map opV))) (And (os.length ≤ 3) (C3 (∀ o ∈ os, Kd z o) (Ext 15 y z) (PoolOK (setP m a b c))))) := by
  obtain ⟨v, a, b, c, e1, hv, P1⟩ := draw_run (y := y) (T := T) (d := 19) (L := 4) P (by decide) (by decide)
  replace hv : v < 4 := Int.ofNat_lt.mp hv
  obtain ⟨os, a2, b2, c2, z, T2, e2, hT2, hos, hkd, p2, P2⟩ := opts7 (j := Int.ofNat v) v 0 392 [("pool", .ref 1), ("names", .ref 3)] [] (setP m a b c) y (T ++ [.list []]) T.length (.inl rfl) (by simp) P1 B (R.le (by lia)) (last_get _ _) (fun _ h => nomatch h) (by simp; lia) (by lia)
  refine ⟨os, a2, b2, c2, z, T2, ?_, hT2, by rw [hos]; simp; exact Nat.le_of_succ_le_succ (by assumption), hkd, p2.le (by lia), P2⟩
  have v4 : v = 0 ∨ v = 1 ∨ v = 2 ∨ v = 3 := by lia
  rcases v4 with rfl | rfl | rfl | rfl <;> exact walkE (k := 1) (fs := [(.R e1, 1), (.U e2, 9)]) (by kernel_rfl)
theorem omap_rev {xs : List VV} (h : xs.length ≤ 1000) : omap List.reverse (.list xs) = some (.list xs.reverse) := if_pos (okLen_iff.mpr (Nat.le_trans h (by decide)))
noncomputable abbrev endL (en : Nat) : VO := .list [.tup [.str "a", .int 0], .tup [.str "a", .int 0], .tup [.str "a", .int 0], .tup [.str "v", .int 1], .tup [.str "a", .int (Int.ofNat en)]]
theorem st8_run {E : LE} {p : Nat} {os : List Op} (P : PoolOK m) (B : Base y) (R : Rm 35 y) (hT : T[p]? = some (.list (os.map opV))) (hos : os.length ≤ 3) : Y6 fun (e : En) a b c z U => And ((∃ o, (Od 20 393).exs laS ((laB.drop 8).take 3) (LE.rho { E with options := .ref (p + 32) }) (mk m y T) = .ok (.next, LE.R { E with options := .ref (p + 32), fin := (restI [] e).val } o (restI os e).val) (mk (setP m a b c) z (T ++ U)))) (And (EndOK e) (And (Ext 1 y z) (PoolOK (setP m a b c)))) := by
  obtain ⟨en, z, e3, p3, hen⟩ := atomM (d := 19) m T "end" R.t
  have en0 : en ≠ 0 := (B.ext p3).tne hen (by decide)
  obtain ⟨ve, a, b, c, e4, hve, P4⟩ := draw_run (y := z) (T := T ++ [endL en]) (d := 19) (L := 5) P (by decide) (by decide)
  obtain ⟨e, he, hE⟩ : ∃ e, oget (endL en) (.int (Int.ofNat ve)) = some (restI [] e).val ∧ EndOK e := by
    have v5 : ve = 0 ∨ ve = 1 ∨ ve = 2 ∨ ve = 3 ∨ ve = 4 := by lia
    rcases v5 with rfl | rfl | rfl | rfl | rfl
    · exact ⟨.con 0, by kernel_rfl, .inl rfl⟩
    · exact ⟨.con 0, by kernel_rfl, .inl rfl⟩
    · exact ⟨.con 0, by kernel_rfl, .inl rfl⟩
    · exact ⟨.var, by kernel_rfl, .inr (.inl rfl)⟩
    · exact ⟨.con (Int.ofNat en), by kernel_rfl, .inr (.inr ⟨en, rfl, en0⟩)⟩
  have hrev := omap_rev (xs := os.map opV) (by rw [List.length_map]; exact Nat.le_trans (by assumption) (by decide))
  have g := last_get T (endL en)
  have g3 := app_get (U := [endL en]) hT
  have g2 := last_get (T ++ [endL en]) (.list (os.map opV).reverse)
  obtain ⟨o', e5⟩ := row_loop (m := setP m a b c) (y := z) (d := 20) (en := e) (E := { E with options := .ref (p + 32), fin := (restI [] e).val }) g2 os.reverse 0 389 [] E.option (List.map_reverse.symm) (by rw [List.length_reverse]; lia)
  rw [List.reverse_reverse, List.append_nil] at e5
  obtain ⟨r0, er⟩ := rest_tup [] e
  rw [er] at he e5
  exact ⟨e, a, b, c, z, [endL en] ++ [.list (os.map opV).reverse], ⟨o', by
    rw [← List.append_assoc]
    rw [er]
    exact walkE (k := 1) (fs := [(.R e3, 0), (.R e4, 0), (.O g, 0), (.V he, 0), (.O g3, 0), (.O hrev, 0), (.O g2, 0), (.F e5, 9)]) (by kernel_rfl)⟩, hE, p3, P4⟩
end
end Mine
end
section
set_option backward.match.sparseCases false
namespace Mine
noncomputable def isFree : Op → Bool
  | .free => true
  | _ => false
theorem free_mem (os : List Op) : os.any isFree = true ↔ Op.free ∈ os := by
  rw [List.any_eq_true]
  constructor
  · rintro ⟨o, ho, h⟩
    induction o <;> first | exact ho | exact ft h
  · exact fun h => ⟨_, h, rfl⟩
noncomputable abbrev nilF : VV := .tup [.str "a", .int 0]
noncomputable def keepF : VV → Bool
  | .tup [.str _, .int i] => !decide (i = 0)
  | _ => true
noncomputable def FlK (y : Sy) (F : VV) : Prop := F = nilF ∨ IsInst y F ∨ Y3 fun nm kd c => IsErr y nm kd c F
theorem IsErr.ext {c y z nm kd v F} (h : IsErr y nm kd v F) (p : Ext c y z) : IsErr z nm kd v F := by
  obtain ⟨f, x, k, e, h1, h2, h3⟩ := h
  exact ⟨f, x, k, e, p.at h1, p.fa h2, p.at h3⟩
theorem IsInst.ext {c y z F} (h : IsInst y F) (p : Ext c y z) : IsInst z F := by
  obtain ⟨n, e, h1⟩ := h
  exact ⟨n, e, p.at h1⟩
theorem keep_inst {y F} (B : Base y) (h : IsInst y F) : keepF F = true := by
  obtain ⟨n, rfl, h1⟩ := h
  have := B.tne h1 (by decide)
  exact congrArg (!·) (decide_eq_false fun q => this (Int.ofNat.inj q))
theorem keep_err {y nm kd c F} (h : IsErr y nm kd c F) : keepF F = true := by
  obtain ⟨f, x, k, rfl, h1⟩ := h
  rfl
noncomputable def FlawAt (z : Sy) (o : Op) (F : VV) : Prop := FlawOf z z o F
theorem FlawOf.to {c y z o F} (h : FlawOf y z o F) (p : Ext c y z) : FlawAt z o F := by
  rcases h with ⟨h1, h2⟩ | ⟨h1, h2⟩ | ⟨h1, h2⟩
  · exact .inl ⟨h1.ext p, h2⟩
  · exact .inr (.inl ⟨h1.ext p, h2⟩)
  · exact .inr (.inr ⟨h1.imp (·.ext p) id, h2⟩)
theorem FlawAt.ext {c y z o F} (h : FlawAt y o F) (p : Ext c y z) : FlawAt z o F := by
  rcases h with ⟨h1, h2⟩ | ⟨h1, h2⟩ | ⟨h1, h2⟩
  · exact .inl ⟨h1.ext p, h2⟩
  · exact .inr (.inl ⟨h1.ext p, h2.ext p⟩)
  · exact .inr (.inr ⟨h1.imp (·.ext p) id, h2.ext p⟩)
theorem FlawAt.kind {y o F} (h : FlawAt y o F) : FlK y F := by
  rcases h with ⟨h1, h2⟩ | ⟨h1, h2⟩ | ⟨h1, h2⟩
  · exact .inl h2
  · exact .inr (.inl h2)
  · exact .inr (.inr ⟨_, _, _, h2⟩)
inductive FlawsOf (z : Sy) : List Op → List VV → Prop
  | nil : FlawsOf z [] []
  | cons {o F os Fs} : FlawAt z o F → FlawsOf z os Fs → FlawsOf z (o :: os) (F :: Fs)
theorem FlawsOf.len {z os Fs} (h : FlawsOf z os Fs) : Fs.length = os.length := by
  induction h with
  | nil => rfl
  | cons _ _ ih => simp [ih]
theorem Good.not_unk {y o} (g : Good y o) (u : Unk y o) : False := by
  obtain ⟨f, x, k, t, e, _⟩ := g
  obtain ⟨f', x', e', _⟩ := u
  rw [e] at e'; injection e'
theorem Bad.not_unk {y o} (g : Bad y o) (u : Unk y o) : False := by
  obtain ⟨f', x', e', _⟩ := u
  rcases g with ⟨n, e⟩ | ⟨f, x, n, t, e, _⟩ | ⟨f, x, k, t, e, _⟩ <;> (rw [e] at e'; injection e')
theorem Good.not_bad {y o} (g : Good y o) (b : Bad y o) : False := by
  obtain ⟨f, x, k, t, e, h0, h1', h3, h4, h5⟩ := g
  rcases b with ⟨n, e'⟩ | ⟨f', x', n', t', e', g0, g1, g2, g3⟩ | ⟨f', x', k', t', e', g0, g1, g2, g3, g4, g5⟩
  · rw [e] at e'; injection e'
  · rw [e] at e'; cases e'
    rw [h1'] at g1; cases g1
    rw [h3] at g2; obtain rfl := Option.some.inj g2
    simp at g3
  · rw [e] at e'
    injection e' with e1 e2
    injection e2 with e2
    subst e1 e2
    rw [h4] at g3; obtain rfl := Option.some.inj g3
    rcases h5 with rfl | rfl
    · simp at g4
    · simp at g5
theorem FlawsOf.kind {z os Fs} (h : FlawsOf z os Fs) : ∀ F ∈ Fs, FlK z F := by
  induction h with
  | nil => exact fun _ q => (List.not_mem_nil q).elim
  | cons h1 _ ih => exact List.forall_mem_cons.mpr ⟨h1.kind, ih⟩
theorem FlawsOf.first {z os Fs} (B : Base z) (h : FlawsOf z os Fs) (hf : Op.free ∉ os) : (Fs.filter keepF = [] ∧ ∀ o ∈ os, Good z o) ∨ Y2 fun F r => C3 (Fs.filter keepF = F :: r) (FirstBad z z os F) (¬ ∀ o ∈ os, Good z o) := by
  induction h with
  | nil => exact .inl ⟨rfl, fun _ q => (List.not_mem_nil q).elim⟩
  | @cons o F os Fs h1 _ ih =>
    rcases h1 with ⟨g, e0⟩ | ⟨g, h2⟩ | ⟨g, h2⟩
    · have e1 : List.filter keepF (F :: Fs) = List.filter keepF Fs := List.filter_cons_of_neg (by rw [e0]; decide)
      rw [e1]
      rcases ih fun q => hf (.tail _ q) with ⟨e, a⟩ | ⟨F', r, e, fb, na⟩
      · exact .inl ⟨e, List.forall_mem_cons.mpr ⟨g, a⟩⟩
      · exact .inr ⟨F', r, e, .next g fb, fun q => na (List.forall_mem_cons.mp q).2⟩
    · exact .inr ⟨F, _, List.filter_cons_of_pos (keep_inst B h2), .unk g h2, fun q => (q _ (.head _)).not_unk g⟩
    · have hb : Bad z o := g.resolve_right fun q => hf (q ▸ .head _)
      exact .inr ⟨F, _, List.filter_cons_of_pos (keep_err h2), .bad hb h2, fun q => (q _ (.head _)).not_bad hb⟩
noncomputable def Wants (z : Sy) (n : Int) (hd row : VV) (os : List Op) (e : En) (FL : List VV) : Prop := (FL = [] ∧ AllGd z n os e) ∨ ∃ F r, FL = F :: r ∧ Told z z n hd row os e F ∧ ¬ AllGd z n os e
noncomputable def Fl1 (z : Sy) (n : Int) (hd : VV) (l : List VV) : Prop := (n < 0 ∧ ∃ F, l = [F] ∧ IsErr z "existence_error" "stream" hd F) ∨ (0 ≤ n ∧ l = [])
noncomputable def Fl2 (z : Sy) (e : En) (la row : VV) (l : List VV) : Prop := (e = .var ∧ l = [la]) ∨ (∃ k, e = .con k ∧ k ≠ 0 ∧ ∃ F, l = [F] ∧ IsErr z "type_error" "list" row F) ∨ (e = .con 0 ∧ l = [])
noncomputable def Fl3 (os : List Op) (la : VV) : List VV := if os.any isFree then [la] else []
theorem wants_of {z n hd row os e la l1 l2 l4} (B : Base z) (hla : IsInst z la) (h1 : Fl1 z n hd l1) (h2 : Fl2 z e la row l2) (h4 : FlawsOf z os l4) : Wants z n hd row os e ((l1 ++ l2 ++ Fl3 os la ++ l4).filter keepF) := by
  rcases h1 with ⟨hn, F, rfl, hF⟩ | ⟨hn, rfl⟩
  · refine .inr ⟨F, (l2 ++ Fl3 os la ++ l4).filter keepF, ?_, .inl ⟨hn, hF⟩, fun A => by have := A.h0; lia⟩
    show List.filter keepF (F :: (l2 ++ Fl3 os la ++ l4)) = _
    exact List.filter_cons_of_pos (keep_err hF)
  · rcases h2 with ⟨rfl, rfl⟩ | ⟨k, rfl, hk, F, rfl, hF⟩ | ⟨rfl, rfl⟩
    · refine .inr ⟨la, (Fl3 os la ++ l4).filter keepF, ?_, .inr ⟨hn, .inl ⟨rfl, hla⟩⟩, fun A => nomatch A.h1⟩
      show List.filter keepF (la :: (Fl3 os la ++ l4)) = _
      exact List.filter_cons_of_pos (keep_inst B hla)
    · refine .inr ⟨F, (Fl3 os la ++ l4).filter keepF, ?_, .inr ⟨hn, .inr (.inl ⟨k, rfl, hk, hF⟩)⟩, fun A => by have := A.h1; cases this; exact hk rfl⟩
      show List.filter keepF (F :: (Fl3 os la ++ l4)) = _
      exact List.filter_cons_of_pos (keep_err hF)
    · unfold Fl3
      by_cases hf : os.any isFree = true
      · rw [if_pos hf]
        have hm := (free_mem os).mp hf
        refine .inr ⟨la, l4.filter keepF, ?_, .inr ⟨hn, .inr (.inr (.inl ⟨rfl, hm, hla⟩))⟩, fun A => ?_⟩
        · show List.filter keepF (la :: l4) = _
          exact List.filter_cons_of_pos (keep_inst B hla)
        · obtain ⟨f, x, k, t, e, _⟩ := A.h2 _ hm
          injection e
      · rw [if_neg hf]
        have hm : Op.free ∉ os := fun q => hf ((free_mem os).mpr q)
        simp only [List.nil_append]
        rcases h4.first B hm with ⟨e, a⟩ | ⟨F, r, e, fb, na⟩
        · exact .inl ⟨e, hn, rfl, a⟩
        · exact .inr ⟨F, r, e, .inr ⟨hn, .inr (.inr (.inr ⟨rfl, hm, fb⟩))⟩, fun A => na A.h2⟩
end Mine
end
section
set_option backward.match.sparseCases false
namespace Mine
theorem set_same {T : List VO} {q : Nat} {v : VO} (hq : T[q]? = some v) : T.set q v = T := List.ext_getElem? fun i => by
  by_cases hi : q = i
  · rw [← hi, set_get hq, hq]
  · exact List.getElem?_set_ne hi
section
variable {m : MS} {y : Sy} {T : List VO} {E : LE} {q p : Nat} {fl h la rw : List VV} {nI : Int} {e : En} {os : List Op}
theorem st11 (hs : y.tx.length ≤ 1000000) : Y2 fun x z => C3 ((Od 20 390).exs laS ((laB.drop 11).take 2) (LE.rho E) (mk m y T) = .ok (.next, LE.rho { E with lacks := .tup [.str "a", .int (Int.ofNat x)], flaws := .ref (T.length + 32) }) (mk m z (T ++ [.list []]))) (IsInst z (.tup [.str "a", .int (Int.ofNat x)])) (Ext 1 y z) := by
  obtain ⟨x, z, e1, p, hx⟩ := atomM (d := 19) m T "instantiation_error" hs
  exact ⟨x, z, walkE (k := 1) (fs := [(.R e1, 9)]) (by kernel_rfl), ⟨x, rfl, hx⟩, p⟩
theorem st13 (hs : Rm 10 y) (hq : T[q]? = some (.list fl)) (hl : fl.length ≤ 1000) (h1 : E.number = .int nI) (h2 : E.handle = .tup h) (h3 : E.flaws = .ref (q + 32)) : Y2 fun l1 z => C4 ((Od 20 388).exs laS [stAt laB 13] (LE.rho E) (mk m y T) = .ok (.next, LE.rho E) (mk m z (T.set q (.list (fl ++ l1))))) (Fl1 z nI (.tup h) l1) (Ext 5 y z) (l1.length ≤ 1) := by
  induction E
  subst h1; subst h2; subst h3
  cases hn : decide (nI < 0) with
  | true =>
    obtain ⟨f, x, z, e1, p1, hx, hf⟩ := funcM (d := 18) m T "existence_error" 2 (hs.le (by decide))
    obtain ⟨kk, z2, e2, p2, hk⟩ := atomM (d := 19) m T "stream" (hs.ext p1 (c'' := 8) (by decide)).t
    have ha := app_l (xs := fl) (v := .tup [.str "s", .int (Int.ofNat f), .tup [.tup [.str "a", .int (Int.ofNat kk)], .tup h]]) rfl (Nat.le_trans hl (by decide))
    exact ⟨[.tup [.str "s", .int (Int.ofNat f), .tup [.tup [.str "a", .int (Int.ofNat kk)], .tup h]]], z2, walkE (k := 0) (fs := [(.Q (congrArg some hn), 0), (.O hq, 2), (.R e1, 1), (.R e2, 0), (.O hq, 0), (.W ha, 9)]) (by kernel_rfl), .inl ⟨of_decide_eq_true hn, _, rfl, f, x, kk, rfl, p2.at hx, p2.fa hf, hk⟩, (p1.trans p2).le (by decide), Nat.le_refl _⟩
  | false => exact ⟨[], y, by rw [List.append_nil, set_same hq]; exact walkE (k := 0) (fs := [(.Q (congrArg some hn), 9)]) (by kernel_rfl), .inr ⟨Int.not_lt.mp (of_decide_eq_false hn), rfl⟩, (Ext.refl y).le (by decide), Nat.zero_le _⟩
theorem st14 (hE : EndOK e) (hs : Rm 10 y) (hq : T[q]? = some (.list fl)) (hl : fl.length ≤ 1000) (h1 : E.fin = (restI [] e).val) (h2 : E.row = .tup rw) (h3 : E.flaws = .ref (q + 32)) (h4 : E.lacks = .tup la) : Y2 fun l2 z => C4 ((Od 20 387).exs laS [stAt laB 14] (LE.rho E) (mk m y T) = .ok (.next, LE.rho E) (mk m z (T.set q (.list (fl ++ l2))))) (Fl2 z e (.tup la) (.tup rw) l2) (Ext 5 y z) (l2.length ≤ 1) := by
  induction E
  subst h2; subst h3; subst h4; subst h1
  rcases hE with rfl | rfl | ⟨c, rfl, hc⟩
  · exact ⟨[], y, by rw [List.append_nil, set_same hq]; exact walkE (k := 9) (fs := []) (by kernel_rfl), .inr (.inr ⟨rfl, rfl⟩), (Ext.refl y).le (by decide), Nat.zero_le _⟩
  · have ha := app_l (xs := fl) (v := .tup la) rfl (Nat.le_trans hl (by decide))
    exact ⟨[.tup la], y, walkE (k := 1) (fs := [(.O hq, 1), (.O hq, 0), (.W ha, 9)]) (by kernel_rfl), .inl ⟨rfl, rfl⟩, (Ext.refl y).le (by decide), Nat.le_refl _⟩
  · obtain ⟨f, x, z, e3, p1, hx, hf⟩ := funcM (d := 18) m T "type_error" 2 (hs.le (by decide))
    obtain ⟨kk, z2, e4, p2, hk⟩ := atomM (d := 19) m T "list" (hs.ext p1 (c'' := 8) (by decide)).t
    have ha := app_l (xs := fl) (v := .tup [.str "s", .int (Int.ofNat f), .tup [.tup [.str "a", .int (Int.ofNat kk)], .tup rw]]) rfl (Nat.le_trans hl (by decide))
    have hne : cmpV (mk m y T) .NotEq (.tup [.str "a", .int (Int.ofNat c)]) nilF = some true := by
      have e : cmpV (mk m y T) .NotEq (.tup [.str "a", .int (Int.ofNat c)]) nilF = some (!(true && (decide (Int.ofNat c = 0) && true) && true)) := by kernel_rfl
      rw [e, decide_eq_false (p := Int.ofNat c = 0) fun q => hc (Int.ofNat.inj q)]; rfl
    exact ⟨[.tup [.str "s", .int (Int.ofNat f), .tup [.tup [.str "a", .int (Int.ofNat kk)], .tup rw]]], z2, walkE (k := 1) (fs := [(.Q hne, 0), (.O hq, 2), (.R e3, 1), (.R e4, 0), (.O hq, 0), (.W ha, 9)]) (by kernel_rfl), .inr (.inl ⟨_, rfl, fun q => hc (Int.ofNat.inj q), _, rfl, f, x, kk, rfl, p2.at hx, p2.fa hf, hk⟩), (p1.trans p2).le (by decide), Nat.le_refl _⟩
theorem any_free {σ : VH} (os : List Op) : oinL σ (.list (os.map opV)) (.tup [.str "v", .int 0]) = some (os.any isFree) := by
  show anyEq σ _ _ = _
  induction os with
  | nil => rfl
  | cons o r ih =>
    have e : ∀ v : VV, anyEq σ (.tup [.str "v", .int 0]) (v :: r.map opV) = match eqV σ 30 v (.tup [.str "v", .int 0]), anyEq σ (.tup [.str "v", .int 0]) (r.map opV) with
      | some a, some b => some (a || b)
      | _, _ => none := fun v => rfl
    show anyEq σ _ (opV o :: r.map opV) = some (isFree o || r.any isFree)
    rw [e, ih]
    have h : eqV σ 30 (opV o) (.tup [.str "v", .int 0]) = some (isFree o) := by
      induction o <;> kernel_rfl
    rw [h]
theorem st15 (hp : T[p]? = some (.list (os.map opV))) (hq : T[q]? = some (.list fl)) (hl : fl.length ≤ 1000) (h1 : E.options = .ref (p + 32)) (h3 : E.flaws = .ref (q + 32)) (h4 : E.lacks = .tup la) : (Od 20 386).exs laS [stAt laB 15] (LE.rho E) (mk m y T) = .ok (.next, LE.rho E) (mk m y (T.set q (.list (fl ++ Fl3 os (.tup la))))) := by
  induction E
  subst h1; subst h3; subst h4
  have hin := any_free (σ := mk m y T) os
  unfold Fl3
  cases hf : os.any isFree with
  | true =>
    rw [if_pos rfl]
    exact walkE (k := 0) (fs := [(.O hp, 1), (.Q (hin.trans (congrArg some hf)), 0), (.O hq, 1), (.O hq, 0), (.W (app_l (xs := fl) (v := .tup la) rfl (Nat.le_trans hl (by decide))), 9)]) (by kernel_rfl)
  | false =>
    rw [if_neg (by decide), List.append_nil, set_same hq]
    exact walkE (k := 0) (fs := [(.O hp, 1), (.Q (hin.trans (congrArg some hf)), 9)]) (by kernel_rfl)
end
end Mine
end
section
set_option backward.match.sparseCases false
namespace Mine
noncomputable abbrev c16 : XS := stAt laB 16
noncomputable def R16 (ρ : VE) : Prop := ρ = ([("names", .ref 3)] : VE) ∨ ∃ u : VV, ρ = ([("names", .ref 3), ("option", u)] : VE)
noncomputable def Stay (d : Nat) (T T' : List VO) : Prop := ∀ i o, d ≠ i → T[i]? = some o → T'[i]? = some o
section
variable {m : MS}
theorem head_drop {α β : Type} {all : List β} {k : Nat} {f : α → β} {x : α} {td : List α} (hk : all.drop k = (x :: td).map f) : all[k]? = some (f x) ∧ all.drop (k + 1) = td.map f :=
  ⟨by rw [← Nat.add_zero k, ← List.getElem?_drop, hk]; rfl, by rw [← List.drop_drop, hk]; rfl⟩
theorem flaws16 {p dd : Nat} {all : List VV} (hne : dd ≠ p) (td : List Op) : ∀ (k M : Nat) (ρ : VE) (acc : List VV) (y : Sy) (T : List VO), R16 ρ → all.drop k = td.map opV → T[p]? = some (.list all) → T[dd]? = some (.list acc) → Rm (10 + 5 * td.length) y → (∀ o ∈ td, Kd y o) → acc.length + td.length ≤ 100 → td.length + 31 ≤ M →
    Y3 fun Fs z T' => And ((Od 20 M).comp (scOf c16) (elOf c16) "option" (.lst (p + 32) k) (ifOf c16) (dd + 32) ρ (mk m y T) = .ok () (mk m z T')) (C4 (T'[dd]? = some (.list (acc ++ Fs))) (FlawsOf z td Fs) (Ext (5 * td.length) y z) (Stay dd T T')) := by
  induction td with
  | nil =>
    intro k M ρ acc y T hρ hk hp hd R kd hl hM
    obtain ⟨n, rfl⟩ := lv_of (k := 31) hM
    have hx : all[k]? = none := List.getElem?_eq_none (List.drop_eq_nil_iff.mp hk)
    exact ⟨[], y, T, walkU (k := 0) (fs := [(.O hp, 0), (.V hx, 9)]) (by kernel_rfl), by rw [List.append_nil]; exact hd, .nil, Ext.refl y, fun _ _ _ h => h⟩
  | cons o td ih =>
    intro k M ρ acc y T hρ hk hp hd R kd hl hM
    simp only [List.length_cons] at R hl hM
    obtain ⟨n, rfl⟩ := lv_of (k := 32) hM
    obtain ⟨hx, hk'⟩ := head_drop hk
    obtain ⟨F, z, U, e1, p1, hF⟩ := flaw_run (d := 17) (m := m) (T := T) (kd o (.head _)) (R.le (by exact Nat.le_add_right _ _))
    have hd1 : (T ++ U)[dd]? = some (.list acc) := app_get hd
    obtain ⟨Fs, z', T', e2, hd', hFs, p2, hfr⟩ := ih (k + 1) (n + 31) [("names", .ref 3), ("option", opV o)] (acc ++ [F]) z ((T ++ U).set dd (.list (acc ++ [F]))) (.inr ⟨_, rfl⟩) hk' ((List.getElem?_set_ne hne).trans (app_get hp)) (set_get hd1 _) (R.ext p1 (by lia)) (fun o ho => (kd o (.tail _ ho)).ext p1) (by rw [List.length_append]; show acc.length + 1 + td.length ≤ 100; lia) (by exact Nat.le_of_succ_le_succ (by assumption))
    have hb : okLen acc.length = true := okLen_iff.mpr (by lia)
    refine ⟨F :: Fs, z', T', ?_, by rw [hd', List.append_assoc]; rfl, .cons ((hF.to p1).ext p2) hFs, (p1.trans p2).le (by simp only [List.length_cons]; lia), fun i o' hi ho => hfr i o' hi ((List.getElem?_set_ne hi).trans (app_get ho))⟩
    obtain ⟨cs, ec⟩ := op_tup o
    have eo : opV o = .tup cs := ec
    rw [ec] at e1
    rw [eo] at e2 hx
    rcases hρ with rfl | ⟨u, rfl⟩ <;> exact walkU (k := 0) (fs := [(.O hp, 0), (.V hx, 0), (.R e1, 0), (.O hd1, 0), (.B hb, 1), (.U e2, 9)]) (by kernel_rfl)
theorem keep_cmp {σ : VH} {y F} (h : FlK y F) : cmpV σ .NotEq F nilF = some (keepF F) := by
  rcases h with rfl | ⟨n, rfl, h1⟩ | ⟨nm, kd, c, f, x, k, rfl, h1⟩
  · kernel_rfl
  · have e : cmpV σ .NotEq (.tup [.str "a", .int (Int.ofNat n)]) nilF = some (!(true && (decide (Int.ofNat n = 0) && true) && true)) := by kernel_rfl
    rw [e]
    show _ = some (!decide (Int.ofNat n = 0))
    cases decide (Int.ofNat n = 0) <;> rfl
  · kernel_rfl
theorem FlK.tup {y F} (h : FlK y F) : ∃ cs, F = .tup cs := by
  rcases h with rfl | ⟨n, rfl, h1⟩ | ⟨nm, kd, c, f, x, k, rfl, h1⟩ <;> exact ⟨_, rfl⟩
noncomputable abbrev c17 : XS := stAt laB 17
noncomputable def R17 (ρ : VE) : Prop := ρ = ([] : VE) ∨ ∃ u : VV, ρ = ([("flaw", u)] : VE)
theorem flaws17 {y : Sy} {q dd : Nat} {all : List VV} (hne : dd ≠ q) (td : List VV) : ∀ (k M : Nat) (ρ : VE) (acc : List VV) (T : List VO), R17 ρ → all.drop k = td → T[q]? = some (.list all) → T[dd]? = some (.list acc) → (∀ F ∈ td, FlK y F) → acc.length + td.length ≤ 200 → td.length + 31 ≤ M →
    ∃ T', And ((Od 20 M).comp (scOf c17) (elOf c17) "flaw" (.lst (q + 32) k) (ifOf c17) (dd + 32) ρ (mk m y T) = .ok () (mk m y T')) (T'[dd]? = some (.list (acc ++ td.filter keepF))) := by
  induction td with
  | nil =>
    intro k M ρ acc T hρ hk hp hd kd hl hM
    obtain ⟨n, rfl⟩ := lv_of (k := 31) hM
    have hx : all[k]? = none := List.getElem?_eq_none (List.drop_eq_nil_iff.mp hk)
    exact ⟨T, walkU (k := 0) (fs := [(.O hp, 0), (.V hx, 9)]) (by kernel_rfl), by rw [List.filter_nil, List.append_nil]; exact hd⟩
  | cons F td ih =>
    intro k M ρ acc T hρ hk hp hd kd hl hM
    simp only [List.length_cons] at hl hM
    obtain ⟨n, rfl⟩ := lv_of (k := 32) hM
    obtain ⟨hx, hk'⟩ := head_drop (f := id) (by rw [List.map_id]; exact hk)
    rw [List.map_id] at hk'
    have hc := keep_cmp (σ := mk m y T) (kd F (.head _))
    obtain ⟨cs, rfl⟩ := (kd F (.head _)).tup
    cases hb : keepF (.tup cs) with
    | true =>
      obtain ⟨T', e2, hd'⟩ := ih (k + 1) (n + 31) [("flaw", .tup cs)] (acc ++ [.tup cs]) (T.set dd (.list (acc ++ [.tup cs]))) (.inr ⟨_, rfl⟩) hk' ((List.getElem?_set_ne hne).trans hp) (set_get hd _) (fun F h => kd F (.tail _ h)) (by rw [List.length_append]; show acc.length + 1 + td.length ≤ 200; lia) (by exact Nat.le_of_succ_le_succ (by assumption))
      have ho : okLen acc.length = true := okLen_iff.mpr (by lia)
      refine ⟨T', ?_, by rw [hd', List.filter_cons_of_pos hb, List.append_assoc]; rfl⟩
      rcases hρ with rfl | ⟨u, rfl⟩ <;> exact walkU (k := 0) (fs := [(.O hp, 0), (.V hx, 0), (.Q (hc.trans (congrArg some hb)), 0), (.O hd, 0), (.B ho, 1), (.U e2, 9)]) (by kernel_rfl)
    | false =>
      obtain ⟨T', e2, hd'⟩ := ih (k + 1) (n + 31) [("flaw", .tup cs)] acc T (.inr ⟨_, rfl⟩) hk' hp hd (fun F h => kd F (.tail _ h)) (by exact Nat.le_of_lt (by assumption)) (by exact Nat.le_of_succ_le_succ (by assumption))
      refine ⟨T', ?_, by rw [hd', List.filter_cons_of_neg (by rw [hb]; decide)]⟩
      rcases hρ with rfl | ⟨u, rfl⟩ <;> exact walkU (k := 0) (fs := [(.O hp, 0), (.V hx, 0), (.Q (hc.trans (congrArg some hb)), 0), (.U e2, 9)]) (by kernel_rfl)
end
end Mine
end
section
set_option backward.match.sparseCases false
namespace Mine
section
variable {m : MS} {y : Sy} {T : List VO} {E : LE} {q p : Nat} {fl : List VV} {os : List Op}
theorem st16 (hT : T[p]? = some (.list (os.map opV))) (hos : os.length ≤ 3) (kd : ∀ o ∈ os, Kd y o) (hs : Rm 30 y) (hq : T[q]? = some (.list fl)) (hl : fl.length ≤ 1000) (h1 : E.options = .ref (p + 32)) (h3 : E.flaws = .ref (q + 32)) : Y3 fun l4 z T' => C4 ((Od 20 385).exs laS [stAt laB 16] (LE.rho E) (mk m y T) = .ok (.next, LE.rho E) (mk m z T')) (T'[q]? = some (.list (fl ++ l4))) (FlawsOf z os l4) (Ext 15 y z) := by
  induction E
  subst h1; subst h3
  have hpl := (List.getElem?_eq_some_iff.mp hT).1
  have hql := (List.getElem?_eq_some_iff.mp hq).1
  obtain ⟨l4, z, T', e1, hd, hF, px, hfr⟩ := flaws16 (m := m) (p := p) (dd := T.length) (Nat.ne_of_gt hpl) os 0 382 [("names", .ref 3)] [] y (T ++ [.list []]) (.inl rfl) rfl (app_get hT) (last_get _ _) (hs.le (by lia)) kd (by simp; exact Nat.le_trans (by assumption) (by decide)) (by lia)
  have hq' : T'[q]? = some (.list fl) := hfr q _ (Nat.ne_of_gt hql) (app_get hq)
  have hl4 : l4.length ≤ 3 := hF.len ▸ hos
  have hc : (!Nat.beq (q + 32) (T.length + 32) && okLen (fl.length + l4.length)) = true := by
    rw [okLen_iff.mpr (by lia), Bool.and_true, Bool.not_eq_true']
    exact Bool.eq_false_iff.mpr fun h => Nat.ne_of_lt hql (Nat.add_right_cancel (Nat.eq_of_beq_eq_true h))
  exact ⟨l4, z, T'.set q (.list (fl ++ l4)), walkE (k := 0) (fs := [(.O hT, 0), (.U e1, 0), (.O hq', 0), (.O hd, 0), (.B hc, 9)]) (by kernel_rfl), set_get hq' _, hF, px.le (by lia)⟩
theorem st17 (hk : ∀ F ∈ fl, FlK y F) (hq : T[q]? = some (.list fl)) (hl : fl.length ≤ 15) (h3 : E.flaws = .ref (q + 32)) : ∃ T', And ((Od 20 384).exs laS [stAt laB 17] (LE.rho E) (mk m y T) = .ok (.next, LE.rho { E with flaws := .ref (T.length + 32) }) (mk m y T')) (T'[T.length]? = some (.list (fl.filter keepF))) := by
  induction E
  subst h3
  have hql := (List.getElem?_eq_some_iff.mp hq).1
  obtain ⟨T', e1, hd⟩ := flaws17 (m := m) (q := q) (dd := T.length) (Nat.ne_of_gt hql) fl 0 382 [] [] (T ++ [.list []]) (.inl rfl) rfl (app_get hq) (last_get _ _) hk (by simp; exact Nat.le_trans (by assumption) (by decide)) (by lia)
  exact ⟨T', walkE (k := 1) (fs := [(.O hq, 0), (.U e1, 9)]) (by kernel_rfl), hd⟩
end
theorem Fl1.ext {c y z n hd l} (h : Fl1 y n hd l) (p : Ext c y z) : Fl1 z n hd l := h.imp (fun ⟨a, F, b, c⟩ => ⟨a, F, b, c.ext p⟩) id
theorem Fl2.ext {c y z e la row l} (h : Fl2 y e la row l) (p : Ext c y z) : Fl2 z e la row l := h.imp id fun h => h.imp (fun ⟨k, a, b, F, c, d⟩ => ⟨k, a, b, F, c, d.ext p⟩) id
theorem Fl1.kind {y n hd l} (h : Fl1 y n hd l) : ∀ F ∈ l, FlK y F := by
  rcases h with ⟨_, F, rfl, h⟩ | ⟨_, rfl⟩
  · intro F' hF; simp at hF; subst hF; exact .inr (.inr ⟨_, _, _, h⟩)
  · simp
theorem Fl2.kind {y e la row l} (hla : IsInst y la) (h : Fl2 y e la row l) : ∀ F ∈ l, FlK y F := by
  rcases h with ⟨_, rfl⟩ | ⟨k, _, _, F, rfl, h⟩ | ⟨_, rfl⟩
  · intro F' hF; simp at hF; subst hF; exact .inr (.inl hla)
  · intro F' hF; simp at hF; subst hF; exact .inr (.inr ⟨_, _, _, h⟩)
  · simp
theorem Fl3.kind {y os la} (hla : IsInst y la) : ∀ F ∈ Fl3 os la, FlK y F := by
  unfold Fl3
  split
  · intro F' hF; simp at hF; subst hF; exact .inr (.inl hla)
  · simp
theorem Fl3.len {os la} : (Fl3 os la).length ≤ 1 := by unfold Fl3; split <;> simp
end Mine
end
section
set_option backward.match.sparseCases false
namespace Mine
theorem nd_at {α : Type} {l : List α} (h : l.Nodup) {i j : Nat} {x : α} (hi : l[i]? = some x) (hj : l[j]? = some x) : i = j := by
  have h1 := List.getElem?_eq_some_iff.mp hi
  have h2 := List.getElem?_eq_some_iff.mp hj
  exact (List.getElem_inj h).mp (h1.2.trans h2.2.symm)
theorem IsErr.one {z nm kd c F F'} (nt : z.tx.Nodup) (nf : z.fn.Nodup) (h : IsErr z nm kd c F) (h' : IsErr z nm kd c F') : F = F' := by
  obtain ⟨f, x, k, rfl, h1, h2, h3⟩ := h
  obtain ⟨f', x', k', rfl, h1', h2', h3'⟩ := h'
  have ex := nd_at nt h1 h1'
  subst ex
  have ef := nd_at nf h2 h2'
  subst ef
  have ek := nd_at nt h3 h3'
  subst ek
  rfl
theorem IsInst.one {z F F'} (nt : z.tx.Nodup) (h : IsInst z F) (h' : IsInst z F') : F = F' := by
  obtain ⟨n, rfl, h1⟩ := h
  obtain ⟨n', rfl, h1'⟩ := h'
  have := nd_at nt h1 h1'
  subst this
  rfl
theorem FirstBad.inv {y z o os F} (h : FirstBad y z (o :: os) F) : (Bad y o ∧ IsErr z "domain_error" "close_option" o.itm.val F) ∨ (Unk y o ∧ IsInst z F) ∨ (Good y o ∧ FirstBad y z os F) := by
  cases h with
  | bad b e => exact .inl ⟨b, e⟩
  | unk u e => exact .inr (.inl ⟨u, e⟩)
  | next g e => exact .inr (.inr ⟨g, e⟩)
theorem FirstBad.one {z : Sy} (nt : z.tx.Nodup) (nf : z.fn.Nodup) {os : List Op} {F F' : VV} (h : FirstBad z z os F) (h' : FirstBad z z os F') : F = F' := by
  induction os with
  | nil => cases h
  | cons o os ih =>
    rcases h.inv with ⟨b, e⟩ | ⟨u, e⟩ | ⟨g, e⟩ <;> rcases h'.inv with ⟨b', e'⟩ | ⟨u', e'⟩ | ⟨g', e'⟩
    · exact e.one nt nf e'
    · exact (b.not_unk u').elim
    · exact (g'.not_bad b).elim
    · exact (b'.not_unk u).elim
    · exact e.one nt e'
    · exact (g'.not_unk u).elim
    · exact (g.not_bad b').elim
    · exact (g.not_unk u').elim
    · exact ih e e'
theorem FirstBad.to {c c' y z z' os F} (h : FirstBad y z os F) (p : Ext c y z') (p' : Ext c' z z') : FirstBad z' z' os F := by
  induction h with
  | bad b e => exact .bad (b.ext p) (e.ext p')
  | unk u e => exact .unk (u.ext p) (e.ext p')
  | next g _ ih => exact .next (g.ext p) ih
theorem Told.to {c c' y z z' n hd row os e F} (h : Told y z n hd row os e F) (p : Ext c y z') (p' : Ext c' z z') : Told z' z' n hd row os e F := by
  rcases h with ⟨h1, h2⟩ | ⟨h1, ⟨h2, h3⟩ | ⟨k, h2, h3, h4⟩ | ⟨h2, h3, h4⟩ | ⟨h2, h3, h4⟩⟩
  · exact .inl ⟨h1, h2.ext p'⟩
  · exact .inr ⟨h1, .inl ⟨h2, h3.ext p'⟩⟩
  · exact .inr ⟨h1, .inr (.inl ⟨k, h2, h3, h4.ext p'⟩)⟩
  · exact .inr ⟨h1, .inr (.inr (.inl ⟨h2, h3, h4.ext p'⟩))⟩
  · exact .inr ⟨h1, .inr (.inr (.inr ⟨h2, h3, h4.to p p'⟩))⟩
theorem Told.one {z n hd row os e F F'} (nt : z.tx.Nodup) (nf : z.fn.Nodup) (h : Told z z n hd row os e F) (h' : Told z z n hd row os e F') : F = F' := by
  rcases h with ⟨h1, h2⟩ | ⟨h1, ⟨h2, h3⟩ | ⟨k, h2, h3, h4⟩ | ⟨h2, h3, h4⟩ | ⟨h2, h3, h4⟩⟩ <;> rcases h' with ⟨g1, g2⟩ | ⟨g1, ⟨g2, g3⟩ | ⟨k', g2, g3, g4⟩ | ⟨g2, g3, g4⟩ | ⟨g2, g3, g4⟩⟩ <;> first
    | exact h2.one nt nf g2
    | exact h4.one nt nf g4
    | exact h4.one nt g4
    | exact h3.one nt g3
    | (exfalso; lia)
    | (exfalso; rw [h2] at g2; cases g2; done)
    | (exfalso; rw [h2] at g2; cases g2; exact g3 rfl)
    | (exfalso; rw [h2] at g2; cases g2; exact h3 rfl)
    | (exfalso; exact g3 h3)
    | (exfalso; exact h3 g3)
end Mine
end
section
set_option backward.match.sparseCases false
namespace Mine
noncomputable def trv : Nat → VV → Bool
  | n + 1, .int _ => true
  | n + 1, .str _ => true
  | n + 1, .tup xs => xs.all (trv n)
  | _, _ => false
theorem tr_up {n : Nat} : ∀ {m : Nat} {v : VV}, trv n v = true → n ≤ m → trv m v = true := by
  induction n with
  | zero => intro m v h; cases v <;> exact ft h
  | succ n ih =>
    intro m v h hm
    obtain ⟨m, rfl⟩ : ∃ k, m = k + 1 := ⟨m - 1, by lia⟩
    cases v with
    | tup xs => exact List.all_eq_true.mpr fun x q => ih (List.all_eq_true.mp h x q) (Nat.le_of_succ_le_succ hm)
    | int _ => rfl
    | str _ => rfl
    | _ => exact ft h
theorem eqZ_self {f : VV → VV → Option Bool} {xs : List VV} (h : ∀ x ∈ xs, f x x = some true) : eqZ f xs xs = some true := by
  induction xs with
  | nil => rfl
  | cons x r ih => exact eqZ_conT (h x (.head _)) (ih fun y hy => h y (.tail _ hy))
theorem eqV_tup {σ : VH} {n : Nat} {xs : List VV} (h : eqZ (eqV σ n) xs xs = some true) : eqV σ (n + 1) (.tup xs) (.tup xs) = some true := by
  have e : eqV σ (n + 1) (.tup xs) (.tup xs) = match eqZ (eqV σ n) xs xs with
      | some b => some (b && decide (xs.length = xs.length))
      | none => none := rfl
  rw [e, h, decide_eq_true rfl]; rfl
theorem tr_eq {σ : VH} {n : Nat} : ∀ {v : VV}, trv n v = true → eqV σ n v v = some true := by
  induction n with
  | zero => intro v h; cases v <;> exact ft h
  | succ n ih =>
    intro v h
    cases v with
    | tup xs => exact eqV_tup (eqZ_self fun x q => ih (List.all_eq_true.mp h x q))
    | int i => exact eqV_int n i
    | str s => exact congrArg some (decide_eq_true rfl)
    | _ => exact ft h
theorem tr_eqW {σ : VH} {xs : List VV} (h : trv 31 (.tup xs) = true) : eqW σ (.tup xs) (.tup xs) = some true := by
  have e : eqW σ (.tup xs) (.tup xs) = match eqZ (eqD σ) xs xs with
      | some b => some (b && decide (xs.length = xs.length))
      | none => none := rfl
  have ed {v : VV} (h : trv 30 v = true) : eqD σ v v = some true := by
    have e : eqD σ v v = eqV σ 30 v v := by cases v <;> first | rfl | exact ft h
    rw [e, tr_eq h]
  rw [e, eqZ_self fun x q => ed (List.all_eq_true.mp h x q), decide_eq_true rfl]; rfl
theorem t_err {z nm kd c F n} (h : IsErr z nm kd c F) (hc : trv (n + 2) c = true) : trv (n + 4) F = true := by
  obtain ⟨f, x, k, rfl, _⟩ := h
  show (true && (true && ((true && (trv (n + 2) c && true)) && true))) = true
  rw [hc]; rfl
theorem t_inst {z F n} (h : IsInst z F) : trv (n + 2) F = true := by
  obtain ⟨k, rfl, _⟩ := h; rfl
theorem t_row (e : En) (os : List Op) : trv (4 + 2 * os.length) (restI os e).val = true := by
  induction os with
  | nil => induction e <;> rfl
  | cons o r ih =>
    show (true && (true && ((trv (4 + 2 * r.length) (opV o) && (trv (4 + 2 * r.length) (restI r e).val && true)) && true))) = true
    rw [ih, tr_up (n := 4) (by induction o <;> rfl) (Nat.le_add_right _ _)]; rfl
theorem t_hk {y m h n} (H : HK y m h n) : trv 4 h = true := by induction H <;> rfl
theorem t_first {y z os F} (h : FirstBad y z os F) : trv 20 F = true := by
  induction h with
  | @bad o os F b e => exact t_err (n := 16) e (tr_up (n := 4) (by induction o <;> rfl) (by decide))
  | unk u e => exact t_inst e
  | next g _ ih => exact ih
theorem t_told {y z n hd row os e F} (hh : trv 18 hd = true) (hr : trv 18 row = true) (h : Told y z n hd row os e F) : trv 20 F = true := by
  rcases h with ⟨h1, h2⟩ | ⟨h1, ⟨h2, h3⟩ | ⟨k, h2, h3, h4⟩ | ⟨h2, h3, h4⟩ | ⟨h2, h3, h4⟩⟩
  · exact t_err (n := 16) h2 hh
  · exact t_inst h3
  · exact t_err (n := 16) h4 hr
  · exact t_inst h4
  · exact t_first h4
theorem ball_eq {σ : VH} {F : VV} (h : trv 20 F = true) : eqW σ (ballOf F) (ballOf F) = some true := by
  refine tr_eqW ?_
  show (true && (true && ((trv 29 F && (true && true)) && true))) = true
  rw [tr_up h (by decide)]; rfl
end Mine
end
section
set_option backward.match.sparseCases false
namespace Mine
section
variable {m : MS} {y : Sy} {T : List VO} {E : LE} {q i j : Nat} {FL : List VV} {F bf : VV} {r : List VV} {as : List (Str × Int)}
theorem nil_ne (hi : T[i]? = some (.list FL)) (hj : T[j]? = some (.list [])) (hne : i ≠ j) : cmpV (mk m y T) .NotEq (.ref (i + 32)) (.ref (j + 32)) = some (!FL.isEmpty) := by
  have e1 : eqV (mk m y T) 30 (.ref (i + 32)) (.ref (j + 32)) = some FL.isEmpty := by
    have e : eqV (mk m y T) 30 (.ref (i + 32)) (.ref (j + 32)) = if i + 32 = j + 32 then none else match T[i]?, T[j]? with
      | some (.list xs), some (.list ys) => if xs.length = ys.length then eqZ (eqV (mk m y T) 29) xs ys else some false
      | _, _ => none := by kernel_rfl
    rw [e, if_neg fun q => hne (Nat.add_right_cancel q), hi, hj]
    induction FL <;> rfl
  have e : cmpV (mk m y T) .NotEq (.ref (i + 32)) (.ref (j + 32)) = (match T[i]?.bind dictS, T[j]?.bind dictS with
      | some es, some ds => if i + 32 = j + 32 then none else if es.length = ds.length then eqRows (eqV (mk m y T) 30) ds es else some false
      | _, _ => eqV (mk m y T) 30 (.ref (i + 32)) (.ref (j + 32))).map (!·) := by kernel_rfl
  rw [e, hi, hj]
  show (eqV (mk m y T) 30 (.ref (i + 32)) (.ref (j + 32))).map (!·) = _
  rw [e1]; rfl
theorem st20_err (hq : T[q]? = some (.list (F :: r))) (hl : r.length ≤ 100) (tF : trv 20 F = true) (hal : dictS m.al = some (asV as)) (h2 : twoK as) (ha : okLen (asV as).length = true) (h3 : m.ins.length < 64) (h4 : m.outs.length < 64) (hs : SeenAt T bf (sortI (m.ins.map (·.1))) (sortI (m.outs.map (·.1))) (asV as) m.ci m.co i) (hi : i + 4 ≤ T.length) (g1 : E.flaws = .ref (q + 32)) (g2 : E.before = bf) (g3 : E.told = ballOf F) : ∃ U, (Od 20 381).exs laS (laB.drop 20) (LE.rho E) (mk m y T) = .ok (.ret (.bool true), LE.rho E) (mk m y (T ++ [.list []] ++ U)) := by
  induction E
  subst g1; subst g2; subst g3
  have hql := (List.getElem?_eq_some_iff.mp hq).1
  have hq' := app_get (U := [VO.list []]) hq
  obtain ⟨v, U, e1, s1, _⟩ := seen_run (y := y) (T := T ++ [.list []]) (d := 19) hal ha h3 h4
  have e2 := seen_eq (m := m) (y := y) s1 hs.pre.pre (.inr (by rw [List.length_append]; exact Nat.le_succ_of_le (by assumption))) h2
  have n0 := nil_ne (m := m) (y := y) hq' (last_get T (.list [])) (Nat.ne_of_lt hql)
  have b0 := ball_eq (σ := mk m y (T ++ [.list []])) tF
  have f0 : oget (.list (F :: r)) (.int (Int.ofNat 0)) = some F := oget_list rfl (by simp only [List.length_cons]; lia)
  obtain ⟨_, _, _, _, rfl, _, _, _, _, _⟩ := id s1
  obtain ⟨_, _, _, _, rfl, _, _, _, _, _⟩ := id hs
  exact ⟨U, walkE (k := 0) (fs := [(.Q n0, 0), (.O hq', 0), (.V f0, 0), (.Q b0, 0), (.R e1, 0), (.Q e2, 9)]) (by kernel_rfl)⟩
end
end Mine
end
section
set_option backward.match.sparseCases false
namespace Mine
noncomputable def notI (nI : Int) (z : Int) : Bool := decide (z ≠ nI)
noncomputable abbrev c22 : XS := stAt (bodyOf (stAt laB 22)) 0
noncomputable def inE : XE → XE
  | .comp e _ _ _ _ _ _ => e
  | e => e
noncomputable def inI : XE → List XE
  | .comp _ _ _ _ ifs _ _ => ifs
  | _ => []
noncomputable def inS : XE → Scope
  | .comp _ _ _ _ _ s _ => s
  | _ => f_law.scope
noncomputable abbrev c22i : XE := elOf c22
noncomputable def R22 (nI : Int) (ρ : VE) : Prop := ρ = ([("number", .int nI)] : VE) ∨ ∃ u : VV, ρ = ([("number", .int nI), ("one", u)] : VE)
section
variable {m : MS} {y : Sy}
theorem filt22 {nI : Int} {p dd : Nat} {all : List VV} (hne : dd ≠ p) (td : List Int) : ∀ (k M : Nat) (ρ : VE) (acc : List Int) (T : List VO), R22 nI ρ → all.drop k = td.map .int → T[p]? = some (.list all) → T[dd]? = some (.list (acc.map .int)) → acc.length + td.length ≤ 100 → td.length + 31 ≤ M →
    (Od 20 M).comp (inS c22i) (inE c22i) "one" (.lst (p + 32) k) (inI c22i) (dd + 32) ρ (mk m y T) = .ok () (mk m y (T.set dd (.list ((acc ++ td.filter (notI nI)).map .int)))) := by
  induction td with
  | nil =>
    intro k M ρ acc T hρ hk hp hd hl hM
    obtain ⟨n, rfl⟩ := lv_of (k := 31) hM
    have hx : all[k]? = none := List.getElem?_eq_none (List.drop_eq_nil_iff.mp hk)
    rw [List.filter_nil, List.append_nil, set_same hd]
    exact walkU (k := 0) (fs := [(.O hp, 0), (.V hx, 9)]) (by kernel_rfl)
  | cons z td ih =>
    intro k M ρ acc T hρ hk hp hd hl hM
    simp only [List.length_cons] at hl hM
    obtain ⟨n, rfl⟩ := lv_of (k := 32) hM
    obtain ⟨hx, hk'⟩ := head_drop hk
    have hc (b : Bool) (h : notI nI z = b) : cmpV (mk m y T) .NotEq (.int z) (.int nI) = some b := by
      have e : cmpV (mk m y T) .NotEq (.int z) (.int nI) = some (!decide (z = nI)) := by kernel_rfl
      rw [e, ← h, notI, decide_not]
    cases hb : notI nI z with
    | true =>
      have e2 := ih (k + 1) (n + 31) [("number", .int nI), ("one", .int z)] (acc ++ [z]) (T.set dd (.list (acc.map .int ++ [.int z]))) (.inr ⟨_, rfl⟩) hk' ((List.getElem?_set_ne hne).trans hp) ((set_get hd _).trans (by rw [List.map_append]; rfl)) (by rw [List.length_append]; show acc.length + 1 + td.length ≤ 100; lia) (by exact Nat.le_of_succ_le_succ (by assumption))
      have ho : okLen (acc.map VV.int).length = true := okLen_iff.mpr (by rw [List.length_map]; lia)
      rw [List.set_set, List.append_assoc] at e2
      rw [List.filter_cons_of_pos hb]
      rcases hρ with rfl | ⟨u, rfl⟩ <;> exact walkU (k := 0) (fs := [(.O hp, 0), (.V hx, 0), (.Q (hc true hb), 0), (.O hd, 0), (.B ho, 1), (.U e2, 9)]) (by kernel_rfl)
    | false =>
      have e2 := ih (k + 1) (n + 31) [("number", .int nI), ("one", .int z)] acc T (.inr ⟨_, rfl⟩) hk' hp hd (by exact Nat.le_of_lt (by assumption)) (by exact Nat.le_of_succ_le_succ (by assumption))
      rw [List.filter_cons_of_neg (by rw [hb]; decide)]
      rcases hρ with rfl | ⟨u, rfl⟩ <;> exact walkU (k := 0) (fs := [(.O hp, 0), (.V hx, 0), (.Q (hc false hb), 0), (.U e2, 9)]) (by kernel_rfl)
end
end Mine
end
section
set_option backward.match.sparseCases false
namespace Mine
section
variable {m : MS} {y : Sy}
theorem side_in {nI : Int} {a : List Int} {T : List VO} {p M : Nat} (hp : T[p]? = some (.list (a.map .int))) (hl : a.length ≤ 64) (hM : a.length + 31 ≤ M) : (Od 20 M).comp (inS c22i) (inE c22i) "one" (.lst (p + 32) 0) (inI c22i) (T.length + 32) [("number", .int nI)] (mk m y (T ++ [.list []])) = .ok () (mk m y (T ++ [.list ((offI nI a).map .int)])) :=
  (filt22 (m := m) (y := y) (nI := nI) (Nat.ne_of_gt (List.getElem?_eq_some_iff.mp hp).1) a 0 M [("number", .int nI)] [] (T ++ [.list []]) (.inl rfl) rfl (app_get hp) (last_get _ _) (by simp; exact Nat.le_trans (by assumption) (by decide)) hM).trans (by rw [last_set]; rfl)
noncomputable def R22o (nI : Int) (ρ : VE) : Prop := ρ = ([("number", .int nI)] : VE) ∨ ∃ u : VV, ρ = ([("number", .int nI), ("side", u)] : VE)
theorem side_turn {nI : Int} {a : List Int} {T : List VO} {ρ : VE} {i k p dd n : Nat} {xs acc : List VV} {τ : VH} (hρ : R22o nI ρ) (hi : T[i]? = some (.list xs)) (hx : xs[k]? = some (.ref (p + 32))) (hp : T[p]? = some (.list (a.map .int))) (hl : a.length ≤ 64) (hd : T[dd]? = some (.list acc)) (ha : acc.length ≤ 10)
    (e : (Od 20 (n + 100)).comp (scOf c22) (elOf c22) "side" (.lst (i + 32) (k + 1)) (ifOf c22) (dd + 32) [("number", .int nI), ("side", .ref (p + 32))] (mk m y ((T ++ [VO.list ((offI nI a).map .int)]).set dd (VO.list (acc ++ [VV.ref (T.length + 32)])))) = .ok () τ) :
    (Od 20 (n + 101)).comp (scOf c22) (elOf c22) "side" (.lst (i + 32) k) (ifOf c22) (dd + 32) ρ (mk m y T) = .ok () τ := by
  have e1 := side_in (m := m) (y := y) (nI := nI) (M := n + 99) hp hl (by lia)
  have hd1 := app_get (U := [VO.list ((offI nI a).map .int)]) hd
  have ho : okLen acc.length = true := okLen_iff.mpr (by exact Nat.le_trans (by assumption) (by decide))
  rcases hρ with rfl | ⟨u, rfl⟩ <;> exact walkU (k := 0) (fs := [(.O hi, 0), (.V hx, 0), (.O hp, 0), (.U e1, 0), (.O hd1, 0), (.B ho, 1), (.U e, 9)]) (by kernel_rfl)
theorem sides22 {nI : Int} {a b : List Int} {T : List VO} {i p q n : Nat} (hi : T[i]? = some (.list [.ref (p + 32), .ref (q + 32)])) (hp : T[p]? = some (.list (a.map .int))) (hq : T[q]? = some (.list (b.map .int))) (ha : a.length ≤ 64) (hb : b.length ≤ 64) :
    (Od 20 (n + 102)).comp (scOf c22) (elOf c22) "side" (.lst (i + 32) 0) (ifOf c22) (T.length + 32) [("number", .int nI)] (mk m y (T ++ [.list []])) = .ok () (mk m y (T ++ [.list [.ref (T.length + 1 + 32), .ref (T.length + 2 + 32)], .list ((offI nI a).map .int), .list ((offI nI b).map .int)])) := by
  have s1 : ((T ++ [VO.list []]) ++ [VO.list ((offI nI a).map .int)]).set T.length (VO.list ([] ++ [VV.ref ((T ++ [VO.list []]).length + 32)])) = T ++ [.list [.ref (T.length + 1 + 32)], .list ((offI nI a).map .int)] := by simp
  have s2 : (T ++ [VO.list [.ref (T.length + 1 + 32)], VO.list ((offI nI a).map .int)] ++ [VO.list ((offI nI b).map .int)]).set T.length (VO.list ([VV.ref (T.length + 1 + 32)] ++ [VV.ref ((T ++ [VO.list [.ref (T.length + 1 + 32)], VO.list ((offI nI a).map .int)]).length + 32)])) = T ++ [.list [.ref (T.length + 1 + 32), .ref (T.length + 2 + 32)], .list ((offI nI a).map .int), .list ((offI nI b).map .int)] := by simp
  refine side_turn (n := n + 1) (xs := [.ref (p + 32), .ref (q + 32)]) (.inl rfl) (app_get hi) rfl (app_get hp) ha (last_get _ _) (Nat.zero_le _) ?_
  rw [s1]
  refine side_turn (n := n) (xs := [.ref (p + 32), .ref (q + 32)]) (.inr ⟨_, rfl⟩) (app_get hi) rfl (app_get hq) hb (acc := [.ref (T.length + 1 + 32)]) (by simp) (Nat.le_of_ble_eq_true rfl) ?_
  rw [s2]
  have hx : ([.ref (p + 32), .ref (q + 32)] : List VV)[2]? = none := rfl
  exact walkU (k := 0) (fs := [(.O (app_get (U := [VO.list [.ref (T.length + 1 + 32), .ref (T.length + 2 + 32)], .list ((offI nI a).map .int), .list ((offI nI b).map .int)]) hi), 0), (.V hx, 9)]) (by kernel_rfl)
end
end Mine
end
section
set_option backward.match.sparseCases false
namespace Mine
theorem twoK.get {l : List (Str × Int)} (h : twoK l) : ∀ p ∈ l, assocGet p.1 (asV l) = some (.int p.2) := by
  rcases h with rfl | ⟨a, rfl⟩ | ⟨a, b, rfl, hne⟩
  · exact fun p hp => nomatch hp
  · intro p hp
    cases List.mem_singleton.mp hp
    exact if_pos rfl
  · intro p hp
    rcases List.mem_cons.mp hp with rfl | hp
    · exact if_pos rfl
    · cases List.mem_singleton.mp hp
      exact (if_neg hne).trans (if_pos rfl)
theorem keep_pos {k : Int} {a : Str × Int} {l : List (Str × Int)} (h : a.2 ≠ k) : keepN k (a :: l) = a :: keepN k l := List.filter_cons_of_pos (decide_eq_true h)
theorem keep_neg {k : Int} {a : Str × Int} {l : List (Str × Int)} (h : ¬ a.2 ≠ k) : keepN k (a :: l) = keepN k l := List.filter_cons_of_neg (by rw [decide_eq_false h]; decide)
theorem twoK.keep {l : List (Str × Int)} {k : Int} (h : twoK l) : twoK (keepN k l) := by
  rcases h with rfl | ⟨a, rfl⟩ | ⟨a, b, rfl, hne⟩
  · exact .inl rfl
  · by_cases ha : a.2 ≠ k
    · rw [keep_pos ha]; exact .inr (.inl ⟨a, rfl⟩)
    · rw [keep_neg ha]; exact .inl rfl
  · by_cases ha : a.2 ≠ k <;> by_cases hb : b.2 ≠ k
    · rw [keep_pos ha, keep_pos hb]; exact .inr (.inr ⟨a, b, rfl, hne⟩)
    · rw [keep_pos ha, keep_neg hb]; exact .inr (.inl ⟨a, rfl⟩)
    · rw [keep_neg ha, keep_pos hb]; exact .inr (.inl ⟨b, rfl⟩)
    · rw [keep_neg ha, keep_neg hb]; exact .inl rfl
theorem twoK.ok {l : List (Str × Int)} (h : twoK l) : okLen (asV l).length = true := by
  rcases h with rfl | ⟨a, rfl⟩ | ⟨a, b, rfl, _⟩ <;> rfl
noncomputable abbrev c22d : XS := stAt (bodyOf (stAt laB 22)) 1
noncomputable def dW : XS → XE
  | .asgD _ _ _ w _ _ _ _ _ _ _ _ _ => w
  | _ => .const .none 0 default
noncomputable def dA : XS → XE
  | .asgD _ _ _ _ _ _ _ a _ _ _ _ _ => a
  | _ => .const .none 0 default
noncomputable def dB : XS → XE
  | .asgD _ _ _ _ _ _ _ _ b _ _ _ _ => b
  | _ => .const .none 0 default
noncomputable def dS : XS → Scope
  | .asgD _ _ _ _ _ _ _ _ _ _ s _ _ => s
  | _ => f_law.scope
section
variable {m : MS} {y : Sy} {T : List VO} {nI : Int} {x c e : VV} {j : Nat}
noncomputable def ρD (nI : Int) (x c e : VV) (j : Nat) : VE := [("number", .int nI), ("before", .tup [x, .ref (j + 32), c, e])]
theorem d22_row (k : Str) : dRow G (dS c22d) "word" (dW c22d) (dA c22d) (dB c22d) (ρD nI x c e j) (mk m y T) k = ((T[j]?.bind fun ob => oget ob (.str k)).bind intV).bind fun i => if i = nI then some none else ((T[j]?.bind fun ob => oget ob (.str k)).bind intV).map some := by kernel_rfl
theorem d22_run {as : List (Str × VV)} (hj : T[j]? = some (.sdict as)) (l : List (Str × Int)) (h : ∀ p ∈ l, assocGet p.1 as = some (.int p.2)) : dcomp G (dS c22d) "word" (dW c22d) (dA c22d) (dB c22d) (ρD nI x c e j) (mk m y T) (asV l) = some (asV (keepN nI l)) := by
  induction l with
  | nil => rfl
  | cons a l ih =>
    have e1 : dcomp G (dS c22d) "word" (dW c22d) (dA c22d) (dB c22d) (ρD nI x c e j) (mk m y T) (asV (a :: l)) = (dRow G (dS c22d) "word" (dW c22d) (dA c22d) (dB c22d) (ρD nI x c e j) (mk m y T) a.1).bind fun z => (dcomp G (dS c22d) "word" (dW c22d) (dA c22d) (dB c22d) (ρD nI x c e j) (mk m y T) (asV l)).map (addRow a.1 z) := rfl
    have g : (T[j]?.bind fun ob => oget ob (.str a.1)).bind intV = some a.2 := by
      rw [hj]
      show (assocGet a.1 as).bind intV = _
      rw [h a (.head _)]; rfl
    rw [e1, ih fun p hp => h p (.tail _ hp), d22_row, g]
    by_cases hv : a.2 = nI
    · rw [keep_neg (not_not_intro hv)]
      show (if a.2 = nI then some none else some (some a.2)).bind _ = _
      rw [if_pos hv]; rfl
    · rw [keep_pos hv]
      show (if a.2 = nI then some none else some (some a.2)).bind _ = _
      rw [if_neg hv]; rfl
end
end Mine
end
section
set_option backward.match.sparseCases false
namespace Mine
noncomputable def dI : XS → XE
  | .asgD _ _ _ _ _ _ i _ _ _ _ _ _ => i
  | _ => .const .none 0 default
section
variable {m : MS} {y : Sy} {T : List VO} {E : LE} {nI ci co : Int} {x : VV} {j : Nat}
theorem called22 {l : List (Str × Int)} (h : twoK l) (hj : T[j]? = some (.sdict (asV l))) : compD' G (Od 20 374) laS (dW c22d) "word" (dI c22d) (dA c22d) (dB c22d) (dS c22d) (LE.rho { E with number := .int nI, before := .tup [x, .ref (j + 32), .int ci, .int co] }) (mk m y T) = .ok (.ref (T.length + 32)) (mk m y (T ++ [.sdict (asV (keepN nI l))])) := by
  have e : compD' G (Od 20 374) laS (dW c22d) "word" (dI c22d) (dA c22d) (dB c22d) (dS c22d) (LE.rho { E with number := .int nI, before := .tup [x, .ref (j + 32), .int ci, .int co] }) (mk m y T) = match T[j]?.bind dictS with
    | some es => .guard (okLen es.length) ((Res.of (dcomp G (dS c22d) "word" (dW c22d) (dA c22d) (dB c22d) (ρD nI x (.int ci) (.int co) j) (mk m y T) es) (mk m y T)).bind fun ds τ => alloc τ (.sdict ds))
    | none => .stuck := by kernel_rfl
  rw [e, hj]
  show Res.guard (okLen (asV l).length) _ = _
  rw [h.ok, d22_run hj l h.get]
  rfl
noncomputable def zeroI (nI z : Int) : Int := bif decide (z = nI) then 0 else z
theorem st22_pos {bf : VV} {A B : List Int} {l : List (Str × Int)} {lo : Nat} (hn : 0 < nI) (hs : SeenAt T bf A B (asV l) ci co lo) (h2 : twoK l) (hA : A.length ≤ 64) (hB : B.length ≤ 64) (g1 : E.number = .int nI) (g2 : E.before = bf) : Y4 fun du s c T' => C3 ((Od 20 379).exs laS [stAt laB 22] (LE.rho E) (mk m y T) = .ok (.next, LE.rho { E with due := du, sides := s, called := c }) (mk m y T')) (SeenAt T' du (offI nI A) (offI nI B) (asV (keepN nI l)) (zeroI nI ci) (zeroI nI co) T.length) (T.length + 4 ≤ T'.length) := by
  obtain ⟨i, j, p, q, rfl, h1, h3, h4, h5, _⟩ := hs
  obtain ⟨ki, sh, wo, ha, nu, op, fi, ro, oi, la, fl, be, to, du, si, ca, lo'⟩ := E
  subst g1; subst g2
  have e1 := sides22 (m := m) (y := y) (nI := nI) (n := 273) h4 h1 h3 hA hB
  have e2 := called22 (m := m) (y := y) (E := ⟨ki, sh, wo, ha, .int nI, op, fi, ro, oi, la, fl, .none, to, du, .ref (T.length + 32), ca, lo'⟩) (nI := nI) (ci := ci) (co := co) (x := .ref (i + 32)) h2 (app_get (U := [.list [.ref (T.length + 1 + 32), .ref (T.length + 2 + 32)], .list ((offI nI A).map .int), .list ((offI nI B).map .int)]) h5)
  refine ⟨.tup [.ref (T.length + 32), .ref ((T ++ [VO.list [.ref (T.length + 1 + 32), .ref (T.length + 2 + 32)], .list ((offI nI A).map .int), .list ((offI nI B).map .int)]).length + 32), .int (zeroI nI ci), .int (zeroI nI co)], .ref (T.length + 32), .ref ((T ++ [VO.list [.ref (T.length + 1 + 32), .ref (T.length + 2 + 32)], .list ((offI nI A).map .int), .list ((offI nI B).map .int)]).length + 32), T ++ [VO.list [.ref (T.length + 1 + 32), .ref (T.length + 2 + 32)], .list ((offI nI A).map .int), .list ((offI nI B).map .int)] ++ [.sdict (asV (keepN nI l))], ?_, ⟨T.length, T.length + 3, T.length + 1, T.length + 2, by simp, ?_, ?_, ?_, ?_, fun k hk => by simp only [List.mem_cons, List.not_mem_nil, or_false] at hk; lia⟩, by simp⟩
  · unfold zeroI
    cases c1 : decide (ci = nI) <;> cases c2 : decide (co = nI) <;> exact walkE (k := 0) (fs := [(.Q (congrArg some (decide_eq_true hn)), 1), (.O h4, 0), (.U e1, 0), (.R e2, 0), (.Q (congrArg some c1), 0), (.Q (congrArg some c2), 9)]) (by kernel_rfl)
  · simp
  · simp
  · simp
  · simp
end
end Mine
end
section
set_option backward.match.sparseCases false
namespace Mine
section
variable {m m1 m2 : MS} {y z : Sy} {T T1 T2 : List VO} {E : LE} {nI : Int} {q : Nat} {bf to : VV} {hd row : List VV}
theorem st18 (e1 : callD G noSpec 20 810 [.ref 9] (mk m y T) = .ok bf (mk m1 y T1)) (e2 : callD G noSpec 20 803 [.ref 20, .tup hd, .tup row] (mk m1 y T1) = .ok to (mk m2 z T2)) (g1 : E.handle = .tup hd) (g2 : E.row = .tup row) : (Od 20 383).exs laS ((laB.drop 18).take 2) (LE.rho E) (mk m y T) = .ok (.next, LE.rho { E with before := bf, told := to }) (mk m2 z T2) := by
  induction E
  subst g1; subst g2
  exact walkE (k := 0) (fs := [(.R e1, 0), (.R e2, 9)]) (by kernel_rfl)
theorem st20_ok (hq : T[q]? = some (.list [])) (g1 : E.flaws = .ref (q + 32)) {xs : List VV} (g2 : E.before = .tup xs) : (Od 20 381).exs laS ((laB.drop 20).take 2) (LE.rho E) (mk m y T) = .ok (.next, LE.rho { E with due := E.before }) (mk m y (T ++ [.list []])) := by
  induction E
  subst g1; subst g2
  have n0 := nil_ne (m := m) (y := y) (app_get (U := [VO.list []]) hq) (last_get T (.list [])) (Nat.ne_of_lt (List.getElem?_eq_some_iff.mp hq).1)
  exact walkE (k := 0) (fs := [(.Q n0, 9)]) (by kernel_rfl)
theorem st22_zero (hn : ¬ 0 < nI) (g1 : E.number = .int nI) : (Od 20 379).exs laS [stAt laB 22] (LE.rho E) (mk m y T) = .ok (.next, LE.rho E) (mk m y T) := by
  induction E
  subst g1
  exact walkE (k := 0) (fs := [(.Q (congrArg some (decide_eq_false hn)), 9)]) (by kernel_rfl)
end
end Mine
end
section
set_option backward.match.sparseCases false
namespace Mine
structure DueF (ins outs : List (Int × VV)) (al : VO) (ci co : Int) (T : List VO) (du : VV) : Prop where
  ex : Y2 fun l lo => C4 (dictS al = some (asV l)) (twoK l) (SeenAt T du (sortI (ins.map (·.1))) (sortI (outs.map (·.1))) (asV l) ci co lo) (lo + 4 ≤ T.length)
  i : ins.length < 64
  o : outs.length < 64
noncomputable abbrev DueAt (m : MS) (T : List VO) (du : VV) : Prop := DueF m.ins m.outs m.al m.ci m.co T du
theorem DueF.pre {i o al ci co T U du} (D : DueF i o al ci co T du) : DueF i o al ci co (T ++ U) du := by
  obtain ⟨l, lo, h1, h2, h3, h4⟩ := D.ex
  exact ⟨⟨l, lo, h1, h2, h3.pre, Nat.le_trans h4 (List.length_append ▸ Nat.le_add_right _ _)⟩, D.i, D.o⟩
section
variable {m : MS} {y : Sy} {T : List VO} {E : LE} {du : VV}
theorem due_seen (D : DueAt m T du) : Y3 fun xs ys U => C3 (du = .tup ys) (callD G noSpec 20 810 [.ref 9] (mk m y T) = .ok (.tup xs) (mk m y (T ++ U))) (eqW (mk m y (T ++ U)) (.tup xs) du = some true) := by
  obtain ⟨l, lo, h1, h2, h3, h4⟩ := D.ex
  obtain ⟨v, U, e1, s1, _⟩ := seen_run (y := y) (T := T) (d := 19) h1 h2.ok D.i D.o
  have e2 := seen_eq (m := m) (y := y) s1 h3.pre (.inr h4) h2
  obtain ⟨_, _, _, _, rfl, _, _, _, _, _⟩ := s1
  obtain ⟨_, _, _, _, rfl, _, _, _, _, _⟩ := h3
  exact ⟨_, _, U, rfl, e1, e2⟩
theorem fin28 (D : DueAt m T du) (g : E.due = du) : ∃ U, (Od 20 373).exs laS (laB.drop 28) (LE.rho E) (mk m y T) = .ok (.ret (.bool true), LE.rho E) (mk m y (T ++ U)) := by
  obtain ⟨xs, ys, U, rfl, e1, e2⟩ := due_seen (y := y) D
  induction E
  subst g
  exact ⟨U, walkE (k := 0) (fs := [(.R e1, 0), (.Q e2, 9)]) (by kernel_rfl)⟩
theorem st26 {nI : Int} {hd : List VV} (hs : Rm 10 y) (g1 : E.handle = .tup hd) (g2 : E.number = .int nI) (ht : ∀ L z, IsErr z "existence_error" "stream" (.tup hd) L → Ext 5 y z → (nI = 0 ∧ E.told = .str "closed") ∨ (nI ≠ 0 ∧ E.told = ballOf L ∧ trv 20 L = true)) : Y2 fun lo z => (Od 20 375).exs laS ((laB.drop 26).take 2) (LE.rho E) (mk m y T) = .ok (.next, LE.rho { E with lost := lo }) (mk m z T) := by
  obtain ⟨ff, x, z, e1, p1, hx, hf⟩ := funcM (d := 18) m T "existence_error" 2 (hs.le (by decide))
  obtain ⟨kk, z2, e2, p2, hk⟩ := atomM (d := 19) m T "stream" (hs.ext p1 (c'' := 8) (by decide)).t
  have hto := ht (.tup [.str "s", .int (Int.ofNat ff), .tup [.tup [.str "a", .int (Int.ofNat kk)], .tup hd]]) z2 ⟨ff, x, kk, rfl, p2.at hx, p2.fa hf, hk⟩ ((p1.trans p2).le (by decide))
  refine ⟨.tup [.str "s", .int (Int.ofNat ff), .tup [.tup [.str "a", .int (Int.ofNat kk)], .tup hd]], z2, ?_⟩
  induction E
  subst g1; subst g2
  rcases hto with ⟨h0, g3⟩ | ⟨h0, g3, tL⟩
  · subst g3
    exact walkE (k := 1) (fs := [(.R e1, 1), (.R e2, 0), (.Q (congrArg some (decide_eq_true h0)), 9)]) (by kernel_rfl)
  · subst g3
    have b0 : cmpV (mk m z2 T) .NotEq _ _ = some false := congrArg (Option.map (!·)) (ball_eq (σ := mk m z2 T) tL)
    exact walkE (k := 1) (fs := [(.R e1, 1), (.R e2, 0), (.Q (congrArg some (decide_eq_false h0)), 0), (.Q b0, 9)]) (by kernel_rfl)
end
end Mine
end
section
set_option backward.match.sparseCases false
namespace Mine
theorem exs_seq {d k n : Nat} {sc : Scope} {a b c : List XS} {ρ ρ' : VE} {σ τ : VH} (h : (Od d k).exs sc a ρ σ = .ok (.next, ρ') τ) (hc : c = a ++ b) (hk : k = n + 1 + a.length) : (Od d k).exs sc c ρ σ = (Od d (n + 1)).exs sc b ρ' τ := by
  subst hc hk
  exact exs_app a n ρ σ h
noncomputable abbrev numH (f : Nat) (nI : Int) : VV := .tup [.str "s", .int (Int.ofNat f), .tup [.tup [.str "i", .int nI]]]
section
variable {m m' : MS} {y u : Sy} {T T' : List VO} {E : LE} {to du : VV} {nI : Int} {f : Nat}
theorem st23 {xs ys : List VV} {U : List VO} (e1 : callD G noSpec 20 810 [.ref 9] (mk m y T) = .ok (.tup xs) (mk m y (T ++ U))) (e2 : eqW (mk m y (T ++ U)) (.tup xs) (.tup ys) = some true) (g1 : E.told = .str "closed") (g2 : E.due = .tup ys) (g3 : E.shape = .int (Int.ofNat f)) (g4 : E.number = .int nI) (e3 : callD G noSpec 20 803 [.ref 20, numH f nI, .tup [.str "a", .int 0]] (mk m y (T ++ U)) = .ok to (mk m' u T')) : (Od 20 378).exs laS ((laB.drop 23).take 3) (LE.rho E) (mk m y T) = .ok (.next, LE.rho { E with handle := numH f nI, told := to }) (mk m' u T') := by
  induction E
  subst g1; subst g2; subst g3; subst g4
  have q0 : cmpV (mk m y (T ++ U)) .NotEq (.tup xs) (.tup ys) = some false := congrArg (Option.map (!·)) e2
  exact walkE (k := 1) (fs := [(.R e1, 0), (.Q q0, 0), (.R e3, 9)]) (by kernel_rfl)
theorem fin26 {hd : List VV} (D : DueAt m T du) (hs : Rm 10 y) (g0 : E.due = du) (g1 : E.handle = .tup hd) (g2 : E.number = .int nI) (ht : ∀ L z, IsErr z "existence_error" "stream" (.tup hd) L → Ext 5 y z → (nI = 0 ∧ E.told = .str "closed") ∨ (nI ≠ 0 ∧ E.told = ballOf L ∧ trv 20 L = true)) : Y2 fun ρ τ => (Od 20 375).exs laS (laB.drop 26) (LE.rho E) (mk m y T) = .ok (.ret (.bool true), ρ) τ := by
  obtain ⟨lo, z, e1⟩ := st26 (m := m) (T := T) hs g1 g2 ht
  obtain ⟨U, e2⟩ := fin28 (y := z) (E := { E with lost := lo }) D g0
  exact ⟨_, _, (exs_seq (n := 372) (b := laB.drop 28) e1 (by kernel_rfl) (by kernel_rfl)).trans e2⟩
theorem fin23 (D : DueAt m T du) (B : Base y) (hs : Rm 100 y) (sh : ∃ x, C3 (f ≠ 0) (y.fn[f]? = some (x, 1)) (y.tx[x]? = some ("$stream" : Str))) (hhp : m.hp.length ≤ 1000) (hxs : (∃ x, m.xs = [x]) ∨ Y3 fun x a b => m.xs = [x, a, b]) (hn : (nI = 0 ∧ ((assocGet nI m.ins).isSome || (assocGet nI m.outs).isSome) = true) ∨ (0 < nI ∧ ((assocGet nI m.ins).isSome || (assocGet nI m.outs).isSome) = false)) (g1 : E.told = .str "closed") (g2 : E.due = du) (g3 : E.shape = .int (Int.ofNat f)) (g4 : E.number = .int nI) : Y2 fun ρ τ => (Od 20 378).exs laS (laB.drop 23) (LE.rho E) (mk m y T) = .ok (.ret (.bool true), ρ) τ := by
  obtain ⟨xs, ys, U, rfl, e1, e2⟩ := due_seen (y := y) D
  obtain ⟨x, h0, h1, h2⟩ := sh
  have H : HK y m (numH f nI) (if (assocGet nI m.ins).isSome || (assocGet nI m.outs).isSome then nI else -1) := .num f x nI h0 h1 h2
  obtain ⟨l, lo, d1, d2, _, _⟩ := D.ex
  have o1 : okLen m.ins.length = true := okLen_iff.mpr (by have := D.i; lia)
  have o2 : okLen m.outs.length = true := okLen_iff.mpr (by have := D.o; lia)
  rcases hn with ⟨rfl, hb⟩ | ⟨hpos, hb⟩
  · rw [hb, if_pos rfl] at H
    obtain ⟨m1, m', u, V, e3, px, ⟨hp, xs', rfl, _, _⟩, hS⟩ := done_ok (T := T ++ U) (d := 9) (os := []) (e := .con 0) H (hs.le (by decide)) B.nt B.nf (fun _ h => nomatch h) (Nat.le_trans hhp (by decide)) (Nat.zero_le _) hxs ⟨Int.le_refl _, rfl, fun _ h => nomatch h⟩ o1 o2 d2 d1
    have hm : m' = m.A hp xs' := hS.elim (fun h => h.2) fun h => (h.1 rfl).elim
    subst hm
    have s1 := st23 (E := E) e1 e2 g1 g2 g3 g4 e3
    obtain ⟨ρ, τ, e4⟩ := fin26 (m := m.A hp xs') (E := { E with handle := numH f 0, told := .str "closed" }) (D.pre (U := U)).pre (hs.ext px (c'' := 10) (by decide)) g2 rfl g4 (fun L z _ _ => .inl ⟨rfl, rfl⟩)
    exact ⟨ρ, τ, (exs_seq (n := 374) (b := laB.drop 26) s1 (by kernel_rfl) (by kernel_rfl)).trans e4⟩
  · rw [hb, if_neg (by decide)] at H
    obtain ⟨m1, z, V, F, e3, pz, ⟨hp, xs', rfl, _, _⟩, told⟩ := done_err (T := T ++ U) (d := 9) (os := []) (e := .con 0) H (by decide) (hs.le (by decide)) B.nt B.nf (fun _ h => nomatch h) (Nat.le_trans hhp (by decide)) (Nat.zero_le _) hxs (fun A => absurd A.h0 (by decide))
    have hF : IsErr z "existence_error" "stream" (numH f nI) F := told.elim (fun h => h.2) fun h => absurd h.1 (by decide)
    have Bz := B.ext pz
    have s1 := st23 (E := E) e1 e2 g1 g2 g3 g4 e3
    obtain ⟨ρ, τ, e4⟩ := fin26 (m := m.A hp xs') (E := { E with handle := numH f nI, told := ballOf F }) (D.pre (U := U)).pre (hs.ext pz (c'' := 10) (by decide)) g2 rfl g4 (fun L z' hL pz' => by
      have Bz' := Bz.ext pz'
      cases (hF.ext pz').one Bz'.nt Bz'.nf hL
      exact .inr ⟨Int.ne_of_gt hpos, rfl, t_err (n := 16) hL (tr_up (t_hk H) (by decide))⟩)
    exact ⟨ρ, τ, (exs_seq (n := 374) (b := laB.drop 26) s1 (by kernel_rfl) (by kernel_rfl)).trans e4⟩
end
end Mine
end
section
set_option backward.match.sparseCases false
namespace Mine
section
variable {m : MS} {y : Sy} {T : List VO} {E : LE} {p : Nat} {nI : Int} {os : List Op} {e : En} {h : VV} {f : Nat} {l : List (Str × Int)}
theorem HKf.ext {c y z al i o h n} (H : HKf y al i o h n) (p : Ext c y z) : HKf z al i o h n := by
  induction H with
  | al w t as n h1 h2 h3 h4 h5 => exact .al w t as n (p.at h1) h2 h3 h4 h5
  | num f x zz h0 h1 h2 => exact .num f x zz h0 (p.fa h1) (p.at h2)
theorem StBf.ext {r r' c y z nn i o al hp xs f h nI l} (S : StBf r y nn i o al hp xs f h nI l) (p : Ext c y z) (hr : c + r' ≤ r) : StBf r' z nn i o al hp xs f h nI l := by
  obtain ⟨x, h0, h1, h2⟩ := S.sh
  exact ⟨⟨x, h0, p.fa h1, p.at h2⟩, S.hk.ext p, S.n1, S.fl, S.hp, S.xs, S.ba.ext p, S.rm.ext p hr⟩
theorem get_none {V : Type} {n : Int} {l : List (Int × V)} (h : n ∉ l.map (·.1)) : (assocGet n l).isSome = false := by
  induction l with
  | nil => rfl
  | cons e r ih =>
    have e1 : assocGet n (e :: r) = if e.1 = n then some e.2 else assocGet n r := rfl
    rw [e1, if_neg (fun q : e.1 = n => h (List.mem_cons.mpr (.inl q.symm)))]
    exact ih fun q => h (.tail _ q)
theorem del_keys {V : Type} {n : Int} {l : List (Int × V)} (h : (l.map (·.1)).Nodup) : (assocDel n l).map (·.1) = offI n (l.map (·.1)) := by
  induction l with
  | nil => rfl
  | cons e r ih =>
    have h' := List.nodup_cons.mp h
    have e1 : assocDel n (e :: r) = if e.1 = n then r else e :: assocDel n r := rfl
    unfold offI
    by_cases q : e.1 = n
    · rw [e1, if_pos q, List.map_cons, List.filter_cons_of_neg (by simp [q]), List.filter_eq_self.mpr]
      exact fun z hz => decide_eq_true fun e2 => h'.1 (show e.1 ∈ _ from (e2.trans q.symm : z = e.1) ▸ hz)
    · rw [e1, if_neg q, List.map_cons, List.map_cons, List.filter_cons_of_pos (p := fun z => decide (z ≠ n)) (decide_eq_true q), ih h'.2]; rfl
theorem del_none2 {V : Type} {n : Int} {l : List (Int × V)} (h : (l.map (·.1)).Nodup) : (assocGet n (assocDel n l)).isSome = false := get_none (by rw [del_keys h, offI]; simp)
theorem del_len {V : Type} {n : Int} {l : List (Int × V)} (h : (l.map (·.1)).Nodup) : (assocDel n l).length ≤ l.length := by
  have e := congrArg List.length (del_keys (n := n) h)
  rw [List.length_map] at e
  rw [e]
  exact Nat.le_trans (List.length_filter_le _ _) (Nat.le_of_eq (List.length_map _))
theorem len_ins {x : Int} {l : List Int} : (insI x l).length = l.length + 1 := by
  induction l with
  | nil => rfl
  | cons y r ih =>
    rw [ins_cons]
    by_cases q : x ≤ y
    · rw [if_pos q]; rfl
    · rw [if_neg q, List.length_cons, ih]; rfl
theorem len_sort {l : List Int} : (sortI l).length = l.length := by
  induction l with
  | nil => rfl
  | cons x r ih => exact len_ins.trans (congrArg (· + 1) ih)
end
end Mine
end
section
set_option backward.match.sparseCases false
namespace Mine
section
variable {m : MS} {y : Sy} {T : List VO} {E : LE} {q : Nat} {nI : Int} {os : List Op} {e : En} {h : VV} {f : Nat} {l : List (Str × Int)} {FL : List VV}
theorem stD_run (S : StB 700 y m f h nI l) (kd : ∀ o ∈ os, Kd y o) (hos : os.length ≤ 3) (hq : T[q]? = some (.list FL)) (hfl : FL.length ≤ 10) (W : Wants y nI h (restI os e).val os e FL) (g1 : E.handle = h) (g2 : E.row = (restI os e).val) (g3 : E.flaws = .ref (q + 32)) (g4 : E.number = .int nI) (g5 : E.shape = .int (Int.ofNat f)) : Y2 fun ρ τ => (Od 20 383).exs laS (laB.drop 18) (LE.rho E) (mk m y T) = .ok (.ret (.bool true), ρ) τ := by
  obtain ⟨ks, kk, F, hk6⟩ := S.fl
  have h2 := F.ew.two
  have hi1 : m.ins.length < 64 := Nat.lt_of_le_of_lt (Nat.le_trans F.il hk6) (by decide)
  have ho1 : m.outs.length < 64 := Nat.lt_of_le_of_lt (Nat.le_trans F.ol hk6) (by decide)
  have o1 : okLen m.ins.length = true := okLen_iff.mpr (by lia)
  have o2 : okLen m.outs.length = true := okLen_iff.mpr (by lia)
  have hh : m.hp.length = 0 := by rw [S.hp]; rfl
  have hh5 : m.hp.length ≤ 50000 := by rw [hh]; decide
  obtain ⟨bf, U, e1, s1, hU⟩ := seen_run (y := y) (T := T) (d := 19) F.al h2.ok hi1 ho1
  obtain ⟨xs, rfl⟩ : ∃ xs, bf = .tup xs := by obtain ⟨_, _, _, _, e, _⟩ := s1; exact ⟨_, e⟩
  have D0 : DueAt m (T ++ U) (.tup xs) := ⟨⟨l, _, F.al, h2, s1, hU⟩, hi1, ho1⟩
  obtain ⟨hd, rfl⟩ := S.hk.tup
  obtain ⟨row, er⟩ := rest_tup os e
  have hx : (∃ x, m.xs = [x]) ∨ Y3 fun x a b => m.xs = [x, a, b] := .inl ⟨_, S.xs⟩
  rcases W with ⟨rfl, A⟩ | ⟨Fl, r, rfl, told, nA⟩
  · obtain ⟨m1, m', u, V, e2, pu, ⟨hp, xs', rfl, hx3, hpl⟩, hS⟩ := done_ok (T := T ++ U) (d := 9) S.hk (S.rm.le (by decide)) S.ba.nt S.ba.nf kd hh5 (by exact Nat.le_trans (by assumption) (by decide)) hx A o1 o2 h2 F.al
    have Bu := S.ba.ext pu
    have Ru : Rm 100 u := S.rm.ext pu (by decide)
    have shu : ∃ x, C3 (f ≠ 0) (u.fn[f]? = some (x, 1)) (u.tx[x]? = some ("$stream" : Str)) := by
      obtain ⟨x, a, b, c⟩ := S.sh
      exact ⟨x, a, pu.fa b, pu.at c⟩
    rw [er] at e2 g2
    have s18 := st18 (E := E) e1 e2 g1 g2
    have s20 := st20_ok (m := m') (y := u) (T := T ++ U ++ V) (E := { E with before := .tup xs, told := .str "closed" }) (app_get (app_get hq)) g3 rfl
    have s21 := (exs_seq (c := laB.drop 18) (n := 380) (b := laB.drop 20) s18 (by kernel_rfl) (by kernel_rfl)).trans (exs_seq (c := laB.drop 20) (n := 378) (b := laB.drop 22) s20 (by kernel_rfl) (by kernel_rfl))
    have hpl' : hp.length ≤ 1000 := by lia
    rcases hS with ⟨hz, rfl⟩ | ⟨hz, al, rfl, hal⟩
    · have D3 : DueAt (m.A hp xs') (T ++ U ++ V ++ [.list []]) (.tup xs) := (D0.pre (U := V)).pre
      have s22 := st22_zero (m := m.A hp xs') (y := u) (T := T ++ U ++ V ++ [.list []]) (E := { E with before := .tup xs, told := .str "closed", due := .tup xs }) (by lia) g4
      have hb : ((assocGet nI m.ins).isSome || (assocGet nI m.outs).isSome) = true := (F.both nI).trans (decide_eq_true ⟨by lia, by have := F.k1; simp only [Int.ofNat_eq_natCast]; lia⟩)
      obtain ⟨ρ, τ, s23⟩ := fin23 (m := m.A hp xs') (E := { E with before := .tup xs, told := .str "closed", due := .tup xs }) D3 Bu Ru shu hpl' (.inr hx3) (.inl ⟨hz, hb⟩) rfl rfl g5 g4
      exact ⟨ρ, τ, s21.trans ((exs_seq (c := laB.drop 22) (n := 377) (b := laB.drop 23) s22 (by kernel_rfl) (by kernel_rfl)).trans s23)⟩
    · have hpos : 0 < nI := by have := A.h0; lia
      obtain ⟨du, sd, ca, T', s22, s4, hT'⟩ := st22_pos (m := shut (m.A hp xs') nI al) (y := u) (T := T ++ U ++ V ++ [.list []]) (E := { E with before := .tup xs, told := .str "closed", due := .tup xs }) hpos (s1.pre (U := V)).pre h2 (by rw [len_sort, List.length_map]; exact Nat.le_of_lt (by assumption)) (by rw [len_sort, List.length_map]; exact Nat.le_of_lt (by assumption)) g4 rfl
      have D3 : DueAt (shut (m.A hp xs') nI al) T' du := ⟨⟨keepN nI l, _, hal, h2.keep, (by
        show SeenAt T' du (sortI ((assocDel nI m.ins).map (·.1))) (sortI ((assocDel nI m.outs).map (·.1))) (asV (keepN nI l)) (zeroI nI m.ci) (zeroI nI m.co) _
        rw [sort_del F.ind, sort_del F.outd]
        exact s4), hT'⟩, Nat.lt_of_le_of_lt (del_len F.ind) hi1, Nat.lt_of_le_of_lt (del_len F.outd) ho1⟩
      have hb : ((assocGet nI (assocDel nI m.ins)).isSome || (assocGet nI (assocDel nI m.outs)).isSome) = false := by
        rw [del_none2 F.ind, del_none2 F.outd]; rfl
      obtain ⟨ρ, τ, s23⟩ := fin23 (m := shut (m.A hp xs') nI al) (E := { E with before := .tup xs, told := .str "closed", due := du, sides := sd, called := ca }) D3 Bu Ru shu hpl' (.inr hx3) (.inr ⟨hpos, hb⟩) rfl rfl g5 g4
      exact ⟨ρ, τ, s21.trans ((exs_seq (c := laB.drop 22) (n := 377) (b := laB.drop 23) s22 (by kernel_rfl) (by kernel_rfl)).trans s23)⟩
  · obtain ⟨m1, z, V, F', e2, pz, ⟨hp, xs', rfl, _, _⟩, told'⟩ := done_err (T := T ++ U) (d := 9) S.hk S.n1 (S.rm.le (by decide)) S.ba.nt S.ba.nf kd hh5 (by exact Nat.le_trans (by assumption) (by decide)) hx nA
    have Bz := S.ba.ext pz
    cases (told.to pz pz).one Bz.nt Bz.nf (told'.to pz (Ext.refl z))
    have tR := tr_up (m := 18) (t_row e os) (by lia)
    have tF := t_told (tr_up (t_hk S.hk) (by decide)) tR told
    rw [er] at e2 g2
    have s18 := st18 (E := E) e1 e2 g1 g2
    obtain ⟨U', s20⟩ := st20_err (m := m.A hp xs') (y := z) (T := T ++ U ++ V) (E := { E with before := .tup xs, told := ballOf Fl }) (app_get (app_get hq)) (by simp at hfl; exact Nat.le_trans (by assumption) (by decide)) tF F.al h2 h2.ok hi1 ho1 s1.pre (Nat.le_trans hU (by simp)) g3 rfl rfl
    exact ⟨_, _, (exs_seq (n := 380) (b := laB.drop 20) s18 (by kernel_rfl) (by kernel_rfl)).trans s20⟩
end
end Mine
end
section
set_option backward.match.sparseCases false
namespace Mine
section
variable {m : MS} {y : Sy} {T : List VO} {E : LE} {p : Nat} {nI : Int} {os : List Op} {e : En} {h : VV} {f : Nat} {l : List (Str × Int)}
theorem stC_run (S : StB 800 y m f h nI l) (hT : T[p]? = some (.list (os.map opV))) (kd : ∀ o ∈ os, Kd y o) (hos : os.length ≤ 3) (hE : EndOK e) (g1 : E.handle = h) (g2 : E.number = .int nI) (g3 : E.fin = (restI [] e).val) (g4 : E.row = (restI os e).val) (g5 : E.options = .ref (p + 32)) :
    Y5 fun FL y' T' la q => And ((Od 20 390).exs laS (laB.drop 11) (LE.rho E) (mk m y T) = (Od 20 383).exs laS (laB.drop 18) (LE.rho { E with lacks := la, flaws := .ref (q + 32) }) (mk m y' T')) (And (StB 700 y' m f h nI l) (C4 (∀ o ∈ os, Kd y' o) (T'[q]? = some (.list FL)) (FL.length ≤ 10) (Wants y' nI h (restI os e).val os e FL))) := by
  obtain ⟨hd, rfl⟩ := S.hk.tup
  obtain ⟨row, er⟩ := rest_tup os e
  obtain ⟨x, z1, e1, hla, p1⟩ := st11 (m := m) (T := T) (E := E) S.rm.t
  have r1 : Rm 790 z1 := S.rm.ext p1 (by decide)
  let E1 : LE := { E with lacks := .tup [.str "a", .int (Int.ofNat x)], flaws := .ref (T.length + 32) }
  obtain ⟨l1, z2, e2, h1, p2, n1⟩ := st13 (m := m) (E := E1) (r1.le (by decide)) (last_get T (.list [])) (Nat.zero_le _) g2 g1 rfl
  have r2 : Rm 780 z2 := r1.ext p2 (by decide)
  rw [List.nil_append, last_set] at e2
  obtain ⟨l2, z3, e3, h2, p3, n2⟩ := st14 (m := m) (E := E1) hE (r2.le (by decide)) (last_get T (.list l1)) (by exact Nat.le_trans (by assumption) (by decide)) g3 (g4.trans er) rfl rfl
  have r3 : Rm 770 z3 := r2.ext p3 (by decide)
  rw [last_set] at e3
  have n12 : (l1 ++ l2).length ≤ 2 := by rw [List.length_append]; lia
  have e4 := st15 (m := m) (y := z3) (E := E1) (app_get (U := [.list (l1 ++ l2)]) hT) (last_get T (.list (l1 ++ l2))) (Nat.le_trans n12 (by decide)) g5 rfl rfl
  rw [last_set] at e4
  have p123 := (p1.trans p2).trans p3
  have n3 : (l1 ++ l2 ++ Fl3 os (.tup [.str "a", .int (Int.ofNat x)])).length ≤ 3 := by
    rw [List.length_append]
    exact Nat.add_le_add n12 Fl3.len
  obtain ⟨l4, z5, T5, e5, hq5, h4, p5⟩ := st16 (m := m) (E := E1) (app_get (U := [.list (l1 ++ l2 ++ Fl3 os (.tup [.str "a", .int (Int.ofNat x)]))]) hT) hos (fun o ho => (kd o ho).ext p123) (r3.le (by decide)) (last_get T _) (Nat.le_trans n3 (by decide)) g5 rfl
  have n4 : (l1 ++ l2 ++ Fl3 os (.tup [.str "a", .int (Int.ofNat x)]) ++ l4).length ≤ 6 := by
    rw [List.length_append, h4.len]
    exact Nat.add_le_add n3 hos
  have hla5 := ((hla.ext p2).ext p3).ext p5
  have w1 := (h1.ext p3).ext p5
  have w2 := h2.ext p5
  have hk : ∀ F ∈ l1 ++ l2 ++ Fl3 os (.tup [.str "a", .int (Int.ofNat x)]) ++ l4, FlK z5 F := fun F hF => by
    rcases List.mem_append.mp hF with hF | hF
    · rcases List.mem_append.mp hF with hF | hF
      · rcases List.mem_append.mp hF with hF | hF
        · exact w1.kind F hF
        · exact w2.kind hla5 F hF
      · exact Fl3.kind hla5 F hF
    · exact h4.kind F hF
  obtain ⟨T6, e6, hq6⟩ := st17 (m := m) (E := E1) hk hq5 (Nat.le_trans n4 (by decide)) rfl
  have pa := p123.trans p5
  refine ⟨_, z5, T6, .tup [.str "a", .int (Int.ofNat x)], T5.length, ?_, S.ext pa (by decide), fun o ho => (kd o ho).ext pa, hq6, Nat.le_trans (List.length_filter_le _ _) (Nat.le_trans n4 (by decide)), er ▸ wants_of (S.ba.ext pa) hla5 w1 w2 h4⟩
  exact (exs_seq (n := 387) (b := laB.drop 13) e1 (by kernel_rfl) (by kernel_rfl)).trans <|
    (exs_seq (n := 386) (b := laB.drop 14) e2 (by kernel_rfl) (by kernel_rfl)).trans <|
    (exs_seq (n := 385) (b := laB.drop 15) e3 (by kernel_rfl) (by kernel_rfl)).trans <|
    (exs_seq (n := 384) (b := laB.drop 16) e4 (by kernel_rfl) (by kernel_rfl)).trans <|
    (exs_seq (n := 383) (b := laB.drop 17) e5 (by kernel_rfl) (by kernel_rfl)).trans <|
    exs_seq (n := 382) (b := laB.drop 18) e6 (by kernel_rfl) (by kernel_rfl)
theorem law_true (xs : List Int) (hlen : xs.length ≤ 63) : Y2 fun ρ' σ' => (Od 20 400).exs laS (laB.drop 1) (assocSet "pool" (.ref 1) (junks f_law)) [.list ((xs.take 63).map .int), .list [.ref 0, .int 0, .int (-1), .int 0]] = .ok (.ret (.bool true), ρ') σ' := by
  have P : PoolOK (m0 ((xs.take 63).map .int)) := ⟨⟨xs.take 63, rfl, by rw [List.length_take]; lia⟩, Int.le_refl _, Int.le_refl _, Int.le_refl _⟩
  have e0 := law_new ((xs.take 63).map .int)
  obtain ⟨E1, m1, y1, T1, l, f, h, nI, e1, S1, P1, w, rfl⟩ := stA_run _ P
  obtain ⟨os, a, b, c, y2, T2, e2, hT2, hos, kd2, p2, P2⟩ := st7_run (T := T1) (E := { kinds := .ref 32, shape := .int (Int.ofNat f), word := w, handle := h, number := .int nI }) P1 S1.ba (S1.rm.le (by decide))
  obtain ⟨en, a', b', c', y3, U3, ⟨o, e3⟩, hE, p3, P3⟩ := st8_run (E := { kinds := .ref 32, shape := .int (Int.ofNat f), word := w, handle := h, number := .int nI }) P2 (S1.ba.ext p2) (S1.rm.ext p2 (by decide)) hT2 hos
  have S3 : StB 800 y3 (setP (setP m1 a b c) a' b' c') f h nI l := S1.ext (p2.trans p3) (by decide)
  obtain ⟨FL, y4, T4, la, q, e4, S4, kd4, hq, hfl, W⟩ := stC_run (E := { kinds := .ref 32, shape := .int (Int.ofNat f), word := w, handle := h, number := .int nI, options := .ref (T1.length + 32), fin := (restI [] en).val, row := (restI os en).val, option := o }) S3 (app_get (U := U3) hT2) (fun o ho => (kd2 o ho).ext p3) hos hE rfl rfl rfl rfl rfl
  obtain ⟨ρ, τ, e5⟩ := stD_run (E := { kinds := .ref 32, shape := .int (Int.ofNat f), word := w, handle := h, number := .int nI, options := .ref (T1.length + 32), fin := (restI [] en).val, row := (restI os en).val, option := o, lacks := la, flaws := .ref (q + 32) }) S4 kd4 hos hq hfl W rfl rfl rfl rfl rfl
  exact ⟨ρ, τ, (exs_seq (n := 396) (b := laB.drop 4) e0 (by kernel_rfl) (by kernel_rfl)).trans <|
    (exs_seq (n := 393) (b := laB.drop 7) e1 (by kernel_rfl) (by kernel_rfl)).trans <|
    (exs_seq (n := 392) (b := laB.drop 8) e2 (by kernel_rfl) (by kernel_rfl)).trans <|
    (exs_seq (n := 389) (b := laB.drop 11) e3 (by kernel_rfl) (by kernel_rfl)).trans (e4.trans e5)⟩
end
end Mine
end
section
open PySem PySem.W PySem.Calls PyProof.Rows
set_option maxRecDepth 100000
set_option maxHeartbeats 8000000
namespace Mine
theorem tr.tw8224185590284850942:True:=⟨⟩
theorem tr.tw526004892881645608:True:=⟨⟩
theorem tr.tw5322317232123895221:True:=⟨⟩
theorem tr.tw17910766773823787980:True:=⟨⟩
theorem tr.tw2401492907123330101:True:=⟨⟩
theorem tr.tw17280335931226470047:True:=⟨⟩
theorem tr.tw13358077318063244305:True:=⟨⟩
theorem tr.tw4734840375605416703:True:=⟨⟩
theorem tr.tw11702046762951961855:True:=⟨⟩
theorem tr.tw14388823327258389922:True:=⟨⟩
theorem tr.tw1128337464855924202:True:=⟨⟩
theorem tr.tw18028978069604422031:True:=⟨⟩
theorem tr.tw5969240772516062253:True:=⟨⟩
theorem tr.tw1543201791561759486:True:=⟨⟩
theorem tr.tw575477533971615082:True:=⟨⟩
theorem tr.tw2503594852157437465:True:=⟨⟩
theorem tr.tw2194798776957029225:True:=⟨⟩
theorem tr.tw2441085312579338026:True:=⟨⟩
theorem tr.tw11094579062336798584:True:=⟨⟩
theorem tr.tw9130444675885356262:True:=⟨⟩
theorem tr.tw4005558601953680374:True:=⟨⟩
theorem tr.tw17236010372685758994:True:=⟨⟩
theorem tr.tw8146916153173578353:True:=⟨⟩
theorem tr.tw1328679901154195967:True:=⟨⟩
theorem tr.tw8055613666646799318:True:=⟨⟩
theorem tr.tw4315662254108422907:True:=⟨⟩
theorem tr.tw13465970764141715688:True:=⟨⟩
theorem tr.tw562320193769011118:True:=⟨⟩
theorem tr.tw17447173356670140983:True:=⟨⟩
theorem tr.tw10495509964514878781:True:=⟨⟩
theorem tr.tw5483336889020041711:True:=⟨⟩
theorem tr.tw10032590527400453995:True:=⟨⟩
theorem tr.tw12198929074765086536:True:=⟨⟩
theorem tr.tw16824234607750331557:True:=⟨⟩
theorem tr.tw7079641751368111537:True:=⟨⟩
theorem tr.tw9365138956293084989:True:=⟨⟩
theorem tr.tw12713754196035311701:True:=⟨⟩
theorem tr.tw1808289841522988673:True:=⟨⟩
theorem tr.tw17568812771593705161:True:=⟨⟩
theorem tr.tw11273366913179976924:True:=⟨⟩
theorem tr.tw4088747783946423394:True:=⟨⟩
theorem tr.tw14034254261765406712:True:=⟨⟩
theorem tr.tw16425617017107557472:True:=⟨⟩
theorem tr.tw6228641606083063793:True:=⟨⟩
theorem tr.tw11018659567331218593:True:=⟨⟩
theorem tr.tw18149429426308388429:True:=⟨⟩
theorem tr.tw10403526180810665900:True:=⟨⟩
theorem tr.tw17463448392688052003:True:=⟨⟩
theorem tr.tw6473919389798385720:True:=⟨⟩
theorem tr.tw7223815655250641373:True:=⟨⟩
theorem tr.tw3915870275440955640:True:=⟨⟩
theorem tr.tw3341389899285487983:True:=⟨⟩
theorem tr.tw980130106270203956:True:=⟨⟩
theorem tr.tw8107172966916074757:True:=⟨⟩
theorem tr.tw10146537955695025198:True:=⟨⟩
theorem tr.tw14803857824474478610:True:=⟨⟩
theorem tr.tw4621350590398915526:True:=⟨⟩
theorem tr.tw1139078542437654963:True:=⟨⟩
theorem tr.tw15543038682198244743:True:=⟨⟩
theorem tr.tw4652488129939275245:True:=⟨⟩
theorem tr.tw5526970724921237855:True:=⟨⟩
theorem tr.tw6076903172046989593:True:=⟨⟩
theorem tr.tw5943178977922874619:True:=⟨⟩
theorem tr.tw15251200059662237884:True:=⟨⟩
theorem tr.tw3016613267011374675:True:=⟨⟩
theorem tr.tw4638714180903206493:True:=⟨⟩
theorem tr.tw11749988687855801157:True:=⟨⟩
theorem tr.tw12456922041878431152:True:=⟨⟩
theorem tr.tw5269668411818088161:True:=⟨⟩
theorem tr.tw17251087962504153141:True:=⟨⟩
theorem tr.tw1926691369575818415:True:=⟨⟩
theorem tr.tw7990762527445422193:True:=⟨⟩
theorem tr.tw7097178699172171692:True:=⟨⟩
theorem tr.tw8039568925950917960:True:=⟨⟩
theorem tr.tw751292821678023581:True:=⟨⟩
theorem tr.tw4437992857279477887:True:=⟨⟩
theorem tr.tw7147708297704170592:True:=⟨⟩
theorem tr.tw10294749228085310603:True:=⟨⟩
theorem tr.tw15396392200133793679:True:=⟨⟩
theorem tr.tw2783746800682045330:True:=⟨⟩
theorem tr.tw7026949631713360522:True:=⟨⟩
theorem tr.tw358381020138049107:True:=⟨⟩
theorem tr.tw3039393472751824242:True:=⟨⟩
theorem tr.tw18031810415125722081:True:=⟨⟩
theorem tr.tw9391527958151831876:True:=⟨⟩
theorem tr.tw2066125495238544178:True:=⟨⟩
theorem tr.tw18082819252123590076:True:=⟨⟩
theorem tr.tw15720543332708622941:True:=⟨⟩
theorem tr.tw10033472883166237441:True:=⟨⟩
theorem tr.tw15430638839101309014:True:=⟨⟩
theorem tr.tw15280231631255134064:True:=⟨⟩
theorem tr.tw13882518190382965067:True:=⟨⟩
theorem tr.tw3775179037809711708:True:=⟨⟩
theorem tr.tw13801578807751219567:True:=⟨⟩
theorem tr.tw14507426335029806074:True:=⟨⟩
theorem tr.tw12277330750738210705:True:=⟨⟩
theorem tr.tw13844406670590993640:True:=⟨⟩
theorem tr.tw9299765489596937568:True:=⟨⟩
theorem tr.tw10351748612903234768:True:=⟨⟩
theorem tr.tw8877638815606596824:True:=⟨⟩
theorem tr.tw9974371232625330674:True:=⟨⟩
theorem tr.tw13336010294977430274:True:=⟨⟩
theorem tr.tw11351413273432509667:True:=⟨⟩
theorem tr.tw4994406436919250275:True:=⟨⟩
theorem tr.tw2354904564944703296:True:=⟨⟩
theorem tr.tw13992147258192164939:True:=⟨⟩
theorem tr.tw14475254070967856152:True:=⟨⟩
theorem tr.tw16335759984428249551:True:=⟨⟩
theorem tr.tw16626405259350630801:True:=⟨⟩
theorem tr.tw9645536295847135316:True:=⟨⟩
theorem tr.tw8966496847998230109:True:=⟨⟩
theorem tr.tw2870795831705714164:True:=⟨⟩
theorem tr.tw5042963521702358575:True:=⟨⟩
theorem tr.tw6037669284691571239:True:=⟨⟩
theorem tr.tw1408726448189002762:True:=⟨⟩
theorem tr.tw7284869038726080752:True:=⟨⟩
theorem tr.tw18241956649651350652:True:=⟨⟩
theorem tr.tw12710763572291295102:True:=⟨⟩
theorem tr.tw6412285877104274632:True:=⟨⟩
theorem tr.tw11070147519357697703:True:=⟨⟩
theorem tr.tw9923710642178704812:True:=⟨⟩
theorem tr.tw5894355786590264605:True:=⟨⟩
theorem tr.tw2463052163901713824:True:=⟨⟩
theorem tr.tw11195677038452407250:True:=⟨⟩
theorem tr.tw3768270417756693642:True:=⟨⟩
theorem tr.tw2222490760010368502:True:=⟨⟩
theorem tr.tw17316049793657837243:True:=⟨⟩
theorem tr.tw11153118058692957337:True:=⟨⟩
theorem tr.tw1800090436133354963:True:=⟨⟩
theorem tr.tw8454312958908802758:True:=⟨⟩
theorem tr.tw9149703552065379041:True:=⟨⟩
theorem tr.tw7788293946770955:True:=⟨⟩
theorem tr.tw2516056398649598953:True:=⟨⟩
theorem tr.tw11975207201887381192:True:=⟨⟩
theorem tr.tw5986897119520913386:True:=⟨⟩
theorem tr.tw2870812239195915960:True:=⟨⟩
theorem tr.tw3568082291282163095:True:=⟨⟩
theorem tr.tw7441129616258789893:True:=⟨⟩
theorem tr.tw10374575158941958963:True:=⟨⟩
theorem tr.tw17499156509651929489:True:=⟨⟩
theorem tr.tw6991037708806941664:True:=⟨⟩
theorem tr.tw9376540430325422243:True:=⟨⟩
theorem tr.tw7246753710102940713:True:=⟨⟩
theorem tr.tw9605730857866322003:True:=⟨⟩
theorem tr.tw11589654327792103567:True:=⟨⟩
theorem tr.tw8152495728101654288:True:=⟨⟩
theorem tr.tw9710312035299559639:True:=⟨⟩
theorem tr.tw5987402535817929316:True:=⟨⟩
theorem tr.tw5825936478270295147:True:=⟨⟩
theorem tr.tw9569831631240103163:True:=⟨⟩
theorem tr.tw18089199485061386932:True:=⟨⟩
theorem tr.tw12334147798508632172:True:=⟨⟩
theorem tr.tw6945934618658723812:True:=⟨⟩
theorem tr.tw1477398190182987890:True:=⟨⟩
theorem tr.tw18127311897242187364:True:=⟨⟩
theorem tr.tw6800420506800813516:True:=⟨⟩
theorem tr.tw17008939233680816641:True:=⟨⟩
theorem tr.tw9792375830883477358:True:=⟨⟩
theorem tr.tw569775304182523292:True:=⟨⟩
theorem tr.tw10418477800545623047:True:=⟨⟩
theorem tr.tw8429450553642797086:True:=⟨⟩
theorem tr.tw6960741374968116566:True:=⟨⟩
theorem tr.tw4677645389248698380:True:=⟨⟩
theorem tr.tw14562714528873712559:True:=⟨⟩
theorem tr.tw17219809361885823523:True:=⟨⟩
theorem tr.tw4313382204595755130:True:=⟨⟩
theorem tr.tw11468443120035911997:True:=⟨⟩
theorem tr.tw13394742581069771473:True:=⟨⟩
theorem tr.tw3777373547689027678:True:=⟨⟩
theorem tr.tw7485139027915266545:True:=⟨⟩
theorem tr.tw17156190829603818223:True:=⟨⟩
theorem tr.tw11626192949085220697:True:=⟨⟩
theorem tr.tw15437109704062320396:True:=⟨⟩
theorem tr.tw3795836355639175589:True:=⟨⟩
theorem tr.tw6853760372809360060:True:=⟨⟩
theorem tr.tw6744945663962956079:True:=⟨⟩
theorem tr.tw93845851857334091:True:=⟨⟩
theorem tr.tw17981940501920846515:True:=⟨⟩
theorem tr.tw9302383717568011965:True:=⟨⟩
theorem tr.tw8294688841220570404:True:=⟨⟩
theorem tr.tw12004489490113845978:True:=⟨⟩
theorem tr.tw9832529859915357672:True:=⟨⟩
theorem tr.tw8656805739631818081:True:=⟨⟩
theorem tr.tw2507329674305020228:True:=⟨⟩
theorem tr.tw6569471018720249798:True:=⟨⟩
theorem tr.tw4758212971616722897:True:=⟨⟩
theorem tr.tw10048083749893909176:True:=⟨⟩
theorem tr.tw8820225633188619265:True:=⟨⟩
theorem tr.tw13726886748845449015:True:=⟨⟩
theorem tr.tw182056902699457654:True:=⟨⟩
theorem tr.tw11488116880727455035:True:=⟨⟩
theorem tr.tw18446391444115955101:True:=⟨⟩
theorem tr.tw9343689727298885474:True:=⟨⟩
theorem tr.tw384767406924978736:True:=⟨⟩
theorem tr.tw12563008224252947555:True:=⟨⟩
theorem tr.tw17401802170105397647:True:=⟨⟩
theorem tr.tw11259978052055678983:True:=⟨⟩
theorem tr.tw6521763534642677271:True:=⟨⟩
theorem tr.tw3190121769140928819:True:=⟨⟩
theorem tr.tw1350338326142872458:True:=⟨⟩
theorem tr.tw6763301579345539982:True:=⟨⟩
theorem tr.tw6200989788546517510:True:=⟨⟩
theorem tr.tw14685902589900123608:True:=⟨⟩
theorem tr.tw315829878632686134:True:=⟨⟩
theorem tr.tw6607440121295176630:True:=⟨⟩
theorem tr.tw2784523284589914277:True:=⟨⟩
theorem tr.tw1427483706950545937:True:=⟨⟩
theorem tr.tw6139074237181169651:True:=⟨⟩
theorem tr.tw11309367072983006727:True:=⟨⟩
theorem tr.tw731706812395799018:True:=⟨⟩
theorem tr.tw10314756925950878807:True:=⟨⟩
theorem tr.tw1049260965436155047:True:=⟨⟩
theorem tr.tw4479973227245230941:True:=⟨⟩
theorem tr.tw6135600648633404402:True:=⟨⟩
theorem tr.tw14861212251675431204:True:=⟨⟩
theorem tr.tw14295138367000340276:True:=⟨⟩
theorem tr.tw730704334900443886:True:=⟨⟩
theorem tr.tw5257280684095134938:True:=⟨⟩
theorem tr.tw4093639588705399064:True:=⟨⟩
theorem tr.tw5961856793231615130:True:=⟨⟩
theorem tr.tw7240965258642236656:True:=⟨⟩
theorem tr.tw2481434386158670860:True:=⟨⟩
theorem tr.tw10502364902252364772:True:=⟨⟩
theorem tr.tw14246259231628726239:True:=⟨⟩
theorem tr.tw12262866934818461791:True:=⟨⟩
theorem tr.tw14073552511379348292:True:=⟨⟩
theorem tr.tw1907486350404869683:True:=⟨⟩
theorem tr.tw17320806480374940081:True:=⟨⟩
theorem tr.tw2594993507970095265:True:=⟨⟩
theorem tr.tw1216414867393583929:True:=⟨⟩
theorem tr.tw11945632667476445205:True:=⟨⟩
theorem tr.tw14024839856583234208:True:=⟨⟩
theorem tr.tw908738476963194426:True:=⟨⟩
theorem tr.tw7492557909856067594:True:=⟨⟩
theorem tr.tw10838896406907363614:True:=⟨⟩
theorem tr.tw9072746982494678087:True:=⟨⟩
theorem tr.tw11045113292705515509:True:=⟨⟩
theorem tr.tw13847082344931962697:True:=⟨⟩
theorem tr.tw12856630484258456640:True:=⟨⟩
theorem tr.tw12002997329325337873:True:=⟨⟩
theorem tr.tw14809460335319238095:True:=⟨⟩
theorem tr.tw15030818028947096485:True:=⟨⟩
theorem tr.tw7100040877420569755:True:=⟨⟩
theorem tr.tw14941793189224912039:True:=⟨⟩
theorem tr.tw12773570780478442795:True:=⟨⟩
theorem tr.tw10065468942299167786:True:=⟨⟩
theorem tr.tw1521367284402898030:True:=⟨⟩
theorem tr.tw11098062657561072220:True:=⟨⟩
theorem tr.tw5596741186545170633:True:=⟨⟩
theorem tr.tw15814730407814490501:True:=⟨⟩
theorem tr.tw10395954411362217003:True:=⟨⟩
theorem tr.tw7363477551487217302:True:=⟨⟩
theorem tr.tw895554360527721661:True:=⟨⟩
theorem tr.tw13467036476057279996:True:=⟨⟩
theorem tr.tw7645861241385972457:True:=⟨⟩
theorem tr.tw10134666184232538300:True:=⟨⟩
theorem tr.tw10405127814375723366:True:=⟨⟩
theorem tr.tw2378307246391126355:True:=⟨⟩
theorem tr.tw7681725116968858519:True:=⟨⟩
theorem tr.tw12221231552680922822:True:=⟨⟩
theorem tr.tw6048068129515360076:True:=⟨⟩
theorem tr.tw12517383047800538686:True:=⟨⟩
theorem tr.tw14640619885674152403:True:=⟨⟩
theorem tr.tw7195338981474746840:True:=⟨⟩
theorem tr.tw14393236866928376664:True:=⟨⟩
theorem tr.tw12131289294916971929:True:=⟨⟩
theorem tr.tw3053602029642026253:True:=⟨⟩
theorem tr.tw13416752623056611738:True:=⟨⟩
theorem tr.tw16576953412690531655:True:=⟨⟩
theorem tr.tw9579327480458631814:True:=⟨⟩
theorem tr.tw12650698952783263983:True:=⟨⟩
theorem tr.tw2477961069109339629:True:=⟨⟩
theorem tr.tw5969037771098276158:True:=⟨⟩
theorem tr.tw6063518550570839569:True:=⟨⟩
theorem tr.tw11395585350766584325:True:=⟨⟩
theorem tr.tw479161506820219883:True:=⟨⟩
theorem tr.tw12467015186547977615:True:=⟨⟩
theorem tr.tw16295482383443920416:True:=⟨⟩
theorem tr.tw10277375941683049252:True:=⟨⟩
theorem tr.tw3578660847827873683:True:=⟨⟩
theorem tr.tw9457296528418304982:True:=⟨⟩
theorem tr.tw10583113357328375365:True:=⟨⟩
theorem tr.tw7007593715351721107:True:=⟨⟩
theorem tr.tw6992888203573462231:True:=⟨⟩
theorem tr.tw3289041278572650154:True:=⟨⟩
theorem tr.tw10314843134190156653:True:=⟨⟩
theorem tr.tw14320558243571486571:True:=⟨⟩
theorem tr.tw16005810336364646031:True:=⟨⟩
theorem tr.tw6957737583950844231:True:=⟨⟩
theorem tr.tw5153826212099823016:True:=⟨⟩
theorem tr.tw17674099631577313086:True:=⟨⟩
theorem tr.tw15340721949557357402:True:=⟨⟩
theorem tr.tw3752310975568775163:True:=⟨⟩
theorem tr.tw1487661300788804512:True:=⟨⟩
theorem tr.tw3920680528696462782:True:=⟨⟩
theorem tr.tw17263487925195544995:True:=⟨⟩
theorem tr.tw10141197696343505282:True:=⟨⟩
theorem tr.tw12722485341844987381:True:=⟨⟩
theorem tr.tw17095732843203546518:True:=⟨⟩
theorem tr.tw3015629944365227279:True:=⟨⟩
theorem tr.tw13688684891455856178:True:=⟨⟩
theorem tr.tw14455376232457799365:True:=⟨⟩
theorem tr.tw6835190534764124868:True:=⟨⟩
theorem tr.tw3425091956158746082:True:=⟨⟩
theorem tr.tw17544088799180720116:True:=⟨⟩
theorem tr.tw2388011919350592856:True:=⟨⟩
theorem tr.tw2959768728022071681:True:=⟨⟩
theorem tr.tw11652877885451601845:True:=⟨⟩
theorem tr.tw4197011511169534847:True:=⟨⟩
theorem tr.tw12894340244893896982:True:=⟨⟩
theorem tr.tw7280142808012117860:True:=⟨⟩
theorem tr.tw10569854732337178934:True:=⟨⟩
theorem tr.tw16603655179256335939:True:=⟨⟩
theorem tr.tw3840777357904324171:True:=⟨⟩
theorem tr.tw5658994328238339674:True:=⟨⟩
theorem tr.tw8870621657293434441:True:=⟨⟩
theorem tr.tw2597829594171164402:True:=⟨⟩
theorem tr.tw16535975311746975218:True:=⟨⟩
theorem tr.tw3267195881809291215:True:=⟨⟩
theorem tr.tw14902837152244219662:True:=⟨⟩
theorem tr.tw10361247860108848027:True:=⟨⟩
theorem tr.tw6018474528438716296:True:=⟨⟩
theorem tr.tw3798681246737758979:True:=⟨⟩
theorem tr.tw13709747626234922691:True:=⟨⟩
theorem tr.tw12250166428938584323:True:=⟨⟩
theorem tr.tw6682374374284271720:True:=⟨⟩
theorem tr.tw16858416420235723038:True:=⟨⟩
theorem tr.tw13639837900802027450:True:=⟨⟩
theorem tr.tw13800451093760353227:True:=⟨⟩
theorem tr.tw14039320944366900072:True:=⟨⟩
theorem tr.tw15271631429932727745:True:=⟨⟩
theorem tr.tw1396344508272156884:True:=⟨⟩
theorem tr.tw11208722349442042899:True:=⟨⟩
theorem tr.tw4274483217129939933:True:=⟨⟩
theorem tr.tw9405384107152817970:True:=⟨⟩
theorem tr.tw15728984268050518612:True:=⟨⟩
theorem tr.tw11900077974295541517:True:=⟨⟩
theorem tr.tw12944235109896811962:True:=⟨⟩
theorem tr.tw5873305695735052552:True:=⟨⟩
theorem tr.tw17710650380869666123:True:=⟨⟩
theorem tr.tw12768992649538485331:True:=⟨⟩
theorem tr.tw8944800589030320476:True:=⟨⟩
theorem tr.tw17983205612893425317:True:=⟨⟩
theorem tr.tw14582356667945931564:True:=⟨⟩
theorem tr.tw17024495221149024619:True:=⟨⟩
theorem tr.tw15267795446559897168:True:=⟨⟩
theorem tr.tw14725205720251485886:True:=⟨⟩
theorem tr.tw13835170149735835574:True:=⟨⟩
theorem tr.tw12696379159302926480:True:=⟨⟩
theorem tr.tw15136987692743324362:True:=⟨⟩
theorem tr.tw4184108133365118814:True:=⟨⟩
theorem tr.tw4434709481621967086:True:=⟨⟩
theorem tr.tw7803919775050501853:True:=⟨⟩
theorem tr.tw6504766030884671505:True:=⟨⟩
theorem tr.tw9892295875605342902:True:=⟨⟩
theorem tr.tw9873817403269386785:True:=⟨⟩
theorem tr.tw13745574409291769614:True:=⟨⟩
theorem tr.tw6216349399862325664:True:=⟨⟩
theorem tr.tw11833113995048738256:True:=⟨⟩
theorem tr.tw17551606384232030691:True:=⟨⟩
theorem tr.tw6711805180794474472:True:=⟨⟩
theorem tr.tw8148513347231013006:True:=⟨⟩
theorem tr.tw12263072641651212731:True:=⟨⟩
theorem tr.tw10769465248480090660:True:=⟨⟩
theorem tr.tw6892569126946337063:True:=⟨⟩
theorem tr.tw2671741215885566895:True:=⟨⟩
theorem tr.tw12941038543794742208:True:=⟨⟩
theorem tr.tw1929047252094686210:True:=⟨⟩
theorem tr.tw8998841752881261215:True:=⟨⟩
theorem tr.tw12975853819485793169:True:=⟨⟩
theorem tr.tw2591720923500769582:True:=⟨⟩
theorem tr.tw10065780700466382149:True:=⟨⟩
theorem tr.tw8808316252182586031:True:=⟨⟩
theorem tr.tw2520299656384621679:True:=⟨⟩
theorem tr.tw4696944757028330521:True:=⟨⟩
theorem tr.tw12700207178669655105:True:=⟨⟩
theorem tr.tw11160049951738673734:True:=⟨⟩
theorem tr.tw3096678084233392383:True:=⟨⟩
theorem tr.tw17256817258506723481:True:=⟨⟩
theorem tr.tw7992438053383955439:True:=⟨⟩
theorem tr.tw7696097237674634728:True:=⟨⟩
theorem tr.tw1588981555937537373:True:=⟨⟩
theorem tr.tw13117194130514123720:True:=⟨⟩
theorem tr.tw9887819884597573239:True:=⟨⟩
theorem tr.tw5426579839633524692:True:=⟨⟩
theorem tr.tw17692277415951249394:True:=⟨⟩
theorem tr.tw7110302500190501748:True:=⟨⟩
theorem tr.tw15609016069859065641:True:=⟨⟩
theorem tr.tw1592334311802766894:True:=⟨⟩
theorem tr.tw11316819933646431777:True:=⟨⟩
theorem tr.tw6801680340647354249:True:=⟨⟩
theorem tr.tw1089438329368340665:True:=⟨⟩
theorem tr.tw10970845644368784650:True:=⟨⟩
theorem tr.tw16200055974989337293:True:=⟨⟩
theorem tr.tw17937891180053390924:True:=⟨⟩
theorem tr.tw424393674016084697:True:=⟨⟩
theorem tr.tw7431701329211106073:True:=⟨⟩
theorem tr.tw17963174439046916412:True:=⟨⟩
theorem tr.tw7910615615643073082:True:=⟨⟩
theorem tr.tw15607484043993376025:True:=⟨⟩
theorem tr.tw12874608544084989430:True:=⟨⟩
theorem tr.tw5183372045934812818:True:=⟨⟩
theorem tr.tw5021018436195315496:True:=⟨⟩
theorem tr.tw5488217769695475410:True:=⟨⟩
theorem tr.tw11520852237806370618:True:=⟨⟩
theorem tr.tw14082752306463676279:True:=⟨⟩
theorem tr.tw5775567493032227974:True:=⟨⟩
theorem tr.tw7687245404735381488:True:=⟨⟩
theorem tr.tw6578576425158690117:True:=⟨⟩
theorem tr.tw14609199246355906679:True:=⟨⟩
theorem tr.tw15430891274814184355:True:=⟨⟩
theorem tr.tw12875058913043091646:True:=⟨⟩
theorem tr.tw14832845948635969743:True:=⟨⟩
theorem tr.tw10114015065045720889:True:=⟨⟩
theorem tr.tw17436253678857172731:True:=⟨⟩
theorem tr.tw3275851789106788140:True:=⟨⟩
theorem tr.tw2834069682735949511:True:=⟨⟩
theorem tr.tw10503107445672194434:True:=⟨⟩
theorem tr.tw17268420342869764333:True:=⟨⟩
theorem tr.tw6614845348014629058:True:=⟨⟩
theorem tr.tw1548656652441383457:True:=⟨⟩
theorem tr.tw17068835810014774118:True:=⟨⟩
theorem tr.tw8527292087250305656:True:=⟨⟩
theorem tr.tw7470411802424382830:True:=⟨⟩
theorem tr.tw14107366882303535763:True:=⟨⟩
theorem tr.tw17041756341989449606:True:=⟨⟩
theorem tr.tw18301487916167257661:True:=⟨⟩
theorem tr.tw10919798096069741299:True:=⟨⟩
theorem tr.tw2798037049675540802:True:=⟨⟩
theorem tr.tw15328799847689492385:True:=⟨⟩
theorem tr.tw2036358589903168908:True:=⟨⟩
theorem tr.tw15733079343342463886:True:=⟨⟩
theorem tr.tw7071314341268300492:True:=⟨⟩
theorem tr.tw18402176194283273472:True:=⟨⟩
theorem tr.tw2152230835781122089:True:=⟨⟩
theorem tr.tw16275352490921749423:True:=⟨⟩
theorem tr.tw9580675257129320951:True:=⟨⟩
theorem tr.tw12602505788131430707:True:=⟨⟩
theorem tr.tw4971688381736036661:True:=⟨⟩
theorem tr.tw1260716089508006701:True:=⟨⟩
theorem tr.tw3904802570282301884:True:=⟨⟩
theorem tr.tw11584684955122053108:True:=⟨⟩
theorem tr.tw11418970013865887689:True:=⟨⟩
theorem tr.tw13703099123581648663:True:=⟨⟩
theorem tr.tw9986129756370928041:True:=⟨⟩
theorem tr.tw5789506164274073364:True:=⟨⟩
theorem tr.tw6983376709067646891:True:=⟨⟩
theorem tr.tw1954106840309129125:True:=⟨⟩
theorem tr.tw11681746831070324598:True:=⟨⟩
theorem tr.tw9346840336999787370:True:=⟨⟩
theorem tr.tw13212143042390172955:True:=⟨⟩
theorem tr.tw6133913829245406114:True:=⟨⟩
theorem tr.tw7154378436342774243:True:=⟨⟩
theorem tr.tw3308202373343586554:True:=⟨⟩
theorem tr.tw7468111449893117730:True:=⟨⟩
theorem tr.tw10518476821149279127:True:=⟨⟩
theorem tr.tw17426658724773515749:True:=⟨⟩
theorem tr.tw8274726889503174240:True:=⟨⟩
theorem tr.tw7002553976333022804:True:=⟨⟩
theorem tr.tw11472082447004138598:True:=⟨⟩
theorem tr.tw8701437011217075734:True:=⟨⟩
theorem tr.tw9982941868914385600:True:=⟨⟩
theorem tr.tw17138960697791521433:True:=⟨⟩
theorem tr.tw11985617140405662619:True:=⟨⟩
theorem tr.tw9357168933868769327:True:=⟨⟩
theorem tr.tw5145831427372837652:True:=⟨⟩
theorem tr.tw2645554830432199723:True:=⟨⟩
theorem tr.tw13363806403006253887:True:=⟨⟩
theorem tr.tw8996564129441370693:True:=⟨⟩
theorem tr.tw17590089532949785291:True:=⟨⟩
theorem tr.tw7415878259232225929:True:=⟨⟩
theorem tr.tw18332123018641910614:True:=⟨⟩
theorem tr.tw1003308414875873687:True:=⟨⟩
theorem tr.tw6915849160050094594:True:=⟨⟩
theorem tr.tw2474523095334533185:True:=⟨⟩
theorem tr.tw12676854109140181249:True:=⟨⟩
theorem tr.tw7624899531378355085:True:=⟨⟩
theorem tr.tw13375457260241283400:True:=⟨⟩
theorem tr.tw9401307402896433517:True:=⟨⟩
theorem tr.tw1230181134959328414:True:=⟨⟩
theorem tr.tw10871175653664845688:True:=⟨⟩
theorem tr.tw4911611599872472048:True:=⟨⟩
theorem tr.tw9316327669489625621:True:=⟨⟩
theorem tr.tw6189924873538965354:True:=⟨⟩
theorem tr.tw4608053605810128179:True:=⟨⟩
theorem tr.tw7111617377538902502:True:=⟨⟩
theorem tr.tw18218945428012218872:True:=⟨⟩
theorem tr.tw16777839630266472137:True:=⟨⟩
theorem tr.tw11769667967057381786:True:=⟨⟩
theorem tr.tw12971021365092096244:True:=⟨⟩
theorem tr.tw6016947969163068398:True:=⟨⟩
theorem tr.tw1994513777043600200:True:=⟨⟩
theorem tr.tw10549191544745539017:True:=⟨⟩
theorem tr.tw3983905186610158182:True:=⟨⟩
theorem tr.tw11750287635861737397:True:=⟨⟩
theorem tr.tw7771614972013113366:True:=⟨⟩
theorem tr.tw8819785624886092032:True:=⟨⟩
theorem tr.tw14372568663339090971:True:=⟨⟩
theorem tr.tw13940372628654583279:True:=⟨⟩
theorem tr.tw5736095071920217057:True:=⟨⟩
theorem tr.tw12744200182772422930:True:=⟨⟩
theorem tr.tw4622954609892252128:True:=⟨⟩
theorem tr.tw3536330425545678408:True:=⟨⟩
theorem tr.tw1858218693181358457:True:=⟨⟩
theorem tr.tw2574756415309806423:True:=⟨⟩
theorem tr.tw17679672823915766552:True:=⟨⟩
theorem tr.tw4879353719348957616:True:=⟨⟩
theorem tr.tw4980734113734402802:True:=⟨⟩
theorem tr.tw10921659096692448907:True:=⟨⟩
theorem tr.tw12024252086563096676:True:=⟨⟩
theorem tr.tw18089813998877318955:True:=⟨⟩
theorem tr.tw6494843684700221050:True:=⟨⟩
theorem tr.tw16119658244895438627:True:=⟨⟩
theorem tr.tw7599873669293931072:True:=⟨⟩
theorem tr.tw17718906300709302404:True:=⟨⟩
theorem tr.tw16747704822321522458:True:=⟨⟩
theorem tr.tw15976905754995879353:True:=⟨⟩
theorem tr.tw4238974064993324005:True:=⟨⟩
theorem tr.tw7191212088236709298:True:=⟨⟩
theorem tr.tw6060001464389783271:True:=⟨⟩
theorem tr.tw2260938801466972104:True:=⟨⟩
theorem tr.tw3825107994133508563:True:=⟨⟩
theorem tr.tw9623817027838999345:True:=⟨⟩
theorem tr.tw11712410664798234501:True:=⟨⟩
theorem tr.tw5597447980851836858:True:=⟨⟩
theorem tr.tw6065716239168439069:True:=⟨⟩
theorem tr.tw7909223491457326952:True:=⟨⟩
theorem tr.tw5216466732802110356:True:=⟨⟩
theorem tr.tw2108957956734132958:True:=⟨⟩
theorem tr.tw1143550331318445085:True:=⟨⟩
theorem tr.tw15747914646601604196:True:=⟨⟩
theorem tr.tw2497128464470823003:True:=⟨⟩
theorem tr.tw9135612276759397621:True:=⟨⟩
theorem tr.tw10191283406722360239:True:=⟨⟩
theorem tr.tw856204908788697907:True:=⟨⟩
theorem tr.tw8559161970425615815:True:=⟨⟩
theorem tr.tw4442176849412271419:True:=⟨⟩
theorem tr.tw6462466221324122836:True:=⟨⟩
theorem tr.tw16039313882232979090:True:=⟨⟩
theorem tr.tw2229435075809557684:True:=⟨⟩
theorem tr.tw10353809312423155214:True:=⟨⟩
theorem tr.tw8127652898142087398:True:=⟨⟩
theorem tr.tw6299974905900670343:True:=⟨⟩
theorem tr.tw16457067665587457447:True:=⟨⟩
theorem tr.tw13154462987158215935:True:=⟨⟩
theorem tr.tw5953213142238680841:True:=⟨⟩
theorem tr.tw640699059856998554:True:=⟨⟩
theorem tr.tw15075535589817656593:True:=⟨⟩
theorem tr.tw14117274213127087633:True:=⟨⟩
theorem tr.tw9105760582172722745:True:=⟨⟩
theorem tr.tw11803667767777832311:True:=⟨⟩
theorem tr.tw14260224837432542541:True:=⟨⟩
theorem tr.tw2226180643342207007:True:=⟨⟩
theorem tr.tw9243992775729022949:True:=⟨⟩
theorem tr.tw7938672836176431623:True:=⟨⟩
theorem tr.tw3928620250784857250:True:=⟨⟩
theorem tr.tw3289487305200804985:True:=⟨⟩
theorem tr.tw11226240227302832577:True:=⟨⟩
theorem tr.tw14739937329715454526:True:=⟨⟩
theorem tr.tw5849136729441164044:True:=⟨⟩
theorem tr.tw9261854300286319892:True:=⟨⟩
theorem tr.tw16496137204289041447:True:=⟨⟩
theorem tr.tw15365400151389818051:True:=⟨⟩
theorem tr.tw4629758110662622926:True:=⟨⟩
theorem tr.tw1026055452010126176:True:=⟨⟩
theorem tr.tw17195823152335129092:True:=⟨⟩
theorem tr.tw3149326523080306997:True:=⟨⟩
theorem tr.tw670005497326600022:True:=⟨⟩
theorem tr.tw12751381794805312152:True:=⟨⟩
theorem tr.tw1429383857921228086:True:=⟨⟩
theorem tr.tw4703285254942369535:True:=⟨⟩
theorem tr.tw1029801945532428429:True:=⟨⟩
theorem tr.tw7400291343594893021:True:=⟨⟩
theorem tr.tw11951944454357993068:True:=⟨⟩
theorem tr.tw3195720249748558498:True:=⟨⟩
theorem tr.tw17548749590576146517:True:=⟨⟩
theorem tr.tw7100934278131416972:True:=⟨⟩
theorem tr.tw15575829188062507050:True:=⟨⟩
theorem tr.tw11383445657336815904:True:=⟨⟩
theorem tr.tw14445247297708760451:True:=⟨⟩
theorem tr.tw8171073502168683859:True:=⟨⟩
theorem tr.tw16410178229985807802:True:=⟨⟩
theorem tr.tw926187813759552021:True:=⟨⟩
theorem tr.tw14503666357574964222:True:=⟨⟩
theorem tr.tw10015493634896611396:True:=⟨⟩
theorem tr.tw11815390485134878533:True:=⟨⟩
theorem tr.tw14871414688447453799:True:=⟨⟩
theorem tr.tw13206383736557552004:True:=⟨⟩
theorem tr.tw10167467638933562994:True:=⟨⟩
theorem tr.tw510555430733304705:True:=⟨⟩
theorem tr.tw13499957073922138608:True:=⟨⟩
theorem tr.tw16681799930827519648:True:=⟨⟩
theorem tr.tw14694283391976295857:True:=⟨⟩
theorem tr.tw15324600867799538436:True:=⟨⟩
theorem tr.tw10702971530446241812:True:=⟨⟩
theorem tr.tw17288369538600218800:True:=⟨⟩
theorem tr.tw1546789094591787358:True:=⟨⟩
theorem tr.tw5890517730173572971:True:=⟨⟩
theorem tr.tw14811439677110654892:True:=⟨⟩
theorem tr.tw5556272455709626651:True:=⟨⟩
theorem tr.tw17572729493630973199:True:=⟨⟩
theorem tr.tw959335698135306041:True:=⟨⟩
theorem tr.tw7441689957950734179:True:=⟨⟩
theorem tr.tw14718410357967570101:True:=⟨⟩
theorem tr.tw15953531324138385657:True:=⟨⟩
theorem tr.tw10236858804154180902:True:=⟨⟩
theorem tr.tw5007598766654868272:True:=⟨⟩
theorem tr.tw8645741390303469016:True:=⟨⟩
theorem tr.tw17351107344737522729:True:=⟨⟩
theorem tr.tw9562999498596504365:True:=⟨⟩
theorem tr.tw17901079810305569067:True:=⟨⟩
theorem tr.tw438065081374372649:True:=⟨⟩
theorem tr.tw17730637859677545103:True:=⟨⟩
theorem tr.tw3962164283625987186:True:=⟨⟩
theorem tr.tw9313042903404127871:True:=⟨⟩
theorem tr.tw11008743357778157728:True:=⟨⟩
theorem tr.tw674002057575642616:True:=⟨⟩
theorem tr.tw6856029697263491961:True:=⟨⟩
theorem tr.tw301112443750428628:True:=⟨⟩
theorem tr.tw4844556447078386989:True:=⟨⟩
theorem tr.tw3402162554266140835:True:=⟨⟩
theorem tr.tw13602907234779995336:True:=⟨⟩
theorem tr.tw8162632715965143653:True:=⟨⟩
theorem tr.tw7771047818169511156:True:=⟨⟩
theorem tr.tw11836809166264603814:True:=⟨⟩
theorem tr.tw145616020107484639:True:=⟨⟩
theorem tr.tw3920788459926029551:True:=⟨⟩
theorem tr.tw7102162768984465611:True:=⟨⟩
theorem tr.tw3912811777441883357:True:=⟨⟩
theorem tr.tw14429409338574140057:True:=⟨⟩
theorem tr.tw9435461798263544344:True:=⟨⟩
theorem tr.tw6163355521297187640:True:=⟨⟩
theorem tr.tw3986403581509971235:True:=⟨⟩
theorem tr.tw13704763870486288634:True:=⟨⟩
theorem tr.tw8108778782093295491:True:=⟨⟩
theorem tr.tw4683734123333714718:True:=⟨⟩
theorem tr.tw15751538573612096525:True:=⟨⟩
theorem tr.tw15007009621292347376:True:=⟨⟩
theorem tr.tw7315480561583484286:True:=⟨⟩
theorem tr.tw8338466200506463903:True:=⟨⟩
theorem tr.tw12858395668737618472:True:=⟨⟩
theorem tr.tw18344407270313789126:True:=⟨⟩
theorem tr.tw16975507680526735442:True:=⟨⟩
theorem tr.tw10160488171126851360:True:=⟨⟩
theorem tr.tw8165634706269666216:True:=⟨⟩
theorem tr.tw9012485998669584275:True:=⟨⟩
theorem tr.tw7094322668056218665:True:=⟨⟩
theorem tr.tw15981897628730682662:True:=⟨⟩
theorem tr.tw11439300615242472979:True:=⟨⟩
theorem tr.tw14112035518463374302:True:=⟨⟩
theorem tr.tw4857162854792431676:True:=⟨⟩
theorem tr.tw6487151411963025125:True:=⟨⟩
theorem tr.tw13728960156032894973:True:=⟨⟩
theorem tr.tw17486193839708409509:True:=⟨⟩
theorem tr.tw9551364612519501484:True:=⟨⟩
theorem tr.tw3180721917640890637:True:=⟨⟩
theorem tr.tw14361678148336731757:True:=⟨⟩
theorem tr.tw14090282081251613857:True:=⟨⟩
theorem tr.tw2057473073308463880:True:=⟨⟩
theorem tr.tw14105875735782844082:True:=⟨⟩
theorem tr.tw10113510851597652563:True:=⟨⟩
theorem tr.tw8630506820515074255:True:=⟨⟩
theorem tr.tw4873922416129954242:True:=⟨⟩
theorem tr.tw12414297080921884883:True:=⟨⟩
theorem tr.tw5012682886933708479:True:=⟨⟩
theorem tr.tw4496655800800750757:True:=⟨⟩
theorem tr.tw14190527553896185071:True:=⟨⟩
theorem tr.tw542202593886212594:True:=⟨⟩
theorem tr.tw8238099737563819239:True:=⟨⟩
theorem tr.tw7597509234228137427:True:=⟨⟩
theorem tr.tw10564578174222747117:True:=⟨⟩
theorem tr.tw2547415362404383964:True:=⟨⟩
theorem tr.tw11109281540925129003:True:=⟨⟩
theorem tr.tw14238545780656020437:True:=⟨⟩
theorem tr.tw13293599143323315465:True:=⟨⟩
theorem tr.tw1603727196907968512:True:=⟨⟩
theorem tr.tw748968354791966467:True:=⟨⟩
theorem tr.tw10059425680739653651:True:=⟨⟩
theorem tr.tw13658360957015039118:True:=⟨⟩
theorem tr.tw15531684851330998776:True:=⟨⟩
theorem tr.tw9368972433245024186:True:=⟨⟩
theorem tr.tw8797813258764788853:True:=⟨⟩
theorem tr.tw4222072665232754684:True:=⟨⟩
theorem tr.tw11893573894578415891:True:=⟨⟩
theorem tr.tw12978296513053850878:True:=⟨⟩
theorem tr.tw4424603814425568381:True:=⟨⟩
theorem tr.tw636043043546477722:True:=⟨⟩
theorem tr.tw10638919360085946544:True:=⟨⟩
theorem tr.tw10568713646787667450:True:=⟨⟩
theorem tr.tw9310469761028422455:True:=⟨⟩
theorem tr.tw1428842092670592255:True:=⟨⟩
theorem tr.tw12959150707714898603:True:=⟨⟩
theorem tr.tw15063271417886035882:True:=⟨⟩
theorem tr.tw4323610736729028847:True:=⟨⟩
theorem tr.tw11072064306169896325:True:=⟨⟩
theorem tr.tw2264055484894091514:True:=⟨⟩
theorem tr.tw12485100413971532306:True:=⟨⟩
theorem tr.tw1866624980401315386:True:=⟨⟩
theorem tr.tw11265074317863046436:True:=⟨⟩
theorem tr.tw7585983925900622208:True:=⟨⟩
theorem tr.tw6439022218628688971:True:=⟨⟩
theorem tr.tw15219257862203106394:True:=⟨⟩
theorem tr.tw9798337237488124239:True:=⟨⟩
theorem tr.tw12943642118310523253:True:=⟨⟩
theorem tr.tw12939710290420913411:True:=⟨⟩
theorem tr.tw17998499694183490474:True:=⟨⟩
theorem tr.tw5287510018320587724:True:=⟨⟩
theorem tr.tw7940254247310438517:True:=⟨⟩
theorem tr.tw12835445057692275617:True:=⟨⟩
theorem tr.tw1949335939472262588:True:=⟨⟩
theorem tr.tw18337933388587469568:True:=⟨⟩
theorem tr.tw10356585634826952490:True:=⟨⟩
theorem tr.tw4187514464354335826:True:=⟨⟩
theorem tr.tw17190913110759312529:True:=⟨⟩
theorem tr.tw4647291252853361986:True:=⟨⟩
theorem tr.tw10746079518619790086:True:=⟨⟩
theorem tr.tw15325396478066983451:True:=⟨⟩
theorem tr.tw374493375049983502:True:=⟨⟩
theorem tr.tw743597132154089549:True:=⟨⟩
theorem tr.tw2860182653714093668:True:=⟨⟩
theorem tr.tw1227739719588096897:True:=⟨⟩
theorem tr.tw13674838062689614867:True:=⟨⟩
theorem tr.tw18429291967745764089:True:=⟨⟩
theorem tr.tw7437356278221767364:True:=⟨⟩
theorem tr.tw3411877842030402319:True:=⟨⟩
theorem tr.tw8038141669220357113:True:=⟨⟩
theorem tr.tw8852148061452526904:True:=⟨⟩
theorem tr.tw15288133443676866173:True:=⟨⟩
theorem tr.tw4022292458710174081:True:=⟨⟩
theorem tr.tw12502786115075213358:True:=⟨⟩
theorem tr.tw14465103158719950913:True:=⟨⟩
theorem tr.tw15558255471136756245:True:=⟨⟩
theorem tr.tw16726651151063910336:True:=⟨⟩
theorem tr.tw7302524363726792337:True:=⟨⟩
theorem tr.tw17469336345136878222:True:=⟨⟩
theorem tr.tw6427458425565336144:True:=⟨⟩
theorem tr.tw109291522755113344:True:=⟨⟩
theorem tr.tw9117651970010271727:True:=⟨⟩
theorem tr.tw4195606230946178116:True:=⟨⟩
theorem tr.tw17076708727348729887:True:=⟨⟩
theorem tr.tw5197458576644402467:True:=⟨⟩
theorem tr.tw7664803389439646566:True:=⟨⟩
theorem tr.tw1433894611251180397:True:=⟨⟩
theorem tr.tw11798966618604546385:True:=⟨⟩
theorem tr.tw15450715326266881589:True:=⟨⟩
theorem tr.tw15032277971636692674:True:=⟨⟩
theorem tr.tw1884100454520195120:True:=⟨⟩
theorem tr.tw12734567502179345495:True:=⟨⟩
theorem tr.tw5780683631936486647:True:=⟨⟩
theorem tr.tw6773457116454491193:True:=⟨⟩
theorem tr.tw18438937701786009805:True:=⟨⟩
theorem tr.tw16567073633329380275:True:=⟨⟩
theorem tr.tw4607843225888993348:True:=⟨⟩
theorem tr.tw13777368642754223720:True:=⟨⟩
theorem tr.tw17761288471561211361:True:=⟨⟩
theorem tr.tw4998276140170086194:True:=⟨⟩
theorem tr.tw14775746949399472932:True:=⟨⟩
theorem tr.tw15716120024959077857:True:=⟨⟩
theorem tr.tw14961611373227911145:True:=⟨⟩
theorem tr.tw1041460393697490192:True:=⟨⟩
theorem tr.tw8259216018076248927:True:=⟨⟩
theorem tr.tw7323448412951991148:True:=⟨⟩
theorem tr.tw13610561175512313048:True:=⟨⟩
theorem tr.tw2205427687870873606:True:=⟨⟩
theorem tr.tw3854866487343161617:True:=⟨⟩
theorem tr.tw15103792327498773803:True:=⟨⟩
theorem tr.tw8599760612675718729:True:=⟨⟩
theorem tr.tw15322785723586204172:True:=⟨⟩
theorem tr.tw14068362404785250760:True:=⟨⟩
theorem tr.tw9813806830870925628:True:=⟨⟩
theorem tr.tw10169138657099991751:True:=⟨⟩
theorem tr.tw4200895761295876983:True:=⟨⟩
theorem tr.tw4980153163448293403:True:=⟨⟩
theorem tr.tw3417615659545891212:True:=⟨⟩
theorem tr.tw16751329666782619457:True:=⟨⟩
theorem tr.tw11203402116122548355:True:=⟨⟩
theorem tr.tw2498185916237631410:True:=⟨⟩
theorem tr.tw655892267536402376:True:=⟨⟩
theorem tr.tw8323275514055719903:True:=⟨⟩
theorem tr.tw7147743271111225493:True:=⟨⟩
theorem tr.tw12464897938133165599:True:=⟨⟩
theorem tr.tw12954895991888210600:True:=⟨⟩
theorem tr.tw7202797908823174207:True:=⟨⟩
theorem tr.tw6492475890107917234:True:=⟨⟩
theorem tr.tw12469983123188854136:True:=⟨⟩
theorem tr.tw8165591894969862754:True:=⟨⟩
theorem tr.tw8757023936096733132:True:=⟨⟩
theorem tr.tw12776400437941297448:True:=⟨⟩
theorem tr.tw14675724418646410832:True:=⟨⟩
theorem tr.tw2146477322656066914:True:=⟨⟩
theorem tr.tw6007064218925644799:True:=⟨⟩
theorem tr.tw10307938237315624545:True:=⟨⟩
theorem tr.tw14051111460011924937:True:=⟨⟩
theorem tr.tw12947637883222389726:True:=⟨⟩
theorem tr.tw6272772785235391805:True:=⟨⟩
theorem tr.tw10527456643550987073:True:=⟨⟩
theorem tr.tw4809284998430355001:True:=⟨⟩
theorem tr.tw7808477769988515964:True:=⟨⟩
theorem tr.tw616977424865305603:True:=⟨⟩
theorem tr.tw8698116894511293239:True:=⟨⟩
theorem tr.tw10054080658865486079:True:=⟨⟩
theorem tr.tw6340551010480210760:True:=⟨⟩
theorem tr.tw15718642994896398714:True:=⟨⟩
theorem tr.tw5301661593727810925:True:=⟨⟩
theorem tr.tw1804094438167811914:True:=⟨⟩
theorem tr.tw17827156929739058694:True:=⟨⟩
theorem tr.tw9597241764335558449:True:=⟨⟩
theorem tr.tw119468568686680796:True:=⟨⟩
theorem tr.tw2871186685481028061:True:=⟨⟩
theorem tr.tw14912819676525874856:True:=⟨⟩
theorem tr.tw18012968457386105056:True:=⟨⟩
theorem tr.tw9067968803232717282:True:=⟨⟩
theorem tr.tw11397857743551026814:True:=⟨⟩
theorem tr.tw10562156402404833395:True:=⟨⟩
theorem tr.tw322618902260318860:True:=⟨⟩
theorem tr.tw14618816912327289432:True:=⟨⟩
theorem tr.tw15921108601704197974:True:=⟨⟩
theorem tr.tw3517478726349907381:True:=⟨⟩
theorem tr.tw6355362789908738086:True:=⟨⟩
theorem tr.tw3286305427882838379:True:=⟨⟩
theorem tr.tw14828747513635793770:True:=⟨⟩
theorem tr.tw7077412926478532401:True:=⟨⟩
theorem tr.tw13586196479236413557:True:=⟨⟩
theorem tr.tw13026313152755890077:True:=⟨⟩
theorem tr.tw4583441828009648501:True:=⟨⟩
theorem tr.tw5527083126989176429:True:=⟨⟩
theorem tr.tw16212792225656095583:True:=⟨⟩
theorem tr.tw4034451873215632216:True:=⟨⟩
theorem tr.tw4321008761574107789:True:=⟨⟩
theorem tr.tw7947371440381205298:True:=⟨⟩
theorem tr.tw11781147390236589767:True:=⟨⟩
theorem tr.tw8369330919252058351:True:=⟨⟩
theorem tr.tw5163034143849918297:True:=⟨⟩
theorem tr.tw2834327369278756317:True:=⟨⟩
theorem tr.tw11127058002583920097:True:=⟨⟩
theorem tr.tw1564149475868490878:True:=⟨⟩
theorem tr.tw13262193700013428958:True:=⟨⟩
theorem tr.tw13989297934301509863:True:=⟨⟩
theorem tr.tw4077325397619805479:True:=⟨⟩
theorem tr.tw10246868965428223506:True:=⟨⟩
theorem tr.tw11893150568864374388:True:=⟨⟩
theorem tr.tw7717783389908162018:True:=⟨⟩
theorem tr.tw18095955419018934263:True:=⟨⟩
theorem tr.tw14685611163258003282:True:=⟨⟩
theorem tr.tw1569368030193764108:True:=⟨⟩
theorem tr.tw5195970685327924444:True:=⟨⟩
theorem tr.tw14229976135320260483:True:=⟨⟩
theorem tr.tw15427275155477865694:True:=⟨⟩
theorem tr.tw7660554564095450510:True:=⟨⟩
theorem tr.tw16683220605295293488:True:=⟨⟩
theorem tr.tw13146684598185441724:True:=⟨⟩
theorem tr.tw4112330041384243964:True:=⟨⟩
theorem tr.tw3516633478646485330:True:=⟨⟩
theorem tr.tw4741063113847331298:True:=⟨⟩
theorem tr.tw12558296093656520045:True:=⟨⟩
theorem tr.tw47516076950877970:True:=⟨⟩
theorem tr.tw2419258814649307397:True:=⟨⟩
theorem tr.tw11129354143036050184:True:=⟨⟩
theorem tr.tw6306916342841299709:True:=⟨⟩
theorem tr.tw17852070658337713283:True:=⟨⟩
theorem tr.tw8517885045904434611:True:=⟨⟩
theorem tr.tw9299740133391885691:True:=⟨⟩
theorem tr.tw14556552569059564196:True:=⟨⟩
theorem tr.tw10000001297524743497:True:=⟨⟩
theorem tr.tw270829635208052189:True:=⟨⟩
theorem tr.tw7380559548119764092:True:=⟨⟩
theorem tr.tw16543016333270947856:True:=⟨⟩
theorem tr.tw267815387894403845:True:=⟨⟩
theorem tr.tw8521942410180527710:True:=⟨⟩
theorem tr.tw14475169747307581655:True:=⟨⟩
theorem tr.tw8938373354835771148:True:=⟨⟩
theorem tr.tw8305027000206262597:True:=⟨⟩
theorem tr.tw13685658592660693016:True:=⟨⟩
theorem tr.tw4691745002752326759:True:=⟨⟩
theorem tr.tw1284068988505827818:True:=⟨⟩
theorem tr.tw11816858423201792109:True:=⟨⟩
theorem tr.tw4361390348111572713:True:=⟨⟩
theorem tr.tw15664697258762703838:True:=⟨⟩
theorem tr.tw17677915655785916385:True:=⟨⟩
theorem tr.tw2664652735838195147:True:=⟨⟩
theorem tr.tw12581677080940240991:True:=⟨⟩
theorem tr.tw5600330981592573195:True:=⟨⟩
theorem tr.tw17572029813004357499:True:=⟨⟩
theorem tr.tw16209264673309284861:True:=⟨⟩
theorem tr.tw13869783958126620623:True:=⟨⟩
theorem tr.tw4613216789481817972:True:=⟨⟩
theorem tr.tw510486107621501238:True:=⟨⟩
theorem tr.tw14359249376284009395:True:=⟨⟩
theorem tr.tw16640201914168655928:True:=⟨⟩
theorem tr.tw14258797773381977764:True:=⟨⟩
theorem tr.tw7257174133432893941:True:=⟨⟩
theorem tr.tw17298304850342699748:True:=⟨⟩
theorem tr.tw7220995654308583753:True:=⟨⟩
theorem tr.tw1867426419930468686:True:=⟨⟩
theorem tr.tw924105085555829030:True:=⟨⟩
theorem tr.tw9658080145612984395:True:=⟨⟩
theorem tr.tw14736547578200359731:True:=⟨⟩
theorem tr.tw17979370778641404409:True:=⟨⟩
theorem tr.tw9392324188726865364:True:=⟨⟩
theorem tr.tw12217007557052453018:True:=⟨⟩
theorem tr.tw12148914450450770334:True:=⟨⟩
theorem tr.tw327319517413648611:True:=⟨⟩
theorem tr.tw6511736106527009026:True:=⟨⟩
theorem tr.tw5586346583631721296:True:=⟨⟩
theorem tr.tw13668609215734461744:True:=⟨⟩
theorem tr.tw849255105551491640:True:=⟨⟩
theorem tr.tw16886387018595384892:True:=⟨⟩
theorem tr.tw9779741409557955589:True:=⟨⟩
theorem tr.tw17446011337842369672:True:=⟨⟩
theorem tr.tw9133526032300021899:True:=⟨⟩
theorem tr.tw8639076188220482812:True:=⟨⟩
theorem tr.tw9134550083065332664:True:=⟨⟩
theorem tr.tw6382022748722537655:True:=⟨⟩
theorem tr.tw7989337882223559422:True:=⟨⟩
theorem tr.tw16364211352603306502:True:=⟨⟩
theorem tr.tw6904717921627952853:True:=⟨⟩
theorem tr.tw11278971581192887831:True:=⟨⟩
theorem tr.tw11578162400681894919:True:=⟨⟩
theorem tr.tw4057096605972376204:True:=⟨⟩
theorem tr.tw5273023612805322441:True:=⟨⟩
theorem tr.tw16593626745973599786:True:=⟨⟩
theorem tr.tw6379491968850404697:True:=⟨⟩
theorem tr.tw2063787469962312050:True:=⟨⟩
theorem tr.tw10039029301466154155:True:=⟨⟩
theorem tr.tw11526470379912868612:True:=⟨⟩
theorem tr.tw4595037564616653574:True:=⟨⟩
theorem tr.tw4018793826070999584:True:=⟨⟩
theorem tr.tw17924678649341897009:True:=⟨⟩
theorem tr.tw13896772510663873658:True:=⟨⟩
theorem tr.tw17130939792724280314:True:=⟨⟩
theorem tr.tw5035712906892738640:True:=⟨⟩
theorem tr.tw5766922209703075288:True:=⟨⟩
theorem tr.tw14063560446215162702:True:=⟨⟩
theorem tr.tw10759890623523513642:True:=⟨⟩
theorem tr.tw9760607282912493939:True:=⟨⟩
theorem tr.tw8653557026923253034:True:=⟨⟩
theorem tr.tw7144665988413687896:True:=⟨⟩
theorem tr.tw1724330553519564791:True:=⟨⟩
theorem tr.tw13371190395009869565:True:=⟨⟩
theorem tr.tw7182234759668776475:True:=⟨⟩
theorem tr.tw1111634552174359887:True:=⟨⟩
theorem tr.tw8414621997996498305:True:=⟨⟩
theorem tr.tw14378730516435205893:True:=⟨⟩
theorem tr.tw7382460769555240942:True:=⟨⟩
theorem tr.tw11718971906944095465:True:=⟨⟩
theorem tr.tw316048979462852120:True:=⟨⟩
theorem tr.tw7848874341106447393:True:=⟨⟩
theorem tr.tw17224750688430387402:True:=⟨⟩
theorem tr.tw10225723254696936671:True:=⟨⟩
theorem tr.tw8186313167553328864:True:=⟨⟩
theorem tr.tw4238676800677396122:True:=⟨⟩
theorem tr.tw15646755893033526081:True:=⟨⟩
theorem tr.tw18178065050065833689:True:=⟨⟩
theorem tr.tw4698381280520963293:True:=⟨⟩
theorem tr.tw6787848807540164309:True:=⟨⟩
theorem tr.tw8728234137743175111:True:=⟨⟩
theorem tr.tw7096159271984270167:True:=⟨⟩
theorem tr.tw16596518921684037154:True:=⟨⟩
theorem tr.tw4381640100649062384:True:=⟨⟩
theorem tr.tw4476746507792243439:True:=⟨⟩
theorem tr.tw14317471012324366114:True:=⟨⟩
theorem tr.tw4949213399557997648:True:=⟨⟩
theorem tr.tw9803539062390791527:True:=⟨⟩
theorem tr.tw6522250198101167061:True:=⟨⟩
theorem tr.tw15835380786234386048:True:=⟨⟩
theorem tr.tw16026068952569094724:True:=⟨⟩
theorem tr.tw8289184279824557515:True:=⟨⟩
theorem tr.tw10277364609651742550:True:=⟨⟩
theorem tr.tw5082555443449740670:True:=⟨⟩
set_option Elab.async true in
theorem tr : PySem.Challenge.rw_sa0164_01.Holds := by
  w_on; o_law; k_head; (case hw => w_witness2)
  w_strict (
    k_go0
    all_goals (try k_fold)
    rename_i w14 s0 s1 mg mb G Y fa o pm doc ho hg KX X V GL T B TE TW w13 w12 M w11 w10 hcd w9 hs hlay0 hL1 hr1 hl2 w8 w7 w6 w5 w4 hL ra w1 r0 hI hr hc1 hc0 K0 hD h1 tk1 F w3 w2 wb wa l2 l1 l0 rt N0 X0
    have top := topRead_of T
    have seer : s1.heap.NoSeer := PyProof.Rows.Top.seer T (by decide +kernel)
    have FA := fun k => factsAll k KX top seer
    have FA := FA ⟨by kernel_rfl, by kernel_rfl, by kernel_rfl, ⟨by kernel_rfl, by kernel_rfl, by kernel_rfl⟩, ⟨by kernel_rfl, by kernel_rfl, by kernel_rfl⟩, ⟨by kernel_rfl, by kernel_rfl, by kernel_rfl, by kernel_rfl, by kernel_rfl, by kernel_rfl, by kernel_rfl, by kernel_rfl, by kernel_rfl, by kernel_rfl, by kernel_rfl⟩⟩
    have hlen : w9.length ≤ 63 := by omega
    refine law_run (C := cx KX top seer) FA (a := w6) (items := w5) (xs := w9) ?_ ?_ F (fresh_size _) ?_ hL hI hlen ?_ (law_true w9 hlen) ?_
    · kernel_rfl
    · kernel_rfl
    · kernel_rfl
    · intro c hc
      simp only [List.mem_cons, List.not_mem_nil, or_false] at hc
      rcases hc with rfl | rfl | rfl | rfl
      · have q := N0 _ (.tail _ (.tail _ (.tail _ (.head _))))
        exact ⟨q.2.2, wa, _, q.1, rt⟩
      · have q := N0 _ (.tail _ (.tail _ (.head _)))
        exact ⟨q.2.2, wb, _, q.1, l0⟩
      · have q := N0 _ (.tail _ (.head _))
        exact ⟨q.2.2, w2, _, q.1, l1⟩
      · have q := N0 _ (.head _)
        exact ⟨q.2.2, w3, _, q.1, l2⟩
    · intro h' tk' st
      exact ⟨.inl ⟨.bool true, .bool true, [], rfl, fun cls => rfl, .bool true, (by kernel_rfl), fun h => ⟨.nil, fun a ha => nomatch ha⟩⟩, st, rfl, hg⟩)
end Mine
end
set_option maxRecDepth 100000 in
theorem PySem.Challenge.cw_sa0164_01_holds : PySem.Challenge.rw_sa0164_01.Holds :=
  Mine.tr
