import PyProof.Rows.All
import Wide.All
import OpenK.AllK
import Wide.FinOn
import Lean
import PySem.Challenge.RW_nt0130_01
set_option Elab.async false
set_option maxRecDepth 100000
set_option maxHeartbeats 4000000
set_option linter.unusedVariables false
namespace Mine
noncomputable section
section
open PySem PySem.W PyProof.Rows
set_option genSizeOf false
set_option genInjectivity false
inductive Lit where
 | nul | i0 | i1 | i2 | t
 deriving DecidableEq
inductive Plc where
 | r | a | b | c
 deriving DecidableEq
inductive Side where
 | lit (l : Lit)
 | col (s : Bool) (p : Plc)
 deriving DecidableEq
inductive Op where
 | eq | lt | le | gt | ge | ne
 deriving DecidableEq
inductive Led where
 | no | num | txt
 deriving DecidableEq
inductive Cond where
 | btw (s : Bool) (p : Plc) (lo hi : Side) (neg : Bool)
 | in1 (s : Bool) (p : Plc) (x : Side) (neg : Bool)
 | in2 (s : Bool) (p : Plc) (x y : Side) (neg : Bool)
 | ors (op : Op) (s : Bool) (p : Plc)
 | litl (op : Op) (s : Bool) (p : Plc)
 | bin (op : Op) (s : Bool) (p : Plc) (v : Side)
 deriving DecidableEq
inductive Bnd where
 | cmp (p : Plc) (op : Op) (v : Side) (led : Led)
 | inb1 (p : Plc) (x : Side) (led : Led)
 | inb2 (p : Plc) (x y : Side) (led : Led)
 deriving DecidableEq
inductive Dom where
 | side (s : Side)
 | cond (c : Cond)
 | bnd (b : Bnd)
 | due (b : Bnd)
 | row (s : Side)
 | term (c : Cond) (L : List Int)
 | hole (i : Nat)
 deriving DecidableEq
inductive FV where
 | non
 | bool (b : Bool)
 | int (i : Int)
 | str (cs : List Nat)
 | fix (v : Value)
 | tup (xs : List FV)
 | lst (xs : List FV)
 | rng (n : Nat)
 | node (C : Nat) (fs : List (Nat × FV))
 | idct (es : List (Int × FV))
 | sdct (es : List (List Nat × FV))
 | iset (xs : List Int)
 | dom (d : Dom)
inductive PV where
 | f (v : FV)
 | ref (i : Nat)
inductive AO where
 | inst (C : Nat) (fs : List (Nat × PV))
 | flist (xs : List FV)
 | rlist (xs : List PV)
 | idct (es : List (Int × FV))
 | src
 | fz (v : FV)
abbrev Hp := List AO
abbrev Vs := List (Nat × PV)
inductive T (α : Type) where
 | ret (a : α)
 | fail
 | take (n : Nat) (k : Nat -> T α)
 | pick (p : Dom -> Bool) (k : Dom -> T α)
 | need (p : Prop) (k : T α)
def T.bind {α β : Type} (t : T α) (k : α -> T β) : T β := T.rec (motive := λ _ => T β) k .fail (λ n _ ih => .take n ih) (λ p _ ih => .pick p ih) (λ p _ ih => .need p ih) t
noncomputable def T.AllP {α : Type} : T α -> (α -> Prop) -> Prop
 | .ret a, P => P a
 | .fail, _ => False
 | .take n g, P => ∀ d, d < n -> (g d).AllP P
 | .pick p g, P => ∀ d, p d = true -> (g d).AllP P
 | .need p g, P => p /\ g.AllP P
theorem T.AllP_mono {α : Type} {P Q : α -> Prop} (h : ∀ a, P a -> Q a) : ∀ {t : T α}, t.AllP P -> t.AllP Q
 | .ret a, x => h a x
 | .fail, x => x.elim
 | .take _ g, x => λ d hd => T.AllP_mono h (t := g d) (x d hd)
 | .pick _ g, x => λ d hd => T.AllP_mono h (t := g d) (x d hd)
 | .need _ g, x => ⟨x.1, T.AllP_mono h (t := g) x.2⟩
theorem T.AllP_bind {α β : Type} {k : α -> T β} {P : β -> Prop} : ∀ {t : T α}, (t.bind k).AllP P -> t.AllP λ a => (k a).AllP P
 | .ret _, x => x
 | .fail, x => x
 | .take _ g, x => λ d hd => T.AllP_bind (t := g d) (x d hd)
 | .pick _ g, x => λ d hd => T.AllP_bind (t := g d) (x d hd)
 | .need _ g, x => ⟨x.1, T.AllP_bind (t := g) x.2⟩
theorem T.AllP_of_bind {α β : Type} {k : α -> T β} {P : β -> Prop} : ∀ {t : T α}, (t.AllP λ a => (k a).AllP P) -> (t.bind k).AllP P
 | .ret _, x => x
 | .fail, x => x
 | .take _ g, x => λ d hd => T.AllP_of_bind (t := g d) (x d hd)
 | .pick _ g, x => λ d hd => T.AllP_of_bind (t := g d) (x d hd)
 | .need _ g, x => ⟨x.1, T.AllP_of_bind (t := g) x.2⟩
inductive IExpr where
 | cst (v : FV)
 | var (x : Nat)
 | glo (x : Nat)
 | attr (e : IExpr) (a : Nat)
 | callF (x : Nat) (f : Nat) (as : List IExpr)
 | new (x : Nat) (C : Nat) (as : List IExpr)
 | meth (o : IExpr) (a : Nat) (as : List IExpr)
 | append (nd : Bool) (o e : IExpr)
 | pop (o : IExpr)
 | len (e : IExpr)
 | isi (e : IExpr) (x : Nat) (c : Nat)
 | isit (e : IExpr) (cs : List (Nat × Nat))
 | srt (e : IExpr)
 | mkset (e : IExpr)
 | all (e : IExpr)
 | tolist (e : IExpr)
 | totup (e : IExpr)
 | tostr (e : IExpr)
 | rng (e : IExpr)
 | mx (a b : IExpr)
 | mn (a b : IExpr)
 | cmp (op : CmpOp) (l r : IExpr)
 | bop (isAnd : Bool) (es : List IExpr)
 | not (e : IExpr)
 | ite (t a b : IExpr)
 | bin (nd : Bool) (op : Operator) (l r : IExpr)
 | neg (e : IExpr)
 | lst (es : List IExpr)
 | tup (es : List IExpr)
 | dct0
 | sdct (rows : List (List Nat × List Nat))
 | sub (e i : IExpr)
 | comp (elt : IExpr) (x : Nat) (it : IExpr) (ifs : List IExpr)
 | frz (e : IExpr)
 | wall
 | cmp2 (a b d : IExpr)
 | strip (o e : IExpr)
 | join (o e : IExpr)
inductive Tg where
 | v (x : Nat)
 | a (o : IExpr) (n : Nat)
inductive IStmt where
 | expr (e : IExpr)
 | ret (e : IExpr)
 | retn
 | asg (x : Nat) (e : IExpr)
 | asgA (o : IExpr) (a : Nat) (e : IExpr)
 | asgS (o i e : IExpr)
 | asgT (ts : List Tg) (es : List IExpr)
 | asgW (xs : List Nat) (es : List IExpr)
 | asgU (ts : List Tg) (e : IExpr)
 | asgC (x : Nat) (elt : IExpr) (y : Nat) (it : IExpr) (ifs : List IExpr)
 | ite (t : IExpr) (a b : List IStmt)
 | for1 (x : Nat) (it : IExpr) (body : List IStmt)
 | forT (xs : List Nat) (it : IExpr) (body : List IStmt)
 | whl (t : IExpr) (body : List IStmt)
 | brk
 | cont
 | gfrz (x : Nat)
 | gfrzA (x a : Nat)
 | gc (keep : List Nat)
inductive Fl where
 | next | brk | cont
 | ret (p : PV)
end
section
open PySem PySem.W PyProof.Rows
set_option backward.match.sparseCases false
structure FnI where
 ps : List Nat
 dn : List FV
 body : List IStmt
structure ClsI where
 init : Nat
 fields : List Nat
 meths : List (Nat × Nat)
structure Tb where
 view : Dom -> FV
 fns : Nat -> Option FnI
 cls : Nat -> Option ClsI
 glb : Nat -> Option FV
abbrev Ctr := Nat -> List PV -> Hp -> Option (T (PV × Hp))
def look {α : Type} (l : List (Nat × α)) (x : Nat) : Option α := List.rec none (λ p _ ih => match Nat.beq p.1 x with
 | true => some p.2
 | false => ih) l
def put {α : Type} (l : List (Nat × α)) (x : Nat) (v : α) : List (Nat × α) := List.rec [(x, v)] (λ p r ih => match Nat.beq p.1 x with
 | true => (x, v) :: r
 | false => p :: ih) l
def nP (l : List Nat) (x : Nat) : Bool := List.rec false (λ y _ ih => match Nat.beq y x with
 | true => true
 | false => ih) l
def nth {α : Type} (l : List α) : Nat -> Option α := List.rec (λ _ => none) (λ x _ ih n => Nat.rec (some x) (λ m _ => ih m) n) l
def a9 {α : Type} (l : List α) : Nat -> α -> List α := List.rec (λ _ _ => []) (λ x r ih n y => Nat.rec (y :: r) (λ m _ => x :: ih m y) n) l
noncomputable def lV (a : List Nat) : List Nat -> Bool := List.rec (λ b => List.rec true (λ _ _ _ => false) b) (λ x _ ih b => List.rec false (λ y t _ => match Nat.beq x y with
 | true => ih t
 | false => false) b) a
def lenLe {α : Type} (l : List α) : Nat -> Bool := List.rec (λ _ => true) (λ _ _ ih n => Nat.rec false (λ m _ => ih m) n) l
def nrm (H : Hp) (p : PV) : PV := match p with
 | .ref i => match nth H i with
  | some (.fz v) => .f v
  | _ => p
 | p => p
def fvw (tb : Tb) (v : FV) : FV := match v with
 | .dom d => tb.view d
 | v => v
def oB {α β : Type} (o : Option α) (k : α -> T β) : T β := Option.rec .fail k o
def gB {β : Type} (b : Bool) (t : T β) : T β := Bool.rec .fail t b
theorem oBE {α β : Type} {o : Option α} {k : α -> T β} {P : β -> Prop} {G : Prop} (h : (oB o k).AllP P) (g : ∀ a, o = some a -> (k a).AllP P -> G) : G := by cases o with
 | none => exact h.elim
 | some a => exact g a rfl h
theorem gBE {β : Type} {b : Bool} {t : T β} {P : β -> Prop} (h : (gB b t).AllP P) : b = true /\ t.AllP P := by cases b with
 | false => exact h.elim
 | true => exact ⟨rfl, h⟩
def oO {α β : Type} (o : Option α) (k : α -> Option β) : Option β := Option.rec none k o
def gO {β : Type} (b : Bool) (t : Option β) : Option β := Bool.rec none t b
theorem oOE {α β : Type} {o : Option α} {k : α -> Option β} {y : β} {G : Prop} (h : oO o k = some y) (g : ∀ a, o = some a -> k a = some y -> G) : G := by cases o with
 | none => cases h
 | some a => exact g a rfl h
theorem gOE {β : Type} {b : Bool} {t : Option β} {y : β} (h : gO b t = some y) : b = true /\ t = some y := by cases b with
 | false => cases h
 | true => exact ⟨rfl, h⟩
theorem noS {α : Type} {a : α} {p : Prop} (h : none = some a) : p := (nomatch h : p)
noncomputable def fvO {β : Type} (non : Option β := none) (bool : Bool -> Option β := λ _ => none) (int : Int -> Option β := λ _ => none) (str : List Nat -> Option β := λ _ => none) (tup lst : List FV -> Option β := λ _ => none) (rng : Nat -> Option β := λ _ => none)
  (node : Nat -> List (Nat × FV) -> Option β := λ _ _ => none) (idct : List (Int × FV) -> Option β := λ _ => none) (sdct : List (List Nat × FV) -> Option β := λ _ => none) (iset : List Int -> Option β := λ _ => none) (v : FV) : Option β :=
 FV.casesOn (motive_1 := λ _ => Option β) v non bool int str (λ _ => none) tup lst rng node idct sdct iset (λ _ => none)
def wA (v : FV) : Option Int := fvO (int := some) (v := v)
def rR (v : FV) : Option (List Nat) := fvO (str := some) (v := v)
def oU (v : FV) : Option (List FV) := fvO (lst := some) (v := v)
def oN (v : FV) : Option (List FV) := fvO (tup := some) (v := v)
def FU (v : FV) : Option (Nat × List (Nat × FV)) := fvO (node := λ C fs => some (C, fs)) (v := v)
theorem eG {v : FV} {x : Int} (h : wA v = some x) : v = .int x := by cases v with
 | int i => cases h; rfl
 | _ => exact noS h
theorem fR {v : FV} {x : List Nat} (h : rR v = some x) : v = .str x := by cases v with
 | str i => cases h; rfl
 | _ => exact noS h
theorem dK {v : FV} {x : List FV} (h : oU v = some x) : v = .lst x := by cases v with
 | lst i => cases h; rfl
 | _ => exact noS h
theorem rQ {v : FV} {x : List FV} (h : oN v = some x) : v = .tup x := by cases v with
 | tup i => cases h; rfl
 | _ => exact noS h
theorem yJ {v : FV} {x : Nat × List (Nat × FV)} (h : FU v = some x) : v = .node x.1 x.2 := by cases v with
 | node C fs => cases h; rfl
 | _ => exact noS h
def uV (p : PV) : Bool := PV.casesOn (motive := λ _ => Bool) p (λ v => Option.rec (motive := λ _ => Bool) false (λ _ => true) (fvO (non := some ()) (v := v))) λ _ => false
theorem jY {p : PV} (h : uV p = true) : p = .f .non := by cases p with
 | ref i => exact (Bool.noConfusion h : _)
 | f v => cases v with
  | non => rfl
  | _ => exact (Bool.noConfusion (show false = true from h) : _)
def orT {α : Type} (o : Option (T α)) (t : T α) : T α := Option.rec t (λ t => t) o
theorem RN {α : Type} {o : Option (T α)} {t : T α} {P : α -> Prop} {G : Prop} (h : (orT o t).AllP P) (g : ∀ t', o = some t' -> t'.AllP P -> G) (g' : t.AllP P -> G) : G := by cases o with
 | none => exact g' h
 | some a => exact g a rfl h
noncomputable def aoO {β : Type} (flist : List FV -> Option β := λ _ => none) (rlist : List PV -> Option β := λ _ => none) (idct : List (Int × FV) -> Option β := λ _ => none) (ao : AO) : Option β := AO.casesOn (motive := λ _ => Option β) ao (λ _ _ => none) flist rlist idct none (λ _ => none)
def KH (ao : AO) : Option (List FV) := aoO (flist := some) (ao := ao)
theorem pA {v : AO} {x : List FV} (h : KH v = some x) : v = .flist x := by cases v with
 | flist i => cases h; rfl
 | _ => exact noS h
def KG (ao : AO) : Option (List (Int × FV)) := aoO (idct := some) (ao := ao)
theorem oV {v : AO} {x : List (Int × FV)} (h : KG v = some x) : v = .idct x := by cases v with
 | idct i => cases h; rfl
 | _ => exact noS h
def oS (p : PV) : Option Nat := PV.casesOn (motive := λ _ => Option Nat) p (λ _ => none) some
theorem eE {p : PV} {x : Nat} (h : oS p = some x) : p = .ref x := by cases p with
 | ref i => cases h; rfl
 | f v => exact noS h
noncomputable def tY (ao : AO) : Option (Nat × List (Nat × PV)) := AO.casesOn (motive := λ _ => Option (Nat × List (Nat × PV))) ao (λ C fs => some (C, fs)) (λ _ => none) (λ _ => none) (λ _ => none) none (λ _ => none)
theorem jJ {v : AO} {x : Nat × List (Nat × PV)} (h : tY v = some x) : v = .inst x.1 x.2 := by cases v with
 | inst C fs => cases h; rfl
 | _ => exact noS h
def QI (tb : Tb) (v : FV) : Option Nat := fvO (non := some 0) (int := λ _ => some 1) (str := λ _ => some 2) (node := λ C _ => oO (tb.cls C) λ _ => some C) (v := fvw tb v)
noncomputable def GF (tb : Tb) (H : Hp) (p : PV) : Option Nat := PV.casesOn (motive := λ _ => Option Nat) (nrm H p) (QI tb) λ i => oO (nth H i) λ ao => oO (tY ao) λ z => oO (tb.cls z.1) λ _ => some z.1
noncomputable def IB (tb : Tb) (H : Hp) (p : PV) : Option (Nat × (Nat -> Option PV)) := PV.casesOn (motive := λ _ => Option (Nat × (Nat -> Option PV))) (nrm H p) (λ v => oO (FU (fvw tb v)) λ z => some (z.1, λ a => (look z.2 a).map .f)) (λ i => oO (nth H i) λ ao => oO (tY ao) λ z => some (z.1, look z.2))
def LO (tb : Tb) (H : Hp) (p : PV) : Option Nat := oO (IB tb H p) λ z => some z.1
def EF (tb : Tb) (H : Hp) (p : PV) (a : Nat) : Option PV := oO (IB tb H p) λ z => z.2 a
noncomputable def G3 (tb : Tb) (H : Hp) (p : PV) (a : Nat) (x : PV) : Option Hp := oO (oS p) λ i => oO (nth H i) λ ao => oO (tY ao) λ z => oO (tb.cls z.1) λ ci => gO (nP ci.fields a) <| gO (lenLe z.2 100) <| some (a9 H i (.inst z.1 (put z.2 a x)))
def iJ (v : FV) : Bool := Option.rec (motive := λ _ => Bool) false (λ _ => true) (fvO (non := some ()) (int := λ _ => some ()) (str := λ _ => some ()) (v := v))
def gH {α : Type} (l : List α) : Bool := List.casesOn (motive := λ _ => Bool) l true λ _ _ => false
def oBl {α : Type} (o : Option α) (k : α -> Bool) : Bool := Option.rec (motive := λ _ => Bool) false k o
theorem DG {α : Type} {o : Option α} {k : α -> Bool} {G : Prop} (h : oBl o k = true) (g : ∀ a, o = some a -> k a = true -> G) : G := by cases o with
 | none => cases h
 | some a => exact g a rfl h
noncomputable def LR (v : FV) : Option Dom := FV.casesOn (motive_1 := λ _ => Option Dom) v none (λ _ => none) (λ _ => none) (λ _ => none) (λ _ => none) (λ _ => none) (λ _ => none) (λ _ => none) (λ _ _ => none) (λ _ => none) (λ _ => none) (λ _ => none) some
theorem BX {v : FV} {x : Dom} (h : LR v = some x) : v = .dom x := by cases v with
 | dom i => cases h; rfl
 | _ => exact noS h
noncomputable def UC (x y : FV) : Bool := FV.casesOn (motive_1 := λ _ => Bool) x false (λ _ => false) (λ _ => false) (λ a => oBl (rR y) λ b => lV a b) (λ _ => false) (λ _ => false) (λ _ => false) (λ _ => false) (λ _ _ => false) (λ _ => false) (λ _ => false) (λ _ => false) λ d => oBl (LR y) λ e => decide (d = e)
def BS (a b : List FV) : Bool := List.rec (motive := λ _ => List FV -> Bool) (λ l => gH l) (λ x _ ih l => List.casesOn (motive := λ _ => Bool) l false λ y t => UC x y && ih t) a b
def TN (d : Dom) : Bool := Dom.casesOn d (λ _ => false) (λ _ => false) (λ _ => false) (λ _ => true) (λ _ => false) (λ _ _ => false) (λ _ => false)
noncomputable def LK (x : FV) : Bool := FV.casesOn (motive_1 := λ _ => Bool) x false (λ _ => false) (λ _ => false) (λ _ => true) (λ _ => false) (λ _ => false) (λ _ => false) (λ _ => false) (λ _ _ => false) (λ _ => false) (λ _ => false) (λ _ => false) TN
def nU (l : List FV) : Bool := List.rec true (λ x _ ih => LK x && ih) l
def DC (xs : List FV) : Bool := List.rec true (λ x _ ih => iJ x && ih) xs
def asF (p : PV) : Option FV := PV.casesOn (motive := λ _ => Option FV) p some λ _ => none
theorem bO {p : PV} {x : FV} (h : asF p = some x) : p = .f x := by cases p with
 | f i => cases h; rfl
 | ref v => exact noS h
noncomputable def i4 (H : Hp) (p : PV) : Option Bool := oO (asF (nrm H p)) λ v => fvO (bool := some) (non := some false) (str := λ cs => List.casesOn (motive := λ _ => Option Bool) cs (some false) λ _ r => gO (lenLe r 1000) (some true)) (v := v)
noncomputable def TY (a b : List FV) : Option Bool := List.casesOn (motive := λ _ => Option Bool) a (List.casesOn (motive := λ _ => Option Bool) b (some true) λ _ _ => some false) λ _ _ => List.casesOn (motive := λ _ => Option Bool) b (some false) λ _ _ => gO (nU a) <| gO (BS a b) <| some true
noncomputable def eqP (x y : FV) : Option Bool := FV.casesOn (motive_1 := λ _ => Option Bool) x (fvO (non := some true) (int := λ _ => some false) (str := λ _ => some false) (v := y)) (λ _ => none) (λ i => fvO (non := some false) (int := λ j => some (decide (i = j))) (str := λ _ => some false) (v := y))
 (λ a => fvO (non := some false) (int := λ _ => some false) (str := λ b => some (lV a b)) (v := y)) (λ _ => none) (λ _ => none) (λ _ => none) (λ _ => none) (λ _ _ => none) (λ _ => none) (λ _ => none) (λ _ => none) (λ _ => none)
def eqF (x y : FV) : Option Bool := Bool.rec (motive := λ _ => Option Bool) (oO (oU x) λ a => oO (oU y) λ b => TY a b) (gO (iJ y) <| eqP x y) (iJ x)
noncomputable def eqB (H : Hp) (a b : PV) : Option Bool := oO (asF (nrm H b)) λ y => PV.casesOn (motive := λ _ => Option Bool) (nrm H a) (λ x => eqF x y) λ i => oO (oU y) λ ys => gO (gH ys) <| oO (nth H i) λ ao => aoO (flist := λ xs => some (gH xs)) (rlist := λ xs => some (gH xs)) (ao := ao)
def isB (H : Hp) (a b : PV) : Option Bool := gO (uV (nrm H b)) <| some (uV (nrm H a))
def memL (x : FV) (l : List FV) : Option Bool := List.rec (some false) (λ y _ ih => Option.rec none (λ b => Bool.rec ih (some true) b) (eqF y x)) l
def p6 (p : PV) : Option Int := oO (asF p) wA
def v8 (p : PV) : Option (List Nat) := oO (asF p) rR
def hasI (l : List (Int × FV)) (x : Int) : Bool := List.rec false (λ p _ ih => decide (p.1 = x) || ih) l
def DO (l : List Int) (x : Int) : Bool := List.rec false (λ p _ ih => decide (p = x) || ih) l
def u6 (l : List (List Nat × FV)) (x : List Nat) : Option FV := List.rec none (λ p _ ih => Bool.rec ih (some p.2) (lV p.1 x)) l
def leS (x y : List Nat) : Bool := !(decide (y < x))
def leT (H : Hp) (a b : PV) : Option Bool := oO (v8 (nrm H a)) λ x => oO (v8 (nrm H b)) λ y => some (leS x y)
def VY (x y : List Nat) : Bool := !(Builtin.Str.occurrences ⟨y.toArray⟩ ⟨x.toArray⟩ 0 (Str.length ⟨y.toArray⟩) 1).isEmpty
def wN (x y : List Nat) : List Nat := (Txt.stripChars ⟨x.toArray⟩ ⟨y.toArray⟩).cps.toList
def wM (l : List FV) : Option (List (List Nat)) := List.rec (some []) (λ x _ ih => oO (rR x) λ s => oO ih λ l => some (s :: l)) l
def D2 (xs : List (List Nat)) : List Nat := (Txt.join ⟨#[]⟩ (xs.map λ x => ⟨x.toArray⟩)).cps.toList
def D3 (xs : List (List Nat)) : Bool := JoinOk ⟨#[]⟩ (xs.map λ x => ⟨x.toArray⟩)
def tX (l : List Nat) : Bool := List.rec true (λ x _ ih => Nat.blt x 128 && ih) l
def inL (x : FV) (xs : List FV) : Option Bool := gO (iJ x) <| gO (DC xs) <| memL x xs
def inI (x : FV) (es : List (Int × FV)) : Option Bool := oO (wA x) λ i => some (hasI es i)
noncomputable def inB (H : Hp) (a b : PV) : Option Bool := oO (asF (nrm H a)) λ x => PV.casesOn (motive := λ _ => Option Bool) (nrm H b) (fvO (tup := inL x) (lst := inL x) (idct := inI x) (sdct := λ es => oO (rR x) λ k => some (u6 es k).isSome) (iset := λ es => oO (wA x) λ i => some (DO es i)) (str := λ y => oO (rR x) λ z => some (VY z y)) (v := ·))
 λ i => oO (nth H i) λ ao => oO (KG ao) (inI x)
noncomputable def ltI (op : CmpOp) (i j : Int) : Option Bool := CmpOp.casesOn (motive := λ _ => Option Bool) op none none (some (decide (i < j))) (some (decide (i <= j))) (some (decide (i > j))) (some (decide (i >= j))) none none none none
def ltB (H : Hp) (op : CmpOp) (a b : PV) : Option Bool := oO (p6 (nrm H a)) λ i => oO (p6 (nrm H b)) λ j => ltI op i j
def DJ (o : Option Bool) : Option Bool := oO o λ b => some (!b)
noncomputable def xY (H : Hp) (op : CmpOp) (a b : PV) : Option Bool := CmpOp.casesOn (motive := λ _ => Option Bool) op (eqB H a b) (DJ (eqB H a b)) (ltB H .Lt a b) (ltB H .LtE a b) (ltB H .Gt a b) (ltB H .GtE a b) (isB H a b) (DJ (isB H a b)) (inB H a b) (DJ (inB H a b))
def mP (i : Int) : Bool := Int.casesOn (motive := λ _ => Bool) i (λ n => Nat.blt n 1000000) λ n => Nat.blt n 1000000
noncomputable def ofO {α : Type} : Option α -> T α
 | some a => .ret a
 | none => .fail
def yI (p : PV) : Option (List FV) := oO (asF p) oU
def j1 (H : Hp) (p : PV) : Option (List FV) := PV.casesOn (motive := λ _ => Option (List FV)) (nrm H p) oU λ i => oO (nth H i) KH
noncomputable def jV (H : Hp) (p : PV) : Option (List PV) := PV.casesOn (motive := λ _ => Option (List PV)) (nrm H p) (λ v => oO (oU v) λ xs => some (xs.map .f)) λ i => oO (nth H i) λ ao => aoO (flist := λ xs => some (xs.map .f)) (rlist := some) (ao := ao)
def oT {α β : Type} (o : Option α) (k : α -> T β) (t : T β) : T β := Option.rec t k o
theorem oTE {α β : Type} {o : Option α} {k : α -> T β} {t : T β} {P : β -> Prop} {G : Prop} (h : (oT o k t).AllP P) (g : ∀ a, o = some a -> (k a).AllP P -> G) (g' : t.AllP P -> G) : G := by cases o with
 | none => exact g' h
 | some a => exact g a rfl h
def FM {α β : Type} (a : Option α) (b : Option β) : Option (α × β) := oO a λ x => oO b λ y => some (x, y)
theorem iN {α β : Type} {a : Option α} {b : Option β} {z : α × β} (h : FM a b = some z) : a = some z.1 /\ b = some z.2 := oOE h λ x hx h => oOE h λ y hy h => by cases h; exact ⟨hx, hy⟩
def qO (nd : Bool) {α : Type} (xs : List α) {β : Type} (t : T β) : T β := match nd with
 | true => .need (xs.length <= 1000) t
 | false => gB (lenLe xs 1000) <| t
noncomputable def binI (op : Operator) (i j : Int) : Option Int := gO (mP i) <| gO (mP j) <| Operator.casesOn (motive := λ _ => Option Int) op (some (i + j)) (some (i - j)) (some (i * j)) none none none none none none none none none (Int.casesOn (motive := λ _ => Option Int) j (λ n => Nat.casesOn (motive := λ _ => Option Int) n none λ m => some (i.fdiv (.ofNat (m + 1)))) λ _ => none)
def LJ (op : Operator) : Bool := Operator.casesOn (motive := λ _ => Bool) op true false false false false false false false false false false false false
noncomputable def P0 (nd : Bool) (op : Operator) (a b : PV) (H : Hp) : T (PV × Hp) := oT (p6 (nrm H a)) (λ i => oB (p6 (nrm H b)) λ j => oB (binI op i j) λ r => .ret (.f (.int r), H)) <| gB (LJ op) <| oT (v8 (nrm H a)) (λ s => oB (v8 (nrm H b)) λ s' => qO false (s ++ s') (.ret (.f (.str (s ++ s')), H))) <|
 oT (FM (j1 H a) (j1 H b)) (λ z => qO nd (z.1 ++ z.2) (.ret (.ref H.length, H ++ [.flist (z.1 ++ z.2)]))) <| oB (FM (jV H a) (jV H b)) λ z => qO nd (z.1 ++ z.2) (.ret (.ref H.length, H ++ [.rlist (z.1 ++ z.2)]))
def MA (l : List PV) : Option (List FV) := List.rec (some []) (λ p _ ih => oO (asF p) λ v => oO ih λ x => some (v :: x)) l
def NT (H : Hp) (p : PV) : Option FV := asF (nrm H p)
def C8 (H : Hp) (l : List PV) : Option (List FV) := List.rec (some []) (λ p _ ih => oO (NT H p) λ v => oO ih λ vs => some (v :: vs)) l
def NU (H : Hp) (l : List (Nat × PV)) : Option (List (Nat × FV)) := List.rec (some []) (λ p _ ih => oO (NT H p.2) λ v => oO ih λ vs => some ((p.1, v) :: vs)) l
noncomputable def V3 (H : Hp) (ao : AO) : Option FV := AO.casesOn (motive := λ _ => Option FV) ao (λ C fs => oO (NU H fs) λ vs => some (.node C vs)) (λ xs => some (.lst xs)) (λ ps => oO (C8 H ps) λ vs => some (.lst vs)) (λ es => some (.idct es)) none (λ _ => none)
noncomputable def frz (p : PV) (H : Hp) : Option (FV × Hp) := PV.casesOn (motive := λ _ => Option (FV × Hp)) (nrm H p) (λ v => some (v, H)) λ i => oO (nth H i) λ ao => oO (V3 H ao) λ v => some (v, a9 H i (.fz v))
def fD (l : List FV) : Option (List Int) := List.rec (some []) (λ x _ ih => oO (wA x) λ i => oO ih λ l => some (i :: l)) l
def tZ (v : FV) : Option Bool := fvO (bool := some) (v := v)
theorem yK {v : FV} {x : Bool} (h : tZ v = some x) : v = .bool x := by cases v with
 | bool i => cases h; rfl
 | _ => exact noS h
def n8 (l : List FV) : Option Bool := List.rec (some true) (λ x _ ih => oO (tZ x) λ b => oO ih λ r => some (b && r)) l
noncomputable def insI (x : Int) : List Int -> List Int
 | [] => [x]
 | y :: r => match decide (x <= y) with
  | true => x :: y :: r
  | false => y :: insI x r
noncomputable def sortI : List Int -> List Int
 | [] => []
 | x :: r => insI x (sortI r)
noncomputable def u9 : List (Int × FV) -> List Int
 | [] => []
 | p :: r => p.1 :: u9 r
noncomputable def BD : List Int -> List Int
 | [] => []
 | x :: r => match DO r x with
  | true => BD r
  | false => x :: BD r
noncomputable def pO (l : List (Int × FV)) (x : Int) (v : FV) : List (Int × FV) := List.rec [(x, v)] (λ p r ih => Bool.casesOn (motive := λ _ => List (Int × FV)) (decide (p.1 = x)) (p :: ih) ((p.1, v) :: r)) l
def upTo (n : Nat) : Nat -> List FV := Nat.rec (λ _ => []) (λ _ ih k => .int (.ofNat k) :: ih (k + 1)) n
def okS (cs : List Nat) : Bool := List.rec true (λ c _ ih => Nat.blt c 1114112 && ih) cs
noncomputable def bY (H : Hp) (p : PV) : Option (List FV) := oO (asF (nrm H p)) λ v => fvO (lst := some) (tup := some) (rng := λ n => some (upTo n 0)) (str := λ cs => gO (tX cs) <| gO (lenLe cs 2000) <| some (cs.map λ x => .str [x])) (v := v)
def itemAt {α : Type} (xs : List α) (i : Int) : Option α := Int.casesOn (motive := λ _ => Option α) i (nth xs) λ _ => none
def UD (v : FV) : Option (List (List Nat × FV)) := fvO (sdct := some) (v := v)
theorem FS {v : FV} {x : List (List Nat × FV)} (h : UD v = some x) : v = .sdct x := by cases v with
 | sdct i => cases h; rfl
 | _ => exact noS h
def CX (H : Hp) (p : PV) : Option (List FV) := PV.casesOn (motive := λ _ => Option (List FV)) (nrm H p) (λ v => fvO (lst := some) (tup := some) (v := v)) λ j => oO (nth H j) KH
noncomputable def U0 (H : Hp) (o i : PV) : Option PV := oO (asF (nrm H i)) λ y => fvO (int := λ k => oO (CX H o) λ xs => (itemAt xs k).map .f) (str := λ k => oO (asF (nrm H o)) λ z => oO (UD z) λ es => (u6 es k).map .f) (v := y)
noncomputable def OB (H : Hp) (p : PV) : Option Nat := PV.casesOn (motive := λ _ => Option Nat) (nrm H p) (λ v => fvO (tup := λ xs => some xs.length) (lst := λ xs => some xs.length) (v := v)) (λ j => oO (nth H j) λ ao => aoO (flist := λ xs => some xs.length) (rlist := λ xs => some xs.length) (ao := ao))
def mmT (g : Int -> Int -> Bool) (a b : PV) (H : Hp) : T (PV × Hp) := oB (p6 (nrm H a)) λ i => oB (p6 (nrm H b)) λ j => .ret (.f (.int (Bool.rec i j (g i j))), H)
def UE (i : Int) : Option Nat := Int.casesOn (motive := λ _ => Option Nat) i some λ _ => none
def BW (p : PV) : Option Nat := oO (p6 p) UE
def isL (ao : AO) : Option Unit := aoO (flist := λ _ => some ()) (rlist := λ _ => some ()) (ao := ao)
def LI (H : Hp) (p : PV) : Option Nat := oO (oS p) λ i => oO (nth H i) λ ao => oO (isL ao) λ _ => some i
def lL (xs : List FV) : Option (List FV × FV) := List.rec none (λ x _ ih => Option.rec (some ([], x)) (λ q => some (x :: q.1, q.2)) ih) xs
noncomputable def UF {β : Type} (nd : Bool) (ao : AO) (q p : PV) (k : AO -> T β) : T β := AO.casesOn (motive := λ _ => T β) ao (λ _ _ => .fail) (λ xs => PV.casesOn (motive := λ _ => T β) q (λ v => qO nd xs (k (.flist (xs ++ [v])))) (λ j => List.casesOn (motive := λ _ => T β) xs (k (.rlist [.ref j])) λ _ _ => .fail))
 (λ xs => qO nd xs (k (.rlist (xs ++ [p])))) (λ _ => .fail) .fail (λ _ => .fail)
def PK (n : Nat) : Option (List Nat) := gO (Nat.blt n 10) <| some [48 + n]
def IF (l : List (List Nat × List Nat)) (k : List Nat) : Bool := List.rec false (λ p _ ih => lV p.1 k || ih) l
def K4 (l : List (List Nat × List Nat)) : Bool := List.rec true (λ p r ih => !(IF r p.1) && ih) l
def sdV (l : List (List Nat × List Nat)) : List (List Nat × FV) := List.rec [] (λ p _ ih => (p.1, .str p.2) :: ih) l
def U2 (rows : List (List Nat × List Nat)) : Bool := lenLe rows 15 && (!(gH rows) && K4 rows)
def P9 {α β : Type} (l : List α) : List β -> List (α × β) := List.rec (λ _ => []) (λ x _ ih r => List.casesOn (motive := λ _ => List (α × β)) r [] λ y t => (x, y) :: ih t) l
theorem GC {α β : Type} {l : List α} : ∀ {r : List β}, P9 l r = l.zip r := by induction l with
 | nil => exact rfl
 | cons x l ih => intro r; cases r with
  | nil => rfl
  | cons y t => exact congrArg ((x, y) :: ·) ih
noncomputable def zV (ps : List Nat) (as : List PV) (d : List FV) : Option Vs := gO (lenLe as ps.length) <| gO (lenLe ps (as.length + d.length)) <| some (P9 ps (as ++ (d.drop (as.length + d.length - ps.length)).map .f))
structure Ev where
 e : IExpr -> Vs -> Hp -> T (PV × Hp)
 t : IExpr -> Vs -> Hp -> T (Bool × Hp)
 b : Nat -> List IStmt -> Vs -> Hp -> T (Fl × Vs × Hp)
 c : Nat -> List PV -> Hp -> T (PV × Hp)
def Ev.none : Ev := ⟨λ _ _ _ => .fail, λ _ _ _ => .fail, λ _ _ _ _ => .fail, λ _ _ _ => .fail⟩
noncomputable def iR (f : IExpr -> Hp -> T (PV × Hp)) (l : List IExpr) : Hp -> T (List PV × Hp) := List.rec (λ H => .ret ([], H)) (λ e _ ih H => (f e H).bind λ a => (ih a.2).bind λ b => .ret (a.1 :: b.1, b.2)) l
theorem qN (f : IExpr -> Hp -> T (PV × Hp)) (e : IExpr) (r : List IExpr) (H : Hp) : iR f (e :: r) H = (f e H).bind λ a => (iR f r a.2).bind λ b => .ret (a.1 :: b.1, b.2) := rfl
def bT {β : Type} (b : Bool) (x y : T β) : T β := Bool.casesOn (motive := λ _ => T β) b y x
def bP (f : IExpr -> Hp -> T (Bool × Hp)) (l : List IExpr) : Hp -> T (Bool × Hp) := List.rec (λ H => .ret (true, H)) (λ e _ ih H => (f e H).bind λ a => bT a.1 (ih a.2) (.ret (false, a.2))) l
def CY {β : Type} (p b : Bool) (x y : T β) : T β := Bool.casesOn (motive := λ _ => T β) p (Bool.casesOn (motive := λ _ => T β) b x y) (Bool.casesOn (motive := λ _ => T β) b y x)
noncomputable def PZ (isAnd : Bool) (f : IExpr -> Hp -> T (PV × Hp)) (l : List IExpr) : Hp -> T (PV × Hp) := List.rec (λ _ => .fail) (λ e r ih H => List.casesOn (motive := λ _ => T (PV × Hp)) r (f e H) λ _ _ => (f e H).bind λ a => oB (i4 a.2 a.1) λ b => CY isAnd b (ih a.2) (.ret a)) l
noncomputable def btT (isAnd : Bool) (f : IExpr -> Hp -> T (Bool × Hp)) (l : List IExpr) : Hp -> T (Bool × Hp) := List.rec (λ H => .ret (isAnd, H)) (λ e _ ih H => (f e H).bind λ a => CY isAnd a.1 (ih a.2) (.ret (!isAnd, a.2))) l
noncomputable def cR (ts : Vs -> Hp -> T (Bool × Hp)) (el : Vs -> Hp -> T (PV × Hp)) (vs : Vs) (x : Nat) (l : List FV) : Hp -> T (List FV × Hp) := List.rec (λ H => .ret ([], H)) (λ v _ ih H => (ts (put vs x (.f v)) H).bind λ a =>
 bT a.1 ((el (put vs x (.f v)) a.2).bind λ y => oB (asF (nrm y.2 y.1)) λ u => (ih y.2).bind λ z => .ret (u :: z.1, z.2)) (ih a.2)) l
def lW (t : T (PV × Hp)) : Option FV := match t with
 | .need _ k => match k with
  | .ret r => match r.1 with
   | .f v => some v
   | _ => none
  | _ => none
 | _ => none
def opn (tb : Tb) (p : PV) : PV := match p with
 | .f v => .f (fvw tb v)
 | p => p
noncomputable def g9 (tb : Tb) (ev : Ev) (ts : Vs -> Hp -> T (Bool × Hp)) (el : Vs -> Hp -> T (PV × Hp)) (vs : Vs) (x : Nat) (xs : List FV) (H : Hp) : T (FV × Hp) :=
 Option.rec ((cR ts el vs x xs H).bind λ z => .ret (.lst z.1, z.2)) (λ v => .need (∃ ys, (∀ P : List FV × Hp -> Prop, P (ys, H) -> (cR ts el vs x xs H).AllP P) /\ fvw tb v = .lst ys) (.ret (v, H))) (lW (ev.c (100000 + x) [] H))
def TM (op : CmpOp) : Bool := CmpOp.casesOn (motive := λ _ => Bool) op false true false false false false false false false false
noncomputable def vJ (ev : Ev) (op : CmpOp) (a b : PV) (H : Hp) : T Bool := Bool.rec (ofO (xY H op a b)) (Option.rec (ofO (xY H op a b)) (λ r => .need (xY H op a b = some r) (.ret r)) (oO (lW (ev.c 200000 [] H)) tZ)) (TM op)
theorem vI {tb : Tb} {ev : Ev} {ts : Vs -> Hp -> T (Bool × Hp)} {el : Vs -> Hp -> T (PV × Hp)} {vs : Vs} {x : Nat} {xs : List FV} {H : Hp} {β : Type} {K : FV × Hp -> T β} {P : β -> Prop} (h : ((g9 tb ev ts el vs x xs H).bind K).AllP P) :
  ((cR ts el vs x xs H).bind .ret).AllP λ z => ∃ v, fvw tb v = .lst z.1 /\ (K (v, z.2)).AllP P := by
 unfold g9 at h
 refine T.AllP_of_bind ?_
 revert h
 cases lW (ev.c (100000 + x) [] H) with
 | some v => exact λ h => h.1.choose_spec.1 _ ⟨v, h.1.choose_spec.2, h.2⟩
 | none => exact λ h => T.AllP_mono (λ z hz => ⟨_, rfl, hz⟩) (T.AllP_bind (T.AllP_bind h))
theorem RU {α β : Type} {o : Option α} {K : α -> T β} {P : β -> Prop} (h : ((ofO o).bind K).AllP P) : ∃ r, o = some r /\ (K r).AllP P := by cases o with
 | none => exact h.elim
 | some r => exact ⟨r, rfl, h⟩
theorem zQ {ev : Ev} {op : CmpOp} {a b : PV} {H : Hp} {β : Type} {K : Bool -> T β} {P : β -> Prop} (h : ((vJ ev op a b H).bind K).AllP P) : ∃ r, xY H op a b = some r /\ (K r).AllP P := by
 unfold vJ at h
 revert h
 cases TM op with
 | false => exact RU
 | true =>
  cases oO (lW (ev.c 200000 [] H)) tZ with
  | none => exact RU
  | some r => exact λ h => ⟨r, h.1, h.2⟩
noncomputable def putAll (xs : List Nat) : List PV -> Vs -> Option Vs := List.rec (λ ps vs => gO (gH ps) (some vs)) (λ x _ ih ps vs => List.casesOn (motive := λ _ => Option Vs) ps none λ p ps => ih ps (put vs x p)) xs
def CH (H : Hp) (p : PV) : Option (List FV) := oO (asF (nrm H p)) oN
noncomputable def lpT (z : Fl × Vs × Hp) (k : Vs -> Hp -> T (Fl × Vs × Hp)) : T (Fl × Vs × Hp) := Fl.casesOn (motive := λ _ => T (Fl × Vs × Hp)) z.1 (k z.2.1 z.2.2) (.ret (.next, z.2.1, z.2.2)) (k z.2.1 z.2.2) λ p => .ret (.ret p, z.2.1, z.2.2)
def forT (bd : FV -> Vs -> Hp -> T (Fl × Vs × Hp)) (l : List FV) : Vs -> Hp -> T (Fl × Vs × Hp) := List.rec (λ vs H => .ret (.next, vs, H)) (λ x _ ih vs H => (bd x vs H).bind λ z => lpT z ih) l
def KF (ao : AO) : Option (List PV) := aoO (rlist := some) (ao := ao)
theorem oR {v : AO} {x : List PV} (h : KF v = some x) : v = .rlist x := by cases v with
 | rlist i => cases h; rfl
 | _ => exact noS h
noncomputable def IH (bd : PV -> Vs -> Hp -> T (Fl × Vs × Hp)) (i n : Nat) : Nat -> Vs -> Hp -> T (Fl × Vs × Hp) := Nat.rec (λ k vs H => oB (nth H i) λ ao => oB (KF ao) λ xs => gB (lenLe xs k) <| .ret (.next, vs, H))
 (λ _ ih k vs H => oB (nth H i) λ ao => oB (KF ao) λ xs => oT (nth xs k) (λ x => (bd x vs H).bind λ z => lpT z (ih (k + 1))) (.ret (.next, vs, H))) n
noncomputable def whT (ts : Vs -> Hp -> T (Bool × Hp)) (bd : Vs -> Hp -> T (Fl × Vs × Hp)) (n : Nat) : Vs -> Hp -> T (Fl × Vs × Hp) := Nat.rec (λ _ _ => .fail) (λ _ ih vs H => (ts vs H).bind λ z => bT z.1 ((bd vs z.2).bind λ y => lpT y ih) (.ret (.next, vs, z.2))) n
noncomputable def sqT (z : Fl × Vs × Hp) (k : Vs -> Hp -> T (Fl × Vs × Hp)) : T (Fl × Vs × Hp) := Fl.casesOn (motive := λ _ => T (Fl × Vs × Hp)) z.1 (k z.2.1 z.2.2) (.ret (.brk, z.2.1, z.2.2)) (.ret (.cont, z.2.1, z.2.2)) λ p => .ret (.ret p, z.2.1, z.2.2)
noncomputable def NR (one : IStmt -> Vs -> Hp -> T (Fl × Vs × Hp)) (l : List IStmt) : Vs -> Hp -> T (Fl × Vs × Hp) := List.rec (λ vs H => .ret (.next, vs, H)) (λ s _ ih vs H => (one s vs H).bind λ z => sqT z ih) l
def NV (k : Nat) (p : PV) : Bool := PV.casesOn (motive := λ _ => Bool) p (λ _ => true) λ i => Nat.blt i k
def DA (k : Nat) (l : List PV) : Bool := List.rec true (λ p _ ih => NV k p && ih) l
def C9 (k : Nat) (l : List (Nat × PV)) : Bool := List.rec true (λ p _ ih => NV k p.2 && ih) l
def y5 (k : Nat) (ao : AO) : Bool := AO.casesOn (motive := λ _ => Bool) ao (λ _ fs => C9 k fs) (λ _ => true) (DA k) (λ _ => true) true λ _ => true
def y6 (k : Nat) (l : Hp) : Bool := List.rec true (λ o _ ih => y5 k o && ih) l
def aV {α : Type} (n : Nat) : List α -> List α := Nat.rec (λ _ => []) (λ _ ih l => List.rec [] (λ x r _ => x :: ih r) l) n
def stays (ao : AO) : Bool := AO.casesOn (motive := λ _ => Bool) ao (λ _ _ => false) (λ _ => true) (λ _ => false) (λ _ => false) true λ _ => false
noncomputable def gcV (vs : Vs) (k : Nat) (l : List Nat) : Option (Vs × Option Nat) := List.rec (some ([], none)) (λ x _ ih => oO (look vs x) λ p => oO ih λ q => PV.casesOn (motive := λ _ => Option (Vs × Option Nat)) p (λ v => some ((x, .f v) :: q.1, q.2)) λ i => gO (Nat.ble k i) <| Option.casesOn (motive := λ _ => Option (Vs × Option Nat)) q.2 (some ((x, .ref k) :: q.1, some i)) λ _ => none) l
noncomputable def QX (is : List Int) : Option (List Int) := List.casesOn (motive := λ _ => Option (List Int)) is none λ i t => List.casesOn (motive := λ _ => Option (List Int)) t (gO (nP [0, 1] i.toNat) <| gO (decide (0 <= i)) <| some [i]) λ j t => gO (gH t) <| gO (decide (i = 0)) <| gO (decide (j = 1)) <| some [0, 1]
noncomputable def QU (H : Hp) (p : PV) : Option (List Int) := PV.casesOn (motive := λ _ => Option (List Int)) (nrm H p) (λ v => fvO (iset := λ xs => gO (lenLe xs 2) (some xs)) (idct := λ es => gO (lenLe es 60) (some (u9 es))) (v := v)) λ i => oO (nth H i) λ ao => oO (KG ao) λ es => gO (lenLe es 60) (some (u9 es))
section
variable (tb : Tb) (ct : Ctr) (ev : Ev)
noncomputable def K0 (x : IExpr) (vs : Vs) (H : Hp) : T (PV × Hp) := match x with
 | .cst v => .ret (.f v, H)
 | .var x => oB (look vs x) λ p => .ret (p, H)
 | .glo x => oB (tb.glb x) λ v => .ret (.f v, H)
 | .attr e a => (ev.e e vs H).bind λ z => oB (EF tb z.2 z.1 a) λ p => .ret (p, z.2)
 | .callF _ f as => (iR (λ e H => ev.e e vs H) as H).bind λ z => ev.c f z.1 z.2
 | .new _ C as => (iR (λ e H => ev.e e vs H) as H).bind λ z => orT (ct C z.1 z.2) <| oB (tb.cls C) λ ci => (ev.c ci.init (.ref z.2.length :: z.1) (z.2 ++ [.inst C []])).bind λ y => gB (uV y.1) <| .ret (.ref z.2.length, y.2)
 | .meth o a as => (ev.e o vs H).bind λ q => oB (LO tb q.2 q.1) λ C => oB (tb.cls C) λ ci => oB (look ci.meths a) λ f => (iR (λ e H => ev.e e vs H) as q.2).bind λ z => ev.c f (q.1 :: z.1) z.2
 | .append nd o e => (ev.e o vs H).bind λ q => oB (LI q.2 q.1) λ i => (ev.e e vs q.2).bind λ z => oB (nth z.2 i) λ ao => UF nd ao (nrm z.2 z.1) z.1 λ ao' => .ret (.f .non, a9 z.2 i ao')
 | .pop o => (ev.e o vs H).bind λ q => oB (oS q.1) λ i => oB (nth q.2 i) λ ao => oB (KH ao) λ xs => oB (lL xs) λ r => .ret (.f r.2, a9 q.2 i (.flist r.1))
 | .len e => (ev.e e vs H).bind λ z => oB (OB z.2 z.1) λ n => .ret (.f (.int (.ofNat n)), z.2)
 | .isi e _ c => (ev.e e vs H).bind λ z => oB (GF tb z.2 z.1) λ t => .ret (.f (.bool (Nat.beq t c)), z.2)
 | .isit e cs => (ev.e e vs H).bind λ z => oB (GF tb z.2 z.1) λ t => .ret (.f (.bool (nP (cs.map (·.2)) t)), z.2)
 | .srt e => (ev.e e vs H).bind λ z => oB (QU z.2 z.1) λ xs => .ret (.f (.lst ((sortI xs).map .int)), z.2)
 | .mkset e => (ev.e e vs H).bind λ z => oB (yI (nrm z.2 z.1)) λ xs => oB (fD xs) λ is => oB (QX is) λ is' => .ret (.f (.iset is'), z.2)
 | .all e => (ev.e e vs H).bind λ z => oB (yI (nrm z.2 z.1)) λ xs => oB (n8 xs) λ b => .ret (.f (.bool b), z.2)
 | .tolist e => (ev.e e vs H).bind λ z => oB (yI (nrm z.2 z.1)) λ xs => .ret (.f (.lst xs), z.2)
 | .totup e => (ev.e e vs H).bind λ z => oB (yI (nrm z.2 z.1)) λ xs => .ret (.f (.tup xs), z.2)
 | .tostr e => (ev.e e vs H).bind λ z => oB (BW (nrm z.2 z.1)) λ n => oB (PK n) λ d => .ret (.f (.str d), z.2)
 | .rng e => (ev.e e vs H).bind λ z => oB (BW (nrm z.2 z.1)) λ n => gB (Nat.blt n 100) <| .ret (.f (.rng n), z.2)
 | .mx a b => (ev.e a vs H).bind λ y => (ev.e b vs y.2).bind λ z => mmT (λ i j => decide (j > i)) y.1 z.1 z.2
 | .mn a b => (ev.e a vs H).bind λ y => (ev.e b vs y.2).bind λ z => mmT (λ i j => decide (j < i)) y.1 z.1 z.2
 | .cmp op l r => (ev.e l vs H).bind λ y => (ev.e r vs y.2).bind λ z => (vJ ev op y.1 z.1 z.2).bind λ b => .ret (.f (.bool b), z.2)
 | .bop isAnd es => PZ isAnd (λ e H => ev.e e vs H) es H
 | .not e => (ev.e e vs H).bind λ z => oB (i4 z.2 z.1) λ b => .ret (.f (.bool (!b)), z.2)
 | .ite t a b => (ev.t t vs H).bind λ z => bT z.1 (ev.e a vs z.2) (ev.e b vs z.2)
 | .bin nd op l r => (ev.e l vs H).bind λ y => (ev.e r vs y.2).bind λ z => P0 nd op y.1 z.1 z.2
 | .neg e => (ev.e e vs H).bind λ z => oB (p6 (nrm z.2 z.1)) λ i => gB (mP i) <| .ret (.f (.int (-i)), z.2)
 | .lst es => (iR (λ e H => ev.e e vs H) es H).bind λ z => gB (lenLe z.1 100) <| oT (MA z.1) (λ xs => .ret (.ref z.2.length, z.2 ++ [.flist xs])) (.ret (.ref z.2.length, z.2 ++ [.rlist z.1]))
 | .tup es => (iR (λ e H => ev.e e vs H) es H).bind λ z => gB (lenLe z.1 100) <| oB (C8 z.2 z.1) λ xs => .ret (.f (.tup xs), z.2)
 | .dct0 => .ret (.ref H.length, H ++ [.idct []])
 | .sdct rows => gB (U2 rows) <| .ret (.f (.sdct (sdV rows)), H)
 | .sub e i => (ev.e e vs H).bind λ y => (ev.e i vs y.2).bind λ z => oB (U0 z.2 y.1 z.1) λ p => .ret (p, z.2)
 | .comp elt x it ifs => (ev.e it vs H).bind λ y => oB (bY y.2 (opn tb y.1)) λ xs => (g9 tb ev (λ vs H => bP (λ e H => ev.t e vs H) ifs H) (λ vs H => ev.e elt vs H) vs x xs y.2).bind λ z => .ret (.f z.1, z.2)
 | .frz e => (ev.e e vs H).bind λ z => oB (frz z.1 z.2) λ r => .ret (.f r.1, r.2)
 | .wall => .fail
 | .cmp2 _ _ _ => .fail
 | .strip o e => (ev.e o vs H).bind λ p => oB (v8 (nrm p.2 p.1)) λ x => gB (lenLe x 1000) <| (ev.e e vs p.2).bind λ q => oB (v8 (nrm q.2 q.1)) λ y => gB (okS (wN x y)) <| .ret (.f (.str (wN x y)), q.2)
 | .join o e => (ev.e o vs H).bind λ p => oB (v8 (nrm p.2 p.1)) λ s => gB (gH s) <| (ev.e e vs p.2).bind λ q => oB (j1 q.2 q.1) λ xs => oB (wM xs) λ l => gB (D3 l) <| gB (okS (D2 l)) <| .ret (.f (.str (D2 l)), q.2)
noncomputable def y0 (x : IExpr) (vs : Vs) (H : Hp) : Option (T (Bool × Hp)) := match x with
 | .not e => some ((ev.t e vs H).bind λ z => .ret (!z.1, z.2))
 | .bop isAnd es => some (btT isAnd (λ e H => ev.t e vs H) es H)
 | .ite t a b => some ((ev.t t vs H).bind λ z => bT z.1 (ev.t a vs z.2) (ev.t b vs z.2))
 | .cmp op l r => some ((ev.e l vs H).bind λ y => (ev.e r vs y.2).bind λ z => (vJ ev op y.1 z.1 z.2).bind λ b => .ret (b, z.2))
 | .cmp2 a b d => some ((ev.e a vs H).bind λ p => (ev.e b vs p.2).bind λ q => oB (leT q.2 p.1 q.1) λ o => Bool.casesOn (motive := λ _ => T (Bool × Hp)) o (.ret (false, q.2)) ((ev.e d vs q.2).bind λ r => oB (leT r.2 q.1 r.1) λ t => .ret (t, r.2)))
 | _ => none
def stepT (x : IExpr) (vs : Vs) (H : Hp) : T (Bool × Hp) := orT (y0 ev x vs H) <| (ev.e x vs H).bind λ z => oB (i4 z.2 z.1) λ b => .ret (b, z.2)
noncomputable def sP (vs : Vs) (H : Hp) (tgs : List Tg) (ps : List PV) : T (Vs × Hp) := List.rec (motive := λ _ => List PV -> Vs -> Hp -> T (Vs × Hp)) (λ ps vs H => gB (gH ps) <| .ret (vs, H)) (λ tg _ ih ps vs H => List.casesOn (motive := λ _ => T (Vs × Hp)) ps .fail λ p ps =>
 Tg.casesOn (motive := λ _ => T (Vs × Hp)) tg (λ x => ih ps (put vs x p) H) λ o n => (ev.e o vs H).bind λ q => oB (G3 tb q.2 q.1 n p) λ H' => ih ps vs H') tgs ps vs H
noncomputable def jS (k : Nat) (s : IStmt) (vs : Vs) (H : Hp) : T (Fl × Vs × Hp) := match s with
 | .expr e => (ev.e e vs H).bind λ z => gB (uV z.1) <| .ret (.next, vs, z.2)
 | .ret e => (ev.e e vs H).bind λ z => .ret (.ret z.1, vs, z.2)
 | .retn => .ret (.ret (.f .non), vs, H)
 | .asg x e => (ev.e e vs H).bind λ z => .ret (.next, put vs x z.1, z.2)
 | .asgA o a e => (ev.e e vs H).bind λ z => (ev.e o vs z.2).bind λ q => oB (G3 tb q.2 q.1 a z.1) λ H' => .ret (.next, vs, H')
 | .asgS o i e => (ev.e e vs H).bind λ z => (ev.e o vs z.2).bind λ q => (ev.e i vs q.2).bind λ y => oB (asF (nrm y.2 z.1)) λ v => oB (oS q.1) λ j => oB (nth y.2 j) λ ao => oB (KG ao) λ es => gB (lenLe es 100) <| oB (p6 (nrm y.2 y.1)) λ n => .ret (.next, vs, a9 y.2 j (.idct (pO es n v)))
 | .asgT ts es => (iR (λ e H => ev.e e vs H) es H).bind λ z => gB (lenLe z.1 100) <| (sP tb ev vs z.2 ts z.1).bind λ y => .ret (.next, y.1, y.2)
 | .asgW xs es => (iR (λ e H => ev.e e vs H) es H).bind λ z => gB (lenLe z.1 100) <| oB (putAll xs z.1 vs) λ vs' => .ret (.next, vs', z.2)
 | .asgU ts e => (ev.e e vs H).bind λ z => oB (CH z.2 z.1) λ xs => gB (Nat.beq xs.length ts.length) <| (sP tb ev vs z.2 ts (xs.map .f)).bind λ y => .ret (.next, y.1, y.2)
 | .asgC x elt y it ifs => (ev.e it vs H).bind λ q => oB (bY q.2 (opn tb q.1)) λ xs => (g9 tb ev (λ vs H => bP (λ e H => ev.t e vs H) ifs H) (λ vs H => ev.e elt vs H) vs y xs q.2).bind λ z => .ret (.next, put vs x (.f z.1), z.2)
 | .ite t a b => (ev.t t vs H).bind λ z => bT z.1 (ev.b k a vs z.2) (ev.b k b vs z.2)
 | .for1 x it body => (ev.e it vs H).bind λ q => oT (bY q.2 q.1) (λ xs => forT (λ v vs H => ev.b k body (put vs x (.f v)) H) xs vs q.2) <| oB (oS q.1) λ i => oB (nth q.2 i) λ ao => oB (KF ao) λ xs => IH (λ p vs H => ev.b H.length body (put vs x p) H) i (xs.length + 1) 0 vs q.2
 | .forT ys it body => (ev.e it vs H).bind λ q => oB (bY q.2 q.1) λ xs => forT (λ v vs H => oB (oN v) λ us => oB (putAll ys (us.map .f) vs) λ vs' => ev.b k body vs' H) xs vs q.2
 | .whl t body => whT (λ vs H => ev.t t vs H) (λ vs H => ev.b k body vs H) 40 vs H
 | .brk => .ret (.brk, vs, H)
 | .cont => .ret (.cont, vs, H)
 | .gfrz x => oB (look vs x) λ p => oB (frz p H) λ r => .ret (.next, put vs x (.f r.1), r.2)
 | .gfrzA x a => oB (look vs x) λ p => oB (EF tb H p a) λ q => oB (frz q H) λ r => .ret (.next, vs, r.2)
 | .gc keep => oB (gcV vs k keep) λ q => gB (y6 k (aV k H)) <| Option.casesOn (motive := λ _ => T (Fl × Vs × Hp)) q.2 (.ret (.next, q.1, aV k H)) λ i => oB (nth H i) λ o => gB (stays o) <| .ret (.next, q.1, aV k H ++ [o])
def IM (z : Fl × Vs × Hp) : T (PV × Hp) := Fl.casesOn (motive := λ _ => T (PV × Hp)) z.1 (.ret (.f .non, z.2.2)) .fail .fail λ p => .ret (p, z.2.2)
def y2 (f : Nat) (as : List PV) (H : Hp) : T (PV × Hp) := orT (ct f as H) <| oB (tb.fns f) λ fi => oB (zV fi.ps as fi.dn) λ vs => (ev.b H.length fi.body vs H).bind IM
def step : Ev := ⟨K0 tb ct ev, stepT ev, λ k ss vs H => NR (jS tb ev k) ss vs H, y2 tb ct ev⟩
end
def lvl (tb : Tb) (ct : Ctr) (n : Nat) : Ev := Nat.rec Ev.none (λ _ ih => step tb ct ih) n
end
section
open PySem PySem.W PyProof.Rows
structure cF (tb : Tb) (ct : Ctr) (n f : Nat) (as : List PV) (H : Hp) (P : PV × Hp -> Prop) : Prop where
 r : ((lvl tb ct n).c f as H).AllP P
structure bF (tb : Tb) (ct : Ctr) (n k : Nat) (ss : List IStmt) (vs : Vs) (H : Hp) (P : Fl × Vs × Hp -> Prop) : Prop where
 r : ((lvl tb ct n).b k ss vs H).AllP P
structure foF (bd : FV -> Vs -> Hp -> T (Fl × Vs × Hp)) (xs : List FV) (vs : Vs) (H : Hp) (P : Fl × Vs × Hp -> Prop) : Prop where
 r : (forT bd xs vs H).AllP P
structure whF (ts : Vs -> Hp -> T (Bool × Hp)) (bd : Vs -> Hp -> T (Fl × Vs × Hp)) (m : Nat) (vs : Vs) (H : Hp) (P : Fl × Vs × Hp -> Prop) : Prop where
 r : (whT ts bd m vs H).AllP P
structure aF {α : Type} (t : T α) (P : α -> Prop) : Prop where
 r : t.AllP P
def sF (tb : Tb) (ct : Ctr) (n k : Nat) (s : IStmt) (vs : Vs) (H : Hp) : T (Fl × Vs × Hp) := jS tb (lvl tb ct n) k s vs H
def eF (tb : Tb) (ct : Ctr) (n : Nat) (e : IExpr) (vs : Vs) (H : Hp) : T (PV × Hp) := (lvl tb ct n).e e vs H
def e8 (P : PV × Hp -> Prop) (z : Fl × Vs × Hp) : Prop := match z.1 with
 | .next => P (.f .non, z.2.2)
 | .ret p => P (p, z.2.2)
 | _ => False
def lZ (R : Vs -> Hp -> Prop) (P : Fl × Vs × Hp -> Prop) (z : Fl × Vs × Hp) : Prop := match z.1 with
 | .next => R z.2.1 z.2.2
 | _ => P z
noncomputable def KW (R : Vs -> Hp -> Prop) (P : Fl × Vs × Hp -> Prop) (z : Fl × Vs × Hp) : Prop := match z.1 with
 | .next => R z.2.1 z.2.2
 | .cont => R z.2.1 z.2.2
 | .brk => P (.next, z.2.1, z.2.2)
 | .ret p => P (.ret p, z.2.1, z.2.2)
theorem aF.of {α : Type} {t : T α} {P : α -> Prop} {p : Prop} (e : t.AllP P = p) (h : p) : aF t P := ⟨e.mpr h⟩
theorem aF.ret {α : Type} {t : T α} {P : α -> Prop} {a : α} (e : t = .ret a) (h : P a) : aF t P := ⟨by rw [e]; exact h⟩
theorem aF.mono {α : Type} {t : T α} {P Q : α -> Prop} (h : ∀ a, P a -> Q a) (x : aF t P) : aF t Q := ⟨T.AllP_mono h x.r⟩
section
variable {tb : Tb} {ct : Ctr} {n : Nat}
theorem gL {f : Nat} {as : List PV} {H : Hp} (fi : FnI) (vs : Vs) {P : PV × Hp -> Prop} (h1 : ct f as H = none) (h2 : tb.fns f = some fi) (h3 : zV fi.ps as fi.dn = some vs)
  (h : bF tb ct n H.length fi.body vs H (e8 P)) : cF tb ct (n + 1) f as H P := by
 refine ⟨show (y2 tb ct (lvl tb ct n) f as H).AllP P from ?_⟩
 unfold y2
 rw [h1]
 show (oB (tb.fns f) _).AllP P
 rw [h2]
 show (oB (zV fi.ps as fi.dn) _).AllP P
 rw [h3]
 refine T.AllP_of_bind (T.AllP_mono (λ z hz => ?_) h.r)
 obtain ⟨f, vs, H⟩ := z
 cases f <;> exact hz
theorem p7 {k : Nat} {vs : Vs} {H : Hp} {P : Fl × Vs × Hp -> Prop} (h : P (.next, vs, H)) : bF tb ct (n + 1) k [] vs H P := ⟨h⟩
theorem cB {k : Nat} {s : IStmt} {ss : List IStmt} {vs : Vs} {H : Hp} {P : Fl × Vs × Hp -> Prop}
  (h : aF (sF tb ct n k s vs H) (lZ (λ vs H => bF tb ct (n + 1) k ss vs H P) P)) : bF tb ct (n + 1) k (s :: ss) vs H P := by
 refine ⟨T.AllP_of_bind (T.AllP_mono (λ z hz => ?_) h.r)⟩
 obtain ⟨f, vs, H⟩ := z
 cases f with
 | next => exact bF.r hz
 | _ => exact hz
theorem i3 {k : Nat} {s : IStmt} {ss : List IStmt} {vs : Vs} {H : Hp} {P : Fl × Vs × Hp -> Prop} (vs' : Vs) (H' : Hp) (e : sF tb ct n k s vs H = .ret (.next, vs', H'))
  (h : bF tb ct (n + 1) k ss vs' H' P) : bF tb ct (n + 1) k (s :: ss) vs H P := cB (aF.ret e h)
theorem iU {k : Nat} {s : IStmt} {ss : List IStmt} {vs : Vs} {H : Hp} {P : PV × Hp -> Prop} (p : PV) (vs' : Vs) (H' : Hp) (e : sF tb ct n k s vs H = .ret (.ret p, vs', H'))
  (h : P (p, H')) : bF tb ct (n + 1) k (s :: ss) vs H (e8 P) := cB (aF.ret e h)
theorem B3 {k : Nat} {b : List IStmt} {P : Fl × Vs × Hp -> Prop} {a : List IStmt} : ∀ {vs : Vs} {H : Hp}, bF tb ct (n + 1) k a vs H (lZ (λ vs H => bF tb ct (n + 1) k b vs H P) P) -> bF tb ct (n + 1) k (a ++ b) vs H P := by induction a with
 | nil => exact λ {vs H} h => ⟨bF.r (show bF tb ct (n + 1) k b vs H P from h.r)⟩
 | cons s a ih =>
  intro vs H h
  refine cB ⟨T.AllP_mono (λ z hz => ?_) (T.AllP_bind (t := jS tb (lvl tb ct n) k s vs H) h.r)⟩
  obtain ⟨f, vs, H⟩ := z
  cases f with
  | next => exact ih ⟨hz⟩
  | _ => exact hz
theorem B2 {k x : Nat} {it : IExpr} {body ss : List IStmt} {vs : Vs} {H : Hp} {P : Fl × Vs × Hp -> Prop} (p : PV) (xs : List FV) (H' : Hp) (e : eF tb ct n it vs H = .ret (p, H')) (hx : bY H' p = some xs)
  (h : foF (λ v vs H => (lvl tb ct n).b k body (put vs x (.f v)) H) xs vs H' (lZ (λ vs H => bF tb ct (n + 1) k ss vs H P) P)) : bF tb ct (n + 1) k (.for1 x it body :: ss) vs H P := by
 refine cB ⟨show (((lvl tb ct n).e it vs H).bind _).AllP _ from ?_⟩
 have e' : (lvl tb ct n).e it vs H = .ret (p, H') := e
 rw [e']
 show (oT (bY H' p) _ _).AllP _
 rw [hx]
 exact h.r
theorem QA {k : Nat} {t : IExpr} {body ss : List IStmt} {vs : Vs} {H : Hp} {P : Fl × Vs × Hp -> Prop}
  (h : whF (λ vs H => (lvl tb ct n).t t vs H) (λ vs H => (lvl tb ct n).b k body vs H) 40 vs H (lZ (λ vs H => bF tb ct (n + 1) k ss vs H P) P)) : bF tb ct (n + 1) k (.whl t body :: ss) vs H P := cB ⟨h.r⟩
theorem w_ite {k : Nat} {t : IExpr} {a b ss : List IStmt} {vs : Vs} {H : Hp} {P : Fl × Vs × Hp -> Prop}
  (h : aF ((lvl tb ct n).t t vs H) λ z => match z.1 with
   | true => bF tb ct n k a vs z.2 (lZ (λ vs H => bF tb ct (n + 1) k ss vs H P) P)
   | false => bF tb ct n k b vs z.2 (lZ (λ vs H => bF tb ct (n + 1) k ss vs H P) P)) : bF tb ct (n + 1) k (.ite t a b :: ss) vs H P := by
 refine cB ⟨T.AllP_of_bind (t := (lvl tb ct n).t t vs H) (T.AllP_mono (λ z hz => ?_) h.r)⟩
 obtain ⟨b, H⟩ := z
 cases b <;> exact bF.r hz
theorem rX {bd : FV -> Vs -> Hp -> T (Fl × Vs × Hp)} {vs : Vs} {H : Hp} {P : Fl × Vs × Hp -> Prop} (h : P (.next, vs, H)) : foF bd [] vs H P := ⟨h⟩
theorem rY {bd : FV -> Vs -> Hp -> T (Fl × Vs × Hp)} {x : FV} {r : List FV} {vs : Vs} {H : Hp} {P : Fl × Vs × Hp -> Prop}
  (h : aF (bd x vs H) (KW (λ vs H => foF bd r vs H P) P)) : foF bd (x :: r) vs H P := by
 refine ⟨T.AllP_of_bind (T.AllP_mono (λ z hz => ?_) h.r)⟩
 obtain ⟨f, vs, H⟩ := z
 cases f with
 | next => exact foF.r hz
 | cont => exact foF.r hz
 | _ => exact hz
theorem KO {ts : Vs -> Hp -> T (Bool × Hp)} {bd : Vs -> Hp -> T (Fl × Vs × Hp)} {m : Nat} {vs : Vs} {H H₁ : Hp} {P : Fl × Vs × Hp -> Prop} (e : ts vs H = .ret (true, H₁))
  (h : aF (bd vs H₁) (KW (λ vs H => whF ts bd m vs H P) P)) : whF ts bd (m + 1) vs H P := by
 refine ⟨show ((ts vs H).bind λ z => bT z.1 ((bd vs z.2).bind λ y => lpT y (whT ts bd m)) (.ret (.next, vs, z.2))).AllP P from ?_⟩
 rw [e]
 refine T.AllP_of_bind (t := bd vs H₁) (T.AllP_mono (λ y hy => ?_) h.r)
 obtain ⟨f, vs, H⟩ := y
 cases f with
 | next => exact whF.r hy
 | cont => exact whF.r hy
 | _ => exact hy
theorem yR {ts : Vs -> Hp -> T (Bool × Hp)} {bd : Vs -> Hp -> T (Fl × Vs × Hp)} {m : Nat} {vs : Vs} {H H₁ : Hp} {P : Fl × Vs × Hp -> Prop} (e : ts vs H = .ret (false, H₁))
  (h : P (.next, vs, H₁)) : whF ts bd (m + 1) vs H P := by
 refine ⟨show ((ts vs H).bind λ z => bT z.1 ((bd vs z.2).bind λ y => lpT y (whT ts bd m)) (.ret (.next, vs, z.2))).AllP P from ?_⟩
 rw [e]
 exact h
end
noncomputable def fQ : FnI := ⟨[0, 2], [],
 [.ite (.bop true [(.cmp .In (.var 0) (.glo 1)), (.cmp .NotIn (.var 2) (.glo 1))])
  [.ret (.tup [(.cst .non), (.cst (.str [110, 117, 109, 101, 114, 105, 99]))])]
  [],
  .ite (.bop true [(.cmp .In (.var 2) (.glo 1)), (.cmp .NotIn (.var 0) (.glo 1))])
  [.ret (.tup [(.cst (.str [110, 117, 109, 101, 114, 105, 99])), (.cst .non)])]
  [],
  .ite (.bop true [(.cmp .Eq (.var 0) (.cst (.str [116, 101, 120, 116]))), (.cmp .Is (.var 2) (.cst .non))])
  [.ret (.tup [(.cst .non), (.cst (.str [116, 101, 120, 116]))])]
  [],
  .ite (.bop true [(.cmp .Eq (.var 2) (.cst (.str [116, 101, 120, 116]))), (.cmp .Is (.var 0) (.cst .non))])
  [.ret (.tup [(.cst (.str [116, 101, 120, 116])), (.cst .non)])]
  [],
  .ret (.tup [(.cst .non), (.cst .non)])]⟩
noncomputable def yF : FnI := ⟨[3], [],
 [.ite (.isi (.var 3) 4 142)
  [.ret (.frz (.lst [(.attr (.var 3) 5)]))]
  [],
  .ite (.isi (.var 3) 6 168)
  [.ret (.frz (.lst [(.attr (.var 3) 0), (.attr (.var 3) 2)]))]
  [],
  .ite (.isi (.var 3) 7 194)
  [.ret (.frz (.lst [(.attr (.var 3) 8), (.attr (.var 3) 9), (.attr (.var 3) 10)]))]
  [],
  .ite (.isi (.var 3) 11 220)
  [.ret (.frz (.bin false .Add (.frz (.lst [(.attr (.var 3) 8)])) (.tolist (.attr (.var 3) 12))))]
  [],
  .ite (.isi (.var 3) 13 322)
  [.asg 14 (.ite (.cmp .Is (.attr (.var 3) 15) (.cst .non)) (.lst []) (.lst [(.attr (.var 3) 15)])),
   .forT [16, 17] (.attr (.var 3) 18)
   [.expr (.append false (.var 14) (.var 16)),
    .expr (.append false (.var 14) (.var 17))],
   .ret (.ite (.cmp .Is (.attr (.var 3) 19) (.cst .non)) (.frz (.var 14)) (.frz (.bin false .Add (.var 14) (.frz (.lst [(.attr (.var 3) 19)])))))]
  [],
  .ite (.isi (.var 3) 20 348)
  [.ret (.tolist (.attr (.var 3) 21))]
  [],
  .ite (.isi (.var 3) 22 452)
  [.asg 14 (.lst [(.attr (.var 3) 8), (.attr (.var 3) 23)]),
   .ret (.ite (.cmp .Is (.attr (.var 3) 24) (.cst .non)) (.frz (.var 14)) (.frz (.bin false .Add (.var 14) (.frz (.lst [(.attr (.var 3) 24)])))))]
  [],
  .ite (.isit (.var 3) [(25, 246), (26, 374), (27, 400), (28, 426)])
  [.ret (.frz (.lst [(.attr (.var 3) 8)]))]
  [],
  .ret (.frz (.lst []))]⟩
noncomputable def l4 : FnI := ⟨[3], [],
 [.asg 14 .dct0,
  .expr (.callF 29 502 [(.var 3), (.var 14)]),
  .ret (.srt (.var 14))]⟩
noncomputable def kB : FnI := ⟨[3, 14], [],
 [.ite (.isi (.var 3) 30 116)
  [.asgS (.var 14) (.attr (.var 3) 31) (.cst (.bool true))]
  [],
  .ite (.isit (.var 3) [(25, 246), (32, 272), (33, 298)])
  [.for1 34 (.attr (.attr (.var 3) 35) 36)
   [.asgS (.var 14) (.var 34) (.cst (.bool true))]]
  [],
  .for1 37 (.callF 38 488 [(.var 3)])
  [.expr (.callF 29 502 [(.var 37), (.var 14)])]]⟩
noncomputable def dU : FnI := ⟨[3, 43], [.non],
 [.ite (.isi (.var 3) 30 116)
  [.ret (.attr (.var 3) 39)]
  [],
  .ite (.isi (.var 3) 26 374)
  [.ret (.callF 40 469 [(.attr (.var 3) 41)])]
  [],
  .ite (.isi (.var 3) 27 400)
  [.ret (.callF 42 510 [(.attr (.var 3) 8), (.var 43)])]
  [],
  .ite (.isi (.var 3) 33 298)
  [.ret (.callF 42 510 [(.sub (.sub (.attr (.attr (.var 3) 35) 44) (.cst (.int 0))) (.cst (.int 1))), (.var 43)])]
  [],
  .ret (.cst .non)]⟩
noncomputable def hY : FnI := ⟨[3], [],
 [.ite (.isi (.var 3) 27 400)
  [.ret (.callF 45 481 [(.attr (.var 3) 46)])]
  [],
  .ite (.isi (.var 3) 4 142)
  [.ret (.callF 47 517 [(.attr (.var 3) 5)])]
  [],
  .ite (.isi (.var 3) 26 374)
  [.ret (.callF 47 517 [(.attr (.var 3) 8)])]
  [],
  .ite (.isi (.var 3) 6 168)
  [.ret (.bop false [(.callF 47 517 [(.attr (.var 3) 0)]), (.callF 47 517 [(.attr (.var 3) 2)])])]
  [],
  .ret (.cst .non)]⟩
noncomputable def jG : FnI := ⟨[3], [],
 [.ite (.isi (.var 3) 30 116)
  [.ret (.attr (.var 3) 46)]
  [],
  .ite (.isi (.var 3) 26 374)
  [.ret (.callF 48 524 [(.attr (.var 3) 8)])]
  [],
  .ite (.bop true [(.isi (.var 3) 4 142), (.cmp .Eq (.attr (.var 3) 49) (.cst (.str [43])))])
  [.ret (.callF 48 524 [(.attr (.var 3) 5)])]
  [],
  .ret (.cst .non)]⟩
noncomputable def dA : FnI := ⟨[3, 43], [.non],
 [.ret (.bop false [(.callF 47 517 [(.var 3)]), (.callF 48 524 [(.var 3)]), (.cst (.str [98, 105, 110, 97, 114, 121]))])]⟩
noncomputable def gF : FnI := ⟨[0, 2], [],
 [.for1 14 (.tup [(.callF 47 517 [(.var 0)]), (.callF 47 517 [(.var 2)]), (.callF 48 524 [(.var 0)])])
  [.ite (.cmp .IsNot (.var 14) (.cst .non))
   [.ret (.var 14)]
   []],
  .ret (.bop false [(.callF 48 524 [(.var 2)]), (.cst (.str [98, 105, 110, 97, 114, 121]))])]⟩
noncomputable def eX : FnI := ⟨[3], [],
 [.asg 0 (.ite (.cmp .Is (.var 3) (.cst .non)) (.lst []) (.lst [(.var 3)])),
  .asg 14 (.lst []),
  .whl (.cmp .NotEq (.var 0) (.frz (.lst [])))
  [.asg 50 (.pop (.var 0)),
   .ite (.bop true [(.isi (.var 50) 6 168), (.cmp .Eq (.attr (.var 50) 49) (.cst (.str [97, 110, 100])))])
   [.expr (.append false (.var 0) (.attr (.var 50) 2)),
    .expr (.append false (.var 0) (.attr (.var 50) 0))]
   [.expr (.append false (.var 14) (.var 50))]],
  .ret (.frz (.var 14))]⟩
noncomputable def oH : FnI := ⟨[3, 34], [],
 [.ret (.bop true [(.isi (.var 3) 30 116), (.cmp .Eq (.attr (.var 3) 31) (.var 34))])]⟩
noncomputable def tS : FnI := ⟨[3, 34], [],
 [.ret (.cmp .NotIn (.var 34) (.callF 51 495 [(.var 3)]))]⟩
noncomputable def kZ : FnI := ⟨[55, 49, 8, 0, 2], [],
 [.asgU [(.v 52), (.v 53)] (.callF 54 476 [(.attr (.var 55) 39), (.callF 42 510 [(.var 8)])]),
  .ite (.cmp .IsNot (.var 52) (.cst .non))
  [.ret (.cst .non)]
  [],
  .ret (.frz (.new 56 581 [(.attr (.var 55) 57), (.var 49), (.var 8), (.var 53), (.callF 58 539 [(.var 0), (.var 2)])]))]⟩
noncomputable def iT : FnI := ⟨[3, 34], [],
 [.asg 14 (.lst []),
  .ite (.bop true [(.callF 59 557 [(.attr (.var 3) 0), (.var 34)]), (.callF 60 564 [(.attr (.var 3) 2), (.var 34)])])
  [.expr (.append false (.var 14) (.callF 61 637 [(.attr (.var 3) 0), (.attr (.var 3) 49), (.attr (.var 3) 2), (.attr (.var 3) 0), (.attr (.var 3) 2)]))]
  [],
  .ite (.bop true [(.callF 59 557 [(.attr (.var 3) 2), (.var 34)]), (.callF 60 564 [(.attr (.var 3) 0), (.var 34)])])
  [.expr (.append false (.var 14) (.callF 61 637 [(.attr (.var 3) 2), (.sub (.glo 62) (.attr (.var 3) 49)), (.attr (.var 3) 0), (.attr (.var 3) 0), (.attr (.var 3) 2)]))]
  [],
  .ret (.comp (.var 63) 63 (.frz (.var 14)) [(.cmp .IsNot (.var 63) (.cst .non))])]⟩
noncomputable def k0 : FnI := ⟨[3, 34], [],
 [.ite (.bop false [(.attr (.var 3) 64), (.not (.callF 59 557 [(.attr (.var 3) 8), (.var 34)]))])
  [.ret (.frz (.lst []))]
  [],
  .asg 14 (.lst []),
  .forT [49, 8] (.tup [(.tup [(.cst (.str [62, 61])), (.attr (.var 3) 9)]), (.tup [(.cst (.str [60, 61])), (.attr (.var 3) 10)])])
  [.ite (.callF 60 564 [(.var 8), (.var 34)])
   [.expr (.append false (.var 14) (.callF 61 637 [(.attr (.var 3) 8), (.var 49), (.var 8), (.attr (.var 3) 8), (.var 8)]))]
   []],
  .ret (.comp (.var 63) 63 (.frz (.var 14)) [(.cmp .IsNot (.var 63) (.cst .non))])]⟩
noncomputable def pU : FnI := ⟨[3, 34], [],
 [.ite (.bop false [(.attr (.var 3) 64), (.not (.callF 59 557 [(.attr (.var 3) 8), (.var 34)])), (.cmp .Eq (.len (.attr (.var 3) 12)) (.cst (.int 0)))])
  [.ret (.frz (.lst []))]
  [],
  .for1 65 (.attr (.var 3) 12)
  [.ite (.not (.callF 60 564 [(.var 65), (.var 34)]))
   [.ret (.frz (.lst []))]
   []],
  .asgU [(.v 52), (.v 53)] (.callF 54 476 [(.attr (.attr (.var 3) 8) 39), (.cst .non)]),
  .ret (.frz (.lst [(.frz (.new 56 581 [(.attr (.attr (.var 3) 8) 57), (.cst (.str [105, 110])), (.tolist (.attr (.var 3) 12)), (.var 53), (.callF 66 532 [(.attr (.var 3) 8)])]))]))]⟩
noncomputable def v4 : FnI := ⟨[67, 34], [],
 [.asg 3 (.attr (.var 67) 3),
  .ite (.bop true [(.isi (.var 3) 6 168), (.cmp .In (.attr (.var 3) 49) (.glo 62))])
  [.ret (.callF 68 642 [(.var 3), (.var 34)])]
  [],
  .ite (.isi (.var 3) 7 194)
  [.ret (.callF 69 647 [(.var 3), (.var 34)])]
  [],
  .ite (.isi (.var 3) 11 220)
  [.ret (.callF 70 654 [(.var 3), (.var 34)])]
  [],
  .ret (.frz (.lst []))]⟩
noncomputable def kY : FnI := ⟨[57, 71], [],
 [.ret (.bop false [(.cmp .Lt (.var 57) (.cst (.int 0))), (.cmp .Eq (.var 57) (.attr (.var 71) 72))])]⟩
noncomputable def kU : FnI := ⟨[3], [],
 [.ite (.isi (.var 3) 73 90)
  [.ret (.bop false [(.cmp .Is (.attr (.var 3) 8) (.cst .non)), (.isi (.attr (.var 3) 8) 74 1)])]
  [],
  .ite (.isi (.var 3) 4 142)
  [.ret (.bop false [(.cmp .In (.attr (.var 3) 49) (.tup [(.cst (.str [45])), (.cst (.str [126])), (.cst (.str [110, 111, 116]))])), (.callF 75 675 [(.attr (.var 3) 5)])])]
  [],
  .ite (.isi (.var 3) 6 168)
  [.ret (.bop false [(.cmp .In (.attr (.var 3) 49) (.glo 76)), (.cmp .In (.attr (.var 3) 49) (.glo 77))])]
  [],
  .ite (.isit (.var 3) [(7, 194), (11, 220), (25, 246), (32, 272), (28, 426), (22, 452)])
  [.ret (.cst (.bool true))]
  [],
  .ite (.isi (.var 3) 26 374)
  [.ret (.cmp .Eq (.callF 40 469 [(.attr (.var 3) 41)]) (.cst (.str [105, 110, 116, 101, 103, 101, 114])))]
  [],
  .ite (.isi (.var 3) 20 348)
  [.ret (.cmp .In (.callF 45 481 [(.attr (.var 3) 55)]) (.glo 78))]
  [],
  .ret (.bop true [(.isi (.var 3) 30 116), (.cmp .Lt (.attr (.var 3) 57) (.cst (.int 0)))])]⟩
noncomputable def fJ : FnI := ⟨[81, 80, 82], [],
 [.asgU [(.v 57), (.v 79), (.v 46), (.v 71)] (.var 80),
  .gc [81, 80, 82, 57, 79, 46, 71],
  .for1 63 (.var 81)
  [.asg 83 (.ite (.var 79) (.callF 84 668 [(.attr (.var 63) 57), (.var 71)]) (.cmp .Eq (.attr (.var 63) 57) (.var 57))),
   .ite (.bop true [(.var 83), (.cmp .In (.attr (.var 63) 49) (.var 82)), (.bop false [(.cmp .Is (.var 46) (.cst .non)), (.cmp .Eq (.attr (.var 63) 46) (.var 46))])])
   [.ret (.var 63)]
   [],
   .gc [81, 80, 82, 57, 79, 46, 71]],
  .ret (.cst .non)]⟩
noncomputable def vY : FnI := ⟨[85, 63], [],
 [.expr (.append false (.attr (.var 85) 86) (.attr (.var 63) 8)),
  .expr (.append false (.attr (.var 85) 87) (.attr (.var 63) 39))]⟩
noncomputable def yC : FnI := ⟨[85, 63], [],
 [.asgT [(.a (.var 85) 88), (.a (.var 85) 89)] [(.attr (.var 63) 8), (.attr (.var 63) 39)]]⟩
noncomputable def vX : FnI := ⟨[85, 9, 10], [],
 [.ite (.cmp .IsNot (.var 9) (.cst .non))
  [.asgT [(.a (.var 85) 9), (.a (.var 85) 90)] [(.tup [(.attr (.var 9) 8), (.cmp .Eq (.attr (.var 9) 49) (.cst (.str [62, 61])))]), (.attr (.var 9) 39)]]
  [],
  .ite (.cmp .IsNot (.var 10) (.cst .non))
  [.asgT [(.a (.var 85) 10), (.a (.var 85) 91)] [(.tup [(.attr (.var 10) 8), (.cmp .Eq (.attr (.var 10) 49) (.cst (.str [60, 61])))]), (.attr (.var 10) 39)]]
  []]⟩
noncomputable def KE : FnI := ⟨[85, 97, 95], [],
 [.gfrzA 85 86,
  .gfrzA 85 87,
  .asg 92 (.glo 93),
  .for1 3 (.attr (.var 85) 86)
  [.asg 92 (.bin false .FloorDiv (.var 92) (.cst (.int 10)))],
  .ite (.cmp .IsNot (.attr (.var 85) 9) (.cst .non))
  [.asg 92 (.bin false .FloorDiv (.var 92) (.cst (.int 4)))]
  [],
  .ite (.cmp .IsNot (.attr (.var 85) 10) (.cst .non))
  [.asg 92 (.bin false .FloorDiv (.var 92) (.cst (.int 4)))]
  [],
  .asg 94 (.cst (.int 1)),
  .ite (.cmp .IsNot (.attr (.var 85) 88) (.cst .non))
  [.asg 94 (.len (.attr (.var 85) 88)),
   .asg 92 (.bin false .FloorDiv (.var 92) (.cst (.int 10)))]
  [],
  .asgA (.var 85) 95 (.bop true [(.var 95), (.cmp .Is (.attr (.var 85) 88) (.cst .non))]),
  .asg 92 (.ite (.var 95) (.cst (.int 1)) (.mx (.var 92) (.cst (.int 1)))),
  .asgA (.var 85) 92 (.mn (.bin false .Mult (.var 92) (.var 94)) (.glo 93)),
  .asgA (.var 85) 96 (.bin false .Add (.bin false .Mult (.attr (.var 85) 92) (.var 97)) (.ite (.meth (.var 85) 98 []) (.bin false .Mult (.glo 99) (.var 94)) (.cst (.int 0))))]⟩
noncomputable def iY : FnI := ⟨[71, 81], [],
 [.asg 80 (.tup [(.neg (.cst (.int 1))), (.cst (.bool true)), (.cst .non), (.var 71)]),
  .asg 14 (.lst []),
  .asgW [101, 94] [(.callF 100 725 [(.var 81), (.var 80), (.tup [(.cst (.str [61]))])]), (.callF 100 725 [(.var 81), (.var 80), (.tup [(.cst (.str [105, 110]))])])],
  .ite (.cmp .IsNot (.var 101) (.cst .non))
  [.asg 85 (.new 102 714 [(.cst (.str [114, 111, 119, 105, 100]))]),
   .expr (.callF 103 732 [(.var 85), (.var 101)]),
   .expr (.callF 104 753 [(.var 85), (.glo 105), (.cst (.bool true))]),
   .expr (.append false (.var 14) (.frz (.var 85)))]
  [],
  .ite (.cmp .IsNot (.var 94) (.cst .non))
  [.asg 85 (.new 102 714 [(.cst (.str [114, 111, 119, 105, 100]))]),
   .expr (.callF 106 739 [(.var 85), (.var 94)]),
   .expr (.callF 104 753 [(.var 85), (.glo 105), (.cst (.bool true))]),
   .expr (.append false (.var 14) (.frz (.var 85)))]
  [],
  .gc [71, 81, 80, 14],
  .asgC 107 (.var 63) 63 (.var 81) [(.bop true [(.cmp .NotEq (.attr (.var 63) 49) (.cst (.str [105, 110]))), (.callF 75 675 [(.attr (.var 63) 8)])])],
  .asgW [9, 10] [(.callF 100 725 [(.var 107), (.var 80), (.tup [(.cst (.str [62])), (.cst (.str [62, 61]))])]), (.callF 100 725 [(.var 107), (.var 80), (.tup [(.cst (.str [60])), (.cst (.str [60, 61]))])])],
  .ite (.bop false [(.cmp .IsNot (.var 9) (.cst .non)), (.cmp .IsNot (.var 10) (.cst .non))])
  [.asg 85 (.new 102 714 [(.cst (.str [114, 111, 119, 105, 100, 95, 114, 97, 110, 103, 101]))]),
   .expr (.callF 108 746 [(.var 85), (.var 9), (.var 10)]),
   .expr (.callF 104 753 [(.var 85), (.glo 105), (.cst (.bool false))]),
   .expr (.append false (.var 14) (.frz (.var 85)))]
  [],
  .ret (.frz (.var 14))]⟩
noncomputable def pW : FnI := ⟨[110, 71], [],
 [.asgU [(.v 57), (.v 46), (.v 109)] (.var 110),
  .ret (.tup [(.var 57), (.callF 84 668 [(.var 57), (.var 71)]), (.var 46), (.var 71)])]⟩
noncomputable def pV : FnI := ⟨[113, 71, 81, 116], [],
 [.asg 111 (.lst []),
  .for1 110 (.attr (.var 113) 114)
  [.asg 101 (.callF 100 725 [(.var 81), (.callF 112 765 [(.var 110), (.var 71)]), (.tup [(.cst (.str [61]))])]),
   .ite (.cmp .Is (.var 101) (.cst .non))
   [.brk]
   [],
   .expr (.append false (.var 111) (.var 101))],
  .gfrz 111,
  .asg 14 (.lst [(.callF 115 779 [(.var 113), (.var 111), (.var 116)])]),
  .ite (.cmp .Lt (.len (.var 111)) (.len (.attr (.var 113) 114)))
  [.asg 80 (.callF 112 765 [(.sub (.attr (.var 113) 114) (.len (.var 111))), (.var 71)]),
   .asgW [9, 10] [(.callF 100 725 [(.var 81), (.var 80), (.tup [(.cst (.str [62])), (.cst (.str [62, 61]))])]), (.callF 100 725 [(.var 81), (.var 80), (.tup [(.cst (.str [60])), (.cst (.str [60, 61]))])])],
   .asg 94 (.callF 100 725 [(.var 81), (.var 80), (.tup [(.cst (.str [105, 110]))])]),
   .ite (.bop false [(.cmp .IsNot (.var 9) (.cst .non)), (.cmp .IsNot (.var 10) (.cst .non))])
   [.asg 85 (.callF 115 779 [(.var 113), (.var 111), (.var 116)]),
    .expr (.callF 108 746 [(.var 85), (.var 9), (.var 10)]),
    .expr (.append false (.var 14) (.var 85))]
   [],
   .ite (.cmp .IsNot (.var 94) (.cst .non))
   [.asg 85 (.callF 115 779 [(.var 113), (.var 111), (.var 116)]),
    .expr (.callF 106 739 [(.var 85), (.var 94)]),
    .expr (.append false (.var 14) (.var 85))]
   []]
  [],
  .for1 85 (.var 14)
  [.asg 117 (.bin false .Add (.len (.attr (.var 85) 86)) (.ite (.cmp .Is (.attr (.var 85) 88) (.cst .non)) (.cst (.int 0)) (.cst (.int 1)))),
   .asg 95 (.bop true [(.attr (.var 113) 118), (.cmp .Eq (.var 117) (.len (.attr (.var 113) 114)))]),
   .expr (.callF 104 753 [(.var 85), (.ite (.var 116) (.glo 119) (.glo 120)), (.var 95)]),
   .gfrz 85],
  .ret (.frz (.var 14))]⟩
noncomputable def kW : FnI := ⟨[113, 111, 116], [],
 [.asg 85 (.new 102 714 [(.cst (.str [105, 110, 100, 101, 120])), (.var 113)]),
  .for1 63 (.var 111)
  [.expr (.callF 103 732 [(.var 85), (.var 63)])],
  .asgA (.var 85) 121 (.var 116),
  .ret (.var 85)]⟩
noncomputable def tU : FnI := ⟨[50, 31, 57, 122], [],
 [.asg 14 (.new 30 116 [(.attr (.var 50) 71), (.attr (.var 50) 110)]),
  .asgA (.var 14) 31 (.attr (.var 31) 34),
  .asgA (.var 14) 57 (.var 57),
  .asgA (.var 14) 122 (.var 122),
  .asgA (.var 14) 39 (.ite (.cmp .Lt (.var 57) (.cst (.int 0))) (.cst (.str [105, 110, 116, 101, 103, 101, 114])) (.sub (.sub (.attr (.var 31) 114) (.var 57)) (.cst (.int 1)))),
  .asgA (.var 14) 46 (.ite (.cmp .Lt (.var 57) (.cst (.int 0))) (.cst (.str [98, 105, 110, 97, 114, 121])) (.sub (.sub (.attr (.var 31) 114) (.var 57)) (.cst (.int 2)))),
  .ret (.frz (.var 14))]⟩
noncomputable def cH : FnI := ⟨[71, 124, 34, 125, 126], [(.str [105, 110, 110, 101, 114]), .non],
 [.asgC 114 (.tup [(.attr (.var 110) 55), (.attr (.var 110) 39), (.attr (.var 110) 46)]) 110 (.attr (.var 71) 114) [],
  .ret (.frz (.new 123 850 [(.var 34), (.ite (.cmp .Is (.var 124) (.cst .non)) (.attr (.var 71) 55) (.var 124)), (.var 71), (.var 114), (.cst .non), (.var 125), (.var 126)]))]⟩
noncomputable def BU : FnI := ⟨[31, 127], [],
 [.ret (.sub (.var 127) (.callF 128 976 [(.var 31), (.len (.var 127))]))]⟩
noncomputable def tR : FnI := ⟨[130, 57], [],
 [.ret (.callF 129 861 [(.frz (.new 30 116 [(.attr (.var 130) 124), (.sub (.frz (.lst [(.cst (.str [114, 111, 119, 105, 100])), (.cst (.str [97])), (.cst (.str [98])), (.cst (.str [99]))])) (.bin false .Add (.var 57) (.cst (.int 1))))])), (.var 130), (.var 57), (.cst (.int 0))])]⟩
noncomputable def yD : FnI := ⟨[31, 43], [],
 [.ite (.cmp .Eq (.callF 128 976 [(.var 31), (.cst (.int 2))]) (.cst (.int 0)))
  [.ret (.callF 131 990 [(.callF 132 983 [(.var 31), (.var 43)]), (.bin false .Sub (.callF 128 976 [(.var 31), (.cst (.int 4))]) (.cst (.int 1)))])]
  [],
  .ret (.frz (.new 73 90 [(.callF 132 983 [(.var 31), (.frz (.lst [(.cst .non), (.cst (.int 0)), (.cst (.int 1)), (.cst (.str [116]))]))])]))]⟩
noncomputable def cU : FnI := ⟨[31, 43], [],
 [.asg 110 (.callF 131 990 [(.callF 132 983 [(.var 31), (.var 43)]), (.bin false .Sub (.callF 128 976 [(.var 31), (.cst (.int 4))]) (.cst (.int 1)))]),
  .asg 125 (.callF 128 976 [(.var 31), (.cst (.int 7))]),
  .ite (.cmp .Eq (.var 125) (.cst (.int 0)))
  [.ret (.frz (.new 7 194 [(.var 110), (.callF 133 997 [(.var 31), (.var 43)]), (.callF 133 997 [(.var 31), (.var 43)]), (.cmp .Eq (.callF 128 976 [(.var 31), (.cst (.int 3))]) (.cst (.int 0)))]))]
  [],
  .ite (.cmp .Eq (.var 125) (.cst (.int 1)))
  [.asgC 12 (.callF 133 997 [(.var 31), (.var 43)]) 134 (.rng (.bin false .Add (.cst (.int 1)) (.callF 128 976 [(.var 31), (.cst (.int 2))]))) [],
   .ret (.frz (.new 11 220 [(.var 110), (.var 12), (.cmp .Eq (.callF 128 976 [(.var 31), (.cst (.int 3))]) (.cst (.int 0)))]))]
  [],
  .asg 49 (.callF 132 983 [(.var 31), (.frz (.lst [(.cst (.str [61])), (.cst (.str [61])), (.cst (.str [60])), (.cst (.str [60, 61])), (.cst (.str [62])), (.cst (.str [62, 61])), (.cst (.str [60, 62]))]))]),
  .ite (.cmp .Eq (.var 125) (.cst (.int 2)))
  [.ret (.frz (.new 6 168 [(.cst (.str [111, 114])), (.frz (.new 6 168 [(.var 49), (.var 110), (.frz (.new 73 90 [(.cst (.int 1))]))])), (.frz (.new 6 168 [(.cst (.str [61])), (.var 110), (.frz (.new 73 90 [(.cst (.int 2))]))]))]))]
  [],
  .ite (.cmp .Eq (.var 125) (.cst (.int 3)))
  [.ret (.frz (.new 6 168 [(.var 49), (.frz (.new 73 90 [(.cst (.int 1))])), (.var 110)]))]
  [],
  .ret (.frz (.new 6 168 [(.var 49), (.var 110), (.callF 133 997 [(.var 31), (.var 43)])]))]⟩
noncomputable def oE : FnI := ⟨[3], [],
 [.ret (.ite (.isi (.var 3) 30 116) (.sub (.frz (.lst [(.cst (.str [105, 110, 116, 101, 103, 101, 114])), (.cst (.str [98, 108, 111, 98])), (.cst (.str [105, 110, 116, 101, 103, 101, 114])), (.cst (.str [116, 101, 120, 116]))])) (.bin false .Add (.attr (.var 3) 57) (.cst (.int 1)))) (.cst .non))]⟩
noncomputable def v3 : FnI := ⟨[110, 49, 8, 34], [],
 [.ite (.bop false [(.not (.isi (.var 110) 30 116)), (.cmp .NotEq (.attr (.var 110) 31) (.var 34))])
  [.ret (.frz (.lst []))]
  [],
  .asgW [136, 137] [(.callF 135 1009 [(.var 110)]), (.callF 135 1009 [(.var 8)])],
  .ite (.bop false [(.bop true [(.isi (.var 8) 30 116), (.cmp .Eq (.attr (.var 8) 31) (.var 34))]), (.bop true [(.cmp .Eq (.var 137) (.cst (.str [105, 110, 116, 101, 103, 101, 114]))), (.cmp .NotEq (.var 136) (.cst (.str [105, 110, 116, 101, 103, 101, 114])))])])
  [.ret (.frz (.lst []))]
  [],
  .asg 53 (.ite (.bop true [(.cmp .Eq (.var 136) (.cst (.str [105, 110, 116, 101, 103, 101, 114]))), (.cmp .NotEq (.var 137) (.cst (.str [105, 110, 116, 101, 103, 101, 114])))]) (.cst (.str [110, 117, 109, 101, 114, 105, 99])) (.cst .non)),
  .ite (.bop true [(.cmp .Eq (.var 136) (.cst (.str [116, 101, 120, 116]))), (.cmp .Is (.var 137) (.cst .non))])
  [.asg 53 (.cst (.str [116, 101, 120, 116]))]
  [],
  .ret (.frz (.lst [(.tup [(.attr (.var 110) 57), (.var 49), (.meth (.var 8) 138 []), (.var 53)])]))]⟩
noncomputable def v1 : FnI := ⟨[3], [],
 [.asg 139 (.frz (.lst [(.var 3)])),
  .ite (.isi (.var 3) 7 194)
  [.asg 139 (.frz (.lst [(.attr (.var 3) 8), (.attr (.var 3) 9), (.attr (.var 3) 10)]))]
  [],
  .ite (.isi (.var 3) 11 220)
  [.asg 139 (.frz (.bin false .Add (.frz (.lst [(.attr (.var 3) 8)])) (.attr (.var 3) 12)))]
  [],
  .ite (.isi (.var 3) 6 168)
  [.asg 139 (.frz (.lst [(.attr (.var 3) 0), (.attr (.var 3) 2)])),
   .ite (.cmp .Eq (.attr (.var 3) 49) (.cst (.str [111, 114])))
   [.asg 139 (.frz (.lst [(.attr (.attr (.var 3) 0) 0), (.attr (.attr (.var 3) 2) 0)]))]
   []]
  [],
  .ret (.comp (.attr (.var 140) 31) 140 (.var 139) [(.isi (.var 140) 30 116)])]⟩
noncomputable def kX : FnI := ⟨[142, 34, 143], [],
 [.asgW [141, 14] [(.sdct [([61], [61]), ([60], [62]), ([60, 61], [62, 61]), ([62], [60]), ([62, 61], [60, 61])]), (.lst [])],
  .gc [142, 34, 143, 141, 14],
  .for1 3 (.var 142)
  [.asg 144 (.callF 145 1021 [(.var 3)]),
   .ite (.bop false [(.cmp .NotIn (.var 34) (.var 144)), (.cmp .NotEq (.comp (.var 130) 130 (.var 144) [(.bop true [(.cmp .NotEq (.var 130) (.var 34)), (.cmp .NotIn (.var 130) (.var 143))])]) (.frz (.lst [])))])
   [.gc [142, 34, 143, 141, 14],
    .cont]
   [],
   .ite (.bop true [(.isi (.var 3) 7 194), (.not (.attr (.var 3) 64))])
   [.asg 14 (.bin true .Add (.var 14) (.callF 146 1016 [(.attr (.var 3) 8), (.cst (.str [62, 61])), (.attr (.var 3) 9), (.var 34)])),
    .asg 14 (.bin true .Add (.var 14) (.callF 146 1016 [(.attr (.var 3) 8), (.cst (.str [60, 61])), (.attr (.var 3) 10), (.var 34)]))]
   [.ite (.bop true [(.isi (.var 3) 11 220), (.not (.attr (.var 3) 64)), (.cmp .Eq (.attr (.attr (.var 3) 8) 31) (.var 34))])
    [.ite (.cmp .NotIn (.var 34) (.comp (.attr (.var 65) 31) 65 (.attr (.var 3) 12) [(.isi (.var 65) 30 116)]))
     [.asg 92 (.totup (.comp (.meth (.var 65) 138 []) 65 (.attr (.var 3) 12) [])),
      .asg 53 (.sub (.frz (.lst [(.cst (.str [110, 117, 109, 101, 114, 105, 99])), (.cst .non), (.cst (.str [110, 117, 109, 101, 114, 105, 99])), (.cst (.str [116, 101, 120, 116]))])) (.bin true .Add (.attr (.attr (.var 3) 8) 57) (.cst (.int 1)))),
      .expr (.append true (.var 14) (.tup [(.attr (.attr (.var 3) 8) 57), (.cst (.str [105, 110])), (.var 92), (.var 53)]))]
     []]
    [.ite (.bop true [(.isi (.var 3) 6 168), (.cmp .In (.attr (.var 3) 49) (.var 141))])
     [.asg 14 (.bin true .Add (.var 14) (.callF 146 1016 [(.attr (.var 3) 0), (.attr (.var 3) 49), (.attr (.var 3) 2), (.var 34)])),
      .asg 14 (.bin true .Add (.var 14) (.callF 146 1016 [(.attr (.var 3) 2), (.sub (.var 141) (.attr (.var 3) 49)), (.attr (.var 3) 0), (.var 34)]))]
     []]],
   .gc [142, 34, 143, 141, 14]],
  .ret (.frz (.var 14))]⟩
noncomputable def vZ : FnI := ⟨[63], [],
 [.ite (.cmp .Eq (.attr (.var 63) 49) (.cst (.str [105, 110])))
  [.ret (.tup [(.attr (.var 63) 57), (.cst (.str [105, 110])), (.totup (.comp (.meth (.var 65) 138 []) 65 (.attr (.var 63) 8) [])), (.attr (.var 63) 39)])]
  [],
  .ret (.tup [(.attr (.var 63) 57), (.attr (.var 63) 49), (.meth (.attr (.var 63) 8) 138 []), (.attr (.var 63) 39)])]⟩
noncomputable def hW : FnI := ⟨[147, 57, 82], [],
 [.asgC 148 (.var 63) 63 (.var 147) [(.bop true [(.cmp .Eq (.sub (.var 63) (.cst (.int 0))) (.var 57)), (.cmp .In (.sub (.var 63) (.cst (.int 1))) (.var 82))])],
  .ret (.ite (.cmp .NotEq (.var 148) (.frz (.lst []))) (.sub (.var 148) (.cst (.int 0))) (.cst .non))]⟩
noncomputable def oA : FnI := ⟨[138], [],
 [.ret (.ite (.cmp .Eq (.sub (.var 138) (.cst (.int 0))) (.cst (.str [108, 105, 116, 101, 114, 97, 108]))) (.cmp .In (.sub (.var 138) (.cst (.int 1))) (.frz (.lst [(.cst (.str [110, 117, 108, 108])), (.cst (.str [105, 110, 116, 101, 103, 101, 114]))]))) (.cmp .Eq (.sub (.var 138) (.cst (.int 2))) (.cst (.str [114, 111, 119, 105, 100]))))]⟩
noncomputable def yE : FnI := ⟨[147, 57], [],
 [.asgW [9, 10] [(.callF 149 1036 [(.var 147), (.var 57), (.frz (.lst [(.cst (.str [62])), (.cst (.str [62, 61]))]))]), (.callF 149 1036 [(.var 147), (.var 57), (.frz (.lst [(.cst (.str [60])), (.cst (.str [60, 61]))]))])],
  .ret (.bin false .Add (.ite (.cmp .IsNot (.var 9) (.cst .non)) (.cst (.str [32, 102, 114, 111, 109])) (.cst (.str []))) (.ite (.cmp .IsNot (.var 10) (.cst .non)) (.cst (.str [32, 116, 111])) (.cst (.str []))))]⟩
noncomputable def a6 : FnI := ⟨[147, 155, 116], [],
 [.asgW [14, 94] [(.lst []), (.callF 149 1036 [(.var 147), (.neg (.cst (.int 1))), (.frz (.lst [(.cst (.str [105, 110]))]))])],
  .ite (.cmp .IsNot (.callF 149 1036 [(.var 147), (.neg (.cst (.int 1))), (.frz (.lst [(.cst (.str [61]))]))]) (.cst .non))
  [.expr (.append true (.var 14) (.cst (.str [114, 111, 119, 105, 100, 32, 101, 113, 117, 97, 108, 115, 32, 49])))]
  [],
  .ite (.cmp .IsNot (.var 94) (.cst .non))
  [.expr (.append true (.var 14) (.bin false .Add (.cst (.str [114, 111, 119, 105, 100, 32, 105, 110, 32])) (.tostr (.len (.sub (.var 94) (.cst (.int 2)))))))]
  [],
  .asg 150 (.callF 151 1050 [(.comp (.var 63) 63 (.var 147) [(.bop true [(.cmp .NotEq (.sub (.var 63) (.cst (.int 1))) (.cst (.str [105, 110]))), (.callF 152 1043 [(.sub (.var 63) (.cst (.int 2)))])])]), (.neg (.cst (.int 1)))]),
  .ite (.cmp .NotEq (.var 150) (.cst (.str [])))
  [.expr (.append true (.var 14) (.bin false .Add (.cst (.str [114, 111, 119, 105, 100, 95, 114, 97, 110, 103, 101])) (.var 150)))]
  [],
  .gc [147, 155, 116, 14],
  .asgW [117, 153, 154] [(.cst (.str [105, 110, 100, 101, 120, 32, 105])), (.cst (.int 0)), (.ite (.var 116) (.cst (.str [32, 99, 111, 118, 101, 114, 105, 110, 103])) (.cst (.str [])))],
  .whl (.bop true [(.cmp .Lt (.var 153) (.len (.var 155))), (.cmp .IsNot (.callF 149 1036 [(.var 147), (.sub (.var 155) (.var 153)), (.frz (.lst [(.cst (.str [61]))]))]) (.cst .non))])
  [.asg 153 (.bin false .Add (.var 153) (.cst (.int 1)))],
  .ite (.cmp .Gt (.var 153) (.cst (.int 0)))
  [.asg 117 (.bin false .Add (.bin false .Add (.var 117) (.cst (.str [32, 101, 113, 117, 97, 108, 115, 32]))) (.tostr (.var 153)))]
  [],
  .expr (.append true (.var 14) (.bin false .Add (.var 117) (.var 154))),
  .ite (.cmp .Lt (.var 153) (.len (.var 155)))
  [.asgW [150, 94] [(.callF 151 1050 [(.var 147), (.sub (.var 155) (.var 153))]), (.callF 149 1036 [(.var 147), (.sub (.var 155) (.var 153)), (.frz (.lst [(.cst (.str [105, 110]))]))])],
   .ite (.cmp .NotEq (.var 150) (.cst (.str [])))
   [.expr (.append true (.var 14) (.bin false .Add (.bin false .Add (.var 117) (.var 150)) (.var 154)))]
   [],
   .ite (.cmp .IsNot (.var 94) (.cst .non))
   [.expr (.append true (.var 14) (.bin false .Add (.bin false .Add (.bin false .Add (.var 117) (.cst (.str [32, 105, 110, 32]))) (.tostr (.len (.sub (.var 94) (.cst (.int 2)))))) (.var 154)))]
   []]
  [],
  .ret (.frz (.var 14))]⟩
noncomputable def zW : FnI := ⟨[157], [],
 [.asg 31 (.callF 156 969 [(.var 157), (.cst (.int 0))]),
  .asg 71 (.frz (.new 158 958 [(.cst (.str [116])), (.cst (.int 2)), (.frz (.lst [(.frz (.new 159 885 [(.cst (.str [97]))])), (.frz (.new 159 885 [(.cst (.str [98])), (.cst (.str [105, 110, 116, 101, 103, 101, 114]))])), (.frz (.new 159 885 [(.cst (.str [99])), (.cst (.str [116, 101, 120, 116]))]))])), (.cst (.str []))])),
  .asg 155 (.callF 132 983 [(.var 31), (.frz (.lst [(.frz (.lst [(.cst (.int 0))])), (.frz (.lst [(.cst (.int 1))])), (.frz (.lst [(.cst (.int 2))])), (.frz (.lst [(.cst (.int 1)), (.cst (.int 0))])), (.frz (.lst [(.cst (.int 2)), (.cst (.int 1))])), (.frz (.lst [(.cst (.int 0)), (.neg (.cst (.int 1)))])), (.frz (.lst [(.cst (.int 2)), (.cst (.int 0)), (.cst (.int 1))]))]))]),
  .asg 113 (.frz (.new 160 918 [(.cst (.str [105])), (.cst (.str [116])), (.cst (.int 3)), (.comp (.tup [(.var 57), (.cst (.str [98, 105, 110, 97, 114, 121])), (.cst (.bool false))]) 57 (.var 155) []), (.cst (.bool false)), (.cst (.str [99])), (.cst (.str []))])),
  .asg 43 (.frz (.lst [(.callF 161 867 [(.var 71), (.cst (.str [120])), (.cst (.int 0))]), (.callF 161 867 [(.var 71), (.cst (.str [121])), (.cst (.int 1))])])),
  .gc [31, 71, 155, 113, 43],
  .asgW [117, 162] [(.lst []), (.cst .non)],
  .for1 134 (.rng (.bin false .Add (.cst (.int 1)) (.callF 128 976 [(.var 31), (.cst (.int 4))])))
  [.asg 3 (.callF 163 1002 [(.var 31), (.var 43)]),
   .expr (.append false (.var 117) (.var 3)),
   .asg 162 (.ite (.cmp .Is (.var 162) (.cst .non)) (.var 3) (.frz (.new 6 168 [(.cst (.str [97, 110, 100])), (.var 162), (.var 3)])))],
  .gfrz 117,
  .asg 142 (.frz (.new 164 815 [(.var 43), (.var 162)])),
  .gc [31, 71, 155, 113, 117, 142],
  .forT [34, 143] (.frz (.lst [(.tup [(.cst (.int 0)), (.frz (.lst []))]), (.tup [(.cst (.int 1)), (.frz (.lst []))]), (.tup [(.cst (.int 0)), (.frz (.lst [(.cst (.int 1))]))]), (.tup [(.cst (.int 1)), (.frz (.lst [(.cst (.int 0))]))])]))
  [.asgW [147, 81] [(.callF 165 1026 [(.var 117), (.var 34), (.var 143)]), (.meth (.var 142) 166 [(.var 34), (.var 143)])],
   .ite (.cmp .NotEq (.comp (.callF 167 1031 [(.var 63)]) 63 (.var 81) []) (.var 147))
   [.ret (.cst (.bool false))]
   [],
   .asg 116 (.cmp .Eq (.callF 128 976 [(.var 31), (.cst (.int 2))]) (.cst (.int 0))),
   .asg 148 (.frz (.bin true .Add (.callF 168 758 [(.var 71), (.var 81)]) (.callF 169 772 [(.var 113), (.var 71), (.var 81), (.var 116)]))),
   .ite (.cmp .NotEq (.comp (.meth (.var 85) 117 []) 85 (.var 148) []) (.callF 170 1055 [(.var 147), (.var 155), (.var 116)]))
   [.ret (.cst (.bool false))]
   [],
   .gc [31, 71, 155, 113, 117, 142]],
  .ret (.cst (.bool true))]⟩
noncomputable def l6 : FnI := ⟨[171, 8], [],
 [.asgA (.var 171) 8 (.var 8)]⟩
noncomputable def pZ : FnI := ⟨[171], [],
 [.ite (.cmp .Is (.attr (.var 171) 8) (.cst .non))
  [.ret (.tup [(.cst (.str [108, 105, 116, 101, 114, 97, 108])), (.cst (.str [110, 117, 108, 108])), (.cst .non)])]
  [],
  .ite (.isi (.attr (.var 171) 8) 74 1)
  [.ret (.tup [(.cst (.str [108, 105, 116, 101, 114, 97, 108])), (.cst (.str [105, 110, 116, 101, 103, 101, 114])), (.attr (.var 171) 8)])]
  [],
  .ret (.tup [(.cst (.str [108, 105, 116, 101, 114, 97, 108])), (.ite (.isi (.attr (.var 171) 8) 172 2) (.cst (.str [116, 101, 120, 116])) (.cst (.str [98, 108, 111, 98]))), (.attr (.var 171) 8)])]⟩
noncomputable def tW : FnI := ⟨[171, 71, 110], [],
 [.asgA (.var 171) 71 (.var 71),
  .asgA (.var 171) 110 (.var 110),
  .asgA (.var 171) 31 (.cst .non),
  .asgA (.var 171) 57 (.cst .non),
  .asgA (.var 171) 122 (.cst (.int 0))]⟩
noncomputable def yG : FnI := ⟨[171], [],
 [.ret (.tup [(.cst (.str [110, 97, 109, 101])), (.attr (.var 171) 71), (.attr (.var 171) 110)])]⟩
noncomputable def oL : FnI := ⟨[171, 49, 0, 2], [],
 [.asgA (.var 171) 49 (.var 49),
  .asgA (.var 171) 0 (.var 0),
  .asgA (.var 171) 2 (.var 2)]⟩
noncomputable def l7 : FnI := ⟨[171, 8, 9, 10, 64], [],
 [.asgA (.var 171) 8 (.var 8),
  .asgA (.var 171) 9 (.var 9),
  .asgA (.var 171) 10 (.var 10),
  .asgA (.var 171) 64 (.var 64)]⟩
noncomputable def oK : FnI := ⟨[171, 8, 12, 64], [],
 [.asgA (.var 171) 8 (.var 8),
  .asgA (.var 171) 12 (.var 12),
  .asgA (.var 171) 64 (.var 64)]⟩
noncomputable def p5 : FnI := ⟨[171, 57, 49, 8, 39, 46], [],
 [.asgA (.var 171) 57 (.var 57),
  .asgA (.var 171) 49 (.var 49),
  .asgA (.var 171) 8 (.var 8),
  .asgA (.var 171) 39 (.var 39),
  .asgA (.var 171) 46 (.var 46)]⟩
noncomputable def tV : FnI := ⟨[171, 3, 174], [],
 [.asgA (.var 171) 3 (.var 3),
  .asgA (.var 171) 173 (.mkset (.comp (.var 34) 34 (.callF 51 495 [(.var 3)]) [(.cmp .In (.var 34) (.var 174))])),
  .asgA (.var 171) 49 (.cst .non),
  .asgA (.var 171) 175 (.cst .non),
  .asgA (.var 171) 2 (.cst .non),
  .expr (.meth (.var 171) 176 [])]⟩
noncomputable def lA : FnI := ⟨[171], [],
 [.asg 3 (.attr (.var 171) 3),
  .ite (.bop false [(.not (.isi (.var 3) 6 168)), (.cmp .NotIn (.attr (.var 3) 49) (.glo 62))])
  [.retn]
  [],
  .ite (.isi (.attr (.var 3) 0) 30 116)
  [.asgT [(.a (.var 171) 49), (.a (.var 171) 175), (.a (.var 171) 2)] [(.attr (.var 3) 49), (.attr (.var 3) 0), (.attr (.var 3) 2)]]
  [.ite (.isi (.attr (.var 3) 2) 30 116)
   [.asgT [(.a (.var 171) 49), (.a (.var 171) 175), (.a (.var 171) 2)] [(.sub (.glo 62) (.attr (.var 3) 49)), (.attr (.var 3) 2), (.attr (.var 3) 0)]]
   []]]⟩
noncomputable def l5 : FnI := ⟨[171, 34, 143], [],
 [.ite (.cmp .NotIn (.var 34) (.attr (.var 171) 173))
  [.ret (.cst (.bool false))]
  [],
  .ret (.all (.comp (.bop false [(.cmp .Eq (.var 19) (.var 34)), (.cmp .In (.var 19) (.var 143))]) 19 (.srt (.attr (.var 171) 173)) []))]⟩
noncomputable def eC : FnI := ⟨[171, 125, 113], [.non],
 [.asgA (.var 171) 125 (.var 125),
  .asgA (.var 171) 113 (.var 113),
  .asgA (.var 171) 86 (.lst []),
  .asgA (.var 171) 87 (.lst []),
  .asgA (.var 171) 9 (.cst .non),
  .asgA (.var 171) 10 (.cst .non),
  .asgA (.var 171) 90 (.cst .non),
  .asgA (.var 171) 91 (.cst .non),
  .asgA (.var 171) 88 (.cst .non),
  .asgA (.var 171) 89 (.cst .non),
  .asgA (.var 171) 121 (.cst (.bool false)),
  .asgA (.var 171) 109 (.cst (.bool false)),
  .asgA (.var 171) 95 (.cst (.bool false)),
  .asgA (.var 171) 92 (.glo 93),
  .asgA (.var 171) 96 (.bin false .Mult (.glo 93) (.glo 105))]⟩
noncomputable def pY : FnI := ⟨[171], [],
 [.ret (.bop false [(.cmp .NotEq (.attr (.var 171) 86) (.frz (.lst []))), (.cmp .IsNot (.attr (.var 171) 9) (.cst .non)), (.cmp .IsNot (.attr (.var 171) 10) (.cst .non)), (.cmp .IsNot (.attr (.var 171) 88) (.cst .non))])]⟩
noncomputable def v5 : FnI := ⟨[171], [],
 [.asg 177 (.ite (.cmp .Is (.attr (.var 171) 113) (.cst .non)) (.attr (.var 171) 125) (.bin false .Add (.cst (.str [105, 110, 100, 101, 120, 32])) (.attr (.attr (.var 171) 113) 55))),
  .ite (.cmp .NotEq (.attr (.var 171) 86) (.frz (.lst [])))
  [.asg 177 (.bin false .Add (.bin false .Add (.var 177) (.cst (.str [32, 101, 113, 117, 97, 108, 115, 32]))) (.tostr (.len (.attr (.var 171) 86))))]
  [],
  .ite (.cmp .IsNot (.attr (.var 171) 88) (.cst .non))
  [.asg 177 (.bin false .Add (.bin false .Add (.var 177) (.cst (.str [32, 105, 110, 32]))) (.tostr (.len (.attr (.var 171) 88))))]
  [],
  .ite (.cmp .IsNot (.attr (.var 171) 9) (.cst .non))
  [.asg 177 (.bin false .Add (.var 177) (.cst (.str [32, 102, 114, 111, 109])))]
  [],
  .ite (.cmp .IsNot (.attr (.var 171) 10) (.cst .non))
  [.asg 177 (.bin false .Add (.var 177) (.cst (.str [32, 116, 111])))]
  [],
  .ite (.attr (.var 171) 121)
  [.asg 177 (.bin false .Add (.var 177) (.cst (.str [32, 99, 111, 118, 101, 114, 105, 110, 103])))]
  [],
  .ret (.ite (.attr (.var 171) 109) (.bin false .Add (.var 177) (.cst (.str [32, 98, 97, 99, 107, 119, 97, 114, 100, 115]))) (.var 177))]⟩
noncomputable def jI : FnI := ⟨[171, 43, 162], [],
 [.asg 174 .dct0,
  .for1 31 (.var 43)
  [.asgS (.var 174) (.attr (.var 31) 34) (.var 31)],
  .gfrz 174,
  .asgT [(.a (.var 171) 178), (.a (.var 171) 179)] [(.frz .dct0), (.frz (.lst []))],
  .for1 31 (.var 43)
  [.asgC 117 (.frz (.new 181 626 [(.var 3), (.var 174)])) 3 (.callF 180 550 [(.attr (.var 31) 178)]) [],
   .ite (.cmp .Eq (.attr (.var 31) 125) (.cst (.str [108, 101, 102, 116])))
   [.asgS (.attr (.var 171) 178) (.attr (.var 31) 34) (.var 117)]
   [.asgA (.var 171) 179 (.frz (.bin false .Add (.attr (.var 171) 179) (.var 117)))]],
  .asgA (.var 171) 179 (.frz (.bin false .Add (.attr (.var 171) 179) (.comp (.frz (.new 181 626 [(.var 3), (.var 174)])) 3 (.callF 180 550 [(.var 162)]) [])))]⟩
noncomputable def bH : FnI := ⟨[171, 34, 143], [],
 [.asg 179 (.ite (.cmp .In (.var 34) (.attr (.var 171) 178)) (.sub (.attr (.var 171) 178) (.var 34)) (.attr (.var 171) 179)),
  .asg 14 (.frz (.lst [])),
  .gc [171, 34, 143, 179, 14],
  .for1 67 (.var 179)
  [.ite (.meth (.var 67) 182 [(.var 34), (.var 143)])
   [.asg 14 (.frz (.bin true .Add (.var 14) (.callF 183 661 [(.var 67), (.var 34)])))]
   [],
   .gc [171, 34, 143, 179, 14]],
  .ret (.var 14)]⟩
noncomputable def oJ : FnI := ⟨[171, 34, 124, 71, 114, 35, 125, 126], [],
 [.asgA (.var 171) 34 (.var 34),
  .asgA (.var 171) 124 (.var 124),
  .asgA (.var 171) 71 (.var 71),
  .asgA (.var 171) 114 (.var 114),
  .asgA (.var 171) 35 (.var 35),
  .asgA (.var 171) 125 (.var 125),
  .asgA (.var 171) 126 (.var 126),
  .asgA (.var 171) 178 (.cst .non),
  .asgA (.var 171) 184 (.frz (.lst []))]⟩
noncomputable def dE : FnI := ⟨[171, 55, 41], [.non],
 [.asgA (.var 171) 55 (.var 55),
  .asgA (.var 171) 41 (.var 41),
  .asgA (.var 171) 39 (.callF 40 469 [(.var 41)]),
  .asgA (.var 171) 46 (.cst (.str [98, 105, 110, 97, 114, 121])),
  .asgA (.var 171) 185 (.cst (.bool false)),
  .asgA (.var 171) 186 (.cst .non)]⟩
noncomputable def p4 : FnI := ⟨[171, 55, 71, 187, 114, 118, 188, 189], [],
 [.asgA (.var 171) 55 (.var 55),
  .asgA (.var 171) 71 (.var 71),
  .asgA (.var 171) 187 (.var 187),
  .asgA (.var 171) 114 (.var 114),
  .asgA (.var 171) 118 (.var 118),
  .asgA (.var 171) 188 (.var 188),
  .asgA (.var 171) 189 (.var 189)]⟩
noncomputable def pX : FnI := ⟨[171, 55, 187, 114, 189], [],
 [.asgA (.var 171) 55 (.var 55),
  .asgA (.var 171) 187 (.var 187),
  .asgA (.var 171) 114 (.var 114),
  .asgA (.var 171) 72 (.cst .non),
  .asgA (.var 171) 190 (.frz (.lst [])),
  .asgA (.var 171) 191 (.frz (.lst [])),
  .asgA (.var 171) 189 (.var 189),
  .asgA (.var 171) 192 (.frz (.lst []))]⟩
noncomputable def tT : FnI := ⟨[177], [],
 [.asg 200 (.lst []),
  .for1 201 (.var 177)
  [.ite (.cmp2 (.cst (.str [65])) (.var 201) (.cst (.str [90]))) [.expr .wall] [.expr (.append false (.var 200) (.var 201))]],
  .ret (.join (.cst (.str [])) (.var 200))]⟩
noncomputable def jH : FnI := ⟨[41], [],
 [.ite (.bop false [(.cmp .Is (.var 41) (.cst .non)), (.cmp .Eq (.strip (.var 41) (.glo 203)) (.cst (.str [])))]) [.ret (.cst (.str [98, 108, 111, 98]))] [],
  .asg 55 (.callF 199 462 [(.var 41)]),
  .ite (.cmp .In (.cst (.str [105, 110, 116])) (.var 55)) [.ret (.cst (.str [105, 110, 116, 101, 103, 101, 114]))] [],
  .for1 202 (.tup [(.cst (.str [99, 104, 97, 114])), (.cst (.str [99, 108, 111, 98])), (.cst (.str [116, 101, 120, 116]))])
  [.ite (.cmp .In (.var 202) (.var 55)) [.ret (.cst (.str [116, 101, 120, 116]))] []],
  .ite (.cmp .In (.cst (.str [98, 108, 111, 98])) (.var 55)) [.ret (.cst (.str [98, 108, 111, 98]))] [],
  .ret (.cst (.str [110, 117, 109, 101, 114, 105, 99]))]⟩
noncomputable def rC : List (Nat × FnI) := [(462, tT), (469, jH), (476, fQ), (488, yF), (495, l4), (502, kB), (510, dU), (517, hY), (524, jG), (532, dA), (539, gF), (550, eX), (557, oH), (564, tS), (637, kZ), (642, iT), (647, k0), (654, pU), (661, v4), (668, kY), (675, kU), (725, fJ), (732, vY), (739, yC), (746, vX), (753, KE), (758, iY), (765, pW), (772, pV), (779, kW), (861, tU), (867, cH), (983, BU), (990, tR), (997, yD), (1002, cU), (1009, oE), (1016, v3), (1021, v1), (1026, kX), (1031, vZ), (1036, hW), (1043, oA), (1050, yE), (1055, a6), (1060, zW), (80, l6), (87, pZ), (106, tW), (113, yG), (158, oL), (184, l7), (210, oK), (578, p5), (597, tV), (604, lA), (623, l5), (690, eC), (697, pY), (711, v5), (791, jI), (798, bH), (833, oJ), (882, dE), (903, p4), (936, pX)]
noncomputable def n5 : List (Nat × ClsI) := [(90, ⟨80, [8], [(138, 87)]⟩),
 (116, ⟨106, [71, 110, 31, 57, 122, 39, 46], [(138, 113)]⟩),
 (168, ⟨158, [49, 0, 2], []⟩),
 (194, ⟨184, [8, 9, 10, 64], []⟩),
 (220, ⟨210, [8, 12, 64], []⟩),
 (581, ⟨578, [57, 49, 8, 39, 46], []⟩),
 (626, ⟨597, [3, 173, 49, 175, 2], [(176, 604), (182, 623)]⟩),
 (714, ⟨690, [125, 113, 86, 87, 9, 10, 90, 91, 88, 89, 121, 109, 95, 92, 96], [(98, 697), (117, 711)]⟩),
 (815, ⟨791, [179, 178], [(166, 798)]⟩),
 (850, ⟨833, [34, 124, 71, 114, 35, 125, 126, 178, 184], []⟩),
 (885, ⟨882, [55, 41, 39, 46, 185, 186], []⟩),
 (918, ⟨903, [55, 71, 187, 114, 118, 188, 189], []⟩),
 (958, ⟨936, [55, 187, 114, 72, 190, 191, 189, 192], []⟩)]
noncomputable def RW : List String := ["left", "NUMERIC_AFFINITIES", "right", "expr", "Unary", "operand", "Binary", "Between", "value", "low", "high", "InList", "items", "Case", "found", "base", "when", "then", "whens", "other", "Call", "arguments", "Match", "pattern", "escape", "InSelect", "Cast", "Collate", "IsNull", "collect_numbers", "Name", "source", "Exists", "Scalar", "number", "select", "outer", "child", "children", "affinity", "affinity_of_type", "type_name", "affinity_of", "sources", "outputs", "fold", "collation", "explicit_collation", "column_collation", "op", "node", "outer_numbers", "kept", "led", "comparison_affinities", "name", "Bound", "place", "comparison_collation", "is_column_of", "is_free_of", "compared_bound", "TURNED", "bound", "negated", "item", "collation_of", "term", "comparison_bounds", "between_bounds", "list_bounds", "table", "rowid_place", "Literal", "int", "surely_integer", "TRUTH_OPS", "NUMBER_OPS", "NUMBER_CALLS", "is_rowid", "fits", "bounds", "ops", "is_here", "is_rowid_place", "path", "equals", "equal_affinities", "in_list", "in_affinity", "low_affinity", "high_affinity", "rows", "ROWS_OF_TABLE", "many", "is_single", "cost", "per_row", "is_led", "DESCENT", "first_bound", "equal", "Path", "put_equal", "guess", "ROW_BY_TABLE", "put_list", "whole", "put_range", "descending", "column", "head", "fits_column", "index", "columns", "new_index_path", "is_covering", "told", "unique", "ROW_BY_INDEX", "ROW_BY_BOTH", "covering", "depth", "Source", "alias", "kind", "hint", "things", "_law_take", "bound_name", "one", "_law_column", "_law_one", "_law_side", "turn", "_law_affinity", "here", "there", "row", "sides", "side", "turned", "conditions", "placed", "named", "_law_names", "_law_bound", "due", "some", "_law_first", "ends", "_law_ends", "_law_is_whole", "at", "behind", "places", "_law_pool", "script", "Table", "Column", "Index", "table_source", "where", "_law_condition", "Conditions", "_law_due", "ready_bounds", "_law_shown", "rowid_paths", "index_paths", "_law_texts", "self", "str", "needs", "numbers", "left_name", "take_form", "text", "on", "terms", "split_and", "Term", "is_ready", "bounds_of", "using", "not_null", "default", "root", "origin", "sql", "indexes", "checks", "primary", "k", "top", "drawn", "cell", "big", "mixed", "fold_ascii", "signs", "sign", "part", "SPACES"]
noncomputable abbrev nE : Nat := 0
noncomputable abbrev gY : Nat := 1
noncomputable abbrev iG : Nat := 2
noncomputable abbrev N2 : Nat := 3
noncomputable abbrev eT : Nat := 8
noncomputable abbrev R0 : Nat := 9
noncomputable abbrev N1 : Nat := 10
noncomputable abbrev zE : Nat := 12
noncomputable abbrev DK : Nat := 31
noncomputable abbrev eM : Nat := 39
noncomputable abbrev d5 : Nat := 46
noncomputable abbrev pQ : Nat := 49
noncomputable abbrev j0 : Nat := 57
noncomputable abbrev DM : Nat := 62
noncomputable abbrev kI : Nat := 64
noncomputable abbrev HP : Nat := 71
noncomputable abbrev l0 : Nat := 93
noncomputable abbrev AV : Nat := 99
noncomputable abbrev nH : Nat := 105
noncomputable abbrev DL : Nat := 110
noncomputable abbrev nK : Nat := 119
noncomputable abbrev pS : Nat := 120
noncomputable abbrev HR : Nat := 122
noncomputable abbrev HQ : Nat := 173
noncomputable abbrev uW : Nat := 175
noncomputable def pN : Plc -> Int
 | .r => -1
 | .a => 0
 | .b => 1
 | .c => 2
noncomputable def sN : Bool -> Int
 | false => 0
 | true => 1
noncomputable def w5 : Bool -> List Nat
 | false => [120]
 | true => [121]
noncomputable def LC : Plc -> List Nat
 | .r => [114, 111, 119, 105, 100]
 | .a => [97]
 | .b => [98]
 | .c => [99]
noncomputable abbrev cO : List Nat := [105, 110, 116, 101, 103, 101, 114]
noncomputable abbrev qG : List Nat := [116, 101, 120, 116]
noncomputable abbrev C5 : List Nat := [98, 108, 111, 98]
noncomputable abbrev mQ : List Nat := [110, 117, 109, 101, 114, 105, 99]
noncomputable abbrev cJ : List Nat := [98, 105, 110, 97, 114, 121]
noncomputable abbrev Q3 : List Nat := [110, 117, 108, 108]
noncomputable abbrev gQ : List Nat := [108, 105, 116, 101, 114, 97, 108]
noncomputable abbrev Q4 : List Nat := [110, 97, 109, 101]
noncomputable abbrev sIn : List Nat := [105, 110]
noncomputable abbrev sOr : List Nat := [111, 114]
noncomputable abbrev U3 : List Nat := [97, 110, 100]
noncomputable def U9 : Plc -> List Nat
 | .r => cO
 | .a => C5
 | .b => cO
 | .c => qG
noncomputable def HV : Lit -> FV
 | .nul => .non
 | .i0 => .int 0
 | .i1 => .int 1
 | .i2 => .int 2
 | .t => .str [116]
noncomputable def opS : Op -> List Nat
 | .eq => [61]
 | .lt => [60]
 | .le => [60, 61]
 | .gt => [62]
 | .ge => [62, 61]
 | .ne => [60, 62]
noncomputable def s6 : Led -> FV
 | .no => .non
 | .num => .str mQ
 | .txt => .str qG
noncomputable def RD : Side -> FV
 | .lit .nul => .tup [.str gQ, .str Q3, .non]
 | .lit .t => .tup [.str gQ, .str qG, .str [116]]
 | .lit .i0 => .tup [.str gQ, .str cO, .int 0]
 | .lit .i1 => .tup [.str gQ, .str cO, .int 1]
 | .lit .i2 => .tup [.str gQ, .str cO, .int 2]
 | .col s p => .tup [.str Q4, .str (w5 s), .str (LC p)]
noncomputable abbrev bD (s : Side) : FV := .dom (.side s)
noncomputable def B5 : Side -> FV
 | .lit l => .node 90 [(eT, HV l)]
 | .col s p => .node 116 [(HP, .str (w5 s)), (DL, .str (LC p)), (DK, .int (sN s)), (j0, .int (pN p)), (HR, .int 0), (eM, .str (U9 p)), (d5, .str cJ)]
noncomputable def B6 : Cond -> FV
 | .btw s p lo hi neg => .node 194 [(eT, bD (.col s p)), (R0, bD lo), (N1, bD hi), (kI, .bool neg)]
 | .in1 s p x neg => .node 220 [(eT, bD (.col s p)), (zE, .lst [bD x]), (kI, .bool neg)]
 | .in2 s p x y neg => .node 220 [(eT, bD (.col s p)), (zE, .lst [bD x, bD y]), (kI, .bool neg)]
 | .ors op s p => .node 168 [(pQ, .str sOr), (nE, .node 168 [(pQ, .str (opS op)), (nE, bD (.col s p)), (iG, bD (.lit .i1))]),
   (iG, .node 168 [(pQ, .str [61]), (nE, bD (.col s p)), (iG, bD (.lit .i2))])]
 | .litl op s p => .node 168 [(pQ, .str (opS op)), (nE, bD (.lit .i1)), (iG, bD (.col s p))]
 | .bin op s p v => .node 168 [(pQ, .str (opS op)), (nE, bD (.col s p)), (iG, bD v)]
noncomputable def rZ : Bnd -> FV
 | .cmp p op v led => .node 581 [(j0, .int (pN p)), (pQ, .str (opS op)), (eT, bD v), (eM, s6 led), (d5, .str cJ)]
 | .inb1 p x led => .node 581 [(j0, .int (pN p)), (pQ, .str sIn), (eT, .lst [bD x]), (eM, s6 led), (d5, .str cJ)]
 | .inb2 p x y led => .node 581 [(j0, .int (pN p)), (pQ, .str sIn), (eT, .lst [bD x, bD y]), (eM, s6 led), (d5, .str cJ)]
noncomputable abbrev iQ (s : Side) : FV := .dom (.row s)
noncomputable def aG : Bnd -> FV
 | .cmp p op v led => .tup [.int (pN p), .str (opS op), iQ v, s6 led]
 | .inb1 p x led => .tup [.int (pN p), .str sIn, .tup [iQ x], s6 led]
 | .inb2 p x y led => .tup [.int (pN p), .str sIn, .tup [iQ x, iQ y], s6 led]
noncomputable def kS : Side -> List Int
 | .lit _ => []
 | .col s _ => [sN s]
noncomputable def fN : Cond -> List Int
 | .btw s _ lo hi _ => sortI (BD ([sN s] ++ kS lo ++ kS hi))
 | .in1 s _ x _ => sortI (BD ([sN s] ++ kS x))
 | .in2 s _ x y _ => sortI (BD ([sN s] ++ kS x ++ kS y))
 | .ors _ s _ => [sN s]
 | .litl _ s _ => [sN s]
 | .bin _ s _ v => sortI (BD ([sN s] ++ kS v))
noncomputable def mK : Cond -> FV × FV × FV
 | .litl .ne _ _ => (.non, .non, .non)
 | .litl .eq s p => (.str (opS .eq), bD (.col s p), bD (.lit .i1))
 | .litl .lt s p => (.str (opS .gt), bD (.col s p), bD (.lit .i1))
 | .litl .le s p => (.str (opS .ge), bD (.col s p), bD (.lit .i1))
 | .litl .gt s p => (.str (opS .lt), bD (.col s p), bD (.lit .i1))
 | .litl .ge s p => (.str (opS .le), bD (.col s p), bD (.lit .i1))
 | .bin .ne _ _ _ => (.non, .non, .non)
 | .bin op s p v => (.str (opS op), bD (.col s p), bD v)
 | _ => (.non, .non, .non)
noncomputable def B4 (c : Cond) (L : List Int) : FV := .node 626 [(N2, .dom (.cond c)), (HQ, .iset L), (pQ, (mK c).1), (uW, (mK c).2.1), (iG, (mK c).2.2)]
noncomputable def view (σ : Nat -> FV) : Dom -> FV
 | .side s => B5 s
 | .cond c => B6 c
 | .bnd b => rZ b
 | .due b => aG b
 | .row s => RD s
 | .term c L => B4 c L
 | .hole i => σ i
noncomputable def TQ : List (Nat × FV) := [(203, .str [32, 9, 10, 11, 12, 13]), (gY, .tup [.str cO, .str mQ]),
 (DM, .sdct [([61], .str [61]), ([60], .str [62]), ([60, 61], .str [62, 61]), ([62], .str [60]), ([62, 61], .str [60, 61])]),
 (l0, .int 1000), (nH, .int 2), (nK, .int 2), (pS, .int 3), (AV, .int 4)]
noncomputable def tb (σ : Nat -> FV) : Tb := ⟨view σ, look rC, look n5, look TQ⟩
noncomputable def O0 (ao : AO) : Bool := AO.casesOn (motive := λ _ => Bool) ao (λ _ _ => false) (λ _ => false) (λ _ => false) (λ _ => false) true (λ _ => false)
noncomputable def D6 (H : Hp) (p : PV) : Bool := oBl (oS p) λ i => oBl (nth H i) O0
noncomputable def L8 {β : Type} (as : List PV) (k : PV -> PV -> Option β) : Option β := List.casesOn (motive := λ _ => Option β) as none λ p t => List.casesOn (motive := λ _ => Option β) t none λ q u => gO (gH u) (k p q)
noncomputable def QK (as : List PV) (H : Hp) : Option (T (PV × Hp)) := L8 as λ p q => gO (D6 H p) <| oO (BW q) λ n => gO (Nat.blt 0 n) <| gO (Nat.blt n 100) <| some (.take n λ d => .ret (.f (.int (.ofNat d)), H))
noncomputable def RJ (as : List PV) (H : Hp) : Option (T (PV × Hp)) := L8 as λ p q => oO (yI p) λ xs => oO (BW q) λ n => gO (Nat.beq n 0) <| some (.need (∃ is, fD xs = some is) (.ret (.ref H.length, H ++ [.src])))
noncomputable def ct0 : Ctr := λ f as H => Bool.casesOn (motive := λ _ => Option (T (PV × Hp))) (Nat.beq f 976) (Bool.casesOn (motive := λ _ => Option (T (PV × Hp))) (Nat.beq f 969) none (RJ as H)) (QK as H)
end
section
open PySem PySem.W PyProof.Rows
set_option backward.match.sparseCases false
set_option genSizeOf false
set_option genInjectivity false
structure Cx where
 prog : Program
 w : World
 K : Frag
 h₀ : Heap
 mg : Str -> Option Value
 mb : Str -> Option Value
 nm : Nat -> Str
 N : Nat
 tb : Tb
abbrev Gh := Nat -> Option Obj
def aC (cs : List Nat) : Str := ⟨cs.toArray⟩
def KI (T : String) (o : Obj) (vs : List Value) : Prop := ∃ n, o = { cls := .type T, data := .seq vs.toArray n }
noncomputable def fS {prog : Program} {w : World} {K : Type} [DecidableEq K] (knd : KeyKind prog w K) (o : Obj) (kvs : List (K × Value)) : Prop :=
 ∃ es ep, o.ExactDict /\ o.data = .dict es ep /\ KeysOf knd es /\ Pairs knd es.toList kvs /\ (kvs.map (·.1)).Nodup
def aJ (w : World) : Bool := w.params.followText "set-order"
inductive SetEs : List (Int × Value) -> List Int -> Prop
 | nil : SetEs [] []
 | cons {i : Int} {t : Tok} {es xs} : SetEs es xs -> SetEs ((i, .int i t) :: es) (i :: xs)
noncomputable def BZ (w : World) (o : Obj) (xs : List Int) : Prop :=
 o.ExactSet /\ ∃ es ep, SetEs es xs /\ o.data = .set es.toArray ep ⟨7, (xs.map Int.toNat).toArray, #[], 0, !aJ w, 0, true⟩ /\ (xs = [0] \/ xs = [1] \/ xs = [0, 1])
def tE (K : Frag) (C : Addr) (name : Str) : Bool := hasDictIn K C && plainGet K C name && (findIn K (.ref C) name == some none)
mutual
inductive Dat (tb : Tb) : FV -> PyData -> Prop
 | non : Dat tb .non .none
 | int (i : Int) : Dat tb (.int i) (.int i)
 | str (cs : List Nat) : Dat tb (.str cs) (.str (aC cs))
 | tup {xs ds} : DatL tb xs ds -> Dat tb (.tup xs) (.tuple ds)
 | lst {xs ds} : DatL tb xs ds -> Dat tb (.lst xs) (.list ds)
 | dom {d p} : Dat tb (tb.view d) p -> Dat tb (.dom d) p
inductive DatL (tb : Tb) : List FV -> List PyData -> Prop
 | nil : DatL tb [] []
 | cons {x p xs ps} : Dat tb x p -> DatL tb xs ps -> DatL tb (x :: xs) (p :: ps)
end
section
variable (c : Cx)
mutual
inductive RF (G : Gh) : FV -> Value -> Prop
 | non : RF G .non .none
 | bool (b : Bool) : RF G (.bool b) (.bool b)
 | int (i : Int) (t : Tok) : RF G (.int i) (.int i t)
 | str (cs : List Nat) (t : Tok) : okS cs = true -> RF G (.str cs) (.str (aC cs) t)
 | tup {a : Addr} {o : Obj} {xs : List FV} {vs : List Value} : G a = some o -> KI "tuple" o vs -> xs.length <= 2000 -> RL G xs vs -> RF G (.tup xs) (.ref a)
 | lst {a : Addr} {o : Obj} {xs : List FV} {vs : List Value} : G a = some o -> KI "list" o vs -> xs.length <= 2000 -> RL G xs vs -> RF G (.lst xs) (.ref a)
 | rng {a : Addr} {n : Nat} {t u v : Tok} : G a = some { cls := .type "range", dict := none, data := .fields #[.int 0 t, .int n u, .int 1 v], slots := #[] } -> n < 100 -> RF G (.rng n) (.ref a)
 | node {x dx C : Addr} {fs : List (Nat × FV)} {es : List DictEntry} {n : Nat} : G x = some (instObj C dx) -> G dx = some (dictOf es n) -> RFs G C fs es -> RF G (.node C fs) (.ref x)
 | idct {a : Addr} {o : Obj} {es : List (Int × FV)} {kvs : List (Int × Value)} : G a = some o -> fS (intKind c.prog c.w) o kvs -> RI G es kvs -> a ≠ sysModules -> RF G (.idct es) (.ref a)
 | sdct {a : Addr} {o : Obj} {es : List (List Nat × FV)} {kvs : List (Str × Value)} : G a = some o -> fS (PySem.strKind c.prog c.w) o kvs -> RS G es kvs -> a ≠ sysModules -> RF G (.sdct es) (.ref a)
 | iset {a : Addr} {o : Obj} {xs : List Int} : G a = some o -> BZ c.w o xs -> RF G (.iset xs) (.ref a)
 | dom {d : Dom} {v : Value} : RF G (c.tb.view d) v -> RF G (.dom d) v
inductive RL (G : Gh) : List FV -> List Value -> Prop
 | nil : RL G [] []
 | cons {x v xs vs} : RF G x v -> RL G xs vs -> RL G (x :: xs) (v :: vs)
inductive RFs (G : Gh) : Addr -> List (Nat × FV) -> List DictEntry -> Prop
 | nil {C} : RFs G C [] []
 | cons {C k x hsh t v fs es} : k < c.N -> tE c.K C (c.nm k) = true -> RF G x v -> RFs G C fs es -> RFs G C ((k, x) :: fs) (⟨hsh, .str (c.nm k) t, v⟩ :: es)
inductive RI (G : Gh) : List (Int × FV) -> List (Int × Value) -> Prop
 | nil : RI G [] []
 | cons {i x v es kvs} : RF G x v -> RI G es kvs -> RI G ((i, x) :: es) ((i, v) :: kvs)
inductive RS (G : Gh) : List (List Nat × FV) -> List (Str × Value) -> Prop
 | nil : RS G [] []
 | cons {cs x v es kvs} : RF G x v -> RS G es kvs -> RS G ((cs, x) :: es) ((aC cs, v) :: kvs)
end
def d7 (G G' : Gh) : Prop := ∀ a o, G a = some o -> G' a = some o
variable {c}
theorem RF.mono {G G' : Gh} (k : d7 G G') {x : FV} {v : Value} (h : RF c G x v) : RF c G' x v := RF.rec (motive_1 := λ x v _ => RF c G' x v) (motive_2 := λ xs vs _ => RL c G' xs vs) (motive_3 := λ C fs es _ => RFs c G' C fs es) (motive_4 := λ es kvs _ => RI c G' es kvs) (motive_5 := λ es kvs _ => RS c G' es kvs) .non .bool .int .str (λ a b l _ r => .tup (k _ _ a) b l r) (λ a b l _ r => .lst (k _ _ a) b l r) (λ a l => .rng (k _ _ a) l) (λ a b _ r => .node (k _ _ a) (k _ _ b) r) (λ a b _ e r => .idct (k _ _ a) b r e) (λ a b _ e r => .sdct (k _ _ a) b r e) (λ a b => .iset (k _ _ a) b) (λ _ r => .dom r) .nil (λ _ _ a r => .cons a r) .nil (λ h h' _ _ a r => .cons h h' a r) .nil (λ _ _ a r => .cons a r) .nil (λ _ _ a r => .cons a r) h
theorem RL.mono {G G' : Gh} (k : d7 G G') {x : List FV} {v : List Value} (h : RL c G x v) : RL c G' x v := RL.rec (motive_1 := λ x v _ => RF c G' x v) (motive_2 := λ xs vs _ => RL c G' xs vs) (motive_3 := λ C fs es _ => RFs c G' C fs es) (motive_4 := λ es kvs _ => RI c G' es kvs) (motive_5 := λ es kvs _ => RS c G' es kvs) .non .bool .int .str (λ a b l _ r => .tup (k _ _ a) b l r) (λ a b l _ r => .lst (k _ _ a) b l r) (λ a l => .rng (k _ _ a) l) (λ a b _ r => .node (k _ _ a) (k _ _ b) r) (λ a b _ e r => .idct (k _ _ a) b r e) (λ a b _ e r => .sdct (k _ _ a) b r e) (λ a b => .iset (k _ _ a) b) (λ _ r => .dom r) .nil (λ _ _ a r => .cons a r) .nil (λ h h' _ _ a r => .cons h h' a r) .nil (λ _ _ a r => .cons a r) .nil (λ _ _ a r => .cons a r) h
theorem RFs.mono {G G' : Gh} (k : d7 G G') {C : Addr} {x : List (Nat × FV)} {v : List DictEntry} (h : RFs c G C x v) : RFs c G' C x v := RFs.rec (motive_1 := λ x v _ => RF c G' x v) (motive_2 := λ xs vs _ => RL c G' xs vs) (motive_3 := λ C fs es _ => RFs c G' C fs es) (motive_4 := λ es kvs _ => RI c G' es kvs) (motive_5 := λ es kvs _ => RS c G' es kvs) .non .bool .int .str (λ a b l _ r => .tup (k _ _ a) b l r) (λ a b l _ r => .lst (k _ _ a) b l r) (λ a l => .rng (k _ _ a) l) (λ a b _ r => .node (k _ _ a) (k _ _ b) r) (λ a b _ e r => .idct (k _ _ a) b r e) (λ a b _ e r => .sdct (k _ _ a) b r e) (λ a b => .iset (k _ _ a) b) (λ _ r => .dom r) .nil (λ _ _ a r => .cons a r) .nil (λ h h' _ _ a r => .cons h h' a r) .nil (λ _ _ a r => .cons a r) .nil (λ _ _ a r => .cons a r) h
theorem RI.mono {G G' : Gh} (k : d7 G G') {x : List (Int × FV)} {v : List (Int × Value)} (h : RI c G x v) : RI c G' x v := RI.rec (motive_1 := λ x v _ => RF c G' x v) (motive_2 := λ xs vs _ => RL c G' xs vs) (motive_3 := λ C fs es _ => RFs c G' C fs es) (motive_4 := λ es kvs _ => RI c G' es kvs) (motive_5 := λ es kvs _ => RS c G' es kvs) .non .bool .int .str (λ a b l _ r => .tup (k _ _ a) b l r) (λ a b l _ r => .lst (k _ _ a) b l r) (λ a l => .rng (k _ _ a) l) (λ a b _ r => .node (k _ _ a) (k _ _ b) r) (λ a b _ e r => .idct (k _ _ a) b r e) (λ a b _ e r => .sdct (k _ _ a) b r e) (λ a b => .iset (k _ _ a) b) (λ _ r => .dom r) .nil (λ _ _ a r => .cons a r) .nil (λ h h' _ _ a r => .cons h h' a r) .nil (λ _ _ a r => .cons a r) .nil (λ _ _ a r => .cons a r) h
end
structure Wd where
 G : Gh
 ρ : List (Nat × Nat)
 H : Hp
 h : Heap
section
variable (c : Cx)
inductive RP (G : Gh) (ρ : List (Nat × Nat)) : PV -> Value -> Prop
 | f {x v} : RF c G x v -> RP G ρ (.f x) v
 | ref {i p} : nth ρ i = some p -> RP G ρ (.ref i) (.ref p.1)
inductive RPs (G : Gh) (ρ : List (Nat × Nat)) : List PV -> List Value -> Prop
 | nil : RPs G ρ [] []
 | cons {x v xs vs} : RP c G ρ x v -> RPs G ρ xs vs -> RPs G ρ (x :: xs) (v :: vs)
inductive RPf (G : Gh) (ρ : List (Nat × Nat)) : Addr -> List (Nat × PV) -> List DictEntry -> Prop
 | nil {C} : RPf G ρ C [] []
 | cons {C k x hsh t v fs es} : k < c.N -> tE c.K C (c.nm k) = true -> RP c G ρ x v -> RPf G ρ C fs es -> RPf G ρ C ((k, x) :: fs) (⟨hsh, .str (c.nm k) t, v⟩ :: es)
inductive OkAO (G : Gh) (ρ : List (Nat × Nat)) (h : Heap) : AO -> Nat × Nat -> Prop
 | inst {C fs es n p} : h.get? p.1 = some (instObj C p.2) -> h.get? p.2 = some (dictOf es n) -> RPf c G ρ C fs es -> es.length <= 200 -> OkAO G ρ h (.inst C fs) p
 | flist {o xs vs p} : h.get? p.1 = some o -> KI "list" o vs -> xs.length <= 1500 -> RL c G xs vs -> OkAO G ρ h (.flist xs) p
 | rlist {o xs vs p} : h.get? p.1 = some o -> KI "list" o vs -> xs.length <= 1500 -> RPs c G ρ xs vs -> OkAO G ρ h (.rlist xs) p
 | idct {o es kvs p} : h.get? p.1 = some o -> fS (intKind c.prog c.w) o kvs -> kvs.length <= 500 -> RI c G es kvs -> p.1 ≠ sysModules -> OkAO G ρ h (.idct es) p
 | src {p a b t u} : h.IsList p.1 #[.int a t, .int b u] -> 0 <= a -> 0 <= b -> b < 2147483647 -> OkAO G ρ h .src p
 | fz {v p} : RF c G v (.ref p.1) -> OkAO G ρ h (.fz v) p
noncomputable def fpA : AO -> Nat × Nat -> List Nat
 | .inst _ _, p => [p.1, p.2]
 | .fz _, _ => []
 | _, p => [p.1]
def Wd.fp (W : Wd) (b : Nat) : Prop := ∃ i ao p, nth W.H i = some ao /\ nth W.ρ i = some p /\ b ∈ fpA ao p
def Wd.dom (W : Wd) (b : Nat) : Prop := W.fp b \/ (W.G b).isSome = true
structure Inv (W : Wd) : Prop where
 len : W.ρ.length = W.H.length
 sub : ∀ a o, W.G a = some o -> W.h.get? a = some o
 ok : ∀ i ao p, nth W.H i = some ao -> nth W.ρ i = some p -> OkAO c W.G W.ρ W.h ao p
 fresh : ∀ b, W.fp b -> W.G b = none
 apart : ∀ i j ao ao' p p', i ≠ j -> nth W.H i = some ao -> nth W.H j = some ao' -> nth W.ρ i = some p -> nth W.ρ j = some p' -> ∀ b ∈ fpA ao p, b ∉ fpA ao' p'
 two : ∀ i C fs p, nth W.H i = some (.inst C fs) -> nth W.ρ i = some p -> p.1 ≠ p.2
 base : ∀ a o, c.h₀.get? a = some o -> W.G a = some o
structure Ext (X : Nat -> Prop) (k : Nat) (W W' : Wd) : Prop where
 G : d7 W.G W'.G
 rho : ∀ i p, i < k -> nth W.ρ i = some p -> nth W'.ρ i = some p
 keep : ∀ b o, W.h.get? b = some o -> ¬ W.fp b -> ¬ X b -> W'.h.get? b = some o
 dom : ∀ b, W'.dom b -> W.dom b \/ W.h.get? b = none
 live : ∀ b o, W.h.get? b = some o -> ∃ o', W'.h.get? b = some o'
structure BaseOk : Prop where
 inK : c.K.In c.h₀
 g : c.h₀.Ns mainGlobals c.mg
 b : c.h₀.Ns builtinsNs c.mb
 blt : ∀ x : Str, x ≠ "__name__" -> c.mb x = bootBuiltins x
 nolimit : c.h₀.NoLimit
 nodot : ∀ i, i < c.N -> c.nm i ≠ (".0" : Str)
 sysm : ∃ o, c.h₀.get? sysModules = some o
 inj : ∀ i j, i < c.N -> j < c.N -> c.nm i = c.nm j -> i = j
end
end
section
open PySem PySem.W PyProof.Rows
set_option backward.match.sparseCases false
structure Tc where
 nm : Nat -> Str
 N : Nat
 fnN : Nat -> Nat -> Bool
 clN : Nat -> Nat -> Bool
 tyN : Nat -> Nat -> Bool
 blN : String -> Bool
abbrev Kd := Str -> Option NameKind
def J5 (k : Option NameKind) : Bool := k == some .local || k == some .cell || k == some .free
def BI (k : Option NameKind) : Bool := k == some .globalImplicit
theorem ff {p : Prop} (h : false = true) : p := (Bool.noConfusion h : p)
theorem bl {a b : Bool} (h : (a && b) = true) : a = true := by cases a with
 | true => rfl
 | false => exact h
theorem br {a b : Bool} (h : (a && b) = true) : b = true := by cases a with
 | true => exact h
 | false => exact ff h
theorem zf1 {A : Sort _} {P : A -> Prop} : ∀ a, false = true -> P a := λ _ h => ff h
theorem zf2 {A B : Sort _} {P : A -> B -> Prop} : ∀ a b, false = true -> P a b := λ _ _ h => ff h
theorem zf3 {A B C : Sort _} {P : A -> B -> C -> Prop} : ∀ a b c, false = true -> P a b c := λ _ _ _ h => ff h
theorem zf4 {A B C D : Sort _} {P : A -> B -> C -> D -> Prop} : ∀ a b c d, false = true -> P a b c d := λ _ _ _ _ h => ff h
theorem zf5 {A B C D E : Sort _} {P : A -> B -> C -> D -> E -> Prop} : ∀ a b c d e, false = true -> P a b c d e := λ _ _ _ _ _ h => ff h
noncomputable def exB (bop : BoolOp -> List Expr -> Bool := λ _ _ => false) (bin : Expr -> Operator -> Expr -> Bool := λ _ _ _ => false) (un : UnaryOp -> Expr -> Bool := λ _ _ => false) (ite : Expr -> Expr -> Expr -> Bool := λ _ _ _ => false)
  (dct : List (Option Expr) -> List Expr -> Bool := λ _ _ => false) (lc : Expr -> List Comprehension -> Scope -> Bool := λ _ _ _ => false) (cmp : Expr -> List CmpOp -> List Expr -> Bool := λ _ _ _ => false) (cal : Expr -> List Expr -> List Keyword -> Pos -> Bool := λ _ _ _ _ => false)
  (cst : Const -> Bool := λ _ => false) (att : Expr -> Str -> Pos -> Bool := λ _ _ _ => false) (sub : Expr -> Expr -> Bool := λ _ _ => false) (nam : Str -> Bool := λ _ => false) (lst : List Expr -> Bool := λ _ => false) (tup : List Expr -> Bool := λ _ => false) (e : Expr) : Bool :=
 Expr.casesOn (motive_1 := λ _ => Bool) e (λ a b _ => bop a b) (λ _ _ _ => false) (λ a b c _ => bin a b c) (λ a b _ => un a b) (λ _ _ _ _ => false) (λ a b c _ => ite a b c) (λ a b _ => dct a b) (λ _ _ _ => false) (λ a b c _ => lc a b c) (λ _ _ _ _ => false) (λ _ _ _ _ _ => false) (λ _ _ _ _ => false)
  (λ _ _ => false) (λ _ _ => false) (λ _ _ => false) (λ a b c _ => cmp a b c) (λ a b c d => cal a b c d) (λ _ _ _ _ => false) (λ _ _ => false) (λ a _ _ => cst a) (λ a b c => att a b c) (λ a b _ => sub a b) (λ _ _ => false) (λ a _ => nam a) (λ a _ => lst a) (λ a _ _ => tup a) (λ _ _ _ _ => false)
theorem aN {P : Expr -> Prop} {bop : BoolOp -> List Expr -> Bool} {bin : Expr -> Operator -> Expr -> Bool} {un : UnaryOp -> Expr -> Bool} {ite : Expr -> Expr -> Expr -> Bool} {dct : List (Option Expr) -> List Expr -> Bool} {lc : Expr -> List Comprehension -> Scope -> Bool} {cmp : Expr -> List CmpOp -> List Expr -> Bool}
  {cal : Expr -> List Expr -> List Keyword -> Pos -> Bool} {cst : Const -> Bool} {att : Expr -> Str -> Pos -> Bool} {sub : Expr -> Expr -> Bool} {nam : Str -> Bool} {lst tup : List Expr -> Bool} {e : Expr} (h : exB bop bin un ite dct lc cmp cal cst att sub nam lst tup e = true)
  (k1 : ∀ a b p, bop a b = true -> P (.BoolOp a b p)) (k2 : ∀ a b c p, bin a b c = true -> P (.BinOp a b c p)) (k3 : ∀ a b p, un a b = true -> P (.UnaryOp a b p)) (k4 : ∀ a b c p, ite a b c = true -> P (.IfExp a b c p)) (k5 : ∀ a b p, dct a b = true -> P (.Dict a b p))
  (k6 : ∀ a b c p, lc a b c = true -> P (.ListComp a b c p)) (k7 : ∀ a b c p, cmp a b c = true -> P (.Compare a b c p)) (k8 : ∀ a b c p, cal a b c p = true -> P (.Call a b c p)) (k9 : ∀ a k p, cst a = true -> P (.Constant a k p)) (k10 : ∀ a b p, att a b p = true -> P (.Attribute a b p))
  (k11 : ∀ a b p, sub a b = true -> P (.Subscript a b p)) (k12 : ∀ a p, nam a = true -> P (.Name a p)) (k13 : ∀ a p, lst a = true -> P (.List a p)) (k14 : ∀ a k p, tup a = true -> P (.Tuple a k p)) : P e := by
 cases e with
 | BoolOp a b p => exact k1 _ _ _ h
 | BinOp a b c p => exact k2 _ _ _ _ h
 | UnaryOp a b p => exact k3 _ _ _ h
 | IfExp a b c p => exact k4 _ _ _ _ h
 | Dict a b p => exact k5 _ _ _ h
 | ListComp a b c p => exact k6 _ _ _ _ h
 | Compare a b c p => exact k7 _ _ _ _ h
 | Call a b c p => exact k8 _ _ _ _ h
 | Constant a k p => exact k9 _ _ _ h
 | Attribute a b p => exact k10 _ _ _ h
 | Subscript a b p => exact k11 _ _ _ h
 | Name a p => exact k12 _ _ h
 | List a p => exact k13 _ _ h
 | Tuple a k p => exact k14 _ _ _ h
 | _ => exact ff h
def jN {α : Type} (l : List α) : Bool := List.casesOn (motive := λ _ => Bool) l true λ _ _ => false
def mE {α : Type} (l : List α) (g : α -> Bool) : Bool := List.casesOn (motive := λ _ => Bool) l false λ a t => jN t && g a
def z9 {α : Type} (l : List α) (g : α -> α -> Bool) : Bool := List.casesOn (motive := λ _ => Bool) l false λ a t => mE t (g a)
theorem eQ {α : Type} {P : List α -> Prop} {l : List α} (h : jN l = true) (k : P []) : P l := by cases l with
 | nil => exact k
 | cons _ _ => exact ff h
theorem iV {α : Type} {P : List α -> Prop} {l : List α} {g : α -> Bool} (h : mE l g = true) (k : ∀ a, g a = true -> P [a]) : P l := by cases l with
 | nil => exact ff h
 | cons a t => exact eQ (P := λ t => P (a :: t)) (bl h) (k a (br h))
theorem uA {α : Type} {P : List α -> Prop} {l : List α} {g : α -> α -> Bool} (h : z9 l g = true) (k : ∀ a b, g a b = true -> P [a, b]) : P l := by cases l with
 | nil => exact ff h
 | cons a t => exact iV (P := λ t => P (a :: t)) h (k a)
def jO (e : Expr) (g : Str -> Bool) : Bool := exB (nam := g) (e := e)
theorem dW {P : Expr -> Prop} {e : Expr} {g : Str -> Bool} (h : jO e g = true) (k : ∀ a p, g a = true -> P (.Name a p)) : P e := aN h zf3 zf4 zf3 zf4 zf3 zf4 zf4 zf4 zf3 zf3 zf3 k zf2 zf3
def B9 (e : Expr) (g : Const -> Bool) : Bool := exB (cst := g) (e := e)
theorem uB {P : Expr -> Prop} {e : Expr} {g : Const -> Bool} (h : B9 e g = true) (k : ∀ a k p, g a = true -> P (.Constant a k p)) : P e := aN h zf3 zf4 zf3 zf4 zf3 zf4 zf4 zf4 k zf3 zf3 zf2 zf2 zf3
def CE (e : Expr) (g : Expr -> Str -> Pos -> Bool) : Bool := exB (att := g) (e := e)
theorem uD {P : Expr -> Prop} {e : Expr} {g : Expr -> Str -> Pos -> Bool} (h : CE e g = true) (k : ∀ a b p, g a b p = true -> P (.Attribute a b p)) : P e := aN h zf3 zf4 zf3 zf4 zf3 zf4 zf4 zf4 zf3 k zf3 zf2 zf2 zf3
def CC (e : Expr) (g : Expr -> List Expr -> List Keyword -> Pos -> Bool) : Bool := exB (cal := g) (e := e)
theorem uC {P : Expr -> Prop} {e : Expr} {g : Expr -> List Expr -> List Keyword -> Pos -> Bool} (h : CC e g = true) (k : ∀ a b c p, g a b c p = true -> P (.Call a b c p)) : P e := aN h zf3 zf4 zf3 zf4 zf3 zf4 zf4 k zf3 zf3 zf3 zf2 zf2 zf3
def L5 (e : Expr) (g : Expr -> List CmpOp -> List Expr -> Bool) : Bool := exB (cmp := g) (e := e)
theorem KS {P : Expr -> Prop} {e : Expr} {g : Expr -> List CmpOp -> List Expr -> Bool} (h : L5 e g = true) (k : ∀ a b c p, g a b c = true -> P (.Compare a b c p)) : P e := aN h zf3 zf4 zf3 zf4 zf3 zf4 k zf4 zf3 zf3 zf3 zf2 zf2 zf3
def QG (e : Expr) (g : BoolOp -> List Expr -> Bool) : Bool := exB (bop := g) (e := e)
theorem KU {P : Expr -> Prop} {e : Expr} {g : BoolOp -> List Expr -> Bool} (h : QG e g = true) (k : ∀ a b p, g a b = true -> P (.BoolOp a b p)) : P e := aN h k zf4 zf3 zf4 zf3 zf4 zf4 zf4 zf3 zf3 zf3 zf2 zf2 zf3
def vUn (e : Expr) (g : UnaryOp -> Expr -> Bool) : Bool := exB (un := g) (e := e)
theorem B7 {P : Expr -> Prop} {e : Expr} {g : UnaryOp -> Expr -> Bool} (h : vUn e g = true) (k : ∀ a b p, g a b = true -> P (.UnaryOp a b p)) : P e := aN h zf3 zf4 k zf4 zf3 zf4 zf4 zf4 zf3 zf3 zf3 zf2 zf2 zf3
def QF (e : Expr) (g : Expr -> Expr -> Expr -> Bool) : Bool := exB (ite := g) (e := e)
theorem KR {P : Expr -> Prop} {e : Expr} {g : Expr -> Expr -> Expr -> Bool} (h : QF e g = true) (k : ∀ a b c p, g a b c = true -> P (.IfExp a b c p)) : P e := aN h zf3 zf4 zf3 k zf3 zf4 zf4 zf4 zf3 zf3 zf3 zf2 zf2 zf3
def L6 (e : Expr) (g : Expr -> Operator -> Expr -> Bool) : Bool := exB (bin := g) (e := e)
theorem CD {P : Expr -> Prop} {e : Expr} {g : Expr -> Operator -> Expr -> Bool} (h : L6 e g = true) (k : ∀ a b c p, g a b c = true -> P (.BinOp a b c p)) : P e := aN h zf3 k zf3 zf4 zf3 zf4 zf4 zf4 zf3 zf3 zf3 zf2 zf2 zf3
def L1 (e : Expr) (g : List Expr -> Bool) : Bool := exB (lst := g) (e := e)
theorem B8 {P : Expr -> Prop} {e : Expr} {g : List Expr -> Bool} (h : L1 e g = true) (k : ∀ a p, g a = true -> P (.List a p)) : P e := aN h zf3 zf4 zf3 zf4 zf3 zf4 zf4 zf4 zf3 zf3 zf3 zf2 k zf3
def sE (e : Expr) (g : List Expr -> Bool) : Bool := exB (tup := g) (e := e)
theorem jM {P : Expr -> Prop} {e : Expr} {g : List Expr -> Bool} (h : sE e g = true) (k : ∀ a k p, g a = true -> P (.Tuple a k p)) : P e := aN h zf3 zf4 zf3 zf4 zf3 zf4 zf4 zf4 zf3 zf3 zf3 zf2 zf2 k
def L3 (e : Expr) (g : List (Option Expr) -> List Expr -> Bool) : Bool := exB (dct := g) (e := e)
theorem yT {P : Expr -> Prop} {e : Expr} {g : List (Option Expr) -> List Expr -> Bool} (h : L3 e g = true) (k : ∀ a b p, g a b = true -> P (.Dict a b p)) : P e := aN h zf3 zf4 zf3 zf4 k zf4 zf4 zf4 zf3 zf3 zf3 zf2 zf2 zf3
def AA (e : Expr) (g : Expr -> Expr -> Bool) : Bool := exB (sub := g) (e := e)
theorem p8 {P : Expr -> Prop} {e : Expr} {g : Expr -> Expr -> Bool} (h : AA e g = true) (k : ∀ a b p, g a b = true -> P (.Subscript a b p)) : P e := aN h zf3 zf4 zf3 zf4 zf3 zf4 zf4 zf4 zf3 zf3 k zf2 zf2 zf3
def QD (e : Expr) (g : Expr -> List Comprehension -> Scope -> Bool) : Bool := exB (lc := g) (e := e)
theorem KQ {P : Expr -> Prop} {e : Expr} {g : Expr -> List Comprehension -> Scope -> Bool} (h : QD e g = true) (k : ∀ a b c p, g a b c = true -> P (.ListComp a b c p)) : P e := aN h zf3 zf4 zf3 zf4 zf3 k zf4 zf4 zf3 zf3 zf3 zf2 zf2 zf3
def fK (e : Expr) (g : Expr -> Expr -> Bool) : Bool := CC e λ f es ks _ => jN ks && mE es (g f)
theorem mH {P : Expr -> Prop} {e : Expr} {g : Expr -> Expr -> Bool} (h : fK e g = true) (k : ∀ f y p, g f y = true -> P (.Call f [y] [] p)) : P e :=
 uC h λ f es ks p h => eQ (P := λ ks => P (.Call f es ks p)) (bl h) (iV (P := λ es => P (.Call f es [] p)) (br h) λ y hy => k f y p hy)
def qA (e : Expr) (g : Expr -> Expr -> Expr -> Bool) : Bool := CC e λ f es ks _ => jN ks && z9 es (g f)
theorem mG {P : Expr -> Prop} {e : Expr} {g : Expr -> Expr -> Expr -> Bool} (h : qA e g = true) (k : ∀ f y z p, g f y z = true -> P (.Call f [y, z] [] p)) : P e :=
 uC h λ f es ks p h => eQ (P := λ ks => P (.Call f es ks p)) (bl h) (uA (P := λ es => P (.Call f es [] p)) (br h) λ y z hy => k f y z p hy)
def CB (e : Expr) (g : Str -> List Expr -> Bool) : Bool := CC e λ f es ks _ => jN ks && jO f λ id => g id es
theorem CA {P : Expr -> Prop} {e : Expr} {g : Str -> List Expr -> Bool} (h : CB e g = true) (k : ∀ id p es q, g id es = true -> P (.Call (.Name id p) es [] q)) : P e :=
 uC h λ f es ks q h => eQ (P := λ ks => P (.Call f es ks q)) (bl h) (dW (P := λ f => P (.Call f es [] q)) (br h) λ id p hy => k id p es q hy)
def p9 (e : Expr) (g : Expr -> Str -> List Expr -> Bool) : Bool := CC e λ f es ks q => jN ks && CE f λ v b p => p.endLine == q.line && g v b es
theorem mF {P : Expr -> Prop} {e : Expr} {g : Expr -> Str -> List Expr -> Bool} (h : p9 e g = true) (k : ∀ v b p es q, (p.endLine == q.line) = true -> g v b es = true -> P (.Call (.Attribute v b p) es [] q)) : P e :=
 uC h λ f es ks q h => eQ (P := λ ks => P (.Call f es ks q)) (bl h) (uD (P := λ f => P (.Call f es [] q)) (br h) λ v b p hy => k v b p es q (bl hy) (br hy))
def yU (e : Expr) (g : Expr -> CmpOp -> Expr -> Bool) : Bool := L5 e λ l ops rs => mE ops λ op => mE rs λ r => g l op r
theorem sG {P : Expr -> Prop} {e : Expr} {g : Expr -> CmpOp -> Expr -> Bool} (h : yU e g = true) (k : ∀ l op r p, g l op r = true -> P (.Compare l [op] [r] p)) : P e :=
 KS h λ l ops rs p h => iV (P := λ ops => P (.Compare l ops rs p)) h λ op h => iV (P := λ rs => P (.Compare l [op] rs p)) h λ r h => k l op r p h
def KT (e : Expr) (g : Expr -> CmpOp -> CmpOp -> Expr -> Expr -> Bool) : Bool := L5 e λ l ops rs => z9 ops λ op op' => z9 rs λ r r' => g l op op' r r'
theorem L4 {P : Expr -> Prop} {e : Expr} {g : Expr -> CmpOp -> CmpOp -> Expr -> Expr -> Bool} (h : KT e g = true) (k : ∀ l op op' r r' p, g l op op' r r' = true -> P (.Compare l [op, op'] [r, r'] p)) : P e :=
 KS h λ l ops rs p h => uA (P := λ ops => P (.Compare l ops rs p)) h λ op op' h => uA (P := λ rs => P (.Compare l [op, op'] rs p)) h λ r r' h => k l op op' r r' p h
noncomputable def vLc (e : Expr) (g : Expr -> Str -> Expr -> List Expr -> Scope -> Bool) : Bool := QD e λ elt gs scope => mE gs λ x => decide (x.is_async = 0) && jO x.target λ id => g elt id x.iter x.ifs scope
theorem QE {P : Expr -> Prop} {e : Expr} {g : Expr -> Str -> Expr -> List Expr -> Scope -> Bool} (h : vLc e g = true) (k : ∀ elt id p it ifs scope q, g elt id it ifs scope = true -> P (.ListComp elt [⟨.Name id p, it, ifs, 0⟩] scope q)) : P e :=
 KQ h λ elt gs scope q h => iV (P := λ gs => P (.ListComp elt gs scope q)) h λ x h => by
  obtain ⟨tg, it, ifs, a⟩ := x
  have e := of_decide_eq_true (bl h)
  subst e
  exact dW (P := λ tg => P (.ListComp elt [⟨tg, it, ifs, 0⟩] scope q)) (br h) λ id p h => k elt id p it ifs scope q h
noncomputable def stB (ret : Option Expr -> Bool := λ _ => false) (asg : List Expr -> Expr -> Bool := λ _ _ => false) (for_ : Expr -> Expr -> List Stmt -> List Stmt -> Bool := λ _ _ _ _ => false) (whl : Expr -> List Stmt -> List Stmt -> Bool := λ _ _ _ => false) (ite : Expr -> List Stmt -> List Stmt -> Bool := λ _ _ _ => false) (exp : Expr -> Bool := λ _ => false) (brk : Bool := false) (cont : Bool := false) (s : Stmt) : Bool :=
 Stmt.casesOn (motive_2 := λ _ => Bool) s (λ _ _ _ _ _ _ _ _ _ _ => false) (λ _ _ _ _ _ _ _ _ _ _ => false) (λ _ _ _ _ _ _ _ _ _ _ _ => false) (λ a _ => ret a) (λ _ _ => false) (λ a b _ => asg a b) (λ _ _ _ _ _ _ _ => false) (λ _ _ _ _ => false) (λ _ _ _ _ _ => false) (λ a b c d _ => for_ a b c d) (λ _ _ _ _ _ => false)
  (λ a b c _ => whl a b c) (λ a b c _ => ite a b c) (λ _ _ _ => false) (λ _ _ _ => false) (λ _ _ _ => false) (λ _ _ _ => false) (λ _ _ _ _ _ => false) (λ _ _ _ _ _ => false) (λ _ _ _ => false) (λ _ _ => false) (λ _ _ _ _ => false) (λ _ _ => false) (λ _ _ => false) (λ a _ => exp a) (λ _ => false) (λ _ => brk) (λ _ => cont)
theorem eS {P : Stmt -> Prop} {ret : Option Expr -> Bool} {asg : List Expr -> Expr -> Bool} {for_ : Expr -> Expr -> List Stmt -> List Stmt -> Bool} {whl : Expr -> List Stmt -> List Stmt -> Bool} {ite : Expr -> List Stmt -> List Stmt -> Bool} {exp : Expr -> Bool} {brk : Bool} {cont : Bool} {s : Stmt} (h : stB ret asg for_ whl ite exp brk cont s = true)
  (k1 : ∀ a p, ret a = true -> P (.Return a p)) (k2 : ∀ a b p, asg a b = true -> P (.Assign a b p)) (k3 : ∀ a b c d p, for_ a b c d = true -> P (.For a b c d p)) (k4 : ∀ a b c p, whl a b c = true -> P (.While a b c p)) (k5 : ∀ a b c p, ite a b c = true -> P (.If a b c p)) (k6 : ∀ a p, exp a = true -> P (.Expr a p)) (k7 : ∀ p, brk = true -> P (.Break p)) (k8 : ∀ p, cont = true -> P (.Continue p)) : P s := by
 cases s with
 | Return a p => exact k1 _ _ h
 | Assign a b p => exact k2 _ _ _ h
 | For a b c d p => exact k3 _ _ _ _ _ h
 | While a b c p => exact k4 _ _ _ _ h
 | If a b c p => exact k5 _ _ _ _ h
 | Expr a p => exact k6 _ _ h
 | Break p => exact k7 _ h
 | Continue p => exact k8 _ h
 | _ => exact ff h
def HD (s : Stmt) (g : Option Expr -> Bool) : Bool := stB (ret := g) (s := s)
theorem C4 {P : Stmt -> Prop} {s : Stmt} {g : Option Expr -> Bool} (h : HD s g = true) (k : ∀ a p, g a = true -> P (.Return a p)) : P s := eS h k zf3 zf5 zf4 zf4 zf2 zf1 zf1
def RA (s : Stmt) (g : List Expr -> Expr -> Bool) : Bool := stB (asg := g) (s := s)
theorem Q9 {P : Stmt -> Prop} {s : Stmt} {g : List Expr -> Expr -> Bool} (h : RA s g = true) (k : ∀ a b p, g a b = true -> P (.Assign a b p)) : P s := eS h zf2 k zf5 zf4 zf4 zf2 zf1 zf1
def K8 (s : Stmt) (g : Expr -> Expr -> List Stmt -> List Stmt -> Bool) : Bool := stB (for_ := g) (s := s)
theorem NO {P : Stmt -> Prop} {s : Stmt} {g : Expr -> Expr -> List Stmt -> List Stmt -> Bool} (h : K8 s g = true) (k : ∀ a b c d p, g a b c d = true -> P (.For a b c d p)) : P s := eS h zf2 zf3 k zf4 zf4 zf2 zf1 zf1
def K7 (s : Stmt) (g : Expr -> List Stmt -> List Stmt -> Bool) : Bool := stB (whl := g) (s := s)
theorem NM {P : Stmt -> Prop} {s : Stmt} {g : Expr -> List Stmt -> List Stmt -> Bool} (h : K7 s g = true) (k : ∀ a b c p, g a b c = true -> P (.While a b c p)) : P s := eS h zf2 zf3 zf5 k zf4 zf2 zf1 zf1
def sIf (s : Stmt) (g : Expr -> List Stmt -> List Stmt -> Bool) : Bool := stB (ite := g) (s := s)
theorem NN {P : Stmt -> Prop} {s : Stmt} {g : Expr -> List Stmt -> List Stmt -> Bool} (h : sIf s g = true) (k : ∀ a b c p, g a b c = true -> P (.If a b c p)) : P s := eS h zf2 zf3 zf5 zf4 k zf2 zf1 zf1
def Q6 (s : Stmt) (g : Expr -> Bool) : Bool := stB (exp := g) (s := s)
theorem Q5 {P : Stmt -> Prop} {s : Stmt} {g : Expr -> Bool} (h : Q6 s g = true) (k : ∀ a p, g a = true -> P (.Expr a p)) : P s := eS h zf2 zf3 zf5 zf4 zf4 k zf1 zf1
def Q8 (s : Stmt) : Bool := stB (brk := true) (s := s)
theorem Q7 {P : Stmt -> Prop} {s : Stmt} (h : Q8 s = true) (k : ∀ p, P (.Break p)) : P s := eS h zf2 zf3 zf5 zf4 zf4 zf2 (λ p _ => k p) zf1
def LA (s : Stmt) : Bool := stB (cont := true) (s := s)
theorem NQ {P : Stmt -> Prop} {s : Stmt} (h : LA s = true) (k : ∀ p, P (.Continue p)) : P s := eS h zf2 zf3 zf5 zf4 zf4 zf2 zf1 (λ p _ => k p)
def yS {α : Type} (o : Option α) (g : α -> Bool) : Bool := Option.casesOn (motive := λ _ => Bool) o false g
theorem wG {α : Type} {P : Option α -> Prop} {o : Option α} {g : α -> Bool} (h : yS o g = true) (k : ∀ a, g a = true -> P (some a)) : P o := by cases o with
 | none => exact ff h
 | some a => exact k a h
def KP {α : Type} (o : Option α) : Bool := Option.casesOn (motive := λ _ => Bool) o true λ _ => false
theorem L0 {α : Type} {P : Option α -> Prop} {o : Option α} (h : KP o = true) (k : P none) : P o := by cases o with
 | none => exact k
 | some a => exact ff h
def pM (s : Stmt) (g : Expr -> Expr -> Bool) : Bool := RA s λ ts v => mE ts λ t => g t v
theorem jU {P : Stmt -> Prop} {s : Stmt} {g : Expr -> Expr -> Bool} (h : pM s g = true) (k : ∀ t v p, g t v = true -> P (.Assign [t] v p)) : P s :=
 Q9 h λ ts v p h => iV (P := λ ts => P (.Assign ts v p)) h λ t h => k t v p h
def NP (s : Stmt) (g : Expr -> Expr -> List Stmt -> Bool) : Bool := K8 s λ t it b o => jN o && g t it b
theorem K9 {P : Stmt -> Prop} {s : Stmt} {g : Expr -> Expr -> List Stmt -> Bool} (h : NP s g = true) (k : ∀ t it b p, g t it b = true -> P (.For t it b [] p)) : P s :=
 NO h λ t it b o p h => eQ (P := λ o => P (.For t it b o p)) (bl h) (k t it b p (br h))
def Q2 (s : Stmt) (g : Expr -> List Stmt -> Bool) : Bool := K7 s λ t b o => jN o && g t b
theorem Q1 {P : Stmt -> Prop} {s : Stmt} {g : Expr -> List Stmt -> Bool} (h : Q2 s g = true) (k : ∀ t b p, g t b = true -> P (.While t b [] p)) : P s :=
 NM h λ t b o p h => eQ (P := λ o => P (.While t b o p)) (bl h) (k t b p (br h))
def gK (tc : Tc) (kd : Kd) (s : String) (e : Expr) : Bool := jO e λ id => id == Str.ofString s && BI (kd id) && tc.blN s
noncomputable def BL (v : FV) (k : Const) : Bool := match v, k with
 | .non, .none => true
 | .bool b, .bool b' => b == b'
 | .int i, .int j => decide (i = j) && mP i
 | .str cs, .str s => s == aC cs && lenLe cs 1000 && okS cs
 | _, _ => false
def E8 (tc : Tc) (kd : Kd) (p : Nat × Nat) (e : Expr) : Bool := jO e λ id => id == tc.nm p.1 && BI (kd id) && tc.tyN p.1 p.2 && id != ("__debug__" : Str)
def OX (k : Const) (cs : List Nat) : Bool := match k with
 | .str s => s == aC cs && okS cs
 | _ => false
def all2 {α β : Type} (f : α -> β -> Bool) (l : List α) : List β -> Bool := List.rec (λ m => List.rec true (λ _ _ _ => false) m) (λ a _ ih m => List.rec false (λ b t _ => f a b && ih t) m) l
def E7 (tc : Tc) (kd : Kd) : List (Nat × Nat) -> List Expr -> Bool := all2 (E8 tc kd)
noncomputable def LP (rows : List (List Nat × List Nat)) (os : List (Option Expr)) (vs : List Expr) : Bool := all2 (λ p o => yS o λ e => B9 e λ k => OX k p.1) rows os && all2 (λ p e => B9 e λ k => OX k p.2) rows vs
noncomputable def exA (bop : Bool := true) (un : Bool := true) (ite : Bool := true) (lc : Bool := true) (cmp : Bool := true) (cal : Bool := true) (tup : Bool := true) (nam : Str -> Bool := λ _ => true) (e : Expr) : Bool :=
 exB (λ _ _ => bop) (λ _ _ _ => true) (λ _ _ => un) (λ _ _ _ => ite) (λ _ _ => true) (λ _ _ _ => lc) (λ _ _ _ => cmp) (λ _ _ _ _ => cal) (λ _ => true) (λ _ _ _ => true) (λ _ _ => true) nam (λ _ => true) (λ _ => tup) e
def aA (e : Expr) : Bool := exA (e := e)
def c8 (e : Expr) : Bool := exA (cal := false) (e := e)
def dQ (e : Expr) : Bool := exA (lc := false) (e := e)
def m6 (e : Expr) : Bool := exA (lc := false) (tup := false) (e := e)
def mC (e : Expr) : Bool := exA (bop := false) (un := false) (ite := false) (cmp := false) (e := e)
def bZ (kd : Kd) (scope : Scope) : Kd := λ n => match scope.names.lookup n with
 | some .free => if kd n == some .cell then some .cell else some .free
 | k => k
def freeNames (scope : Scope) : List Str := (scope.names.filter λ x => x.2 == .free).map (·.1)
noncomputable def hM (kd : Kd) (tc : Tc) (x : Nat) (scope : Scope) : Bool :=
 scope.kind == .function && scope.names.all (λ y => y.2 != .local || y.1 == tc.nm x || y.1 == (".0" : Str)) && scope.names.all (λ y => y.2 != .cell) && scope.names.all (λ y => y.2 != .local || scope.names.lookup y.1 == some .local) &&
 scope.names.lookup (tc.nm x) == some .local && (freeNames scope).all (λ n => kd n == some .cell) && decide (x < tc.N) && scope.names.all (λ y => scope.names.lookup y.1 == some y.2)
noncomputable def BJ (tc : Tc) (go : Kd -> IExpr -> Expr -> Bool) (kd : Kd) (ie : IExpr) (e : Expr) : Bool := match ie with
 | .cst v => B9 e (BL v)
 | .var x => jO e λ id => id == tc.nm x && J5 (kd id) && decide (x < tc.N) && id != ("__debug__" : Str) && id != ("__classdict__" : Str)
 | .glo x => jO e λ id => id == tc.nm x && BI (kd id) && id != ("__debug__" : Str)
 | .attr o a => CE e λ v b _ => b == tc.nm a && decide (a < tc.N) && go kd o v && c8 v
 | .callF x f as => CB e λ id es => id == tc.nm x && BI (kd id) && id != ("__debug__" : Str) && tc.fnN x f && all2 (go kd) as es && es.all aA
 | .new x C as => CB e λ id es => id == tc.nm x && BI (kd id) && id != ("__debug__" : Str) && tc.clN x C && all2 (go kd) as es && es.all aA
 | .meth o a as => p9 e λ v b es => b == tc.nm a && decide (a < tc.N) && go kd o v && all2 (go kd) as es && es.all aA && decide (es.length < 30) && c8 v
 | .append _ o x => p9 e λ v b es => mE es λ y => b == ("append" : Str) && go kd o v && go kd x y && aA y && c8 v
 | .pop o => p9 e λ v b es => jN es && (b == ("pop" : Str) && go kd o v && c8 v)
 | .len x => fK e λ f y => gK tc kd "len" f && go kd x y && aA y
 | .isi x m c => qA e λ f y t => gK tc kd "isinstance" f && go kd x y && aA y && E8 tc kd (m, c) t
 | .isit x cs => qA e λ f y t => sE t λ es => gK tc kd "isinstance" f && go kd x y && aA y && E7 tc kd cs es && lenLe cs 100
 | .srt x => fK e λ f y => gK tc kd "sorted" f && go kd x y && aA y
 | .mkset x => fK e λ f y => gK tc kd "set" f && go kd x y && aA y
 | .all x => fK e λ f y => gK tc kd "all" f && go kd x y && aA y
 | .tolist x => fK e λ f y => gK tc kd "list" f && go kd x y && aA y
 | .totup x => fK e λ f y => gK tc kd "tuple" f && go kd x y && aA y
 | .tostr x => fK e λ f y => gK tc kd "str" f && go kd x y && aA y
 | .rng x => fK e λ f y => gK tc kd "range" f && go kd x y && aA y
 | .mx a b => qA e λ f y z => gK tc kd "max" f && go kd a y && go kd b z && aA y && aA z
 | .mn a b => qA e λ f y z => gK tc kd "min" f && go kd a y && go kd b z && aA y && aA z
 | .cmp op l r => yU e λ l' op' r' => op == op' && go kd l l' && go kd r r' && aA r'
 | .bop isAnd es => QG e λ op vs => op == (if isAnd then .And else .Or) && all2 (go kd) es vs
 | .not x => vUn e λ op y => op == .Not && go kd x y
 | .ite t a b => QF e λ t' a' b' => go kd t t' && go kd a a' && go kd b b'
 | .bin _ op l r => L6 e λ l' op' r' => op == op' && go kd l l' && go kd r r'
 | .neg x => vUn e λ op y => op == .USub && go kd x y
 | .lst es => L1 e λ vs => all2 (go kd) es vs && vs.all aA
 | .tup es => sE e λ vs => all2 (go kd) es vs && vs.all aA
 | .dct0 => L3 e λ os vs => jN os && jN vs
 | .sdct rows => L3 e λ os vs => LP rows os vs
 | .sub o i => AA e λ v s => go kd o v && go kd i s && aA s
 | .comp elt x it ifs => vLc e λ elt' id it' ifs' scope => id == tc.nm x && hM kd tc x scope && go kd it it' && aA it' && go (bZ kd scope) elt elt' && all2 (go (bZ kd scope)) ifs ifs'
 | .frz x => go kd x e && mC e
 | .wall => mC e
 | .cmp2 a b d => KT e λ a' o o' b' d' => o == .LtE && o' == .LtE && go kd a a' && go kd b b' && go kd d d' && aA d'
 | .strip o x => p9 e λ v b es => mE es λ y => b == ("strip" : Str) && go kd o v && go kd x y && aA y && c8 v
 | .join o x => p9 e λ v b es => mE es λ y => b == ("join" : Str) && go kd o v && go kd x y && aA y && c8 v
def aW (tc : Tc) (n : Nat) : Kd -> IExpr -> Expr -> Bool := Nat.rec (λ _ _ _ => false) (λ _ go => BJ tc go) n
noncomputable def n6 (tc : Tc) (n : Nat) (kd : Kd) (t : Tg) (e : Expr) : Bool := match t with
 | .v x => jO e λ id => id == tc.nm x && decide (x < tc.N) && (kd id == some .local || kd id == some .cell)
 | .a o a => CE e λ v b _ => b == tc.nm a && decide (a < tc.N) && aW tc n kd o v
def vK (tc : Tc) (kd : Kd) (x : Nat) (e : Expr) : Bool := jO e λ id => id == tc.nm x && decide (x < tc.N) && kd id == some .local
def c9 (tc : Tc) (kd : Kd) : List Nat -> List Expr -> Bool := all2 (vK tc kd)
def f7 (kd : Kd) (ts : List Expr) : Bool := ts.any λ t => exA (nam := λ id => kd id != some .local) (e := t)
noncomputable def vB : IStmt -> Bool
 | .gfrz _ => true
 | .gfrzA _ _ => true
 | .gc _ => true
 | _ => false
noncomputable def gJ (f : IStmt -> Stmt -> Bool) (l : List IStmt) : List Stmt -> Bool := List.rec (λ ss => jN ss) (λ s _ ih ss => Bool.rec (List.rec false (λ t ts _ => f s t && ih ts) ss) (ih ss) (vB s)) l
noncomputable def LQ (tc : Tc) (n : Nat) (go : Kd -> IStmt -> Stmt -> Bool) (kd : Kd) (is : IStmt) (st : Stmt) : Bool := match is with
 | .expr x => Q6 st λ e => aW tc n kd x e && dQ e
 | .ret x => HD st λ o => yS o λ e => aW tc n kd x e
 | .retn => HD st λ o => KP o
 | .asg x e => pM st λ t v => jO t λ id => id == tc.nm x && decide (x < tc.N) && (kd id == some .local || kd id == some .cell) && aW tc n kd e v && (dQ v || kd id == some .cell)
 | .asgA o a e => pM st λ t v => CE t λ o' b _ => b == tc.nm a && decide (a < tc.N) && aW tc n kd e v && aW tc n kd o o' && dQ v
 | .asgS o i e => pM st λ t v => AA t λ o' i' => aW tc n kd e v && aW tc n kd o o' && aW tc n kd i i' && dQ v && aA i'
 | .asgT ts es => pM st λ t v => sE t λ ts' => sE v λ vs => all2 (n6 tc n kd) ts ts' && all2 (aW tc n kd) es vs && vs.all aA && ts'.all aA && (f7 kd ts' || !(ts'.length == 2 || ts'.length == 3)) && decide (ts'.length = vs.length)
 | .asgW xs es => pM st λ t v => sE t λ ts' => sE v λ vs => c9 tc kd xs ts' && all2 (aW tc n kd) es vs && vs.all aA && (ts'.length == 2 || ts'.length == 3) && decide (ts'.length = vs.length) &&
    ts'.all (λ t => t.pos.line == (ts'.head?.map (·.pos.line)).getD 0) && decide (xs.Nodup) && !(vs.all (foldedForSure 8)) && !(vs.all (constantsAlone 8))
 | .asgU ts e => pM st λ t v => sE t λ ts' => all2 (n6 tc n kd) ts ts' && aW tc n kd e v && m6 v && ts'.all aA
 | .asgC x elt y it ifs => pM st λ t v => jO t λ id => t.pos.line == v.pos.line && vLc v λ elt' id2 it' ifs' scope => id == tc.nm x && decide (x < tc.N) && kd id == some .local && !(scope.names.any λ (n, k) => n == id && (k == .local || k == .cell)) &&
    id2 == tc.nm y && hM kd tc y scope && aW tc n kd it it' && aA it' && aW tc n (bZ kd scope) elt elt' && all2 (aW tc n (bZ kd scope)) ifs ifs'
 | .ite t a b => sIf st λ t' a' b' => aW tc n kd t t' && gJ (go kd) a a' && gJ (go kd) b b'
 | .for1 x it body => NP st λ t it' body' => jO t λ id => id == tc.nm x && decide (x < tc.N) && (kd id == some .local) && aW tc n kd it it' && aA it' && gJ (go kd) body body'
 | .forT xs it body => NP st λ t it' body' => sE t λ ts => c9 tc kd xs ts && ts.all aA && aW tc n kd it it' && aA it' && gJ (go kd) body body'
 | .whl t body => Q2 st λ t' body' => aW tc n kd t t' && gJ (go kd) body body'
 | .brk => Q8 st
 | .cont => LA st
 | .gfrz _ => false
 | .gfrzA _ _ => false
 | .gc _ => false
def jF (tc : Tc) (n : Nat) : Kd -> IStmt -> Stmt -> Bool := Nat.rec (λ _ _ _ => false) (λ n go => LQ tc n go) n
end
section
open PySem PySem.W PyProof.Rows
theorem bQ {α : Type} : ∀ {l : List α} {i : Nat} {x : α}, nth l i = some x -> i < l.length
 | _ :: _, 0, _, _ => Nat.succ_pos _
 | _ :: r, i + 1, _, h => Nat.succ_lt_succ (bQ (l := r) h)
theorem gX {α : Type} : ∀ {l : List α} {i : Nat}, i < l.length -> ∃ x, nth l i = some x
 | x :: _, 0, _ => ⟨x, rfl⟩
 | _ :: r, i + 1, h => gX (l := r) (Nat.lt_of_succ_lt_succ h)
theorem b6 {α : Type} : ∀ {l r : List α} {i : Nat}, i < l.length -> nth (l ++ r) i = nth l i
 | x :: _, _, 0, _ => rfl
 | _ :: l, r, i + 1, h => b6 (l := l) (r := r) (Nat.lt_of_succ_lt_succ h)
theorem aZ {α : Type} : ∀ {l : List α} {x : α} {r : List α}, nth (l ++ x :: r) l.length = some x
 | [], _, _ => rfl
 | _ :: l, x, r => aZ (l := l) (x := x) (r := r)
theorem bK {α : Type} {l : List α} {x y : α} {i : Nat} (h : nth (l ++ [x]) i = some y) : (i < l.length /\ nth l i = some y) \/ (i = l.length /\ x = y) := by
 have hl := bQ h
 simp only [List.length_append, List.length_cons, List.length_nil] at hl
 by_cases q : i < l.length
 ·rw [b6 q] at h; exact .inl ⟨q, h⟩
 ·have e : i = l.length := by omega
  subst e
  rw [aZ] at h
  exact .inr ⟨rfl, Option.some.inj h⟩
theorem dY {α : Type} {l : List α} {x y : α} {i : Nat} (h : nth l i = some y) : nth (l ++ [x]) i = some y := by
 rw [b6 (bQ h)]; exact h
theorem e7 {α : Type} : ∀ (l : List α) (i : Nat) (y : α), (a9 l i y).length = l.length
 | [], _, _ => rfl
 | _ :: _, 0, _ => rfl
 | _ :: l, i + 1, y => congrArg (· + 1) (e7 l i y)
theorem cT {α : Type} : ∀ {l : List α} {i : Nat} {y : α}, i < l.length -> nth (a9 l i y) i = some y
 | _ :: _, 0, _, _ => rfl
 | _ :: l, i + 1, y, h => cT (l := l) (Nat.lt_of_succ_lt_succ h)
theorem dO {α : Type} : ∀ {l : List α} {i j : Nat} {y : α}, i ≠ j -> nth (a9 l i y) j = nth l j
 | [], _, _, _, _ => rfl
 | _ :: _, 0, 0, _, h => absurd rfl h
 | _ :: _, 0, _ + 1, _, _ => rfl
 | _ :: _, _ + 1, 0, _, _ => rfl
 | _ :: l, i + 1, j + 1, y, h => dO (l := l) (λ e => h (e ▸ rfl))
theorem kA {a b : Nat} : Nat.beq a b = true ↔ a = b := ⟨Nat.eq_of_beq_eq_true, λ h => h ▸ Nat.beq_refl a⟩
theorem bJ {α : Type} (p : Nat × α) (r : List (Nat × α)) (x : Nat) : look (p :: r) x = if p.1 = x then some p.2 else look r x := by
 show (match Nat.beq p.1 x with | true => some p.2 | false => look r x) = _
 by_cases h : p.1 = x
 ·rw [if_pos h, kA.mpr h]
 ·rw [if_neg h]
  cases q : Nat.beq p.1 x with
  | true => exact absurd (kA.mp q) h
  | false => rfl
theorem mV {α : Type} (p : Nat × α) (r : List (Nat × α)) (x : Nat) (v : α) : put (p :: r) x v = if p.1 = x then (x, v) :: r else p :: put r x v := by
 show (match Nat.beq p.1 x with | true => (x, v) :: r | false => p :: put r x v) = _
 by_cases h : p.1 = x
 ·rw [if_pos h, kA.mpr h]
 ·rw [if_neg h]
  cases q : Nat.beq p.1 x with
  | true => exact absurd (kA.mp q) h
  | false => rfl
theorem bR {α : Type} (v : α) (x y : Nat) : ∀ l : List (Nat × α), look (put l x v) y = if x = y then some v else look l y
 | [] => by
  show look [(x, v)] y = _
  rw [bJ]
 | p :: r => by
  rw [mV]
  by_cases h : p.1 = x
  ·rw [if_pos h, bJ, bJ]
   by_cases q : x = y
   ·rw [if_pos q, if_pos q]
   ·rw [if_neg q, if_neg q, if_neg (λ e => q (h ▸ e))]
  ·rw [if_neg h, bJ, bJ, bR v x y r]
   by_cases q : p.1 = y
   ·rw [if_pos q, if_pos q, if_neg (λ e => h (q.trans e.symm))]
   ·rw [if_neg q, if_neg q]
theorem b7 {α : Type} {v : α} {x : Nat} : ∀ {l : List (Nat × α)}, look l x = some v -> (x, v) ∈ l
 | [], h => by cases h
 | p :: r, h => by
  rw [bJ] at h
  by_cases q : p.1 = x
  ·rw [if_pos q] at h; cases h; subst q; exact .head _
  ·rw [if_neg q] at h; exact .tail _ (b7 h)
theorem j6 {l : List Nat} {x : Nat} : nP l x = true ↔ x ∈ l := by
 induction l with
 | nil => exact ⟨λ h => (by cases h), λ h => (by cases h)⟩
 | cons y r ih =>
  show (match Nat.beq y x with | true => true | false => nP r x) = true ↔ _
  cases q : Nat.beq y x with
  | true => exact ⟨λ _ => (by rw [kA.mp q]; exact .head _), λ _ => rfl⟩
  | false =>
   refine ⟨λ h => .tail _ (ih.mp h), λ h => ?_⟩
   rcases List.mem_cons.mp h with e | h
   ·subst e; rw [Nat.beq_refl] at q; cases q
   ·exact ih.mpr h
theorem aM {α : Type} : ∀ {l : List α} {n : Nat}, lenLe l n = true ↔ l.length <= n
 | [], n => ⟨λ _ => Nat.zero_le _, λ _ => by cases n <;> rfl⟩
 | _ :: _, 0 => ⟨λ h => (by cases h), λ h => (by simp at h)⟩
 | _ :: r, n + 1 => ⟨λ h => Nat.succ_le_succ ((aM (l := r) (n := n)).mp h), λ h => (aM (l := r) (n := n)).mpr (Nat.le_of_succ_le_succ (by simpa using h))⟩
theorem cN : ∀ {a b : List Nat}, lV a b = true ↔ a = b
 | [], [] => ⟨λ _ => rfl, λ _ => rfl⟩
 | [], _ :: _ => ⟨λ h => (by cases h), λ h => (by cases h)⟩
 | _ :: _, [] => ⟨λ h => (by cases h), λ h => (by cases h)⟩
 | x :: r, y :: t => by
  show (match Nat.beq x y with | true => lV r t | false => false) = true ↔ _
  cases q : Nat.beq x y with
  | true => rw [kA.mp q]; exact ⟨λ h => (by rw [cN.mp h]), λ h => cN.mpr (List.cons.inj h).2⟩
  | false => exact ⟨λ h => (by cases h), λ h => (by rw [(List.cons.inj h).1, Nat.beq_refl] at q; cases q)⟩
theorem Ext.refl (X : Nat -> Prop) (k : Nat) (W : Wd) : Ext X k W W := ⟨λ _ _ e => e, λ _ _ _ e => e, λ _ _ e _ _ => e, λ _ h => .inl h, λ _ o e => ⟨o, e⟩⟩
section
variable {c : Cx}
theorem uY {α : Type} {P : α -> Prop} {a b : α} (h : P a) (e : b ∈ [a]) : P b := (List.mem_singleton.mp e) ▸ h
theorem R6 {α : Type} {P : α -> Prop} {a a' b : α} (h : P a) (h' : P a') (e : b ∈ [a, a']) : P b := (List.mem_cons.mp e).elim (λ e => e ▸ h) (uY h')
theorem Inv.fpLt {W : Wd} (I : Inv c W) {b : Nat} (h : W.fp b) : ∃ o, W.h.get? b = some o := by
 obtain ⟨i, ao, p, h1, h2, h3⟩ := h
 have k := I.ok i ao p h1 h2
 let P := λ b => ∃ o, W.h.get? b = some o
 exact k.rec (motive := λ ao p _ => b ∈ fpA ao p -> P b) (λ a b' _ _ => R6 (P := P) ⟨_, a⟩ ⟨_, b'⟩) (λ a _ _ _ => uY (P := P) ⟨_, a⟩) (λ a _ _ _ => uY (P := P) ⟨_, a⟩) (λ a _ _ _ _ => uY (P := P) ⟨_, a⟩) (λ a _ _ _ => uY (P := P) ⟨_, a.choose_spec.1⟩) (λ _ h => (List.not_mem_nil h).elim) h3
theorem Inv.domLt {W : Wd} (I : Inv c W) {b : Nat} (h : W.dom b) : b < W.h.objs.size := by
 rcases h with h | h
 ·obtain ⟨o, e⟩ := I.fpLt h; exact Heap.lt_size e
 ·obtain ⟨o, e⟩ := Option.isSome_iff_exists.mp h; exact Heap.lt_size (I.sub _ _ e)
theorem Ext.trans {X : Nat -> Prop} {k k' : Nat} {W W₁ W₂ : Wd} (I1 : Inv c W₁) (hk : k <= k') (x : Ext X k W W₁) (y : Ext X k' W₁ W₂) : Ext X k W W₂ where
 G := λ a o e => y.G _ _ (x.G _ _ e)
 rho := λ i p hi e => y.rho i p (Nat.lt_of_lt_of_le hi hk) (x.rho i p hi e)
 keep := λ b o e hf hx => by
  refine y.keep b o (x.keep b o e hf hx) (λ h => ?_) hx
  rcases x.dom b (.inl h) with q | q
  ·rcases q with q | q
   ·exact hf q
   ·obtain ⟨o', q⟩ := Option.isSome_iff_exists.mp q
    have := x.G _ _ q
    rw [I1.fresh b h] at this; cases this
  ·rw [q] at e; cases e
 dom := λ b h => by
  rcases y.dom b h with q | q
  ·exact x.dom b q
  ·cases e : W.h.get? b with
   | none => exact .inr rfl
   | some o => obtain ⟨o', e'⟩ := x.live b o e; rw [q] at e'; cases e'
 live := λ b o e => by
  obtain ⟨o', e'⟩ := x.live b o e
  exact y.live b o' e'
theorem Ext.weaken {X Y : Nat -> Prop} {k k' : Nat} {W W' : Wd} (x : Ext X k W W') (hk : k' <= k) (h : ∀ b, X b -> Y b) : Ext Y k' W W' :=
 ⟨x.G, λ i p hi e => x.rho i p (Nat.lt_of_lt_of_le hi hk) e, λ b o e hf hy => x.keep b o e hf λ hx => hy (h b hx), x.dom, x.live⟩
abbrev No : Nat -> Prop := λ _ => False
theorem RP.mono {G G' : Gh} {ρ ρ' : List (Nat × Nat)} {p : PV} {v : Value} (kG : d7 G G') (kρ : ∀ i q, nth ρ i = some q -> nth ρ' i = some q) (h : RP c G ρ p v) : RP c G' ρ' p v := h.rec (motive := λ p v _ => RP c G' ρ' p v) (λ r => .f (r.mono kG)) (λ e => .ref (kρ _ _ e))
theorem RPs.mono {G G' : Gh} {ρ ρ' : List (Nat × Nat)} (kG : d7 G G') (kρ : ∀ i q, nth ρ i = some q -> nth ρ' i = some q) {p : List PV} {v : List Value} (h : RPs c G ρ p v) : RPs c G' ρ' p v := h.rec (motive := λ p v _ => RPs c G' ρ' p v) .nil (λ a _ r => .cons (a.mono kG kρ) r)
theorem RPf.mono {G G' : Gh} {ρ ρ' : List (Nat × Nat)} (kG : d7 G G') (kρ : ∀ i q, nth ρ i = some q -> nth ρ' i = some q) {C : Addr} {p : List (Nat × PV)} {v : List DictEntry} (h : RPf c G ρ C p v) : RPf c G' ρ' C p v := h.rec (motive := λ p v _ => RPf c G' ρ' C p v) .nil (λ h h' a _ r => .cons h h' (a.mono kG kρ) r)
theorem Ext.rho' {X : Nat -> Prop} {W W' : Wd} (x : Ext X W.ρ.length W W') : ∀ i q, nth W.ρ i = some q -> nth W'.ρ i = some q := λ i q e => x.rho i q (bQ e) e
theorem Ext.rp {X : Nat -> Prop} {W W' : Wd} {p : PV} {v : Value} (x : Ext X W.ρ.length W W') (r : RP c W.G W.ρ p v) : RP c W'.G W'.ρ p v := r.mono x.G x.rho'
theorem Ext.rps {X : Nat -> Prop} {W W' : Wd} {p : List PV} {v : List Value} (x : Ext X W.ρ.length W W') (r : RPs c W.G W.ρ p v) : RPs c W'.G W'.ρ p v := r.mono x.G x.rho'
theorem RL.ind {G : Gh} {m : List FV -> List Value -> Prop} (h1 : m [] []) (h2 : ∀ {x v xs vs}, RF c G x v -> RL c G xs vs -> m xs vs -> m (x :: xs) (v :: vs)) {xs : List FV} {vs : List Value} (h : RL c G xs vs) : m xs vs :=
 RL.rec (motive_1 := λ _ _ _ => True) (motive_2 := λ xs vs _ => m xs vs) (motive_3 := λ _ _ _ _ => True) (motive_4 := λ _ _ _ => True) (motive_5 := λ _ _ _ => True) trivial (λ _ => trivial) (λ _ _ => trivial) (λ _ _ _ => trivial) (λ _ _ _ _ _ => trivial) (λ _ _ _ _ _ => trivial) (λ _ _ => trivial) (λ _ _ _ _ => trivial)
  (λ _ _ _ _ _ => trivial) (λ _ _ _ _ _ => trivial) (λ _ _ => trivial) (λ _ _ => trivial) h1 (λ a b _ r => h2 a b r) trivial (λ _ _ _ _ _ _ => trivial) trivial (λ _ _ _ _ => trivial) trivial (λ _ _ _ _ => trivial) h
theorem RL.length {G : Gh} {xs : List FV} {vs : List Value} (h : RL c G xs vs) : vs.length = xs.length := RL.ind (m := λ xs vs => vs.length = xs.length) rfl (λ _ _ r => congrArg (· + 1) r) h
theorem RPs.length {G : Gh} {ρ : List (Nat × Nat)} {xs : List PV} {vs : List Value} (h : RPs c G ρ xs vs) : vs.length = xs.length := h.rec (motive := λ xs vs _ => vs.length = xs.length) rfl (λ _ _ r => congrArg (· + 1) r)
def Own (env : Env) (b : Nat) : Prop := b = env.locals \/ ∃ n, env.cells.lookup n = some b
variable (c) in
structure FrameOk (env : Env) (vs : Vs) (W : Wd) : Prop where
 kind : env.scope.kind = .function
 glob : env.globals = mainGlobals
 blt : env.builtins = builtinsNs
 ids : ∀ x p, look vs x = some p -> x < c.N
 ns : ∃ m, W.h.Ns env.locals m /\ ∀ x p, look vs x = some p -> env.kindOf (c.nm x) = some .local -> ∃ v, m (c.nm x) = some v /\ RP c W.G W.ρ p v
 cell : ∀ x p, look vs x = some p -> (env.kindOf (c.nm x) = some .cell \/ env.kindOf (c.nm x) = some .free) -> ∃ a v, env.cells.lookup (c.nm x) = some a /\ W.h.IsCell a (some v) /\ RP c W.G W.ρ p v
 cells : ∀ n a, env.cells.lookup n = some a -> ∃ o, W.h.IsCell a o
 has : ∀ n, env.kindOf n = some .cell -> ∃ a, env.cells.lookup n = some a
 inj : ∀ n n' a, env.cells.lookup n = some a -> env.cells.lookup n' = some a -> n = n'
 off : ∀ n a, env.cells.lookup n = some a -> a ≠ env.locals
 own : ∀ b, Own env b -> ¬ W.dom b
theorem FrameOk.ownLt {env : Env} {vs : Vs} {W : Wd} (F : FrameOk c env vs W) {b : Nat} (h : Own env b) : b < W.h.objs.size := by
 rcases h with e | ⟨n, e⟩
 ·obtain ⟨m, hn, _⟩ := F.ns; rw [e]; exact hn.lt
 ·obtain ⟨o, ho⟩ := F.cells n b e; exact ho.lt
theorem FrameOk.ownAt {env : Env} {vs : Vs} {W : Wd} (F : FrameOk c env vs W) {b : Nat} (h : Own env b) : ∃ o, W.h.get? b = some o := by
 rcases h with e | ⟨n, e⟩
 ·obtain ⟨m, ⟨o, es, ep, ho, _⟩, _⟩ := F.ns; rw [e]; exact ⟨o, ho⟩
 ·obtain ⟨o, o', ho, _⟩ := F.cells n b e; exact ⟨o', ho⟩
theorem FrameOk.keep {env : Env} {vs : Vs} {W W' : Wd} {X : Nat -> Prop} (F : FrameOk c env vs W) (x : Ext X W.ρ.length W W') (hX : ∀ b, Own env b -> ¬ X b) : FrameOk c env vs W' := by
 have kp : ∀ b, Own env b -> ∀ o, W.h.get? b = some o -> W'.h.get? b = some o := λ b hb o e => x.keep b o e (λ h => F.own b hb (.inl h)) (hX b hb)
 refine ⟨F.kind, F.glob, F.blt, F.ids, ?_, ?_, ?_, F.has, F.inj, F.off, ?_⟩
 ·obtain ⟨m, ⟨o, es, ep, ho, r⟩, h⟩ := F.ns
  exact ⟨m, ⟨o, es, ep, kp _ (.inl rfl) o ho, r⟩, λ y p hy hk => let ⟨v, a, b⟩ := h y p hy hk; ⟨v, a, x.rp b⟩⟩
 ·intro y p hy hk
  obtain ⟨a, v, h1, ⟨o, ho, hd⟩, h3⟩ := F.cell y p hy hk
  exact ⟨a, v, h1, ⟨o, kp a (.inr ⟨_, h1⟩) o ho, hd⟩, x.rp h3⟩
 ·intro n a e
  obtain ⟨v, o, ho, hd⟩ := F.cells n a e
  exact ⟨v, o, kp a (.inr ⟨_, e⟩) o ho, hd⟩
 ·intro b hb h
  rcases x.dom b h with q | q
  ·exact F.own b hb q
  ·obtain ⟨o, ho⟩ := F.ownAt hb; rw [q] at ho; cases ho
theorem FrameOk.keepNo {env : Env} {vs : Vs} {W W' : Wd} (F : FrameOk c env vs W) (x : Ext No W.ρ.length W W') : FrameOk c env vs W' := F.keep x λ _ _ h => h
end
section
variable {c : Cx}
def addG (G : Gh) (a : Nat) (o : Obj) : Gh := λ b => if b = a then some o else G b
theorem bW {G : Gh} {a : Nat} {o : Obj} (h : G a = none) : d7 G (addG G a o) := λ b o' e => by
 unfold addG
 by_cases q : b = a
 ·subst q; rw [h] at e; cases e
 ·rw [if_neg q]; exact e
theorem cL (G : Gh) (a : Nat) (o : Obj) : addG G a o a = some o := if_pos rfl
theorem cI {G : Gh} {a b : Nat} {o o' : Obj} (h : addG G a o b = some o') : (b = a /\ o = o') \/ G b = some o' := by
 unfold addG at h
 by_cases q : b = a
 ·rw [if_pos q] at h; exact .inl ⟨q, Option.some.inj h⟩
 ·rw [if_neg q] at h; exact .inr h
theorem OkAO.mono {G G' : Gh} {ρ ρ' : List (Nat × Nat)} {h h' : Heap} {ao : AO} {p : Nat × Nat} (kG : d7 G G') (kρ : ∀ i q, nth ρ i = some q -> nth ρ' i = some q)
  (kh : ∀ b ∈ fpA ao p, ∀ o, h.get? b = some o -> h'.get? b = some o) (k : OkAO c G ρ h ao p) : OkAO c G' ρ' h' ao p :=
 k.rec (motive := λ ao p _ => (∀ b ∈ fpA ao p, ∀ o, h.get? b = some o -> h'.get? b = some o) -> OkAO c G' ρ' h' ao p) (λ a b d e kh => .inst (kh _ (.head _) _ a) (kh _ (.tail _ (.head _)) _ b) (d.mono kG kρ) e) (λ a b d e kh => .flist (kh _ (.head _) _ a) b d (e.mono kG))
  (λ a b d e kh => .rlist (kh _ (.head _) _ a) b d (e.mono kG kρ)) (λ a b d e f kh => .idct (kh _ (.head _) _ a) b d (e.mono kG) f) (λ a b d e kh => .src ⟨_, kh _ (.head _) _ a.choose_spec.1, a.choose_spec.2⟩ b d e) (λ a _ => .fz (a.mono kG)) kh
theorem cQ {h : Heap} {a : Addr} (ha : h.objs.size <= a) : h.get? a = none := by
 cases e : h.get? a with
 | none => rfl
 | some o => exact absurd (Heap.lt_size e) (Nat.not_lt.mpr ha)
theorem Inv.G_none {W : Wd} (I : Inv c W) {a : Addr} (ha : W.h.objs.size <= a) : W.G a = none := by
 cases e : W.G a with
 | none => rfl
 | some o => exact absurd (Heap.lt_size (I.sub _ _ e)) (Nat.not_lt.mpr ha)
theorem Inv.not_fp {W : Wd} (I : Inv c W) {a : Addr} (ha : W.h.objs.size <= a) : ¬ W.fp a := λ h => by
 obtain ⟨o, e⟩ := I.fpLt h
 exact absurd (Heap.lt_size e) (Nat.not_lt.mpr ha)
theorem Inv.heap {W : Wd} (I : Inv c W) {h' : Heap} (k : ∀ b o, W.h.get? b = some o -> h'.get? b = some o) : Inv c { W with h := h' } where
 len := I.len
 sub := λ a o e => k _ _ (I.sub a o e)
 ok := λ i ao p h1 h2 => (I.ok i ao p h1 h2).mono (λ _ _ e => e) (λ _ _ e => e) λ b _ o e => k b o e
 fresh := I.fresh
 apart := I.apart
 two := I.two
 base := I.base
theorem Ext.heap {X : Nat -> Prop} {n : Nat} {W : Wd} {h' : Heap} (k : ∀ b o, W.h.get? b = some o -> h'.get? b = some o) : Ext X n W { W with h := h' } :=
 ⟨λ _ _ e => e, λ _ _ _ e => e, λ b o e _ _ => k b o e, λ _ h => .inl h, λ b o e => ⟨o, k b o e⟩⟩
theorem Inv.heapOff {W : Wd} (I : Inv c W) {h' : Heap} (k : ∀ b o, W.dom b -> W.h.get? b = some o -> h'.get? b = some o) : Inv c { W with h := h' } where
 len := I.len
 sub := λ a o e => k _ _ (.inr (by rw [e]; rfl)) (I.sub a o e)
 ok := λ i ao p h1 h2 => (I.ok i ao p h1 h2).mono (λ _ _ e => e) (λ _ _ e => e) λ b hb o e => k b o (.inl ⟨i, ao, p, h1, h2, hb⟩) e
 fresh := I.fresh
 apart := I.apart
 two := I.two
 base := I.base
theorem Inv.addG {W : Wd} (I : Inv c W) {h' : Heap} {a : Addr} {o : Obj} (k : ∀ b o, W.h.get? b = some o -> h'.get? b = some o) (ha : W.h.objs.size <= a) (ho : h'.get? a = some o) :
  Inv c { W with G := Mine.addG W.G a o, h := h' } where
 len := I.len
 sub := λ b o' e => by
  rcases cI e with ⟨rfl, rfl⟩ | e
  ·exact ho
  ·exact k _ _ (I.sub b o' e)
 ok := λ i ao p h1 h2 => (I.ok i ao p h1 h2).mono (bW (I.G_none ha)) (λ _ _ e => e) λ b _ o e => k b o e
 fresh := λ b h => by
  show Mine.addG W.G a o b = none
  unfold Mine.addG
  rw [if_neg (λ (e : b = a) => I.not_fp ha (show W.fp a from e ▸ h))]
  exact I.fresh b h
 apart := I.apart
 two := I.two
 base := λ b o' e => bW (I.G_none ha) _ _ (I.base b o' e)
theorem Ext.addG {X : Nat -> Prop} {n : Nat} {W : Wd} (I : Inv c W) {h' : Heap} {a : Addr} {o : Obj} (k : ∀ b o, W.h.get? b = some o -> h'.get? b = some o) (ha : W.h.objs.size <= a) :
  Ext X n W { W with G := Mine.addG W.G a o, h := h' } :=
 ⟨bW (I.G_none ha), λ _ _ _ e => e, λ b o e _ _ => k b o e, λ b h => by
  rcases h with h | h
  ·exact .inl (.inl h)
  ·obtain ⟨o', e⟩ := Option.isSome_iff_exists.mp h
   rcases cI e with ⟨rfl, rfl⟩ | e
   ·exact .inr (cQ ha)
   ·exact .inl (.inr (by rw [e]; rfl)), λ b o e => ⟨o, k b o e⟩⟩
theorem Inv.addH {W : Wd} (I : Inv c W) {h' : Heap} {p : Nat × Nat} {ao : AO} (k : ∀ b o, W.h.get? b = some o -> h'.get? b = some o) (ha : ∀ b ∈ fpA ao p, W.h.objs.size <= b) (h2 : ∀ C fs, ao = .inst C fs -> p.1 ≠ p.2)
  (ho : OkAO c W.G (W.ρ ++ [p]) h' ao p) : Inv c { W with ρ := W.ρ ++ [p], H := W.H ++ [ao], h := h' } where
 len := by show (W.ρ ++ [p]).length = (W.H ++ [ao]).length; simp [I.len]
 sub := λ b o' e => k _ _ (I.sub b o' e)
 ok := λ i ao' p' h1 h3 => by
  rcases bK h1 with ⟨l, h1⟩ | ⟨e, e'⟩ <;> rcases bK h3 with ⟨l', h3⟩ | ⟨q, q'⟩
  ·exact (I.ok i ao' p' h1 h3).mono (λ _ _ e => e) (λ _ _ e => dY e) λ b _ o e => k b o e
  ·rw [I.len] at q; omega
  ·rw [I.len] at l'; omega
  ·subst e'; subst q'; exact ho
 fresh := λ b h => by
  obtain ⟨i, ao', p', h1, h3, h4⟩ := h
  rcases bK h1 with ⟨l, h1⟩ | ⟨e, e'⟩ <;> rcases bK h3 with ⟨l', h3⟩ | ⟨q, q'⟩
  ·exact I.fresh b ⟨i, ao', p', h1, h3, h4⟩
  ·rw [I.len] at q; omega
  ·rw [I.len] at l'; omega
  ·subst e'; subst q'; exact I.G_none (ha b h4)
 apart := λ i j ao1 ao2 p1 p2 hij h1 h3 h4 h5 b hb hb' => by
  rcases bK h1 with ⟨l, h1⟩ | ⟨e, e'⟩ <;> rcases bK h4 with ⟨l', h4⟩ | ⟨q, q'⟩
  ·rcases bK h3 with ⟨l2, h3⟩ | ⟨e2, e2'⟩ <;> rcases bK h5 with ⟨l2', h5⟩ | ⟨q2, q2'⟩
   ·exact I.apart i j ao1 ao2 p1 p2 hij h1 h3 h4 h5 b hb hb'
   ·rw [I.len] at q2; omega
   ·rw [I.len] at l2'; omega
   ·subst e2'; subst q2'
    exact I.not_fp (ha b hb') ⟨i, ao1, p1, h1, h4, hb⟩
  ·rw [I.len] at q; omega
  ·rw [I.len] at l'; omega
  ·subst e'; subst q'
   rcases bK h3 with ⟨l2, h3⟩ | ⟨e2, e2'⟩ <;> rcases bK h5 with ⟨l2', h5⟩ | ⟨q2, q2'⟩
   ·exact I.not_fp (ha b hb) ⟨j, ao2, p2, h3, h5, hb'⟩
   ·rw [I.len] at q2; omega
   ·rw [I.len] at l2'; omega
   ·omega
 two := λ i C fs p' h1 h3 => by
  rcases bK h1 with ⟨l, h1⟩ | ⟨e, e'⟩ <;> rcases bK h3 with ⟨l', h3⟩ | ⟨q, q'⟩
  ·exact I.two i C fs p' h1 h3
  ·rw [I.len] at q; omega
  ·rw [I.len] at l'; omega
  ·subst q'; exact h2 C fs e'
 base := I.base
theorem Ext.addH {X : Nat -> Prop} {n : Nat} {W : Wd} (I : Inv c W) {h' : Heap} {p : Nat × Nat} {ao : AO} (k : ∀ b o, W.h.get? b = some o -> h'.get? b = some o) (ha : ∀ b ∈ fpA ao p, W.h.objs.size <= b) :
  Ext X n W { W with ρ := W.ρ ++ [p], H := W.H ++ [ao], h := h' } :=
 ⟨λ _ _ e => e, λ _ _ _ e => dY e, λ b o e _ _ => k b o e, λ b h => by
  rcases h with ⟨i, ao', p', h1, h3, h4⟩ | h
  ·rcases bK h1 with ⟨l, h1⟩ | ⟨e, e'⟩ <;> rcases bK h3 with ⟨l', h3⟩ | ⟨q, q'⟩
   ·exact .inl (.inl ⟨i, ao', p', h1, h3, h4⟩)
   ·rw [I.len] at q; omega
   ·rw [I.len] at l'; omega
   ·subst e'; subst q'; exact .inr (cQ (ha b h4))
  ·exact .inl (.inr h), λ b o e => ⟨o, k b o e⟩⟩
theorem zA {α : Type} {l : List α} {i j : Nat} {x y a : α} (hi : nth l i = some x) (h : nth (a9 l i y) j = some a) : (j = i /\ a = y) \/ (j ≠ i /\ nth l j = some a) :=
 if q : j = i then .inl ⟨q, (Option.some.inj ((cT (bQ hi)).symm.trans (q ▸ h))).symm⟩ else .inr ⟨q, (dO (Ne.symm q)).symm.trans h⟩
theorem Inv.turn {W : Wd} (I : Inv c W) {h' : Heap} {i : Nat} {p : Nat × Nat} {ao ao' : AO} (hi : nth W.H i = some ao) (hp : nth W.ρ i = some p) (k : ∀ b o, b ∉ fpA ao p -> W.h.get? b = some o -> h'.get? b = some o)
  (hf : ∀ b ∈ fpA ao' p, b ∈ fpA ao p) (h2 : ∀ C fs, ao' = .inst C fs -> p.1 ≠ p.2) (ho : OkAO c W.G W.ρ h' ao' p) : Inv c { W with H := a9 W.H i ao', h := h' } := by
 have at' : ∀ {j a}, nth (a9 W.H i ao') j = some a -> (j = i /\ a = ao') \/ (j ≠ i /\ nth W.H j = some a) := λ h => zA hi h
 refine ⟨?_, ?_, ?_, ?_, ?_, ?_, I.base⟩
 ·show W.ρ.length = (a9 W.H i ao').length
  rw [e7]; exact I.len
 ·intro a o e
  refine k a o (λ hm => ?_) (I.sub a o e)
  have := I.fresh a ⟨i, ao, p, hi, hp, hm⟩
  rw [e] at this; cases this
 ·intro j a q h1 h3
  rcases at' h1 with ⟨rfl, rfl⟩ | ⟨hj, h1⟩
  ·rw [hp] at h3; cases h3; exact ho
  ·exact (I.ok j a q h1 h3).mono (λ _ _ e => e) (λ _ _ e => e) λ b hb o e => k b o (λ hm => I.apart j i a ao q p hj h1 hi h3 hp b hb hm) e
 ·rintro b ⟨j, a, q, h1, h3, h4⟩
  rcases at' h1 with ⟨rfl, rfl⟩ | ⟨hj, h1⟩
  ·rw [hp] at h3; cases h3; exact I.fresh b ⟨_, ao, p, hi, hp, hf b h4⟩
  ·exact I.fresh b ⟨j, a, q, h1, h3, h4⟩
 ·intro j j' a a' q q' hjj h1 h3 h4 h5 b hb hb'
  rcases at' h1 with ⟨e1, e2⟩ | ⟨hj, g1⟩ <;> rcases at' h3 with ⟨e3, e4⟩ | ⟨hj', g3⟩
  ·exact hjj (e1.trans e3.symm)
  ·subst e1; subst e2; rw [hp] at h4; cases h4
   exact I.apart _ j' ao a' p q' hjj hi g3 hp h5 b (hf b hb) hb'
  ·subst e3; subst e4; rw [hp] at h5; cases h5
   exact I.apart j _ a ao q p hjj g1 hi h4 hp b hb (hf b hb')
  ·exact I.apart j j' a a' q q' hjj g1 g3 h4 h5 b hb hb'
 ·intro j C fs q h1 h3
  rcases at' h1 with ⟨rfl, e⟩ | ⟨hj, h1⟩
  ·rw [hp] at h3; cases h3; exact h2 C fs e.symm
  ·exact I.two j C fs q h1 h3
theorem Ext.turn {X : Nat -> Prop} {n : Nat} {W : Wd} {h' : Heap} {i : Nat} {p : Nat × Nat} {ao ao' : AO} (hi : nth W.H i = some ao) (hp : nth W.ρ i = some p) (k : ∀ b o, b ∉ fpA ao p -> W.h.get? b = some o -> h'.get? b = some o)
  (hf : ∀ b ∈ fpA ao' p, b ∈ fpA ao p) (hs : ∀ b ∈ fpA ao p, ∃ o, h'.get? b = some o) : Ext X n W { W with H := a9 W.H i ao', h := h' } :=
 ⟨λ _ _ e => e, λ _ _ _ e => e, λ b o e hfp _ => k b o (λ hm => hfp ⟨i, ao, p, hi, hp, hm⟩) e, λ b h => by
  rcases h with ⟨j, a, q, h1, h3, h4⟩ | h
  ·by_cases e : j = i
   ·subst e
    rw [cT (bQ hi)] at h1; cases h1
    rw [hp] at h3; cases h3
    exact .inl (.inl ⟨_, ao, p, hi, hp, hf b h4⟩)
   ·rw [dO (Ne.symm e)] at h1
    exact .inl (.inl ⟨j, a, q, h1, h3, h4⟩)
  ·exact .inl (.inr h), λ b o e => by
   by_cases hm : b ∈ fpA ao p
   ·exact hs b hm
   ·exact ⟨o, k b o hm e⟩⟩
theorem Inv.freeze {W : Wd} (I : Inv c W) {i : Nat} {p : Nat × Nat} {ao : AO} {v : FV} {G' : Gh} (hi : nth W.H i = some ao) (hp : nth W.ρ i = some p) (hG : d7 W.G G') (hn : ∀ b o, G' b = some o -> W.G b = some o \/ (b ∈ fpA ao p /\ W.h.get? b = some o))
  (hv : RF c G' v (.ref p.1)) : Inv c { W with G := G', H := a9 W.H i (.fz v) } := by
 have at' : ∀ {j a}, nth (a9 W.H i (.fz v)) j = some a -> (j = i /\ a = .fz v) \/ (j ≠ i /\ nth W.H j = some a) := λ h => zA hi h
 refine ⟨?_, ?_, ?_, ?_, ?_, ?_, λ a o e => hG _ _ (I.base a o e)⟩
 ·show W.ρ.length = (a9 W.H i (.fz v)).length
  rw [e7]; exact I.len
 ·intro a o e
  rcases hn a o e with q | ⟨_, q⟩
  ·exact I.sub a o q
  ·exact q
 ·intro j a q h1 h3
  rcases at' h1 with ⟨rfl, rfl⟩ | ⟨hj, h1⟩
  ·rw [hp] at h3; cases h3; exact .fz hv
  ·exact (I.ok j a q h1 h3).mono hG (λ _ _ e => e) λ _ _ _ e => e
 ·rintro b ⟨j, a, q, h1, h3, h4⟩
  rcases at' h1 with ⟨rfl, rfl⟩ | ⟨hj, h1⟩
  ·cases h4
  ·show G' b = none
   cases e : G' b with
   | none => rfl
   | some o =>
    rcases hn b o e with q' | ⟨q', _⟩
    ·have := I.fresh b ⟨j, a, q, h1, h3, h4⟩; rw [q'] at this; cases this
    ·exact absurd q' (I.apart j i a ao q p hj h1 hi h3 hp b h4)
 ·intro j j' a a' q q' hjj h1 h3 h4 h5 b hb hb'
  rcases at' h1 with ⟨rfl, rfl⟩ | ⟨hj, h1⟩
  ·cases hb
  ·rcases at' h3 with ⟨rfl, rfl⟩ | ⟨hj', h3⟩
   ·cases hb'
   ·exact I.apart j j' a a' q q' hjj h1 h3 h4 h5 b hb hb'
 ·intro j C fs q h1 h3
  rcases at' h1 with ⟨rfl, e⟩ | ⟨hj, h1⟩
  ·cases e
  ·exact I.two j C fs q h1 h3
theorem Ext.freeze {X : Nat -> Prop} {n : Nat} {W : Wd} {i : Nat} {p : Nat × Nat} {ao : AO} {v : FV} {G' : Gh} (hi : nth W.H i = some ao) (hp : nth W.ρ i = some p) (hG : d7 W.G G') (hn : ∀ b o, G' b = some o -> W.G b = some o \/ (b ∈ fpA ao p /\ W.h.get? b = some o)) :
  Ext X n W { W with G := G', H := a9 W.H i (.fz v) } :=
 ⟨hG, λ _ _ _ e => e, λ b o e _ _ => e, λ b h => by
  rcases h with ⟨j, a, q, h1, h3, h4⟩ | h
  ·by_cases e : j = i
   ·subst e
    rw [cT (bQ hi)] at h1; cases h1
    cases h4
   ·rw [dO (Ne.symm e)] at h1
    exact .inl (.inl ⟨j, a, q, h1, h3, h4⟩)
  ·obtain ⟨o, e⟩ := Option.isSome_iff_exists.mp h
   rcases hn b o e with q | ⟨q, _⟩
   ·exact .inl (.inr (by rw [q]; rfl))
   ·exact .inl (.inl ⟨i, ao, p, hi, hp, q⟩), λ _ o e => ⟨o, e⟩⟩
def seqObj (T : String) (us : List Value) (m : Nat) : Obj := { cls := .type T, data := .seq us.toArray m }
noncomputable def rfP (c : Cx) (G : Gh) (v : Value) (x : FV) : Prop := FV.casesOn (motive_1 := λ _ => Prop) x (v = .none) (λ b => v = .bool b) (λ i => ∃ t, v = .int i t) (λ cs => ∃ t, v = .str (aC cs) t /\ okS cs = true) (λ _ => True)
 (λ xs => ∃ a us m, v = .ref a /\ G a = some (seqObj "tuple" us m) /\ xs.length <= 2000 /\ RL c G xs us) (λ xs => ∃ a us m, v = .ref a /\ G a = some (seqObj "list" us m) /\ xs.length <= 2000 /\ RL c G xs us)
 (λ n => ∃ a t u w, v = .ref a /\ G a = some { cls := .type "range", dict := none, data := .fields #[.int 0 t, .int n u, .int 1 w], slots := #[] } /\ n < 100) (λ C fs => ∃ x dx es n, v = .ref x /\ G x = some (instObj C dx) /\ G dx = some (dictOf es n) /\ RFs c G C fs es)
 (λ es => ∃ a o kvs, v = .ref a /\ G a = some o /\ fS (intKind c.prog c.w) o kvs /\ RI c G es kvs /\ a ≠ sysModules) (λ es => ∃ a o kvs, v = .ref a /\ G a = some o /\ fS (PySem.strKind c.prog c.w) o kvs /\ RS c G es kvs /\ a ≠ sysModules)
 (λ xs => ∃ a o, v = .ref a /\ G a = some o /\ BZ c.w o xs) (λ d => RF c G (c.tb.view d) v)
theorem RF.inv {G : Gh} {x : FV} {v : Value} (h : RF c G x v) : rfP c G v x :=
 RF.rec (motive_1 := λ x v _ => rfP c G v x) (motive_2 := λ _ _ _ => True) (motive_3 := λ _ _ _ _ => True) (motive_4 := λ _ _ _ => True) (motive_5 := λ _ _ _ => True) rfl (λ _ => rfl) (λ _ t => ⟨t, rfl⟩) (λ _ t h => ⟨t, rfl, h⟩) (λ a b l r _ => b.elim λ m e => ⟨_, _, m, rfl, a.trans (congrArg some e), l, r⟩) (λ a b l r _ => b.elim λ m e => ⟨_, _, m, rfl, a.trans (congrArg some e), l, r⟩)
  (λ a l => ⟨_, _, _, _, rfl, a, l⟩) (λ a b r _ => ⟨_, _, _, _, rfl, a, b, r⟩) (λ a b r e _ => ⟨_, _, _, rfl, a, b, r, e⟩) (λ a b r e _ => ⟨_, _, _, rfl, a, b, r, e⟩) (λ a b => ⟨_, _, rfl, a, b⟩) (λ r _ => r) trivial (λ _ _ _ _ => trivial) trivial (λ _ _ _ _ _ _ => trivial) trivial (λ _ _ _ _ => trivial) trivial (λ _ _ _ _ => trivial) h
section
variable {G : Gh} {v : Value} {P : Value -> Prop}
@[elab_as_elim] theorem RF.nonE (r : RF c G .non v) (h : P .none) : P v := (show v = .none from r.inv) ▸ h
@[elab_as_elim] theorem RF.boolE {b : Bool} (r : RF c G (.bool b) v) (h : P (.bool b)) : P v := (show v = .bool b from r.inv) ▸ h
@[elab_as_elim] theorem RF.intE {i : Int} (r : RF c G (.int i) v) (h : ∀ t, P (.int i t)) : P v := by obtain ⟨t, rfl⟩ := r.inv; exact h t
@[elab_as_elim] theorem RF.strE {cs : List Nat} (r : RF c G (.str cs) v) (h : ∀ t, okS cs = true -> P (.str (aC cs) t)) : P v := by obtain ⟨t, rfl, o⟩ := r.inv; exact h t o
@[elab_as_elim] theorem RF.tupE {xs : List FV} (r : RF c G (.tup xs) v) (h : ∀ a us m, G a = some (seqObj "tuple" us m) -> us.length = xs.length -> xs.length <= 2000 -> RL c G xs us -> P (.ref a)) : P v := by obtain ⟨a, us, m, rfl, g, l, r⟩ := r.inv; exact h a us m g r.length l r
@[elab_as_elim] theorem RF.lstE {xs : List FV} (r : RF c G (.lst xs) v) (h : ∀ a us m, G a = some (seqObj "list" us m) -> us.length = xs.length -> xs.length <= 2000 -> RL c G xs us -> P (.ref a)) : P v := by obtain ⟨a, us, m, rfl, g, l, r⟩ := r.inv; exact h a us m g r.length l r
@[elab_as_elim] theorem RF.rngE {n : Nat} (r : RF c G (.rng n) v) (h : ∀ a t u w, G a = some { cls := .type "range", dict := none, data := .fields #[.int 0 t, .int n u, .int 1 w], slots := #[] } -> n < 100 -> P (.ref a)) : P v := by obtain ⟨a, t, u, w, rfl, g, l⟩ := r.inv; exact h a t u w g l
@[elab_as_elim] theorem RF.nodeE {C : Nat} {fs : List (Nat × FV)} (r : RF c G (.node C fs) v) (h : ∀ x dx es n, G x = some (instObj C dx) -> G dx = some (dictOf es n) -> RFs c G C fs es -> P (.ref x)) : P v := by obtain ⟨x, dx, es, n, rfl, a, b, r⟩ := r.inv; exact h x dx es n a b r
@[elab_as_elim] theorem RF.idctE {es : List (Int × FV)} (r : RF c G (.idct es) v) (h : ∀ a o kvs, G a = some o -> fS (intKind c.prog c.w) o kvs -> RI c G es kvs -> a ≠ sysModules -> P (.ref a)) : P v := by obtain ⟨a, o, kvs, rfl, g, d, r, e⟩ := r.inv; exact h a o kvs g d r e
@[elab_as_elim] theorem RF.sdctE {es : List (List Nat × FV)} (r : RF c G (.sdct es) v) (h : ∀ a o kvs, G a = some o -> fS (PySem.strKind c.prog c.w) o kvs -> RS c G es kvs -> a ≠ sysModules -> P (.ref a)) : P v := by obtain ⟨a, o, kvs, rfl, g, d, r, e⟩ := r.inv; exact h a o kvs g d r e
@[elab_as_elim] theorem RF.isetE {xs : List Int} (r : RF c G (.iset xs) v) (h : ∀ a o, G a = some o -> BZ c.w o xs -> P (.ref a)) : P v := by obtain ⟨a, o, rfl, g, d⟩ := r.inv; exact h a o g d
def rlP (c : Cx) (G : Gh) (vs : List Value) (xs : List FV) : Prop := List.casesOn (motive := λ _ => Prop) xs (vs = []) λ x t => ∃ v us, vs = v :: us /\ RF c G x v /\ RL c G t us
theorem RL.inv {xs : List FV} {vs : List Value} (h : RL c G xs vs) : rlP c G vs xs := RL.ind (m := λ xs vs => rlP c G vs xs) rfl (λ a b _ => ⟨_, _, rfl, a, b⟩) h
def rpP (c : Cx) (G : Gh) (ρ : List (Nat × Nat)) (v : Value) (p : PV) : Prop := PV.casesOn (motive := λ _ => Prop) p (λ x => RF c G x v) (λ i => ∃ q, nth ρ i = some q /\ v = .ref q.1)
theorem RP.inv {ρ : List (Nat × Nat)} {p : PV} (r : RP c G ρ p v) : rpP c G ρ v p := r.rec (motive := λ p v _ => rpP c G ρ v p) (λ r => r) (λ e => ⟨_, e, rfl⟩)
theorem RP.fE {ρ : List (Nat × Nat)} {x : FV} (r : RP c G ρ (.f x) v) : RF c G x v := r.inv
@[elab_as_elim] theorem RP.refE {ρ : List (Nat × Nat)} {i : Nat} (r : RP c G ρ (.ref i) v) (h : ∀ q, nth ρ i = some q -> P (.ref q.1)) : P v := by obtain ⟨q, e, rfl⟩ := r.inv; exact h q e
end
noncomputable def aoP (c : Cx) (G : Gh) (ρ : List (Nat × Nat)) (h : Heap) (p : Nat × Nat) (ao : AO) : Prop := AO.casesOn (motive := λ _ => Prop) ao (λ C fs => ∃ es n, h.get? p.1 = some (instObj C p.2) /\ h.get? p.2 = some (dictOf es n) /\ RPf c G ρ C fs es /\ es.length <= 200)
 (λ xs => ∃ us m, h.get? p.1 = some (seqObj "list" us m) /\ xs.length <= 1500 /\ RL c G xs us) (λ xs => ∃ us m, h.get? p.1 = some (seqObj "list" us m) /\ xs.length <= 1500 /\ RPs c G ρ xs us)
 (λ es => ∃ o kvs, h.get? p.1 = some o /\ fS (intKind c.prog c.w) o kvs /\ kvs.length <= 500 /\ RI c G es kvs /\ p.1 ≠ sysModules) (∃ a b t u, h.IsList p.1 #[.int a t, .int b u] /\ 0 <= a /\ 0 <= b /\ b < 2147483647) (λ x => RF c G x (.ref p.1))
theorem OkAO.inv {G : Gh} {ρ : List (Nat × Nat)} {h : Heap} {ao : AO} {p : Nat × Nat} (k : OkAO c G ρ h ao p) : aoP c G ρ h p ao :=
 k.rec (motive := λ ao p _ => aoP c G ρ h p ao) (λ a b d e => ⟨_, _, a, b, d, e⟩) (λ a b d e => b.elim λ m z => ⟨_, m, a.trans (congrArg some z), d, e⟩) (λ a b d e => b.elim λ m z => ⟨_, m, a.trans (congrArg some z), d, e⟩) (λ a b d e f => ⟨_, _, a, b, d, e, f⟩) (λ a b d e => ⟨_, _, _, _, a, b, d, e⟩) (λ r => r)
theorem Inv.at {W : Wd} (I : Inv c W) {i : Nat} {ao : AO} {p : Nat × Nat} (h : nth W.H i = some ao) (e : nth W.ρ i = some p) : aoP c W.G W.ρ W.h p ao := (I.ok _ _ _ h e).inv
theorem RP.nrm {W : Wd} (I : Inv c W) {p : PV} {v : Value} (r : RP c W.G W.ρ p v) : RP c W.G W.ρ (nrm W.H p) v := by
 cases r with
 | f r => exact .f r
 | @ref i q e =>
  unfold Mine.nrm
  dsimp only
  cases hx : nth W.H i with
  | none => exact .ref e
  | some ao =>
   have k := I.at hx e
   cases ao with
   | fz x => exact .f k
   | _ => exact .ref e
theorem RF.fvw {G : Gh} {x : FV} {v : Value} (r : RF c G x v) : RF c G (Mine.fvw c.tb x) v := by
 cases x with
 | dom d => exact r.inv
 | _ => exact r
theorem RF.unfvw {G : Gh} {x y : FV} {v : Value} (h : Mine.fvw c.tb x = y) (r : RF c G y v) : RF c G x v := by
 subst h
 cases x with
 | dom d => exact .dom r
 | _ => exact r
theorem RP.opn {G : Gh} {ρ : List (Nat × Nat)} {p : PV} {v : Value} (r : RP c G ρ p v) : RP c G ρ (Mine.opn c.tb p) v := by
 cases r with
 | f r => exact .f r.fvw
 | ref h => exact .ref h
end
end
section
open PySem PySem.W PyProof.Rows
open PySem.Calls Builtin
structure Sx where
 g : Array GenState
 d : Drawn
 os : OsState
abbrev mkS (x : Sx) (h : Heap) (t : Nat) : Shared := ⟨h, x.g, x.d, t, x.os⟩
section
variable (c : Cx)
abbrev WP {α : Type} (A : Around) (t : Sem α) (Q : α -> Shared -> Prop) (s : Shared) : Prop := wpAny (model c.prog c.w) A t Q (λ _ _ => False) s
def AOk (n : Nat) (A : Around) : Prop := A.handled = none /\ A.depth + n < recursionLimit /\ A.units + 12 * n < cLine
def Gd {α : Type} (X : Nat -> Prop) (k : Nat) (W : Wd) (x : Sx) (R : Wd -> α -> Prop) (Q : α -> Shared -> Prop) : Prop :=
 ∀ W' a tk, Ext X k W W' -> Inv c W' -> R W' a -> Q a (mkS x W'.h tk)
def RE (r : PV × Hp) (W' : Wd) (v : Value) : Prop := W'.H = r.2 /\ RP c W'.G W'.ρ r.1 v
def RT (r : Bool × Hp) (W' : Wd) (b : Bool) : Prop := W'.H = r.2 /\ b = r.1
inductive RFl (W' : Wd) : Fl -> Flow -> Prop
 | next : RFl W' .next .next
 | brk : RFl W' .brk .brk
 | cont : RFl W' .cont .cont
 | ret {p v} : RP c W'.G W'.ρ p v -> RFl W' (.ret p) (.ret v)
def RB (env : Env) (r : Fl × Vs × Hp) (W' : Wd) (f : Flow) : Prop := W'.H = r.2.2 /\ FrameOk c env r.2.1 W' /\ RFl c W' r.1 f
structure Sound (tc : Tc) (ev : Ev) (n : Nat) : Prop where
 e : ∀ {A env vs W x t ie e m Q}, AOk n A -> aW tc m env.kindOf ie e = true -> FrameOk c env vs W -> Inv c W ->
  (ev.e ie vs W.H).AllP (λ r => Gd c No W.ρ.length W x (RE c r) Q) -> WP c A (eval e env) Q (mkS x W.h t)
 t : ∀ {A env vs W x t ie e m Q}, AOk n A -> aW tc m env.kindOf ie e = true -> FrameOk c env vs W -> Inv c W ->
  (ev.t ie vs W.H).AllP (λ r => Gd c No W.ρ.length W x (RT r) Q) -> WP c A (isTrue e env (eval e env)) Q (mkS x W.h t)
 b : ∀ {A env vs W x t is ss m k Q}, AOk n A -> gJ (jF tc m env.kindOf) is ss = true -> FrameOk c env vs W -> Inv c W -> k <= W.ρ.length ->
  (ev.b k is vs W.H).AllP (λ r => Gd c (Own env) k W x (RB c env r) Q) -> WP c A (execs ss env) Q (mkS x W.h t)
 c : ∀ {A W x t f as vals R}, AOk n A -> RPs c W.G W.ρ as vals -> Inv c W ->
  (ev.c f as W.H).AllP (λ r => Gd c No W.ρ.length W x (RE c r) λ v s' => R (.ok (.ret v)) s') -> codeAny (model c.prog c.w) A (.call (.ref f) ⟨vals, []⟩) R (mkS x W.h t)
noncomputable def blV : String -> Option Value
 | "len" => some (.builtin "len")
 | "isinstance" => some (.builtin "isinstance")
 | "sorted" => some (.builtin "sorted")
 | "all" => some (.builtin "all")
 | "max" => some (.builtin "max")
 | "min" => some (.builtin "min")
 | "set" => some (.type "set")
 | "list" => some (.type "list")
 | "tuple" => some (.type "tuple")
 | "str" => some (.type "str")
 | "range" => some (.type "range")
 | "int" => some (.type "int")
 | _ => none
noncomputable def tyV : Nat -> Value
 | 0 => .type "NoneType"
 | 1 => .type "int"
 | 2 => .type "str"
 | n => .ref n
structure ClsOk (C : Nat) (ci : ClsI) : Prop where
 big : 3 <= C
 hg : plainGet c.K C "__class__" = true
 hdct : hasDictIn c.K C = true
 ha : findIn c.K (.ref C) "__class__" = some (some (.builtin "object.__class__"))
 hn : specialIn c.K (.builtin "object.__class__") "__get__" = some (some (.builtin "getset_descriptor.__get__"))
 htk : takesIn c.K (.builtin "object.__class__") = some true
 hm : mroIn c.K C (.type "object") = some true
 hset : findIn c.K (.ref C) "__setattr__" = some (some (.builtin "object.__setattr__"))
 over : plainOver c.K C = true
 fld : ∀ a, nP ci.fields a = true -> a < c.N /\ tE c.K C (c.nm a) = true /\ takerIn c.K C (c.nm a) = some none
 mth : ∀ a f, look ci.meths a = some f -> findIn c.K (.ref C) (c.nm a) = some (some (.ref f)) /\ typeIn c.K (.ref f) = some (.type "function") /\ keepIn c.K (.ref f) = true
 makes : makesIn c.K C = true
 init : findIn c.K (.ref C) "__init__" = some (some (.ref ci.init)) /\ typeIn c.K (.ref ci.init) = some (.type "function")
inductive FnOk (tc : Tc) (f : Nat) (fi : FnI) : Prop
 | plain (oc od osl name qual params body scope dV kV doc pm an cdv ct m) (lk : c.K.lookup f = some ⟨oc, od, .func (fnOf name qual params body scope dV kV doc pm an cdv ct), osl⟩) (cd : codeIn c.K cdv qual = true) (co : scope.isCoroutine = false) (gen : scope.isGenerator = false) (kind : scope.kind = .function) (chk : gJ (jF tc m (λ y => scope.names.lookup y)) fi.body body = true) (nd : fi.ps.Nodup) (lt : ∀ p ∈ fi.ps, p < c.N)
  (bind : ∀ (s : Shared) (vals : List Value), c.K.In s.heap -> vals.length <= fi.ps.length -> fi.ps.length <= vals.length + fi.dn.length ->
    ∃ dv, RL c c.h₀.get? fi.dn dv /\ BindsTo s (fnOf name qual params body scope dV kV doc pm an cdv ct) ⟨vals, []⟩ ((fi.ps.map c.nm).zip (vals ++ dv.drop (vals.length + dv.length - fi.ps.length))))
  (nc : ∀ x ∈ scope.names, x.2 ≠ .cell) (loc : ∀ p ∈ fi.ps, scope.names.lookup (c.nm p) = some .local) : FnOk tc f fi
 | cells (oc od osl name qual params body scope dV kV doc pm an cdv ct m) (lk : c.K.lookup f = some ⟨oc, od, .func (fnOf name qual params body scope dV kV doc pm an cdv ct), osl⟩) (cd : codeIn c.K cdv qual = true) (co : scope.isCoroutine = false) (gen : scope.isGenerator = false) (kind : scope.kind = .function) (chk : gJ (jF tc m (λ y => scope.names.lookup y)) fi.body body = true) (nd : fi.ps.Nodup) (lt : ∀ p ∈ fi.ps, p < c.N)
  (dn : fi.dn = []) (bind : ∀ vals : List Value, vals.length = fi.ps.length -> bindArgs (fnOf name qual params body scope dV kV doc pm an cdv ct) ⟨vals, []⟩ = pure ((fi.ps.map c.nm).zip vals))
  (loc : ∀ p ∈ fi.ps, scope.names.lookup (c.nm p) = some .local \/ scope.names.lookup (c.nm p) = some .cell) : FnOk tc f fi
structure TabOk (tc : Tc) : Prop where
 nm : tc.nm = c.nm
 N : tc.N = c.N
 base : BaseOk c
 fn : ∀ x f, tc.fnN x f = true -> nsIn c.K mainGlobals (c.nm x) = some (some (.ref f)) /\ keepIn c.K (.ref f) = true
 cl : ∀ x C, tc.clN x C = true -> nsIn c.K mainGlobals (c.nm x) = some (some (.ref C)) /\ keepIn c.K (.ref C) = true
 bl : ∀ s, tc.blN s = true -> nsIn c.K mainGlobals (Str.ofString s) = some none /\ ∃ v, bootBuiltins (Str.ofString s) = some v /\ blV s = some v /\ Str.ofString s ≠ "__name__"
 ty : ∀ x t, tc.tyN x t = true -> (nsIn c.K mainGlobals (c.nm x) = some (some (tyV t)) \/ (nsIn c.K mainGlobals (c.nm x) = some none /\ bootBuiltins (c.nm x) = some (tyV t) /\ c.nm x ≠ "__name__"))
 cls : ∀ C ci, c.tb.cls C = some ci -> ClsOk c C ci
 kit : ∀ t x k, (t < 3 \/ (c.tb.cls t).isSome = true) -> tc.tyN x k = true -> kitOne c.K (tyV t) (tyV k) = some (Nat.beq t k)
 due : ∀ b, ∃ p, Dat c.tb (.dom (.due b)) p /\ p.depth <= 5
 viewN : ∀ d, (∃ C fs, c.tb.view d = .node C fs) \/ (∃ xs, c.tb.view d = .tup xs) \/ ∃ xs, c.tb.view d = .lst xs
 fns : ∀ f fi, c.tb.fns f = some fi -> FnOk c tc f fi
 glb : ∀ x v, c.tb.glb x = some v -> ∃ u, nsIn c.K mainGlobals (c.nm x) = some (some u) /\ RF c c.h₀.get? v u
end
section
variable {c : Cx}
theorem AOk.le {n m : Nat} {A : Around} (h : AOk n A) (hm : m <= n) : AOk m A := ⟨h.1, by have := h.2.1; omega, by have := h.2.2; omega⟩
theorem AOk.deeper {n : Nat} {A : Around} {env : Env} (h : AOk (n + 1) A) : AOk n (A.deeper env) :=
 ⟨h.1, by show A.depth + 1 + n < _; have := h.2.1; omega, by show A.units + 3 + 12 * n < _; have := h.2.2; omega⟩
theorem AOk.depth {n : Nat} {A : Around} (h : AOk n A) : A.depth < recursionLimit := by have := h.2.1; omega
theorem WP.any {α : Type} {A : Around} {t : Sem α} {Q : α -> Shared -> Prop} {E : Value -> Shared -> Prop} {s : Shared} (h : WP c A t Q s) : wpAny (model c.prog c.w) A t Q E s := wpAny_mono h (λ _ _ x => x) λ _ _ x => x.elim
theorem Gd.next {α : Type} {X : Nat -> Prop} {k : Nat} {W W₁ : Wd} {x : Sx} {R : Wd -> α -> Prop} {Q : α -> Shared -> Prop} (h : Gd c X k W x R Q) {j : Nat} (e : Ext No j W W₁) (I : Inv c W₁) (hk : k <= j) : Gd c X k W₁ x R Q :=
 λ W' a tk e' I' r => h W' a tk (Ext.trans I (Nat.le_refl _) (e.weaken hk λ _ f => f.elim) e') I' r
theorem Gd.nextX {α : Type} {X : Nat -> Prop} {k : Nat} {W W₁ : Wd} {x : Sx} {R : Wd -> α -> Prop} {Q : α -> Shared -> Prop} (h : Gd c X k W x R Q) (e : Ext X k W W₁) (I : Inv c W₁) : Gd c X k W₁ x R Q :=
 λ W' a tk e' I' r => h W' a tk (Ext.trans I (Nat.le_refl _) e e') I' r
theorem iP {α β : Type} {X : Nat -> Prop} {k : Nat} {W W₁ : Wd} {x : Sx} {R : β -> Wd -> α -> Prop} {Q : α -> Shared -> Prop} {t : T β} (h : t.AllP λ r => Gd c X k W x (R r) Q) {j : Nat} (e : Ext No j W W₁) (I : Inv c W₁) (hk : k <= j) :
  t.AllP λ r => Gd c X k W₁ x (R r) Q := T.AllP_mono (λ _ g => g.next e I hk) h
theorem cY {α β : Type} {X : Nat -> Prop} {k : Nat} {W W₁ : Wd} {x : Sx} {R : β -> Wd -> α -> Prop} {Q : α -> Shared -> Prop} {t : T β} (h : t.AllP λ r => Gd c X k W x (R r) Q) (e : Ext X k W W₁) (I : Inv c W₁) :
  t.AllP λ r => Gd c X k W₁ x (R r) Q := T.AllP_mono (λ _ g => g.nextX e I) h
theorem Ext.lenLe {X : Nat -> Prop} {k : Nat} {W W' : Wd} (e : Ext X k W W') (hk : k <= W.ρ.length) : k <= W'.ρ.length := by
 cases k with
 | zero => exact Nat.zero_le _
 | succ k =>
  obtain ⟨p, hp⟩ := gX (l := W.ρ) (i := k) hk
  exact bQ (e.rho k p (Nat.lt_succ_self _) hp)
variable {tc : Tc} {ev : Ev} {n : Nat}
theorem Sound.useE (S : Sound c tc ev n) {α β : Type} {A : Around} {env : Env} {vs : Vs} {W : Wd} {x : Sx} {t : Nat} {ie : IExpr} {e : Expr} {m k₀ : Nat} {X : Nat -> Prop} {R : β -> Wd -> α -> Prop} {Q₀ : α -> Shared -> Prop} {k : PV × Hp -> T β} {Q : Value -> Shared -> Prop}
  (hA : AOk n A) (hc : aW tc m env.kindOf ie e = true) (F : FrameOk c env vs W) (I : Inv c W) (hk : k₀ <= W.ρ.length)
  (h : ((ev.e ie vs W.H).bind k).AllP λ r => Gd c X k₀ W x (R r) Q₀)
  (rest : ∀ W₁ p v tk, Ext No W.ρ.length W W₁ -> Inv c W₁ -> FrameOk c env vs W₁ -> RP c W₁.G W₁.ρ p v -> k₀ <= W₁.ρ.length -> (k (p, W₁.H)).AllP (λ r => Gd c X k₀ W₁ x (R r) Q₀) -> Q v (mkS x W₁.h tk)) :
  WP c A (eval e env) Q (mkS x W.h t) := by
 refine S.e hA hc F I (T.AllP_mono (λ r hr => ?_) (T.AllP_bind h))
 intro W₁ v tk e1 I1 ⟨hH, hv⟩
 refine rest W₁ r.1 v tk e1 I1 (F.keepNo e1) hv (Nat.le_trans hk (e1.lenLe (Nat.le_refl _))) ?_
 have : (r.1, W₁.H) = r := by rw [hH]
 rw [this]
 exact iP hr e1 I1 hk
theorem Sound.useT (S : Sound c tc ev n) {α β : Type} {A : Around} {env : Env} {vs : Vs} {W : Wd} {x : Sx} {t : Nat} {ie : IExpr} {e : Expr} {m k₀ : Nat} {X : Nat -> Prop} {R : β -> Wd -> α -> Prop} {Q₀ : α -> Shared -> Prop} {k : Bool × Hp -> T β} {Q : Bool -> Shared -> Prop}
  (hA : AOk n A) (hc : aW tc m env.kindOf ie e = true) (F : FrameOk c env vs W) (I : Inv c W) (hk : k₀ <= W.ρ.length)
  (h : ((ev.t ie vs W.H).bind k).AllP λ r => Gd c X k₀ W x (R r) Q₀)
  (rest : ∀ W₁ b tk, Ext No W.ρ.length W W₁ -> Inv c W₁ -> FrameOk c env vs W₁ -> k₀ <= W₁.ρ.length -> (k (b, W₁.H)).AllP (λ r => Gd c X k₀ W₁ x (R r) Q₀) -> Q b (mkS x W₁.h tk)) :
  WP c A (isTrue e env (eval e env)) Q (mkS x W.h t) := by
 refine S.t hA hc F I (T.AllP_mono (λ r hr => ?_) (T.AllP_bind h))
 rintro W₁ b tk e1 I1 ⟨hH, rfl⟩
 refine rest W₁ r.1 tk e1 I1 (F.keepNo e1) (Nat.le_trans hk (e1.lenLe (Nat.le_refl _))) ?_
 have : (r.1, W₁.H) = r := by rw [hH]
 rw [this]
 exact iP hr e1 I1 hk
theorem Sound.useCode (S : Sound c tc ev n) {α β : Type} {A : Around} {W : Wd} {x : Sx} {t : Nat} {f : Nat} {as : List PV} {vals : List Value} {k₀ : Nat} {X : Nat -> Prop} {R : β -> Wd -> α -> Prop} {Q₀ : α -> Shared -> Prop} {k : PV × Hp -> T β} {Q : Result -> Shared -> Prop}
  (hA : AOk n A) (hr : RPs c W.G W.ρ as vals) (I : Inv c W) (hk : k₀ <= W.ρ.length)
  (h : ((ev.c f as W.H).bind k).AllP λ r => Gd c X k₀ W x (R r) Q₀)
  (rest : ∀ W₁ p v tk, Ext No W.ρ.length W W₁ -> Inv c W₁ -> RP c W₁.G W₁.ρ p v -> k₀ <= W₁.ρ.length -> (k (p, W₁.H)).AllP (λ r => Gd c X k₀ W₁ x (R r) Q₀) -> Q (.ok (.ret v)) (mkS x W₁.h tk)) :
  codeAny (model c.prog c.w) A (.call (.ref f) ⟨vals, []⟩) Q (mkS x W.h t) := by
 refine S.c hA hr I (T.AllP_mono (λ r hr' => ?_) (T.AllP_bind h))
 intro W₁ v tk e1 I1 ⟨hH, hv⟩
 refine rest W₁ r.1 v tk e1 I1 hv (Nat.le_trans hk (e1.lenLe (Nat.le_refl _))) ?_
 have : (r.1, W₁.H) = r := by rw [hH]
 rw [this]
 exact iP hr' e1 I1 hk
theorem Sound.callV (S : Sound c tc ev n) {A : Around} {W : Wd} {x : Sx} {t : Nat} {f : Nat} {as : List PV} {vals : List Value} {Q : Value -> Shared -> Prop}
  (hA : AOk n A) (hr : RPs c W.G W.ρ as vals) (I : Inv c W) (h : (ev.c f as W.H).AllP λ r => Gd c No W.ρ.length W x (RE c r) Q) : WP c A (PySem.call (.ref f) vals) Q (mkS x W.h t) :=
 wpAny_call (S.c hA hr I h)
theorem Gd.here {p : PV} {W : Wd} {x : Sx} {k tk : Nat} {X : Nat -> Prop} {v : Value} {Q : Value -> Shared -> Prop} (h : (T.ret (p, W.H)).AllP λ r => Gd c X k W x (RE c r) Q) (I : Inv c W) (r : RP c W.G W.ρ p v) : Q v (mkS x W.h tk) :=
 h W v tk (Ext.refl ..) I ⟨rfl, r⟩
theorem Inv.keeps {W : Wd} (I : Inv c W) : ∀ b o, c.h₀.get? b = some o -> W.h.get? b = some o := λ b o e => I.sub _ _ (I.base _ _ e)
theorem TabOk.inK (B : TabOk c tc) {W : Wd} (I : Inv c W) : c.K.In W.h := B.base.inK.keeps I.keeps
theorem TabOk.nol (B : TabOk c tc) {W : Wd} (I : Inv c W) : W.h.NoLimit := B.base.nolimit.keeps I.keeps
theorem iF {A : Around} {env : Env} {vs : Vs} {W : Wd} {x : Sx} {t : Nat} {id : Str} {pos : Pos} {u : Value} {Q : Value -> Shared -> Prop} (B : TabOk c tc) (F : FrameOk c env vs W) (I : Inv c W)
  (hn : nsIn c.K mainGlobals id = some (some u)) (hk : env.kindOf id = some .globalImplicit) (hd : (id == ("__debug__" : Str)) = false) (h : Q u (mkS x W.h t)) : WP c A (eval (.Name id pos) env) Q (mkS x W.h t) :=
 Calls.Name_function_global F.kind hk (Calls.loadGlobal_global (env := env) (by rw [F.glob]; exact B.base.g.keeps I.keeps) (mg_of B.base.inK B.base.g hn) h) hd
theorem zD {A : Around} {env : Env} {vs : Vs} {W : Wd} {x : Sx} {t : Nat} {id : Str} {pos : Pos} {u : Value} {Q : Value -> Shared -> Prop} (B : TabOk c tc) (F : FrameOk c env vs W) (I : Inv c W)
  (hn : nsIn c.K mainGlobals id = some none) (hb : bootBuiltins id = some u) (hne : id ≠ "__name__") (hk : env.kindOf id = some .globalImplicit) (hd : (id == ("__debug__" : Str)) = false) (h : Q u (mkS x W.h t)) : WP c A (eval (.Name id pos) env) Q (mkS x W.h t) :=
 Calls.Name_function_global F.kind hk (Calls.loadGlobal_builtin (env := env) (by rw [F.glob]; exact B.base.g.keeps I.keeps) (mg_none_of B.base.inK B.base.g hn) (by rw [F.blt]; exact B.base.b.keeps I.keeps) ((B.base.blt _ hne).trans hb) h) hd
theorem u7 {A : Around} {env : Env} {vs : Vs} {W : Wd} {x : Sx} {t : Nat} {y : Nat} {p : PV} {Q : Value -> Shared -> Prop} (F : FrameOk c env vs W) (hl : look vs y = some p) (hk : J5 (env.kindOf (c.nm y)) = true) (hd : (c.nm y == ("__classdict__" : Str)) = false)
  (h : ∀ v, RP c W.G W.ρ p v -> Q v (mkS x W.h t)) : WP c A (loadName env (c.nm y)) Q (mkS x W.h t) := by
 unfold J5 at hk
 simp only [Bool.or_eq_true, beq_iff_eq] at hk
 rcases hk with (hk | hk) | hk
 ·obtain ⟨m, hn, hm⟩ := F.ns
  obtain ⟨v, hv, r⟩ := hm y p hl hk
  exact wpAny_loadName_local F.kind hk hn hv (h v r)
 ·obtain ⟨a, v, ha, hc, r⟩ := F.cell y p hl (.inl hk)
  exact wpAny_loadName_cell F.kind hk ha hc (h v r)
 ·obtain ⟨a, v, ha, hc, r⟩ := F.cell y p hl (.inr hk)
  exact wpAny_loadName_free F.kind hk ha hc (h v r) hd
end
end
section
open PySem PySem.W PyProof.Rows
theorem T.bind_assoc {α β γ : Type} (f : α -> T β) (g : β -> T γ) : ∀ t : T α, (t.bind f).bind g = t.bind λ a => (f a).bind g
 | .ret _ => rfl
 | .fail => rfl
 | .take n k => congrArg (T.take n) (funext λ d => T.bind_assoc f g (k d))
 | .pick p k => congrArg (T.pick p) (funext λ d => T.bind_assoc f g (k d))
 | .need p k => congrArg (T.need p) (T.bind_assoc f g k)
section
variable {c : Cx} {tc : Tc} {ev : Ev} {n : Nat}
theorem aX {e : Expr} {rest : List Expr} {env : Env} (h : aA e = true) : starEach (e :: rest) env = (false, eval e env) :: starEach rest env := by
 unfold aA at h
 unfold exA at h
 refine aN (P := λ e => starEach (e :: rest) env = (false, eval e env) :: starEach rest env) h ?_ ?_ ?_ ?_ ?_ ?_ ?_ ?_ ?_ ?_ ?_ ?_ ?_ ?_ <;> intros <;> rfl
theorem fV {pos : Pos} {env : Env} : ∀ {l : List Expr}, l.all aA = true -> (backTo pos (starEach l env)).any (·.1) = false
 | [], _ => rfl
 | e :: r, h => by
  rw [List.all_cons, Bool.and_eq_true] at h
  rw [aX h.1]
  exact (Bool.false_or _).trans (fV h.2)
theorem uI {pos : Pos} {env : Env} : ∀ {l : List Expr}, l.all aA = true -> (backTo pos (starEach l env)).all (λ x => !x.1) = true
 | [], _ => rfl
 | e :: r, h => by
  rw [List.all_cons, Bool.and_eq_true] at h
  rw [aX h.1]
  exact (Bool.true_and _).trans (uI h.2)
abbrev bC {α β : Type} (c : Cx) (X : Nat -> Prop) (k₀ : Nat) (W : Wd) (x : Sx) (R : β -> Wd -> α -> Prop) (Q₀ : α -> Shared -> Prop) (t : T β) : Prop := t.AllP λ r => Gd c X k₀ W x (R r) Q₀
theorem Sound.spl (S : Sound c tc ev n) {α β : Type} {A : Around} {env : Env} {vs : Vs} {x : Sx} {pos : Pos} {m k₀ : Nat} {X : Nat -> Prop} {R : β -> Wd -> α -> Prop} {Q₀ : α -> Shared -> Prop} (hA : AOk n A) :
  ∀ {is : List IExpr} {es : List Expr} {W : Wd} {t : Nat} {k : List PV × Hp -> T β} {Q : List Value -> Shared -> Prop}, all2 (aW tc m env.kindOf) is es = true -> es.all aA = true -> FrameOk c env vs W -> Inv c W -> k₀ <= W.ρ.length ->
  bC c X k₀ W x R Q₀ ((iR (λ e H => ev.e e vs H) is W.H).bind k) ->
  (∀ W₁ ps vals tk, Ext No W.ρ.length W W₁ -> Inv c W₁ -> FrameOk c env vs W₁ -> RPs c W₁.G W₁.ρ ps vals -> k₀ <= W₁.ρ.length -> bC c X k₀ W₁ x R Q₀ (k (ps, W₁.H)) -> Q vals (mkS x W₁.h tk)) ->
  WP c A (spliced (backTo pos (starEach es env))) Q (mkS x W.h t)
 | [], [], W, t, k, Q, _, _, F, I, hk, h, rest => spliced_none (rest W [] [] t (Ext.refl ..) I F .nil hk h)
 | [], _ :: _, _, _, _, _, hc, _, _, _, _, _, _ => by cases hc
 | _ :: _, [], _, _, _, _, hc, _, _, _, _, _, _ => by cases hc
 | i :: is, e :: es, W, t, k, Q, hc, hs, F, I, hk, h, rest => by
  have hc' : (aW tc m env.kindOf i e && all2 (aW tc m env.kindOf) is es) = true := hc
  rw [Bool.and_eq_true] at hc'
  rw [List.all_cons, Bool.and_eq_true] at hs
  refine spliced_more ?_ (aX hs.1)
  have h' : bC c X k₀ W x R Q₀ ((ev.e i vs W.H).bind λ a => ((iR (λ e H => ev.e e vs H) is a.2).bind λ b => T.ret (a.1 :: b.1, b.2)).bind k) := by
   have := h
   simp only [qN] at this
   rw [T.bind_assoc] at this
   exact this
  refine S.useE hA hc'.1 F I hk h' ?_
  intro W₁ p v tk e1 I1 F1 r1 hk1 h1
  rw [T.bind_assoc] at h1
  refine Sound.spl S hA hc'.2 hs.2 F1 I1 hk1 h1 ?_
  intro W₂ ps vals tk2 e2 I2 F2 rc hk2 h2
  exact rest W₂ (p :: ps) (v :: vals) tk2 (Ext.trans I1 (e1.lenLe (Nat.le_refl _)) e1 e2) I2 F2 (.cons (e2.rp r1) rc) hk2 h2
noncomputable def SE (c : Cx) (tc : Tc) (ct : Ctr) (ev : Ev) (n : Nat) (ie : IExpr) : Prop := ∀ {A : Around} {env : Env} {vs : Vs} {W : Wd} {x : Sx} {t : Nat} {e : Expr} {m : Nat} {Q : Value -> Shared -> Prop}, AOk (n + 1) A -> BJ tc (aW tc m) env.kindOf ie e = true -> FrameOk c env vs W -> Inv c W ->
 bC c No W.ρ.length W x (RE c) Q (K0 c.tb ct ev ie vs W.H) -> WP c A (eval e env) Q (mkS x W.h t)
variable {ct : Ctr}
theorem vL {cs : List Nat} {k : Const} (h : BL (.str cs) k = true) : k = .str (aC cs) /\ okS cs = true := by
 cases k with
 | str s => exact ⟨congrArg Const.str (beq_iff_eq.mp (bl (bl h))), br h⟩
 | _ => exact ff h
theorem FC {i : Int} {k : Const} (h : BL (.int i) k = true) : k = .int i := by
 cases k with
 | int j => exact congrArg Const.int (of_decide_eq_true (bl h)).symm
 | _ => exact ff h
theorem BK {b : Bool} {k : Const} (h : BL (.bool b) k = true) : k = .bool b := by
 cases k with
 | bool j => exact congrArg Const.bool (beq_iff_eq.mp h).symm
 | _ => exact ff h
theorem FB {k : Const} (h : BL .non k = true) : k = .none := by
 cases k with
 | none => rfl
 | _ => exact ff h
theorem NB {v : FV} : SE c tc ct ev n (.cst v) := by
 intro A env vs W x t e m Q hA hc F I h
 refine uB (P := λ e => WP c A (eval e env) Q (mkS x W.h t)) (g := BL v) hc λ k _ _ hc => ?_
 have h' : bC c No W.ρ.length W x (RE c) Q (.ret (.f v, W.H)) := h
 cases v with
 | non =>
  rw [FB hc]
  exact λ _ _ _ => Gd.here h' I (.f .non)
 | bool b =>
  rw [BK hc]
  exact λ _ _ _ => Gd.here h' I (.f (.bool _))
 | int i =>
  rw [FC hc]
  exact λ _ _ _ => Gd.here (tk := t + 1) h' I (.f (.int _ t))
 | str cs =>
  rw [(vL hc).1]
  exact λ _ _ _ => Gd.here (tk := t + 1) h' I (.f (.str _ t (vL hc).2))
 | _ => exact ff hc
theorem eA {a b : Str} (h : (a != b) = true) : (a == b) = false := by
 have : (!(a == b)) = true := h
 simpa using this
theorem TabOk.id (B : TabOk c tc) {id : Str} {y : Nat} (h : (id == tc.nm y) = true) : id = c.nm y := (beq_iff_eq.mp h).trans (congrFun B.nm y)
theorem TabOk.lt (B : TabOk c tc) {y : Nat} (h : decide (y < tc.N) = true) : y < c.N := Nat.lt_of_lt_of_eq (of_decide_eq_true h) B.N
theorem MX {y : Nat} (B : TabOk c tc) : SE c tc ct ev n (.var y) := by
 intro A env vs W x t e m Q hA hc F I h
 refine dW (P := λ e => WP c A (eval e env) Q (mkS x W.h t)) hc λ id pos hc => ?_
 cases B.id (bl (bl (bl (bl hc))))
 refine oBE h λ p hl h => ?_
 exact wpAny_Name (u7 F hl (br (bl (bl (bl hc)))) (eA (br hc)) λ v r => Gd.here h I r) (eA (br (bl hc)))
theorem iM {env : Env} {id : Str} (h : BI (env.kindOf id) = true) : env.kindOf id = some .globalImplicit := beq_iff_eq.mp h
theorem M9 {y : Nat} (B : TabOk c tc) : SE c tc ct ev n (.glo y) := by
 intro A env vs W x t e m Q hA hc F I h
 refine dW (P := λ e => WP c A (eval e env) Q (mkS x W.h t)) hc λ id pos hc => ?_
 cases B.id (bl (bl hc))
 refine oBE h λ p hl h => ?_
 obtain ⟨u, hu, r⟩ := B.glb y p hl
 exact iF B F I hu (iM (br (bl hc))) (eA (br hc)) (Gd.here h I (.f (r.mono λ a o e => I.base a o e)))
end
section
variable {c : Cx} {tc : Tc} {ev : Ev} {n : Nat}
theorem RFs.ind {G : Gh} {m : Addr -> List (Nat × FV) -> List DictEntry -> Prop} (h1 : ∀ {C}, m C [] []) (h2 : ∀ {C k x hsh t v fs es}, k < c.N -> tE c.K C (c.nm k) = true -> RF c G x v -> RFs c G C fs es -> m C fs es -> m C ((k, x) :: fs) (⟨hsh, .str (c.nm k) t, v⟩ :: es)) {C : Addr} {fs : List (Nat × FV)} {es : List DictEntry} (h : RFs c G C fs es) : m C fs es :=
 RFs.rec (motive_1 := λ _ _ _ => True) (motive_2 := λ _ _ _ => True) (motive_3 := λ C fs es _ => m C fs es) (motive_4 := λ _ _ _ => True) (motive_5 := λ _ _ _ => True) trivial (λ _ => trivial) (λ _ _ => trivial) (λ _ _ _ => trivial) (λ _ _ _ _ _ => trivial) (λ _ _ _ _ _ => trivial) (λ _ _ => trivial) (λ _ _ _ _ => trivial)
  (λ _ _ _ _ _ => trivial) (λ _ _ _ _ _ => trivial) (λ _ _ => trivial) (λ _ _ => trivial) trivial (λ _ _ _ _ => trivial) h1 (λ a b d e _ r => h2 a b d e r) trivial (λ _ _ _ _ => trivial) trivial (λ _ _ _ _ => trivial) h
theorem RFs.toP {G : Gh} {ρ : List (Nat × Nat)} {C : Addr} {fs : List (Nat × FV)} {es : List DictEntry} (h : RFs c G C fs es) : RPf c G ρ C (fs.map λ p => (p.1, PV.f p.2)) es := RFs.ind (m := λ C fs es => RPf c G ρ C (fs.map λ p : Nat × FV => (p.1, PV.f p.2)) es) .nil (λ a b d _ e => .cons a b (.f d) e) h
theorem u5 {α β : Type} (f : α -> β) (a : Nat) : ∀ l : List (Nat × α), look (l.map λ p => (p.1, f p.2)) a = (look l a).map f
 | [] => rfl
 | p :: r => by
  rw [List.map_cons, bJ, bJ]
  by_cases q : p.1 = a
  ·rw [if_pos q, if_pos q]; rfl
  ·rw [if_neg q, if_neg q]; exact u5 f a r
theorem iI (s t : Str) (u : Tok) : (Value.str s u).isStr t = (s == t) := rfl
theorem RPf.get {G : Gh} {ρ : List (Nat × Nat)} (B : BaseOk c) {a : Nat} (ha : a < c.N) {C : Addr} {fs : List (Nat × PV)} {es : List DictEntry} {q : PV} (r : RPf c G ρ C fs es) (h : look fs a = some q) :
  ∃ e u, es.find? (λ e => e.key.isStr (c.nm a)) = some e /\ e.val = u /\ RP c G ρ q u /\ tE c.K C (c.nm a) = true := by
 induction r with
 | nil => cases h
 | @cons k y hsh t v fs es hk hf hr r ih =>
  rw [bJ] at h
  rw [List.find?_cons]
  by_cases e : k = a
  ·rw [if_pos e] at h; cases h; subst e
   exact ⟨⟨hsh, .str (c.nm k) t, v⟩, v, by simp only [iI, beq_self_eq_true], rfl, hr, hf⟩
  ·rw [if_neg e] at h
   have ne : (c.nm k == c.nm a) = false := Bool.eq_false_iff.mpr λ z => e (B.inj k a hk ha (beq_iff_eq.mp z))
   have z := ih h
   simp only [iI, ne]
   exact z
theorem rD {K : Frag} {C : Addr} {name : Str} (h : tE K C name = true) : hasDictIn K C = true /\ plainGet K C name = true /\ findIn K (.ref C) name = some none := by
 unfold tE at h
 simp only [Bool.and_eq_true, beq_iff_eq] at h
 exact ⟨h.1.1, h.1.2, h.2⟩
theorem RPf.noKey {G : Gh} {ρ : List (Nat × Nat)} {name : Str} {C : Addr} {fs : List (Nat × PV)} {es : List DictEntry} (r : RPf c G ρ C fs es) (h : findIn c.K (.ref C) name ≠ some none) : es.find? (λ e => e.key.isStr name) = none := by
 induction r with
 | nil => rfl
 | @cons k y hsh t v fs es hk hf hr r ih =>
  rw [List.find?_cons]
  have ne : (c.nm k == name) = false := Bool.eq_false_iff.mpr λ z => h (beq_iff_eq.mp z ▸ (rD hf).2.2)
  simp only [iI, ne]
  exact ih
theorem RPf.noRef {G : Gh} {ρ : List (Nat × Nat)} {C : Addr} {fs : List (Nat × PV)} {es : List DictEntry} (r : RPf c G ρ C fs es) : es.any (·.refKey) = false := r.rec (motive := λ _ es _ => es.any (·.refKey) = false) rfl (λ _ _ _ _ ih => ih)
theorem RPf.len {G : Gh} {ρ : List (Nat × Nat)} {C : Addr} {fs : List (Nat × PV)} {es : List DictEntry} (r : RPf c G ρ C fs es) : es.length = fs.length := r.rec (motive := λ fs es _ => es.length = fs.length) rfl (λ _ _ _ _ r => congrArg (· + 1) r)
theorem RF.handed {G : Gh} {x : FV} {v : Value} (h : RF c G x v) : handedIn v = true :=
 RF.rec (motive_1 := λ _ v _ => handedIn v = true) (motive_2 := λ _ _ _ => True) (motive_3 := λ _ _ _ _ => True) (motive_4 := λ _ _ _ => True) (motive_5 := λ _ _ _ => True) rfl (λ _ => rfl) (λ _ _ => rfl) (λ _ _ _ => rfl) (λ _ _ _ _ _ => rfl) (λ _ _ _ _ _ => rfl) (λ _ _ => rfl) (λ _ _ _ _ => rfl)
  (λ _ _ _ _ _ => rfl) (λ _ _ _ _ _ => rfl) (λ _ _ => rfl) (λ _ h => h) trivial (λ _ _ _ _ => trivial) trivial (λ _ _ _ _ _ _ => trivial) trivial (λ _ _ _ _ => trivial) trivial (λ _ _ _ _ => trivial) h
variable (c) in
def F8 (W : Wd) (v : Value) (C : Nat) (fs : List (Nat × PV)) : Prop := ∃ x dx es n, v = .ref x /\ W.h.get? x = some (instObj C dx) /\ W.h.get? dx = some (dictOf es n) /\ RPf c W.G W.ρ C fs es
theorem D7 {W : Wd} (I : Inv c W) {p : PV} {v : Value} {z : Nat × (Nat -> Option PV)} (r : RP c W.G W.ρ p v) (h : IB c.tb W.H p = some z) : ∃ fs, F8 c W v z.1 fs /\ z.2 = look fs := by
 have r' := r.nrm I
 unfold IB at h
 generalize nrm W.H p = q at h r'
 cases q with
 | ref i =>
  refine oOE h λ ao hi h => oOE h λ y hy h => ?_
  refine RP.refE r' λ pp e => ?_
  cases h
  cases jJ hy
  obtain ⟨es, n, a, b, d, _⟩ := I.at hi e
  exact ⟨y.2, ⟨_, _, _, _, rfl, a, b, d⟩, rfl⟩
 | f x =>
  refine oOE h λ y hy h => ?_
  cases h
  have e' := r'.fE.fvw
  rw [yJ hy] at e'
  exact RF.nodeE e' λ x dx es n a b d => ⟨_, ⟨_, _, _, _, rfl, I.sub _ _ a, I.sub _ _ b, RFs.toP d⟩, funext λ s => (u5 PV.f s y.2).symm⟩
theorem IA {W : Wd} (I : Inv c W) {p : PV} {v : Value} {C : Nat} (r : RP c W.G W.ρ p v) (h : LO c.tb W.H p = some C) : ∃ fs, F8 c W v C fs /\ ∀ a, EF c.tb W.H p a = look fs a := by
 refine oOE h λ z hz h => ?_
 cases h
 obtain ⟨fs, h1, h2⟩ := D7 I r hz
 refine ⟨fs, h1, λ a => ?_⟩
 unfold EF
 rw [hz]
 exact congrFun h2 a
theorem j4 {W : Wd} {x dx C : Nat} {es : List DictEntry} {n : Nat} (a : W.h.get? x = some (instObj C dx)) (b : W.h.get? dx = some (dictOf es n)) : InstAt W.h x (instObj C dx) C (some (dictOf es n)) :=
 ⟨a, rfl, rfl, b⟩
theorem DR {es : List DictEntry} {n : Nat} {name : Str} {e : DictEntry} (h : es.find? (λ e => e.key.isStr name) = some e) : lookIn name (dictOf es n) = some (some e.val) := by
 unfold lookIn dictOf
 dsimp only
 rw [h]
theorem HU {es : List DictEntry} {n : Nat} {name : Str} (h : es.find? (λ e => e.key.isStr name) = none) (h' : es.any (·.refKey) = false) : lookIn name (dictOf es n) = some none := by
 unfold lookIn dictOf
 dsimp only
 rw [h, h']
 rfl
theorem FQ {W : Wd} {A : Around} {x : Sx} {t : Nat} {ex : Bool} {p q : PV} {v : Value} {a : Nat} {Q : Value -> Shared -> Prop} (B : TabOk c tc) (I : Inv c W) (r : RP c W.G W.ρ p v) (h : EF c.tb W.H p a = some q) (ha : a < c.N)
  (k : ∀ u tk, RP c W.G W.ρ q u -> Q u (mkS x W.h tk)) : WP c A (getAttr v (c.nm a) ex) Q (mkS x W.h t) := by
 refine oOE h λ z hz h => ?_
 obtain ⟨fs, ⟨y, dy, es, n, rfl, h1, h2, h3⟩, h4⟩ := D7 I r hz
 obtain ⟨e, u, h5, rfl, h6, h7⟩ := h3.get B.base ha ((congrFun h4 a).symm.trans h)
 obtain ⟨d1, d2, d3⟩ := rD h7
 refine PySem.W.get_value (K := c.K) (v := e.val) (B.inK I) (j4 h1 h2) (plainGet_of d2).1 (findObj_own d1 d3 rfl (DR h5)) ?_ (k _ _ h6)
 ·generalize e.val = u at h6
  cases h6 with
  | ref _ => rfl
  | f z => exact z.handed
end
section
variable {c : Cx} {tc : Tc} {ev : Ev} {n : Nat}
theorem RPf.put {G : Gh} {ρ : List (Nat × Nat)} (B : BaseOk c) {a : Nat} (ha : a < c.N) {q : PV} {u : Value} {hsh : Int} {t : Tok} {C : Addr} {fs : List (Nat × PV)} {es : List DictEntry} (hf : tE c.K C (c.nm a) = true) (hq : RP c G ρ q u) (r : RPf c G ρ C fs es) :
  RPf c G ρ C (Mine.put fs a q) (putL (c.nm a) hsh (.str (c.nm a) t) u es) := by
 induction r with
 | nil => exact .cons ha hf hq .nil
 | @cons k y h' t' v fs es hk hf' hr r ih =>
  rw [mV]
  show RPf c G ρ C _ (if (Value.str (c.nm k) t').isStr (c.nm a) then _ else _)
  rw [iI]
  by_cases e : k = a
  ·subst e
   rw [if_pos rfl, if_pos (beq_self_eq_true _)]
   exact .cons ha hf hq r
  ·rw [if_neg e, if_neg (λ z => e (B.inj k a hk ha (beq_iff_eq.mp z)))]
   exact .cons hk hf' hr ih
theorem y9 {α : Type} (a : Nat) (v : α) : ∀ l : List (Nat × α), (put l a v).length <= l.length + 1
 | [] => Nat.le_refl _
 | p :: r => by
  rw [mV]
  split
  ·exact Nat.le_succ _
  ·exact Nat.succ_le_succ (y9 a v r)
theorem v6 {W : Wd} {A : Around} {x : Sx} {t : Nat} {p q : PV} {v u : Value} {a k₀ : Nat} {X : Nat -> Prop} {H' : Hp} {Q : Unit -> Shared -> Prop} (B : TabOk c tc) (I : Inv c W) (r : RP c W.G W.ρ p v) (rq : RP c W.G W.ρ q u) (h : G3 c.tb W.H p a q = some H')
  (k : ∀ W₁ tk, Ext X k₀ W W₁ -> Inv c W₁ -> W₁.H = H' -> W₁.G = W.G -> W₁.ρ = W.ρ -> Q () (mkS x W₁.h tk)) : WP c A (setAttr v (c.nm a) u) Q (mkS x W.h t) := by
 refine oOE h λ i hp h => oOE h λ ao hi h => oOE h λ z hz h => oOE h λ ci hci h => ?_
 have hfa := (gOE h).1
 have hlen := (gOE (gOE h).2).1
 have h := (gOE (gOE h).2).2
 cases h
 cases eE hp
 cases jJ hz
 have K := B.cls z.1 ci hci
 obtain ⟨ha, hf, ht⟩ := K.fld a hfa
 refine RP.refE r λ pp e => ?_
 obtain ⟨es, n0, h1, h2, h3, h4⟩ := I.at hi e
 obtain ⟨y, dy⟩ := pp
 dsimp only at h1 h2
 have X' := B.inK I
 have h5 : y ≠ dy := I.two i z.1 z.2 _ hi e
 refine set_plain X' (j4 h1 h2) K.hset (osa_open X' (j4 h1 h2) K.over ht λ b => ?_)
 obtain ⟨cd, hc, hd'⟩ := any_some K.hdct
 let f : Obj -> Obj := Obj.putName (c.nm a) (PyData.keyHash c.w.params (c.nm a)) (.str (c.nm a) (t + 1)) u
 have e' : f (dictOf es n0) = dictOf (putL (c.nm a) (PyData.keyHash c.w.params (c.nm a)) (.str (c.nm a) (t + 1)) u es) (putN (c.nm a) es n0) := putName_dict ..
 have l1 := y9 a q z.2
 have l2 := aM.mp hlen
 have D' : (W.h.update dy f).get? dy = some (dictOf (putL (c.nm a) (PyData.keyHash c.w.params (c.nm a)) (.str (c.nm a) (t + 1)) u es) (putN (c.nm a) es n0)) := e' ▸ Heap.get?_update_self _ h2 (by rw [e']; rfl)
 have R' : RPf c W.G W.ρ z.1 (Mine.put z.2 a q) (putL (c.nm a) (PyData.keyHash c.w.params (c.nm a)) (.str (c.nm a) (t + 1)) u es) := RPf.put B.base ha hf rq h3
 have l3 := R'.len
 have kp : ∀ b o, b ∉ fpA (.inst z.1 z.2) (y, dy) -> W.h.get? b = some o -> (W.h.update dy f).get? b = some o := λ b o hb ho =>
  (Heap.get?_update_ne _ _ _ _ λ z => hb (by have z' : b = dy := z; rw [z']; exact .tail _ (.head _))).trans ho
 have J := Inv.turn (ao' := .inst z.1 (Mine.put z.2 a q)) I hi e kp (λ _ hb => hb) (λ _ _ _ => h5)
  (.inst ((Heap.get?_update_ne _ _ _ _ h5).trans h1) D' R' (by omega))
 have Z := Ext.turn (X := X) (n := k₀) (ao' := .inst z.1 (Mine.put z.2 a q)) hi e kp (λ _ hb => hb) (λ b hb => by
  rcases List.mem_cons.mp hb with z | hb
  ·rw [z]; exact ⟨_, (Heap.get?_update_ne _ _ _ _ h5).trans h1⟩
  ·rw [List.mem_singleton.mp hb]; exact ⟨_, D'⟩)
 refine wpAny_bind (wpAny_pure (wpAny_bind (wpAny_bind (wpAny_loadPart h1 (wpAny_bind ((looks_clsIn X' hc).here ?_))))))
 rw [hd']
 refine wpAny_pure (a := some dy) (wpAny_bind (wpAny_pure (wpAny_bind ?_)))
 unfold nsSet
 refine wpAny_bind (wpAny_bind (wpAny_askSetting (wpAny_pure (wpAny_bind (wpAny_mkText (wpAny_bind (wpAny_loadPart h2 ?_)))))))
 dsimp only
 have cc : (!es.toArray.any (·.key.isStr (c.nm a)) && es.toArray.any (·.refKey)) = false := by
  rw [← Array.any_toList, ← Array.any_toList, h3.noRef, Bool.and_false]
 rw [aRefKeyMayBeTheName_at, cc]
 refine wpAny_updatePart h2 (wpAny_bind (wpAny_lookBehind D' (pastItsLine_dict (by rw [List.size_toArray, sizeLine_eq]; omega)) (wpAny_pure ?_)))
 exact k _ _ Z J rfl rfl rfl
theorem lS {v : Expr} {b : Str} {env : Env} {t : Sem Value} (h : c8 v = true) : attributeBase v b env t = t := by
 unfold c8 at h
 unfold exA at h
 refine aN (P := λ v => attributeBase v b env t = t) h ?_ ?_ ?_ ?_ ?_ ?_ ?_ ?_ ?_ ?_ ?_ ?_ ?_ ?_ <;> intros <;> first | rfl | exact ff ‹_›
variable {ct : Ctr}
theorem HB {o : IExpr} {a : Nat} (B : TabOk c tc) (S : Sound c tc ev n) : SE c tc ct ev n (.attr o a) := by
 intro A env vs W x t e m Q hA hc F I h
 refine uD (P := λ e => WP c A (eval e env) Q (mkS x W.h t)) hc λ v b pos hc => ?_
 cases B.id (bl (bl (bl hc)))
 rw [arm_eval_Attribute, lS (br hc)]
 refine wpAny_bind (S.useE (hA.le (Nat.le_succ _)) (br (bl hc)) F I (Nat.le_refl _) h λ W₁ p u tk e1 I1 F1 r1 hk1 h1 => ?_)
 refine wpAny_bind (wpAny_standAt (wpAny_bind (wpAny_holding ?_)))
 refine oBE h1 λ q hq h1 => ?_
 exact FQ B I1 r1 hq (B.lt (br (bl (bl hc)))) λ u' tk' r' => wpAny_bind (wpAny_letTemporaryGo (wpAny_pure (Gd.here h1 I1 r')))
end
section
variable {c : Cx} {tc : Tc} {ev : Ev} {n : Nat}
theorem bC.up {α β : Type} {X : Nat -> Prop} {k k' : Nat} {W : Wd} {x : Sx} {R : β -> Wd -> α -> Prop} {Q₀ : α -> Shared -> Prop} {t : T β} (h : bC c X k W x R Q₀ t) (hk : k <= k') : bC c X k' W x R Q₀ t :=
 T.AllP_mono (λ _ g W' a tk e => g W' a tk (e.weaken hk λ _ z => z)) h
def Keeps (c : Cx) (f : Value) : Prop := ∀ h, c.K.In h -> ∃ k, (k = Keeper.frame \/ k = Keeper.machine \/ k = Keeper.boundFrame) /\ Looks (model c.prog c.w) h (keeperOf f) k
theorem d6 (i : String) : Keeps c (.builtin i) := λ h _ => ⟨.machine, .inr (.inl rfl), .now⟩
theorem eN (i : String) : Keeps c (.type i) := λ h _ => ⟨.machine, .inr (.inl rfl), .now⟩
theorem Sound.callW (S : Sound c tc ev n) (B : TabOk c tc) {α β : Type} {A : Around} {env : Env} {vs : Vs} {x : Sx} {pos : Pos} {m k₀ : Nat} {X : Nat -> Prop} {R : β -> Wd -> α -> Prop} {Q₀ : α -> Shared -> Prop} (hA : AOk n A)
  {is : List IExpr} {es : List Expr} {W : Wd} {t : Nat} {k : List PV × Hp -> T β} {f : Value} {first : List Value} {Q : Value -> Shared -> Prop} (hf : Keeps c f) (hc : all2 (aW tc m env.kindOf) is es = true) (hs : es.all aA = true) (F : FrameOk c env vs W) (I : Inv c W) (hk : k₀ <= W.ρ.length)
  (h : bC c X k₀ W x R Q₀ ((iR (λ e H => ev.e e vs H) is W.H).bind k))
  (rest : ∀ W₁ ps vals tk, Ext No W.ρ.length W W₁ -> Inv c W₁ -> FrameOk c env vs W₁ -> RPs c W₁.G W₁.ρ ps vals -> k₀ <= W₁.ρ.length -> bC c X k₀ W₁ x R Q₀ (k (ps, W₁.H)) -> WP c A (call f (first ++ vals)) Q (mkS x W₁.h tk)) :
  WP c A (callWith pos f first (backTo pos (starEach es env)) []) Q (mkS x W.h t) := by
 refine callWith_of (P := c.K.In) (by rw [fV hs]; rfl) hf ?_
 cases es with
 | nil =>
  cases is with
  | cons _ _ => cases hc
  | nil => exact evalArgs_nil3 ⟨B.inK I, rest W [] [] t (Ext.refl ..) I F .nil hk h⟩
 | cons e es =>
  have z := S.spl (pos := pos) (t := t) (Q := λ vs s1 => c.K.In s1.heap /\ WP c A (call f (first ++ vs)) Q s1) hA hc hs F I hk h (λ W₁ ps vals tk e1 I1 F1 r1 h1 h2 => ⟨B.inK I1, rest W₁ ps vals tk e1 I1 F1 r1 h1 h2⟩)
  rw [List.all_cons, Bool.and_eq_true] at hs
  rw [aX hs.1] at z ⊢
  exact Calls.evalArgs_plain z
variable {ct : Ctr}
theorem C2 {y f : Nat} {as : List IExpr} (B : TabOk c tc) (S : Sound c tc ev n) : SE c tc ct ev n (.callF y f as) := by
 intro A env vs W x t e m Q hA hc F I h
 refine CA (P := λ e => WP c A (eval e env) Q (mkS x W.h t)) hc λ id _ es _ hc => ?_
 cases B.id (bl (bl (bl (bl (bl hc)))))
 have g := B.fn y f (br (bl (bl hc)))
 refine Call_Name rfl (iF B F I g.1 (iM (br (bl (bl (bl (bl hc)))))) (eA (br (bl (bl (bl hc))))) ?_)
 exact S.callW B (first := []) (hA.le (Nat.le_succ _)) (keeps_K g.2) (br (bl hc)) (br hc) F I (Nat.le_refl _) h λ W₁ ps vals tk e1 I1 F1 r1 hk1 h1 => S.callV (hA.le (Nat.le_succ _)) r1 I1 (bC.up h1 hk1)
end
section
variable {c : Cx} {tc : Tc} {ev : Ev} {n : Nat} {ct : Ctr}
variable (c) in
noncomputable def d9 (ct : Ctr) (r : Nat) : Prop := ∀ {A : Around} {W : Wd} {x : Sx} {t f : Nat} {as : List PV} {vals : List Value} {R : Result -> Shared -> Prop} {tr : T (PV × Hp)}, AOk r A -> RPs c W.G W.ρ as vals -> Inv c W -> ct f as W.H = some tr ->
 bC c No W.ρ.length W x (RE c) (λ v s' => R (.ok (.ret v)) s') tr -> codeAny (model c.prog c.w) A (.call (.ref f) ⟨vals, []⟩) R (mkS x W.h t)
theorem AOk.make {A : Around} (h : AOk (n + 1) A) {C : Addr} {vals : List Value} : AOk n (A.under (.builtin "type.__call__" ⟨.ref C :: vals, []⟩)) := by
 have h2 := h.2.1
 have h3 := h.2.2
 refine ⟨h.1, ?_, ?_⟩
 ·show A.depth + (Code.builtin "type.__call__" ⟨.ref C :: vals, []⟩).weight + n < _
  have : (Code.builtin "type.__call__" ⟨.ref C :: vals, []⟩).weight = 1 := by kernel_rfl
  omega
 ·show A.units + (Code.builtin "type.__call__" ⟨.ref C :: vals, []⟩).cUnits + 12 * n < _
  have : (Code.builtin "type.__call__" ⟨.ref C :: vals, []⟩).cUnits = 1 := by kernel_rfl
  omega
theorem kJ {v : Expr} {b : Str} {p q : Pos} {es : List Expr} {env : Env} {A : Around} {s : Shared} {Q : Value -> Shared -> Prop} (h5 : es.all aA = true) (h6 : (p.endLine == q.line) = true) (h7 : es.length < 30) (h8 : c8 v = true)
  (h : WP c A (eval v env) (λ ov s1 => ∀ pl, WP c A (getMethod ov b pl) (λ fx s2 => WP c A (callWith q fx.1 fx.2 (backTo q (starEach es env)) []) Q s2) s1) s) : WP c A (eval (.Call (.Attribute v b p) es [] q) env) Q s := by
 rw [arm_eval_Call, lS h8]
 refine wpAny_bind (wpAny_mono h (λ ov s1 h1 => ?_) λ _ _ z => z)
 refine wpAny_bind (wpAny_standAt ?_)
 have hform : methodCallForm (es.length + ([] : List Keyword).length) (backTo q (starEach es env)) (backToKw q (keywordEach [] env)) = true := by
  unfold methodCallForm
  rw [uI h5]
  exact decide_eq_true h7
 have hpos : methodCallPos true v env p q = pure q := by unfold methodCallPos; rw [h6]; rfl
 unfold methodCall
 rw [hform]
 refine wpAny_bind (wpAny_holding (wpAny_mono (h1 _) (λ fx s2 h2 => ?_) λ _ _ z => z))
 exact wpAny_bind (wpAny_of_eq hpos h2)
theorem M3 {y C : Nat} {as : List IExpr} {r : Nat} (B : TabOk c tc) (S : Sound c tc ev n) (K : d9 c ct r) (hr : r <= n) : SE c tc ct ev n (.new y C as) := by
 intro A env vs W x t e m Q hA hc F I h
 refine CA (P := λ e => WP c A (eval e env) Q (mkS x W.h t)) hc λ id _ es _ hc => ?_
 cases B.id (bl (bl (bl (bl (bl hc)))))
 have g := B.cl y C (br (bl (bl hc)))
 refine Call_Name rfl (iF B F I g.1 (iM (br (bl (bl (bl (bl hc)))))) (eA (br (bl (bl (bl hc))))) ?_)
 refine S.callW B (first := []) (hA.le (Nat.le_succ _)) (keeps_K g.2) (br (bl hc)) (br hc) F I (Nat.le_refl _) h λ W₁ ps vals tk e1 I1 F1 r1 hk1 h1 => ?_
 refine RN h1 (λ tr htr h1 => wpAny_call (K (hA.le (Nat.le_succ_of_le hr)) r1 I1 htr (bC.up h1 hk1))) λ h1 => oBE h1 λ ci hci h1 => ?_
 have D := B.cls C ci hci
 have X := B.inK I1
 let s1 := W₁.h.objs.size
 have fr1 : ∀ b o, W₁.h.get? b = some o -> ((W₁.h.push emptyDict).push (instObj C s1)).get? b = some o := λ b o ho => Heap.get?_push_of_some _ (Heap.get?_push_of_some _ ho)
 have q1 : ((W₁.h.push emptyDict).push (instObj C s1)).get? s1 = some (dictOf [] 0) := Heap.get?_push_of_some _ (Heap.get?_push_size _ rfl)
 have q2 : ((W₁.h.push emptyDict).push (instObj C s1)).get? (s1 + 1) = some (instObj C s1) := by
  have := Heap.get?_push_size (W₁.h.push emptyDict) (o := instObj C s1) rfl
  rw [Heap.size_push] at this
  exact this
 have I2 := Inv.addH (p := (s1 + 1, s1)) (ao := .inst C []) I1 fr1 (λ b hb => by
  rcases List.mem_cons.mp hb with e | hb
  ·rw [e]; exact Nat.le_succ _
  ·rw [List.mem_singleton.mp hb]; exact Nat.le_refl _) (λ _ _ _ => Nat.succ_ne_self _) (.inst q2 q1 .nil (Nat.zero_le _))
 have e2 := Ext.addH (X := No) (n := W.ρ.length) (p := (s1 + 1, s1)) (ao := .inst C []) I1 fr1 (λ b hb => by
  rcases List.mem_cons.mp hb with e | hb
  ·rw [e]; exact Nat.le_succ _
  ·rw [List.mem_singleton.mp hb]; exact Nat.le_refl _)
 refine wpAny_call (make_core (makes_of X D.makes) (looks_findIn X D.init.1) (λ self => bind_fn X self D.init.2) (.inl rfl) ?_)
 have hl : W₁.H.length = W₁.ρ.length := I1.len.symm
 have hn : nth (W₁.ρ ++ [(s1 + 1, s1)]) W₁.H.length = some (s1 + 1, s1) := by rw [hl]; exact aZ
 refine S.useCode (W := { W₁ with ρ := W₁.ρ ++ [(s1 + 1, s1)], H := W₁.H ++ [.inst C []], h := (W₁.h.push emptyDict).push (instObj C s1) }) hA.make (.cons (.ref (p := (s1 + 1, s1)) hn) (r1.mono (λ _ _ z => z) λ _ _ z => dY z)) I2 (by show _ <= (W₁.ρ ++ [_]).length; rw [List.length_append]; omega) (cY h1 e2 I2) ?_
 intro W₃ p v tk3 e3 I3 rd hk3 h3
 have nz := gBE h3
 cases jY nz.1
 cases rd.fE.inv
 exact ⟨rfl, Gd.here nz.2 I3 (.ref (p := (s1 + 1, s1)) (e3.rho _ _ (bQ hn) hn))⟩
theorem G6 {o : IExpr} {a : Nat} {as : List IExpr} (B : TabOk c tc) (S : Sound c tc ev n) : SE c tc ct ev n (.meth o a as) := by
 intro A env vs W x t e m Q hA hc F I h
 refine mF (P := λ e => WP c A (eval e env) Q (mkS x W.h t)) hc λ v b p es q hp hc => ?_
 cases B.id (bl (bl (bl (bl (bl (bl hc))))))
 refine kJ (br (bl (bl hc))) hp (of_decide_eq_true (br (bl hc))) (br hc) (S.useE (hA.le (Nat.le_succ _)) (br (bl (bl (bl (bl hc))))) F I (Nat.le_refl _) h λ W₁ pv u tk e1 I1 F1 r1 hk1 h1 pl => ?_)
 refine oBE h1 λ C hC h1 => oBE h1 λ ci hci h1 => oBE h1 λ f hf h1 => ?_
 obtain ⟨fs, ⟨y, dy, es', n', rfl, g1, g2, g3⟩, g4⟩ := IA I1 r1 hC
 have D := B.cls C ci hci
 obtain ⟨d1, d2, d3⟩ := D.mth a f hf
 refine method_fn (B.inK I1) (j4 g1 g2) (plainGet_of D.hg).1 (plainGet_of D.hg).2 d1 d2 (by unfold shadowIn; dsimp only; rw [HU (g3.noKey (by rw [d1]; exact λ z => by cases z)) g3.noRef]; rfl) ?_
 exact S.callW B (hA.le (Nat.le_succ _)) (keeps_K d3) (br (bl (bl (bl hc)))) (br (bl (bl hc))) F1 I1 hk1 h1 λ W₂ ps vals tk2 e2 I2 F2 rc hk2 h2 => S.callV (hA.le (Nat.le_succ _)) (.cons (e2.rp r1) rc) I2 (bC.up h2 hk2)
end
section
variable {c : Cx} {tc : Tc} {ev : Ev} {n : Nat} {ct : Ctr}
theorem fO {nd : Bool} {α β : Type} {xs : List α} {t : T β} {P : β -> Prop} (h : (qO nd xs t).AllP P) : xs.length <= 1000 /\ t.AllP P := by
 cases nd with
 | true => exact h
 | false => exact ⟨aM.mp (gBE h).1, (gBE h).2⟩
theorem zZ {α : Type} {f : α -> Bool} {y : α} (h : f y = true) : [y].all f = true := (Bool.and_true _).trans h
theorem FX {α β : Type} {f : α -> β -> Bool} {x : α} {y : β} (h : f x y = true) : all2 f [x] [y] = true := (Bool.and_true _).trans h
def DD {β : Type} (l : List PV) (k : PV -> T β) : T β := List.casesOn (motive := λ _ => T β) l .fail λ p t => List.casesOn (motive := λ _ => T β) t (k p) λ _ _ => .fail
theorem DQ {α : Type} {f : IExpr -> Hp -> T (PV × Hp)} {e : IExpr} {H : Hp} {k : PV × Hp -> T α} : ((iR f [e] H).bind λ z => DD z.1 λ p => k (p, z.2)) = (f e H).bind k := T.bind_assoc _ _ _
theorem DP {α : Type} {f : IExpr -> Hp -> T (PV × Hp)} {e e' : IExpr} {H : Hp} {k : PV × Hp -> PV × Hp -> T α} : ((iR f [e, e'] H).bind λ z => List.casesOn (motive := λ _ => T α) z.1 .fail λ p t => DD t λ q => k (p, z.2) (q, z.2)) = (f e H).bind λ y => (f e' y.2).bind λ z => k (y.1, z.2) z :=
 (T.bind_assoc _ _ _).trans (congrArg _ (funext λ a => (T.bind_assoc _ _ _).trans (T.bind_assoc _ _ _)))
noncomputable def RC (c : Cx) (G : Gh) (ρ : List (Nat × Nat)) (vs : List Value) (xs : List PV) : Prop := List.casesOn (motive := λ _ => Prop) xs (vs = []) λ x t => ∃ v us, vs = v :: us /\ RP c G ρ x v /\ RPs c G ρ t us
theorem RPs.inv {G : Gh} {ρ : List (Nat × Nat)} {xs : List PV} {vs : List Value} (h : RPs c G ρ xs vs) : RC c G ρ vs xs := h.rec (motive := λ xs vs _ => RC c G ρ vs xs) rfl (λ a b _ => ⟨_, _, rfl, a, b⟩)
theorem uT {G : Gh} {ρ : List (Nat × Nat)} {β : Type} {k : PV -> T β} {P : β -> Prop} {ps : List PV} {vals : List Value} (r : RPs c G ρ ps vals) (h : (DD ps k).AllP P) : ∃ p v, vals = [v] /\ RP c G ρ p v /\ (k p).AllP P := by
 cases ps with
 | nil => exact h.elim
 | cons p t =>
  cases t with
  | cons _ _ => exact h.elim
  | nil =>
   obtain ⟨v, us, rfl, a, b⟩ := r.inv
   have e : us = [] := b.inv
   exact ⟨p, v, congrArg (v :: ·) e, a, h⟩
theorem Sound.call1 (S : Sound c tc ev n) (B : TabOk c tc) {α β : Type} {A : Around} {env : Env} {vs : Vs} {x : Sx} {pos : Pos} {m k₀ : Nat} {X : Nat -> Prop} {R : β -> Wd -> α -> Prop} {Q₀ : α -> Shared -> Prop} (hA : AOk n A)
  {i : IExpr} {e : Expr} {W : Wd} {t : Nat} {k : PV × Hp -> T β} {f : Value} {first : List Value} {Q : Value -> Shared -> Prop} (hf : Keeps c f) (hc : aW tc m env.kindOf i e = true) (hs : aA e = true) (F : FrameOk c env vs W) (I : Inv c W) (hk : k₀ <= W.ρ.length)
  (h : bC c X k₀ W x R Q₀ ((ev.e i vs W.H).bind k))
  (rest : ∀ W₁ p v tk, Ext No W.ρ.length W W₁ -> Inv c W₁ -> FrameOk c env vs W₁ -> RP c W₁.G W₁.ρ p v -> k₀ <= W₁.ρ.length -> bC c X k₀ W₁ x R Q₀ (k (p, W₁.H)) -> WP c A (call f (first ++ [v])) Q (mkS x W₁.h tk)) :
  WP c A (callWith pos f first (backTo pos (starEach [e] env)) []) Q (mkS x W.h t) := by
 refine S.callW B (X := X) (R := R) (Q₀ := Q₀) hA hf (is := [i]) (k := λ z => DD z.1 λ p => k (p, z.2)) (FX hc) (zZ hs) F I hk (DQ ▸ h) λ W₁ ps vals tk e1 I1 F1 r1 hk1 h1 => ?_
 obtain ⟨p, v, rfl, a, h1⟩ := uT r1 h1
 exact rest W₁ p v tk e1 I1 F1 a hk1 h1
theorem Sound.call2 (S : Sound c tc ev n) (B : TabOk c tc) {α β : Type} {A : Around} {env : Env} {vs : Vs} {x : Sx} {pos : Pos} {m k₀ : Nat} {X : Nat -> Prop} {R : β -> Wd -> α -> Prop} {Q₀ : α -> Shared -> Prop} (hA : AOk n A)
  {i i' : IExpr} {e e' : Expr} {W : Wd} {t : Nat} {k : PV × Hp -> PV × Hp -> T β} {f : Value} {Q : Value -> Shared -> Prop} (hf : Keeps c f) (hc : aW tc m env.kindOf i e = true) (hc' : aW tc m env.kindOf i' e' = true) (hs : aA e = true) (hs' : aA e' = true) (F : FrameOk c env vs W) (I : Inv c W) (hk : k₀ <= W.ρ.length)
  (h : bC c X k₀ W x R Q₀ ((ev.e i vs W.H).bind λ y => (ev.e i' vs y.2).bind λ z => k (y.1, z.2) z))
  (rest : ∀ W₁ p p' v v' tk, Ext No W.ρ.length W W₁ -> Inv c W₁ -> FrameOk c env vs W₁ -> RP c W₁.G W₁.ρ p v -> RP c W₁.G W₁.ρ p' v' -> k₀ <= W₁.ρ.length -> bC c X k₀ W₁ x R Q₀ (k (p, W₁.H) (p', W₁.H)) -> WP c A (call f [v, v']) Q (mkS x W₁.h tk)) :
  WP c A (callWith pos f [] (backTo pos (starEach [e, e'] env)) []) Q (mkS x W.h t) := by
 refine S.callW B (X := X) (R := R) (Q₀ := Q₀) hA hf (first := []) (is := [i, i']) (k := λ z => List.casesOn (motive := λ _ => T β) z.1 .fail λ p t => DD t λ q => k (p, z.2) (q, z.2)) (by show (_ && (_ && true)) = true; rw [hc, hc']; rfl) (by show (_ && (_ && true)) = true; rw [hs, hs']; rfl) F I hk (DP ▸ h) λ W₁ ps vals tk e1 I1 F1 r1 hk1 h1 => ?_
 cases ps with
 | nil => exact h1.elim
 | cons p t =>
  obtain ⟨v, us, rfl, a, b⟩ := r1.inv
  obtain ⟨p', v', rfl, a', h1⟩ := uT b h1
  exact rest W₁ p p' v v' tk e1 I1 F1 a a' hk1 h1
theorem dR (B : TabOk c tc) {s : String} {f : Expr} {A : Around} {env : Env} {vs : Vs} {W : Wd} {x : Sx} {t : Nat} {es : List Expr} {pos : Pos} {u : Value} {Q : Value -> Shared -> Prop} (F : FrameOk c env vs W) (I : Inv c W) (hc : gK tc env.kindOf s f = true) (hv : blV s = some u)
  (hd : (Str.ofString s == ("__debug__" : Str)) = false) (h : WP c A (callWith pos u [] (backTo pos (starEach es env)) []) Q (mkS x W.h t)) : WP c A (eval (.Call f es [] pos) env) Q (mkS x W.h t) := by
 refine dW (P := λ f => WP c A (eval (.Call f es [] pos) env) Q (mkS x W.h t)) hc λ id p hc => ?_
 cases (beq_iff_eq.mp (bl (bl hc)) : id = Str.ofString s)
 obtain ⟨g1, v, g2, g3, g4⟩ := B.bl s (br hc)
 cases Option.some.inj (hv.symm.trans g3)
 exact Call_Name rfl (zD B F I g1 g2 g4 (iM (br (bl hc))) hd h)
theorem RL.snoc {G : Gh} {y : FV} {u : Value} (hy : RF c G y u) {xs : List FV} {vs : List Value} (h : RL c G xs vs) : RL c G (xs ++ [y]) (vs ++ [u]) := RL.ind (m := λ xs vs => RL c G (xs ++ [y]) (vs ++ [u])) (.cons hy .nil) (λ a _ r => .cons a r) h
theorem RPs.snoc {G : Gh} {ρ : List (Nat × Nat)} {y : PV} {u : Value} (hy : RP c G ρ y u) {xs : List PV} {vs : List Value} (h : RPs c G ρ xs vs) : RPs c G ρ (xs ++ [y]) (vs ++ [u]) := h.rec (motive := λ xs vs _ => RPs c G ρ (xs ++ [y]) (vs ++ [u])) (.cons hy .nil) (λ a _ r => .cons a r)
theorem HW {G : Gh} {ρ : List (Nat × Nat)} {h : Heap} {p : Nat × Nat} {ao : AO} (k : aoP c G ρ h p ao) (e : isL ao = some ()) : ∃ us m, h.get? p.1 = some (seqObj "list" us m) := by
 cases ao with
 | flist xs => exact ⟨_, _, k.choose_spec.choose_spec.1⟩
 | rlist xs => exact ⟨_, _, k.choose_spec.choose_spec.1⟩
 | _ => exact noS e
theorem A0 {W : Wd} (I : Inv c W) {p : PV} {i : Nat} {v : Value} (h : LI W.H p = some i) (r : RP c W.G W.ρ p v) : p = .ref i /\ ∃ q us n, v = .ref q.1 /\ nth W.ρ i = some q /\ W.h.get? q.1 = some (seqObj "list" us n) := by
 refine oOE h λ j hj h => oOE h λ ao ha h => oOE h λ _ hl h => ?_
 cases h
 cases eE hj
 obtain ⟨q, e, rfl⟩ := r.inv
 obtain ⟨us, m, g⟩ := HW (I.at ha e) hl
 exact ⟨rfl, q, us, m, rfl, e, g⟩
theorem aL {k : Nat} (h : k <= 100000) : k <= sizeLine := by rw [sizeLine_eq]; omega
theorem wB {W : Wd} (I : Inv c W) {i : Nat} {p : Nat × Nat} {ao ao' : AO} {vs : List Value} {m : Nat} {u : Value} {A : Around} {x : Sx} {tk : Nat} {X : Nat -> Prop} {k₀ : Nat} {Q : Value -> Shared -> Prop} (hi : nth W.H i = some ao) (hp : nth W.ρ i = some p)
  (hl : W.h.get? p.1 = some (seqObj "list" vs m)) (hlen : vs.length <= 1000) (f1 : fpA ao p = [p.1]) (f2 : fpA ao' p = [p.1]) (f3 : ∀ C fs, ao' = .inst C fs -> False)
  (ok : ∀ h' m', h'.get? p.1 = some (seqObj "list" (vs ++ [u]) m') -> OkAO c W.G W.ρ h' ao' p)
  (k : ∀ W₁, Ext X k₀ W W₁ -> Inv c W₁ -> W₁.H = a9 W.H i ao' -> Q .none (mkS x W₁.h tk)) : WP c A (call (.builtin "list.append") [.ref p.1, u]) Q (mkS x W.h tk) := by
 refine wpAny_list_append_plain ⟨m, hl⟩ (λ h' hp' hs => ?_) (aL (by rw [List.size_toArray]; omega))
 obtain ⟨m', hp'⟩ := hp'
 rw [List.push_toArray] at hp'
 have kp : ∀ b o, b ∉ fpA ao p -> W.h.get? b = some o -> h'.get? b = some o := λ b o hb ho => (hs.2 b (λ z => hb (by rw [f1, z]; exact .head _))).trans ho
 have hf : ∀ b ∈ fpA ao' p, b ∈ fpA ao p := λ b hb => by rw [f1]; rw [f2] at hb; exact hb
 exact k _ (Ext.turn hi hp kp hf (λ b hb => by rw [f1] at hb; rw [List.mem_singleton.mp hb]; exact ⟨_, hp'⟩)) (Inv.turn I hi hp kp hf (λ C fs e => (f3 C fs e).elim) (ok h' m' hp')) rfl
structure AppOk (c : Cx) (W : Wd) (p : Nat × Nat) (u : Value) (ao ao' : AO) : Prop where
 at_ : ∃ vs m, W.h.get? p.1 = some (seqObj "list" vs m) /\ vs.length <= 1000 /\ ∀ h' m', h'.get? p.1 = some (seqObj "list" (vs ++ [u]) m') -> OkAO c W.G W.ρ h' ao' p
 f1 : fpA ao p = [p.1]
 f2 : fpA ao' p = [p.1]
 f3 : ∀ C fs, ao' = .inst C fs -> False
theorem FW {W : Wd} {nd : Bool} {ao : AO} {q pe : PV} {p : Nat × Nat} {u : Value} {β : Type} {k : AO -> T β} {P : β -> Prop} (ka : aoP c W.G W.ρ W.h p ao) (r : RP c W.G W.ρ pe u) (rn : RP c W.G W.ρ q u) (h : (UF nd ao q pe k).AllP P) : ∃ ao', (k ao').AllP P /\ AppOk c W p u ao ao' := by
 cases ao with
 | flist xs =>
  obtain ⟨us, m, g, l, rl⟩ := ka
  cases q with
  | f v =>
   obtain ⟨hl, h⟩ := fO h
   exact ⟨_, h, ⟨us, m, g, rl.length ▸ hl, λ h' m' hh => .flist hh ⟨m', rfl⟩ (by rw [List.length_append]; show xs.length + 1 <= _; omega) (rl.snoc rn.fE)⟩, rfl, rfl, λ _ _ z => by cases z⟩
  | ref j =>
   cases xs with
   | nil =>
    have e := List.eq_nil_of_length_eq_zero rl.length
    subst e
    exact ⟨_, h, ⟨[], m, g, Nat.zero_le _, λ h' m' hh => .rlist hh ⟨m', rfl⟩ (by show 1 <= 1500; decide) (.cons rn .nil)⟩, rfl, rfl, λ _ _ z => by cases z⟩
   | cons _ _ => exact h.elim
 | rlist xs =>
  obtain ⟨us, m, g, l, rl⟩ := ka
  obtain ⟨hl, h⟩ := fO h
  exact ⟨_, h, ⟨us, m, g, rl.length ▸ hl, λ h' m' hh => .rlist hh ⟨m', rfl⟩ (by rw [List.length_append]; show xs.length + 1 <= _; omega) (rl.snoc r)⟩, rfl, rfl, λ _ _ z => by cases z⟩
 | _ => exact h.elim
theorem AJ {nd : Bool} {o e : IExpr} (B : TabOk c tc) (S : Sound c tc ev n) : SE c tc ct ev n (.append nd o e) := by
 intro A env vs W x t ex m Q hA hc F I h
 refine mF (P := λ e => WP c A (eval e env) Q (mkS x W.h t)) hc λ v b p es q hp hc => ?_
 refine iV (P := λ es => WP c A (eval (.Call (.Attribute v b p) es [] q) env) Q (mkS x W.h t)) hc λ y hc => ?_
 cases (beq_iff_eq.mp (bl (bl (bl (bl hc)))) : b = ("append" : Str))
 have hn := hA.le (Nat.le_succ _)
 refine kJ (zZ (br (bl hc))) hp (by show 1 < 30; decide) (br hc) (S.useE hn (br (bl (bl (bl hc)))) F I (Nat.le_refl _) h λ W₁ pv u tk e1 I1 F1 r1 hk1 h1 pl => ?_)
 refine oBE h1 λ i hi h1 => ?_
 obtain ⟨rfl, q1, ws, n1, rfl, g1, g2⟩ := A0 I1 hi r1
 refine getMethod_builtin ⟨_, g2, rfl⟩ PySem.F.plainAttrs_list PySem.F.slot_list_append PySem.F.type_list_append (λ a ea => by cases ea; exact ⟨_, g2, rfl⟩) ?_
 refine S.call1 B (first := [.ref q1.1]) hn (d6 _) (br (bl (bl hc))) (br (bl hc)) F1 I1 hk1 h1 λ W₂ pe w tk2 e2 I2 F2 rc hk2 h2 => ?_
 refine oBE h2 λ ao ha h2 => ?_
 have g3 := e2.rho _ _ (bQ g1) g1
 obtain ⟨ao', h2, ⟨us, m, g, l, ok⟩, f1, f2, f3⟩ := FW (I2.at ha g3) rc (rc.nrm I2) h2
 exact wB (X := No) (k₀ := W.ρ.length) I2 ha g3 g l f1 f2 f3 ok λ W₃ e3 I3 hH => h2 W₃ .none tk2 e3 I3 ⟨hH, .f .non⟩
end
section
variable {c : Cx} {tc : Tc} {ev : Ev} {n : Nat} {ct : Ctr}
theorem xJ {xs : List FV} (h : lL xs = none) : xs = [] := by
 cases xs with
 | nil => rfl
 | cons x xs =>
  have h' : Option.rec (motive := λ _ => Option (List FV × FV)) (some ([], x)) (λ q => some (x :: q.1, q.2)) (lL xs) = none := h
  revert h'
  cases lL xs <;> exact λ h => by cases h
theorem AX {G : Gh} {xs : List FV} {vs : List Value} (h : RL c G xs vs) : ∀ {r : List FV × FV}, lL xs = some r -> ∃ rs y, vs = rs ++ [y] /\ RL c G r.1 rs /\ RF c G r.2 y := by
 refine RL.ind (m := λ xs vs => ∀ {r : List FV × FV}, lL xs = some r -> ∃ rs y, vs = rs ++ [y] /\ RL c G r.1 rs /\ RF c G r.2 y) noS (λ {x v xs vs} a b ih r h => ?_) h
 have h' : Option.rec (motive := λ _ => Option (List FV × FV)) (some ([], x)) (λ q => some (x :: q.1, q.2)) (lL xs) = some r := h
 cases e : lL xs with
 | none =>
  rw [e] at h'
  cases h'
  cases xJ e
  exact ⟨[], v, congrArg (v :: ·) (List.eq_nil_of_length_eq_zero b.length), .nil, a⟩
 | some q =>
  rw [e] at h'
  cases h'
  obtain ⟨rs, y, rfl, h1, h2⟩ := ih e
  exact ⟨v :: rs, y, rfl, .cons a h1, h2⟩
theorem M1 {o : IExpr} (B : TabOk c tc) (S : Sound c tc ev n) : SE c tc ct ev n (.pop o) := by
 intro A env vs W x t ex m Q hA hc F I h
 refine mF (P := λ e => WP c A (eval e env) Q (mkS x W.h t)) hc λ v b p es q hp hc => ?_
 refine eQ (P := λ es => WP c A (eval (.Call (.Attribute v b p) es [] q) env) Q (mkS x W.h t)) (bl hc) ?_
 cases (beq_iff_eq.mp (bl (bl (br hc))) : b = ("pop" : Str))
 refine kJ rfl hp (by show 0 < 30; decide) (br (br hc)) (S.useE (hA.le (Nat.le_succ _)) (br (bl (br hc))) F I (Nat.le_refl _) h λ W₁ pv u tk e1 I1 F1 r1 hk1 h1 pl => ?_)
 refine oBE h1 λ i hi ha => oBE ha λ ao hxs hb => oBE hb λ xs hx hd => oBE hd λ r hr h1 => ?_
 cases eE hi
 cases pA hx
 refine RP.refE r1 λ pp e => ?_
 obtain ⟨us, m', a, l, rl⟩ := I1.at hxs e
 obtain ⟨rs, y, rfl, g1, g2⟩ := AX rl hr
 have hlen := rl.length
 rw [List.length_append] at hlen
 have hl1 : [y].length = 1 := rfl
 have hz : (rs ++ [y]).toArray.size - 1 = rs.length := by rw [List.size_toArray, List.length_append]; rfl
 have he : ((rs ++ [y]).toArray).eraseIdxIfInBounds ((rs ++ [y]).toArray.size - 1) = rs.toArray := by
  rw [hz]
  have := kl_erase rs [] y
  rw [List.append_nil] at this
  exact this
 refine getMethod_builtin ⟨_, a, rfl⟩ PySem.F.plainAttrs_list PySem.F.slot_list_pop PySem.F.type_list_pop (λ a ea => by cases ea; exact ⟨_, by assumption, rfl⟩) ?_
 refine P.pop_list (y := y) (n := m') a (by rw [hz]; simp) ?_ (aL (by rw [List.size_toArray, List.length_append]; omega))
 have up := PySem.IsL.update a (λ xs => xs.eraseIdxIfInBounds ((rs ++ [y]).toArray.size - 1))
 rw [he] at up
 have kp : ∀ b o, b ∉ fpA (.flist xs) pp -> W₁.h.get? b = some o -> (W₁.h.update pp.1 (Obj.mapSeq λ xs => xs.eraseIdxIfInBounds ((rs ++ [y]).toArray.size - 1))).get? b = some o := λ b o hb ho =>
  (Heap.get?_update_ne _ _ _ _ λ z => hb (by have z' : b = pp.1 := z; rw [z']; exact .head _)).trans ho
 have hlen' := g1.length
 exact h1 _ y tk (Ext.turn (ao' := .flist r.1) hxs e kp (λ _ hb => hb) (λ b hb => by rw [List.mem_singleton.mp hb]; exact ⟨_, up⟩)) (Inv.turn (ao' := .flist r.1) I1 hxs e kp (λ _ hb => hb) (λ _ _ z => by cases z) (.flist up ⟨_, rfl⟩ (by omega) g1)) ⟨rfl, .f g2⟩
theorem kN {G : Gh} {a : Nat} {i : Int} {t : Tok} (h : i = (a : Int)) : RF c G (.int (.ofNat a)) (.int i t) := by subst h; exact .int _ t
inductive LenAt (W : Wd) (v : Value) (k : Nat) : Prop
 | lst {a us m} : v = .ref a -> W.h.get? a = some (seqObj "list" us m) -> us.length = k -> k <= 2000 -> LenAt W v k
 | tup {a us m} : v = .ref a -> W.h.get? a = some (seqObj "tuple" us m) -> us.length = k -> k <= 2000 -> LenAt W v k
theorem HX {W : Wd} (I : Inv c W) {p : PV} {v : Value} (r : RP c W.G W.ρ p v) {k : Nat} (h : OB W.H p = some k) : LenAt W v k := by
 have rn := r.nrm I
 unfold OB at h
 generalize nrm W.H p = q at h rn
 cases q with
 | f x =>
  cases x with
  | lst xs => cases h; exact RF.lstE rn.fE λ a us m g l b _ => .lst rfl (I.sub _ _ g) l b
  | tup xs => cases h; exact RF.tupE rn.fE λ a us m g l b _ => .tup rfl (I.sub _ _ g) l b
  | _ => exact noS h
 | ref j =>
  refine oOE h λ ao ha h => RP.refE rn λ q e => ?_
  have k := I.at ha e
  cases ao with
  | flist xs => cases h; obtain ⟨us, m, g, l, r⟩ := k; exact .lst rfl g r.length (Nat.le_trans l (by decide))
  | rlist xs => cases h; obtain ⟨us, m, g, l, r⟩ := k; exact .lst rfl g r.length (Nat.le_trans l (by decide))
  | _ => exact noS h
theorem M6 {o : IExpr} (B : TabOk c tc) (S : Sound c tc ev n) : SE c tc ct ev n (.len o) := by
 intro A env vs W x t ex m Q hA hc F I h
 refine mH (P := λ e => WP c A (eval e env) Q (mkS x W.h t)) hc λ f y p hc => ?_
 refine dR B F I (bl (bl hc)) (u := .builtin "len") rfl (by decide) (S.call1 B (first := []) (hA.le (Nat.le_succ _)) (d6 _) (br (bl hc)) (br hc) F I (Nat.le_refl _) h λ W₁ pv u tk e1 I1 F1 r1 hk1 h1 => ?_)
 refine oBE h1 λ k hk h1 => ?_
 cases HX I1 r1 hk with
 | lst e g l b =>
  rw [e]
  exact Calls.call_len_list ⟨_, g, rfl, _, rfl⟩ (by rw [List.size_toArray]; omega) (Gd.here h1 I1 (.f (kN (by rw [List.size_toArray, l]))))
 | tup e g l b =>
  rw [e]
  exact P.len_tuple g (by rw [List.size_toArray]; omega) (Gd.here h1 I1 (.f (kN (by rw [List.size_toArray, l]))))
end
section
variable {c : Cx} {tc : Tc} {ev : Ev} {n : Nat} {ct : Ctr}
def TO (v : Value) : Bool := match v with
 | .builtin _ => true
 | _ => false
theorem RF.noBl {G : Gh} {i : String} {x : FV} {v : Value} (h : RF c G x v) : v ≠ .builtin i := λ e => by
 have z : TO v = false := RF.rec (motive_1 := λ _ v _ => TO v = false) (motive_2 := λ _ _ _ => True) (motive_3 := λ _ _ _ _ => True) (motive_4 := λ _ _ _ => True) (motive_5 := λ _ _ _ => True) rfl (λ _ => rfl) (λ _ _ => rfl) (λ _ _ _ => rfl) (λ _ _ _ _ _ => rfl) (λ _ _ _ _ _ => rfl) (λ _ _ => rfl) (λ _ _ _ _ => rfl)
  (λ _ _ _ _ _ => rfl) (λ _ _ _ _ _ => rfl) (λ _ _ => rfl) (λ _ h => h) trivial (λ _ _ _ _ => trivial) trivial (λ _ _ _ _ _ _ => trivial) trivial (λ _ _ _ _ => trivial) trivial (λ _ _ _ _ => trivial) h
 rw [e] at z
 exact ff z.symm
theorem GE {C : Nat} (h : 3 <= C) : tyV C = .ref C := by
 match C, h with
 | n + 3, _ => rfl
theorem u8 {W : Wd} {x dx C : Nat} {es : List DictEntry} {n : Nat} {ci : ClsI} (D : ClsOk c C ci) (a : W.h.get? x = some (instObj C dx)) (b : W.h.get? dx = some (dictOf es n)) :
  ∃ H : Heap -> Prop, KitX c.K (.ref x) (tyV C) H /\ H W.h := by
 rw [GE D.big]
 exact ⟨_, kitx_own D.hg D.hdct D.ha D.hn D.htk D.hm, j4 a b⟩
theorem DX (B : TabOk c tc) {W : Wd} (I : Inv c W) {p : PV} {v : Value} {t : Nat} (r : RP c W.G W.ρ p v) (h : GF c.tb W.H p = some t) :
  (∃ H : Heap -> Prop, KitX c.K v (tyV t) H /\ H W.h) /\ v ≠ .builtin "__main__.__loader__#opaque" /\ (t < 3 \/ (c.tb.cls t).isSome = true) := by
 have rn := r.nrm I
 unfold GF at h
 generalize nrm W.H p = q at h rn
 cases q with
 | ref i =>
  refine oOE h λ ao hi h => oOE h λ z hz h => oOE h λ ci hci h => RP.refE rn λ pp e => ?_
  cases h
  cases jJ hz
  obtain ⟨es, n, a, b, _⟩ := I.at hi e
  exact ⟨u8 (B.cls _ ci hci) a b, λ z => (nomatch z), .inr (hci ▸ rfl)⟩
 | f z =>
  have z' := rn.fE.fvw
  have nb := rn.fE.noBl (i := "__main__.__loader__#opaque")
  unfold QI at h
  dsimp only at h
  generalize fvw c.tb z = y at h z'
  cases y with
  | non => cases h; cases z'.inv; exact ⟨⟨_, kitx_none, trivial⟩, nb, .inl (by decide)⟩
  | int _ => cases h; obtain ⟨t, rfl⟩ := z'.inv; exact ⟨⟨_, kitx_int, trivial⟩, nb, .inl (by decide)⟩
  | str _ => cases h; obtain ⟨t, rfl, _⟩ := z'.inv; exact ⟨⟨_, kitx_str, trivial⟩, nb, .inl (by decide)⟩
  | node C fs =>
   refine oOE h λ ci hci h => ?_
   cases h
   obtain ⟨x, dx, es, n, rfl, a, b, _⟩ := z'.inv
   exact ⟨u8 (B.cls _ ci hci) (I.sub _ _ a) (I.sub _ _ b), nb, .inr (hci ▸ rfl)⟩
  | _ => exact noS h
theorem sH {A : Around} {env : Env} {vs : Vs} {W : Wd} {x : Sx} {t : Nat} {p : Nat × Nat} {e : Expr} {Q : Value -> Shared -> Prop} (B : TabOk c tc) (F : FrameOk c env vs W) (I : Inv c W)
  (h : E8 tc env.kindOf p e = true) : tc.tyN p.1 p.2 = true /\ aA e = true /\ (Q (tyV p.2) (mkS x W.h t) -> WP c A (eval e env) Q (mkS x W.h t)) := by
 refine dW (P := λ e => tc.tyN p.1 p.2 = true /\ aA e = true /\ (Q (tyV p.2) (mkS x W.h t) -> WP c A (eval e env) Q (mkS x W.h t))) h λ id pos h => ?_
 cases B.id (bl (bl (bl h)))
 refine ⟨br (bl h), rfl, λ k => ?_⟩
 exact (B.ty _ _ (br (bl h))).elim (λ g => iF B F I g (iM (br (bl (bl h)))) (eA (br h)) k) λ g => zD B F I g.1 g.2.1 g.2.2 (iM (br (bl (bl h)))) (eA (br h)) k
theorem M8 {o : IExpr} {mm k : Nat} (B : TabOk c tc) (S : Sound c tc ev n) : SE c tc ct ev n (.isi o mm k) := by
 intro A env vs W x t ex m Q hA hc F I h
 refine mG (P := λ e => WP c A (eval e env) Q (mkS x W.h t)) hc λ f y te p hc => ?_
 refine dR B F I (bl (bl (bl hc))) (u := .builtin "isinstance") rfl (by decide) ?_
 have z := sH (A := A) (x := x) (t := t) (Q := λ _ _ => True) B F I (br hc)
 rw [aX (br (bl hc)), aX z.2.1]
 refine Calls.callWith_builtin rfl (Calls.evalArgs_plain (Calls.spliced_cons (S.useE (hA.le (Nat.le_succ _)) (br (bl (bl hc))) F I (Nat.le_refl _) h λ W₁ pv u tk e1 I1 F1 r1 hk1 h1 => ?_)))
 refine Calls.spliced_cons ((sH B F1 I1 (br hc)).2.2 (Calls.spliced_nil ?_))
 refine oBE h1 λ kt hkt h1 => ?_
 obtain ⟨⟨H, Z, hH⟩, hb, hl⟩ := DX B I1 r1 hkt
 exact kia_one Z (B.inK I1) hH (B.kit kt mm k hl z.1) hb λ tk' => Gd.here h1 I1 (.f (.bool _))
theorem qQ (B : TabOk c tc) {t : Nat} (ht : t < 3 \/ (c.tb.cls t).isSome = true) : ∀ {cs : List (Nat × Nat)}, (∀ p ∈ cs, tc.tyN p.1 p.2 = true) -> kitAny c.K (tyV t) (cs.map λ p => tyV p.2) = some (nP (cs.map (·.2)) t)
 | [], _ => rfl
 | p :: r, h => by
  have e := B.kit t p.1 p.2 ht (h p (.head _))
  have ih := qQ B ht (cs := r) λ q hq => h q (.tail _ hq)
  show (match kitOne c.K (tyV t) (tyV p.2) with | some true => some true | some false => kitAny c.K (tyV t) (r.map λ p => tyV p.2) | none => none) = some (match Nat.beq p.2 t with | true => true | false => nP (r.map (·.2)) t)
  rw [e, ih]
  cases q : Nat.beq t p.2 with
  | true => rw [kA.mp q, Nat.beq_refl]
  | false =>
   have : Nat.beq p.2 t = false := by
    cases q' : Nat.beq p.2 t with
    | false => rfl
    | true => rw [kA.mp q', Nat.beq_refl] at q; cases q
   rw [this]
theorem GD {A : Around} {env : Env} {vs : Vs} {W : Wd} {x : Sx} {t : Nat} {pos : Pos} (B : TabOk c tc) (F : FrameOk c env vs W) (I : Inv c W) {cs : List (Nat × Nat)} : ∀ {es : List Expr} {Q : List Value -> Shared -> Prop}, E7 tc env.kindOf cs es = true ->
  (∀ p ∈ cs, tc.tyN p.1 p.2 = true) /\ (Q (cs.map λ p => tyV p.2) (mkS x W.h t) -> WP c A (spliced (backTo pos (starEach es env))) Q (mkS x W.h t)) := by
 induction cs with
 | nil =>
  intro es Q h
  cases es with
  | nil => exact ⟨λ _ h => (List.not_mem_nil h).elim, λ k => spliced_none k⟩
  | cons _ _ => exact ff h
 | cons p cs ih =>
  intro es Q h
  cases es with
  | nil => exact ff h
  | cons e es =>
   have z := sH (A := A) (x := x) (t := t) (Q := λ v s1 => WP c A (spliced (backTo pos (starEach es env))) (λ vs s2 => Q (v :: vs) s2) s1) B F I (bl h)
   have y := ih (es := es) (Q := λ vs s => Q (tyV p.2 :: vs) s) (br h)
   exact ⟨λ q hq => (List.mem_cons.mp hq).elim (λ e => e ▸ z.1) (y.1 q), λ k => spliced_more (z.2.2 (y.2 k)) (aX z.2.1)⟩
theorem G8 {o : IExpr} {cs : List (Nat × Nat)} (B : TabOk c tc) (S : Sound c tc ev n) : SE c tc ct ev n (.isit o cs) := by
 intro A env vs W x t ex m Q hA hc F I h
 refine mG (P := λ e => WP c A (eval e env) Q (mkS x W.h t)) hc λ f y te p hc => ?_
 refine jM (P := λ te => WP c A (eval (.Call f [y, te] [] p) env) Q (mkS x W.h t)) hc λ es k' p' hc => ?_
 refine dR B F I (bl (bl (bl (bl hc)))) (u := .builtin "isinstance") rfl (by decide) ?_
 rw [aX (br (bl (bl hc))), aX (e := .Tuple es k' p') rfl]
 refine Calls.callWith_builtin rfl (Calls.evalArgs_plain (Calls.spliced_cons (S.useE (hA.le (Nat.le_succ _)) (br (bl (bl (bl hc)))) F I (Nat.le_refl _) h λ W₁ pv u tk e1 I1 F1 r1 hk1 h1 => ?_)))
 have g := GD (A := A) (x := x) (t := tk) (pos := p') B F1 I1 (Q := λ vs s1 => WP c A (newTuple vs) (λ v s2 => WP c A (spliced []) (λ vs s3 => WP c A (call (.builtin "isinstance") ([] ++ (u :: v :: vs))) Q s3) s2) s1) (br (bl hc))
 have hlen : cs.length <= 100 := aM.mp (br hc)
 refine Calls.spliced_cons ?_
 show WP c A (eval (.Tuple es k' p') env) _ _
 rw [arm_eval_Tuple]
 refine wpAny_bind (wpAny_standAt (wpAny_bind (g.2 ?_)))
 refine wpAny_newTuple (Calls.spliced_nil ?_) (aL (by rw [List.length_map]; omega))
 refine oBE h1 λ kt hkt h1 => ?_
 have fr : ∀ b o, W₁.h.get? b = some o -> (W₁.h.push { cls := .type "tuple", data := .seq (cs.map λ p => tyV p.2).toArray }).get? b = some o := λ b o ho => Heap.get?_push_of_some _ ho
 have I2 := I1.heap fr
 obtain ⟨⟨H2, Z2, hH2⟩, hb, hl⟩ := DX B I2 (p := pv) (v := u) r1 hkt
 exact kia_tup Z2 (B.inK I2) hH2 (Heap.get?_push_size _ rfl) (qQ B hl g.1) hb λ tk' => h1 _ _ tk' (Ext.heap (X := No) (n := W.ρ.length) (W := W₁) fr) I2 ⟨rfl, .f (.bool _)⟩
end
section
variable {c : Cx} {tc : Tc} {ev : Ev} {n : Nat} {ct : Ctr}
theorem jW {cs : List Nat} : okS cs = true ↔ ∀ x ∈ cs, x < 1114112 := by
 induction cs with
 | nil => exact ⟨λ _ x h => (List.not_mem_nil h).elim, λ _ => rfl⟩
 | cons d r ih => exact (Bool.and_eq_true_iff (x := Nat.blt d 1114112) (y := okS r)).trans ((and_congr (Iff.of_eq Nat.blt_eq) ih).trans (List.forall_mem_cons (p := λ x => x < 1114112)).symm)
theorem CP {cs : List Nat} (h : okS cs = true) : PyData.strOk (aC cs) = true := by
 unfold PyData.strOk aC
 rw [← Array.all_toList]
 exact List.all_eq_true.mpr λ x hx => decide_eq_true (jW.mp h x hx)
theorem Dat.reads {G : Gh} {h : Heap} (hG : ∀ a o, G a = some o -> h.get? a = some o) {x : FV} {d : PyData} {v : Value} (k : Dat c.tb x d) (r : RF c G x v) : ∃ as, Reads h v d as /\ d.canLay0 = true :=
 Dat.rec (motive_1 := λ x d _ => ∀ v, RF c G x v -> ∃ as, Reads h v d as /\ d.canLay0 = true) (motive_2 := λ xs ds _ => ∀ vs, RL c G xs vs -> ∃ as, ReadsAll h vs ds as /\ PyData.canLayAll0 ds = true) (λ v r => RF.nonE r ⟨_, .none, rfl⟩) (λ i v r => RF.intE r λ t => ⟨_, .int _ _, rfl⟩)
  (λ cs v r => RF.strE r λ t hs => ⟨_, .str _ _, by simpa only [PyData.canLay0] using CP hs⟩)
  (λ _ ih v r => RF.tupE r λ a us m g _ _ r => (ih us r).elim λ as z => ⟨_, .tuple (hG _ _ g) rfl rfl z.1, by simpa only [PyData.canLay0] using z.2⟩) (λ _ ih v r => RF.lstE r λ a us m g _ _ r => (ih us r).elim λ as z => ⟨_, .list (hG _ _ g) rfl rfl z.1, by simpa only [PyData.canLay0] using z.2⟩)
  (λ _ ih v r => ih v r.inv) (λ vs r => by cases (show vs = [] from r.inv); exact ⟨_, .nil, rfl⟩) (λ _ _ ih ih' vs r => by
   obtain ⟨v, us, rfl, a, b⟩ := r.inv
   exact (ih v a).elim λ as z => (ih' us b).elim λ bs z' => ⟨_, .cons z.1 z'.1, by simp only [PyData.canLayAll0, z.2, z'.2, Bool.and_self]⟩) k v r
theorem i5 {a b : List Nat} (h : aC a = aC b) : a = b := by
 unfold aC at h
 have := congrArg (λ s : Str => s.cps.toList) h
 exact this
theorem AF (a b : List Nat) : (aC a == aC b) = lV a b := by
 cases q : lV a b with
 | true => rw [cN.mp q]; exact beq_self_eq_true _
 | false =>
  cases q' : aC a == aC b with
  | false => rfl
  | true => rw [cN.mpr (i5 (beq_iff_eq.mp q'))] at q; cases q
def ER (x : FV) : Option PyData := fvO (non := some .none) (int := λ i => some (.int i)) (str := λ cs => some (.str (aC cs))) (v := x)
theorem zO {P : FV -> PyData -> Prop} {x : FV} {d : PyData} (h : ER x = some d) (h1 : P .non .none) (h2 : ∀ i, P (.int i) (.int i)) (h3 : ∀ s, P (.str s) (.str (aC s))) : P x d := by
 cases x with
 | non => cases h; exact h1
 | int i => cases h; exact h2 i
 | str i => cases h; exact h3 i
 | _ => exact noS h
theorem j8 {tb : Tb} {x : FV} (h : iJ x = true) : ∃ d, ER x = some d /\ Dat tb x d /\ d.depth = 0 := by
 cases x with
 | non => exact ⟨_, rfl, .non, by simp only [PyData.depth]⟩
 | int i => exact ⟨_, rfl, .int i, by simp only [PyData.depth]⟩
 | str i => exact ⟨_, rfl, .str i, by simp only [PyData.depth]⟩
 | _ => exact ff h
theorem rE {x y : FV} {dx dy : PyData} (hx : ER x = some dx) (hy : ER y = some dy) : eqF x y = some (dx.eqv dy) := by
 refine zO (P := λ x dx => eqF x y = some (dx.eqv dy)) hx ?_ ?_ ?_
 ·exact zO (P := λ y dy => eqF .non y = some (PyData.eqv .none dy)) hy (by simp only [PyData.eqv]; rfl) (λ _ => by simp only [PyData.eqv]; rfl) (λ _ => by simp only [PyData.eqv]; rfl)
 ·exact λ i => zO (P := λ y dy => eqF (.int i) y = some (PyData.eqv (.int i) dy)) hy (by simp only [PyData.eqv]; rfl) (λ _ => by simp only [PyData.eqv]; rfl) (λ _ => by simp only [PyData.eqv]; rfl)
 ·exact λ i => zO (P := λ y dy => eqF (.str i) y = some (PyData.eqv (.str (aC i)) dy)) hy (by simp only [PyData.eqv]; rfl) (λ _ => by simp only [PyData.eqv]; rfl) (λ _ => by simp only [PyData.eqv, AF]; rfl)
theorem xB {tb : Tb} {xs : List FV} (h : DC xs = true) : ∃ ds, DatL tb xs ds /\ PyData.depthAll ds = 0 /\ ∀ {x : FV} {d : PyData}, ER x = some d -> memL x xs = some (ds.any λ y => y.eqv d) := by
 induction xs with
 | nil => exact ⟨[], .nil, by simp only [PyData.depthAll], λ _ => rfl⟩
 | cons y r ih =>
  obtain ⟨dy, h1, h2, h3⟩ := j8 (tb := tb) (bl h)
  obtain ⟨ds, g1, g2, g3⟩ := ih (br h)
  refine ⟨dy :: ds, .cons h2 g1, by simp only [PyData.depthAll, h3, g2, Nat.max_self], λ {x d} hx => ?_⟩
  show Option.rec (motive := λ _ => Option Bool) none (λ b => Bool.rec (memL x r) (some true) b) (eqF y x) = _
  rw [rE h1 hx, List.any_cons]
  cases dy.eqv d with
  | true => rfl
  | false => exact g3 hx
def yO (c : Cx) (A : Around) (s : Shared) (u v : Value) (b : Bool) : Prop := (∀ Q, Q (.bool b) s -> WP c A (compareOp .Eq u v) Q s) /\ (∀ Q, Q (.bool (!b)) s -> WP c A (compareOp .NotEq u v) Q s)
theorem EJ {A : Around} {W : Wd} {x : Sx} {t : Nat} {a b : FV} {u v : Value} {da db : PyData} (I : Inv c W) (ra : RF c W.G a u) (rb : RF c W.G b v) (ha : Dat c.tb a da) (hb : Dat c.tb b db) (hu : A.units + 10 < cLine) (hd : da.depth <= 10) : yO c A (mkS x W.h t) u v (da.eqv db) := by
 obtain ⟨as, h1, h2⟩ := ha.reads (h := W.h) I.sub ra
 obtain ⟨bs, h3, h4⟩ := hb.reads (h := W.h) I.sub rb
 have : min da.depth db.depth <= da.depth := Nat.min_le_left _ _
 exact ⟨λ Q q => SeqAt.compareEq_reads h1 h3 h2 h4 (by omega) q, λ Q q => SeqAt.compareNe_reads h1 h3 h2 h4 (by omega) q⟩
theorem IL {A : Around} {s : Shared} {l b : Addr} {xs ys : List Value} {n m : Nat} (hl : IsL s.heap l xs.toArray n) (hb : IsL s.heap b ys.toArray m) (h : xs.length ≠ ys.length) (hu : A.units < cLine) : yO c A s (.ref l) (.ref b) false := by
 have e : (xs.toArray.size != ys.toArray.size) = true := by simpa using h
 exact ⟨λ Q q => P.eq_list_lengths hl hb e hu q, λ Q q => SeqAt.RcNeAt.lists_lengths hl.isList hb.isList e hu _ _ _ _ q⟩
theorem IK {A : Around} {s : Shared} {l b : Addr} {n m : Nat} (hl : IsL s.heap l (List.toArray []) n) (hb : IsL s.heap b (List.toArray []) m) (hu : A.units < cLine) : yO c A s (.ref l) (.ref b) true := by
 exact ⟨λ Q q => P.eq_list (e := λ _ => true) hl hb rfl (λ j h1 => absurd h1 (Nat.not_lt_zero _)) hu q, λ Q q => SeqAt.RcNeAt.lists (e := λ _ => true) hl.isList hb.isList rfl hu (λ j h1 => absurd h1 (Nat.not_lt_zero _)) _ _ _ _ q⟩
end
section
variable {c : Cx} {tc : Tc} {ev : Ev} {n : Nat} {ct : Ctr}
theorem KD {x y : FV} (h : UC x y = true) : x = y := by cases x with
 | str a => exact DG h λ b hb h => by rw [fR hb, cN.mp h]
 | dom a => exact DG h λ b hb h => by rw [BX hb, of_decide_eq_true h]
 | _ => exact ff h
theorem KC {x : List FV} : ∀ {y : List FV}, BS x y = true -> x = y := by induction x with
 | nil => intro y h; cases y with
  | nil => rfl
  | cons _ _ => exact ff h
 | cons a r ih => intro y h; cases y with
  | nil => exact ff h
  | cons b t => rw [KD (bl h), ih (br h)]
theorem A8 (B : TabOk c tc) {x : FV} (h : LK x = true) : ∃ d, Dat c.tb x d /\ d.depth <= 5 := by cases x with
 | str a => exact ⟨_, .str _, by simp only [PyData.depth]; omega⟩
 | dom d => cases d with
  | due b => exact B.due b
  | _ => exact ff h
 | _ => exact ff h
theorem A7 (B : TabOk c tc) {xs : List FV} (h : nU xs = true) : ∃ ds, DatL c.tb xs ds /\ PyData.depthAll ds <= 5 := by induction xs with
 | nil => exact ⟨[], .nil, by simp only [PyData.depthAll]; decide⟩
 | cons y r ih => exact (A8 B (bl h)).elim λ d z => (ih (br h)).elim λ ds z' => ⟨_, .cons z.1 z'.1, by simp only [PyData.depthAll]; exact Nat.max_le.mpr ⟨z.2, z'.2⟩⟩
theorem LM {A : Around} {s : Shared} {l b : Addr} {us vs : List Value} {n m : Nat} (hl : IsL s.heap l us.toArray n) (hb : IsL s.heap b vs.toArray m) (hu : A.units < cLine) (e : us.length = 0 \/ vs.length = 0) : yO c A s (.ref l) (.ref b) (Nat.beq us.length vs.length) := by
 cases q : Nat.beq us.length vs.length with
 | false => exact IL hl hb (Nat.ne_of_beq_eq_false q) hu
 | true =>
  have q' := kA.mp q
  have e1 : us.length = 0 := e.elim id λ z => q'.trans z
  cases List.eq_nil_of_length_eq_zero e1
  cases List.eq_nil_of_length_eq_zero (q'.symm.trans e1)
  exact IK hl hb hu
theorem EK {xs ys : List FV} {r : Bool} (h : TY xs ys = some r) : ((xs.length = 0 \/ ys.length = 0) /\ r = Nat.beq xs.length ys.length) \/ (nU xs = true /\ xs = ys /\ r = true) := by
 cases xs with
 | nil => cases ys with
  | nil => cases h; exact .inl ⟨.inl rfl, rfl⟩
  | cons _ _ => cases h; exact .inl ⟨.inl rfl, rfl⟩
 | cons x t => cases ys with
  | nil => cases h; exact .inl ⟨.inr rfl, rfl⟩
  | cons y u =>
   have z := gOE (gOE h).2
   exact .inr ⟨(gOE h).1, KC z.1, (Option.some.inj z.2).symm⟩
theorem A9 (B : TabOk c tc) {A : Around} {W : Wd} {x : Sx} {t : Nat} {a b : FV} {u v : Value} {r : Bool} (I : Inv c W) (ra : RF c W.G a u) (rb : RF c W.G b v) (hu : A.units + 10 < cLine) (h : eqF a b = some r) : yO c A (mkS x W.h t) u v r := by
 cases pa : iJ a with
 | true =>
  have e := h
  unfold eqF at h
  rw [pa] at h
  obtain ⟨da, a1, a2, a3⟩ := j8 (tb := c.tb) pa
  obtain ⟨db, b1, b2, b3⟩ := j8 (tb := c.tb) (gOE h).1
  rw [rE a1 b1] at e
  cases e
  exact EJ I ra rb a2 b2 hu (by omega)
 | false =>
  unfold eqF at h
  rw [pa] at h
  refine oOE h λ xs hx h => oOE h λ ys hy h => ?_
  cases dK hx
  cases dK hy
  refine (EK h).elim (λ z => ?_) λ z => ?_
  ·refine RF.lstE ra λ p us n p1 p2 _ _ => RF.lstE rb λ q vs m q1 q2 _ _ => ?_
   rw [z.2, ← p2, ← q2]
   exact LM (I.sub _ _ p1) (I.sub _ _ q1) (by omega) (by rw [p2, q2]; exact z.1)
  ·cases z.2.1
   rw [z.2.2]
   obtain ⟨ds, g1, g2⟩ := A7 B z.1
   obtain ⟨as, k1, k2⟩ := (Dat.lst g1).reads (h := W.h) I.sub ra
   rw [← SeqAt.eqv_refl _ k2]
   exact EJ (t := t) (x := x) I ra rb (.lst g1) (.lst g1) hu (by simp only [PyData.depth]; omega)
theorem qU {α : Type} (l : List α) : gH l = Nat.beq l.length 0 := by cases l <;> rfl
theorem rF (B : TabOk c tc) {A : Around} {W : Wd} {x : Sx} {t : Nat} {a b : PV} {u v : Value} {r : Bool} (I : Inv c W) (ra : RP c W.G W.ρ a u) (rb : RP c W.G W.ρ b v) (hu : A.units + 10 < cLine) (h : eqB W.H a b = some r) : yO c A (mkS x W.h t) u v r := by
 have na := ra.nrm I
 have nb := rb.nrm I
 unfold eqB at h
 refine oOE h λ y hy h => ?_
 rw [bO hy] at nb
 generalize nrm W.H a = p at h na
 cases p with
 | f z => exact A9 B I na.fE nb.fE hu h
 | ref i =>
  refine oOE h λ ys hys h => oOE (gOE h).2 λ ao hi h' => ?_
  cases dK hys
  have hn := (gOE h).1
  cases ys with
  | cons _ _ => exact ff hn
  | nil =>
   refine RP.refE na λ pp e => RF.lstE nb.fE λ q vs m q1 q2 _ _ => ?_
   have hi' := I.at hi e
   have fin : ∀ {us : List Value} {k n : Nat}, us.length = k -> W.h.get? pp.1 = some (seqObj "list" us n) -> Nat.beq k 0 = r -> yO c A (mkS x W.h t) (.ref pp.1) (.ref q) r := λ {us k n} e1 g e2 => by
    rw [← e2, ← e1, ← show vs.length = 0 from q2]
    exact LM g (I.sub _ _ q1) (by omega) (.inr q2)
   cases ao with
   | flist xs => obtain ⟨us, n, g, _, l⟩ := hi'; exact fin l.length g (by rw [← qU]; exact Option.some.inj h')
   | rlist xs => obtain ⟨us, n, g, _, l⟩ := hi'; exact fin l.length g (by rw [← qU]; exact Option.some.inj h')
   | _ => exact noS h'
theorem RF.isNone (B : TabOk c tc) {G : Gh} {x : FV} {u : Value} (r : RF c G x u) : (u == Value.none) = uV (.f x) :=
 RF.rec (motive_1 := λ x u _ => (u == Value.none) = uV (.f x)) (motive_2 := λ _ _ _ => True) (motive_3 := λ _ _ _ _ => True) (motive_4 := λ _ _ _ => True) (motive_5 := λ _ _ _ => True) rfl (λ _ => rfl) (λ _ _ => rfl) (λ _ _ _ => rfl) (λ _ _ _ _ _ => rfl) (λ _ _ _ _ _ => rfl) (λ _ _ => rfl) (λ _ _ _ _ => rfl)
  (λ _ _ _ _ _ => rfl) (λ _ _ _ _ _ => rfl) (λ _ _ => rfl) (λ {d} _ _ h => h.trans ((B.viewN d).elim (λ ⟨_, _, e⟩ => e ▸ rfl) λ z => z.elim (λ ⟨_, e⟩ => e ▸ rfl) λ ⟨_, e⟩ => e ▸ rfl)) trivial (λ _ _ _ _ => trivial) trivial (λ _ _ _ _ _ _ => trivial) trivial (λ _ _ _ _ => trivial) trivial (λ _ _ _ _ => trivial) r
theorem qV (B : TabOk c tc) {A : Around} {W : Wd} {x : Sx} {t : Nat} {a b : PV} {u v : Value} {r : Bool} (I : Inv c W) (ra : RP c W.G W.ρ a u) (rb : RP c W.G W.ρ b v) (h : isB W.H a b = some r) :
  (∀ Q, Q (.bool r) (mkS x W.h t) -> WP c A (compareOp .Is u v) Q (mkS x W.h t)) /\ (∀ Q, Q (.bool (!r)) (mkS x W.h t) -> WP c A (compareOp .IsNot u v) Q (mkS x W.h t)) := by
 have na := ra.nrm I
 have nb := rb.nrm I
 have g := gOE h
 rw [jY g.1] at nb
 have hz : (u == Value.none) = r := by
  rw [← Option.some.inj g.2]
  generalize nrm W.H a = z at na
  cases z with
  | f z => exact na.fE.isNone B
  | ref i => exact RP.refE na λ _ _ => rfl
 rw [← hz]
 exact RF.nonE nb.fE ⟨λ Q q => is_none q, λ Q q => isNot_none q⟩
theorem tA {W : Wd} (I : Inv c W) {p : PV} {v : Value} {i : Int} (ra : RP c W.G W.ρ p v) (h : p6 (nrm W.H p) = some i) : ∃ t, v = .int i t := by
 have n := ra.nrm I
 refine oOE h λ x hx h => ?_
 rw [bO hx, eG h] at n
 exact n.fE.inv
theorem wO {W : Wd} (I : Inv c W) {p : PV} {v : Value} {s : List Nat} (ra : RP c W.G W.ρ p v) (h : v8 (nrm W.H p) = some s) : ∃ t, v = .str (aC s) t /\ okS s = true := by
 have n := ra.nrm I
 refine oOE h λ x hx h => ?_
 rw [bO hx, fR h] at n
 exact n.fE.inv
theorem AW {A : Around} {W : Wd} {x : Sx} {t : Nat} {a b : PV} {op : CmpOp} {u v : Value} {r : Bool} {Q : Value -> Shared -> Prop} (I : Inv c W) (ra : RP c W.G W.ρ a u) (rb : RP c W.G W.ρ b v) (h : ltB W.H op a b = some r) (q : Q (.bool r) (mkS x W.h t)) :
  WP c A (compareOp op u v) Q (mkS x W.h t) := by
 refine oOE h λ i hi h => oOE h λ j hj h => ?_
 obtain ⟨_, rfl⟩ := tA I ra hi
 obtain ⟨_, rfl⟩ := tA I rb hj
 cases op with
 | Lt => cases h; exact P.lt_int q
 | LtE => cases h; exact P.le_int q
 | Gt => cases h; exact P.gt_int q
 | GtE => cases h; exact P.ge_int q
 | _ => exact noS h
end
section
variable {c : Cx} {tc : Tc} {ev : Ev} {n : Nat} {ct : Ctr}
theorem jL {K : Type} [DecidableEq K] (p : K × Value) (r : List (K × Value)) (k : K) : valueAt (p :: r) k = if p.1 = k then some p.2 else valueAt r k := by
 unfold valueAt
 rw [List.find?_cons]
 by_cases h : p.1 = k
 ·rw [if_pos h, decide_eq_true h]; rfl
 ·rw [if_neg h, decide_eq_false h]
theorem lD {K : Type} [DecidableEq K] {p : K × Value} {r : List (K × Value)} : valueAt (p :: r) p.1 = some p.2 := by rw [jL, if_pos rfl]
theorem jK {K : Type} [DecidableEq K] {p : K × Value} {r : List (K × Value)} {k : K} (h : p.1 ≠ k) : valueAt (p :: r) k = valueAt r k := by rw [jL, if_neg h]
theorem RI.ind {c : Cx} {G : Gh} {m : List (Int × FV) -> List (Int × Value) -> Prop} (h1 : m [] []) (h2 : ∀ {i x v es kvs}, RF c G x v -> RI c G es kvs -> m es kvs -> m ((i, x) :: es) ((i, v) :: kvs)) {es : List (Int × FV)} {kvs : List (Int × Value)} (h : RI c G es kvs) : m es kvs :=
 RI.rec (motive_1 := λ _ _ _ => True) (motive_2 := λ _ _ _ => True) (motive_3 := λ _ _ _ _ => True) (motive_4 := λ es kvs _ => m es kvs) (motive_5 := λ _ _ _ => True) trivial (λ _ => trivial) (λ _ _ => trivial) (λ _ _ _ => trivial) (λ _ _ _ _ _ => trivial) (λ _ _ _ _ _ => trivial) (λ _ _ => trivial) (λ _ _ _ _ => trivial)
  (λ _ _ _ _ _ => trivial) (λ _ _ _ _ _ => trivial) (λ _ _ => trivial) (λ _ _ => trivial) trivial (λ _ _ _ _ => trivial) trivial (λ _ _ _ _ _ _ => trivial) h1 (λ a b _ d => h2 a b d) trivial (λ _ _ _ _ => trivial) h
theorem RS.ind {c : Cx} {G : Gh} {m : List (List Nat × FV) -> List (Str × Value) -> Prop} (h1 : m [] []) (h2 : ∀ {i x v es kvs}, RF c G x v -> RS c G es kvs -> m es kvs -> m ((i, x) :: es) ((aC i, v) :: kvs)) {es : List (List Nat × FV)} {kvs : List (Str × Value)} (h : RS c G es kvs) : m es kvs :=
 RS.rec (motive_1 := λ _ _ _ => True) (motive_2 := λ _ _ _ => True) (motive_3 := λ _ _ _ _ => True) (motive_4 := λ _ _ _ => True) (motive_5 := λ es kvs _ => m es kvs) trivial (λ _ => trivial) (λ _ _ => trivial) (λ _ _ _ => trivial) (λ _ _ _ _ _ => trivial) (λ _ _ _ _ _ => trivial) (λ _ _ => trivial) (λ _ _ _ _ => trivial)
  (λ _ _ _ _ _ => trivial) (λ _ _ _ _ _ => trivial) (λ _ _ => trivial) (λ _ _ => trivial) trivial (λ _ _ _ _ => trivial) trivial (λ _ _ _ _ _ _ => trivial) trivial (λ _ _ _ _ => trivial) h1 (λ a b _ d => h2 a b d) h
theorem RI.has {G : Gh} {i : Int} {es : List (Int × FV)} {kvs : List (Int × Value)} (r : RI c G es kvs) : hasI es i = (valueAt kvs i).isSome :=
 RI.ind (m := λ es kvs => hasI es i = (valueAt kvs i).isSome) rfl (λ {j x v es kvs} _ _ ih => by
  show (decide (j = i) || hasI es i) = _
  by_cases h : j = i
  ·subst h; rw [lD (p := (j, v)), decide_eq_true rfl]; rfl
  ·rw [jK (p := (j, v)) h, decide_eq_false h]; exact ih) r
def lkP (c : Cx) (G : Gh) (o : Option Value) (x : Option FV) : Prop := Option.casesOn (motive := λ _ => Prop) x (o = none) λ x => ∃ v, o = some v /\ RF c G x v
theorem RS.look {G : Gh} {k : List Nat} {es : List (List Nat × FV)} {kvs : List (Str × Value)} (r : RS c G es kvs) : lkP c G (valueAt kvs (aC k)) (u6 es k) :=
 RS.ind (m := λ es kvs => lkP c G (valueAt kvs (aC k)) (u6 es k)) rfl (λ {j x v es kvs} a _ ih => by
  show lkP c G _ (Bool.rec (motive := λ _ => Option FV) (u6 es k) (some x) (lV j k))
  cases q : lV j k with
  | true => rw [← cN.mp q]; exact ⟨v, lD (p := (aC j, v)), a⟩
  | false => rw [jK (p := (aC j, v)) λ e => by rw [cN.mpr (i5 e)] at q; cases q]; exact ih) r
theorem lkP.has {G : Gh} {o : Option Value} {x : Option FV} (h : lkP c G o x) : o.isSome = x.isSome := by cases x with
 | none => rw [show o = none from h]; rfl
 | some x => rw [(show ∃ v, o = some v /\ RF c G x v from h).choose_spec.1]; rfl
theorem fS.mapOf {K : Type} [DecidableEq K] {prog : Program} {w : World} {knd : PySem.KeyKind prog w K} {o : Obj} {kvs : List (K × Value)} {h : Heap} {a : Addr} (d : fS knd o kvs) (e : h.get? a = some o) : h.MapOf knd a (valueAt kvs) := by
 obtain ⟨es, ep, h1, h2, h3, h4, h5⟩ := d
 exact Heap.DictOf.mapOf ⟨o, es, ep, e, h1, h2, h3, h4, h5⟩
theorem SetEs.mem {es : List (Int × Value)} {xs : List Int} (s : SetEs es xs) : (∀ e ∈ es, ∃ t, e.2 = .int e.1 t /\ e.1 ∈ xs) /\ (∀ i ∈ xs, ∃ e ∈ es, e.1 = i) /\ es.length = xs.length := by
 induction s with
 | nil => exact ⟨λ _ h => (by cases h), λ _ h => (by cases h), rfl⟩
 | cons r ih =>
  obtain ⟨h1, h2, h3⟩ := ih
  refine ⟨λ e he => ?_, λ i hi => ?_, congrArg (· + 1) h3⟩
  ·rcases List.mem_cons.mp he with rfl | he
   ·exact ⟨_, rfl, .head _⟩
   ·obtain ⟨t, a, b⟩ := h1 e he; exact ⟨t, a, .tail _ b⟩
  ·rcases List.mem_cons.mp hi with rfl | hi
   ·exact ⟨_, .head _, rfl⟩
   ·obtain ⟨e, a, b⟩ := h2 i hi; exact ⟨e, .tail _ a, b⟩
theorem DN {i : Int} {xs : List Int} : DO xs i = true ↔ i ∈ xs := by induction xs with
 | nil => exact ⟨λ h => ff h, λ h => (List.not_mem_nil h).elim⟩
 | cons y r ih => exact (Bool.or_eq_true_iff (x := decide (y = i)) (y := DO r i)).trans ((or_congr (decide_eq_true_iff.trans eq_comm) ih).trans List.mem_cons.symm)
theorem BZ.setOf {o : Obj} {xs : List Int} {h : Heap} {a : Addr} (d : BZ c.w o xs) (e : h.get? a = some o) : h.SetOf (intKind c.prog c.w) a (DO xs) xs.length := by
 obtain ⟨h1, es, ep, h2, h3, h4⟩ := d
 obtain ⟨g1, g2, g3⟩ := h2.mem
 have hash : ∀ i ∈ xs, hashInt i = i := by
  intro i hi
  rcases h4 with rfl | rfl | rfl
  ·rw [List.mem_singleton.mp hi]; rfl
  ·rw [List.mem_singleton.mp hi]; rfl
  ·rcases List.mem_cons.mp hi with rfl | hi
   ·rfl
   ·rw [List.mem_singleton.mp hi]; rfl
 refine ⟨o, _, ep, _, e, h1, h3, ?_, ?_, ?_, ?_, ?_⟩
 ·intro p hp
  obtain ⟨t, k1, k2⟩ := g1 p hp
  exact ⟨⟨p.1, by rw [k1]; simp [intKind, Value.isInt], (hash _ k2).symm⟩, by rw [k1]; rfl⟩
 ·intro k
  rw [DN]
  refine ⟨λ hk => ?_, λ hk => ?_⟩
  ·obtain ⟨p, p1, p2⟩ := g2 k hk
   obtain ⟨t, k1, k2⟩ := g1 p p1
   exact ⟨p, p1, by rw [k1, p2]; simp [intKind, Value.isInt]⟩
  ·obtain ⟨p, p1, p2⟩ := hk
   obtain ⟨t, k1, k2⟩ := g1 p p1
   rw [k1] at p2
   have : p.1 = k := by simpa [intKind, Value.isInt] using p2
   rw [← this]; exact k2
 ·rw [List.size_toArray, g3]
  rcases h4 with rfl | rfl | rfl <;> decide
 ·rw [List.size_toArray, g3]
  generalize (!aJ c.w) = bb
  rcases h4 with rfl | rfl | rfl <;> cases bb <;> decide
 ·rw [List.size_toArray, g3]
noncomputable def B0 (c : Cx) (A : Around) (x : Sx) (h : Heap) (u v : Value) (b : Bool) : Prop := ∀ t Q, ((∀ tk, Q (.bool b) (mkS x h tk)) -> WP c A (compareOp .In u v) Q (mkS x h t)) /\ ((∀ tk, Q (.bool (!b)) (mkS x h tk)) -> WP c A (compareOp .NotIn u v) Q (mkS x h t))
theorem B0.dict {K : Type} [DecidableEq K] {knd : PySem.KeyKind c.prog c.w K} {A : Around} {x : Sx} {h : Heap} {u : Value} {o : Obj} {a : Addr} {kvs : List (K × Value)} {k : K} {b : Bool} (e : knd.is k u = true) (d : fS knd o kvs) (g : h.get? a = some o) (ha : a ≠ sysModules) (hb : (valueAt kvs k).isSome = b) : B0 c A x h u (.ref a) b := by
 subst hb
 exact λ t Q => ⟨λ q => wpAny_in_of e (by simpa using ha) (d.mapOf g) (q _), λ q => wpAny_notIn_of e (by simpa using ha) (d.mapOf g) (q _)⟩
theorem qY {A : Around} {G : Gh} {x : Sx} {h : Heap} {y : FV} {u : Value} {r : Bool} {es : List (Int × FV)} {kvs : List (Int × Value)} {o : Obj} {a : Addr} (ry : RF c G y u) (hi : inI y es = some r) (d : fS (intKind c.prog c.w) o kvs) (g : h.get? a = some o) (l : RI c G es kvs) (ha : a ≠ sysModules) : B0 c A x h u (.ref a) r := by
 refine oOE hi λ i hy hi => ?_
 rw [eG hy] at ry
 refine RF.intE ry λ t => B0.dict (intKind_is ..) d g ha ?_
 rw [← l.has]; exact Option.some.inj hi
theorem qX {W : Wd} {y : FV} {u : Value} {r : Bool} {xs : List FV} (I : Inv c W) (ry : RF c W.G y u) (h : inL y xs = some r) : ∃ d ds bs, Reads W.h u d bs /\ d.canLay0 = true /\ DatL c.tb xs ds /\ PyData.depthAll ds + d.depth <= 0 /\ r = ds.any λ y => y.eqv d := by
 have h1 := gOE h
 have h2 := gOE h1.2
 obtain ⟨d, d1, d2, d3⟩ := j8 (tb := c.tb) h1.1
 obtain ⟨ds, g1, g2, g3⟩ := xB (tb := c.tb) h2.1
 obtain ⟨bs, k3, k4⟩ := d2.reads (h := W.h) I.sub ry
 exact ⟨d, ds, bs, k3, k4, g1, by rw [g2, d3]; exact Nat.le_refl _, Option.some.inj (h2.2.symm.trans (g3 d1))⟩
theorem qZ (B : TabOk c tc) {A : Around} {W : Wd} {x : Sx} {a b : PV} {u v : Value} {r : Bool} (I : Inv c W) (ra : RP c W.G W.ρ a u) (rb : RP c W.G W.ρ b v) (hu : A.units + 10 < cLine) (h : inB W.H a b = some r) : B0 c A x W.h u v r := by
 have na := ra.nrm I
 have nb := rb.nrm I
 unfold inB at h
 refine oOE h λ y hy h => ?_
 rw [bO hy] at na
 have na := na.fE
 generalize nrm W.H b = p at h nb
 cases p with
 | ref i =>
  refine oOE h λ ao hi h => oOE h λ es he h => RP.refE nb λ pp e => ?_
  cases oV he
  obtain ⟨o, kvs, g, d, _, l, hs⟩ := I.at hi e
  exact qY na h d g l hs
 | f z =>
  have nb := nb.fE
  cases z with
  | tup xs =>
   obtain ⟨d, ds, bs, k3, k4, g1, g2, rfl⟩ := qX I na h
   obtain ⟨as, k1, k2⟩ := (Dat.tup g1).reads (h := W.h) I.sub nb
   have k2' : PyData.canLayAll0 ds = true := by simpa only [PyData.canLay0] using k2
   exact λ t Q => ⟨λ q => SeqAt.in_tuple_reads k1 k3 k2' k4 (by omega) (q _), λ q => SeqAt.notIn_tuple_reads k1 k3 k2' k4 (by omega) (q _)⟩
  | lst xs =>
   obtain ⟨d, ds, bs, k3, k4, g1, g2, rfl⟩ := qX I na h
   obtain ⟨as, k1, k2⟩ := (Dat.lst g1).reads (h := W.h) I.sub nb
   have k2' : PyData.canLayAll0 ds = true := by simpa only [PyData.canLay0] using k2
   exact λ t Q => ⟨λ q => SeqAt.in_list_reads k1 k3 k2' k4 (by omega) (q _), λ q => SeqAt.notIn_list_reads k1 k3 k2' k4 (by omega) (q _)⟩
  | idct es => exact RF.idctE nb λ a o kvs g d l hs => qY na h d (I.sub _ _ g) l hs
  | sdct es =>
   refine oOE h λ k hk h => RF.sdctE nb λ a o kvs g d l hs => ?_
   rw [fR hk] at na
   exact RF.strE na λ t _ => B0.dict (strKind_is ..) d (I.sub _ _ g) hs (l.look.has.trans (Option.some.inj h))
  | iset es =>
   refine oOE h λ k hk h => RF.isetE nb λ a o g d => ?_
   rw [eG hk] at na
   cases h
   have hm := d.setOf (I.sub _ _ g)
   exact RF.intE na λ t => λ t Q => ⟨λ q => wpAny_inSet_of (intKind_is ..) rfl hm (q _), λ q => wpAny_notInSet_of (intKind_is ..) rfl hm (q _)⟩
  | str y =>
   refine oOE h λ k hk h => ?_
   rw [fR hk] at na
   cases h
   exact RF.strE na λ t _ => RF.strE nb λ t' _ => λ t Q => ⟨λ q => P.in_str (q _), λ q => P.notIn_str (q _)⟩
  | _ => exact noS h
theorem rL (B : TabOk c tc) {A : Around} {W : Wd} {x : Sx} {t : Nat} {a b : PV} {op : CmpOp} {u v : Value} {r : Bool} {Q : Value -> Shared -> Prop} (I : Inv c W) (hA : AOk 1 A) (ra : RP c W.G W.ρ a u) (rb : RP c W.G W.ρ b v) (h : xY W.H op a b = some r)
  (q : ∀ tk, Q (.bool r) (mkS x W.h tk)) : WP c A (compareOp op u v) Q (mkS x W.h t) := by
 have hu : A.units + 10 < cLine := by have := hA.2.2; omega
 have no : ∀ {o : Option Bool} {r : Bool}, DJ o = some r -> o = some (!r) := λ {o r} e => oOE e λ y h e => by rw [h, ← Option.some.inj e, Bool.not_not]
 cases op with
 | Eq => exact (rF B I ra rb hu h).1 Q (q t)
 | NotEq => exact (rF B (x := x) (t := t) I ra rb hu (no h)).2 Q ((Bool.not_not r).symm ▸ q t)
 | Is => exact (qV B I ra rb h).1 Q (q t)
 | IsNot => exact (qV B (A := A) (x := x) (t := t) I ra rb (no h)).2 Q ((Bool.not_not r).symm ▸ q t)
 | In => exact (qZ B I ra rb hu h t Q).1 q
 | NotIn => exact (qZ B (x := x) I ra rb hu (no h) t Q).2 ((Bool.not_not r).symm ▸ q)
 | _ => exact AW I ra rb h (q t)
theorem gM {A : Around} {W : Wd} {x : Sx} {t : Nat} {a : PV} {u : Value} {r : Bool} {Q : Bool -> Shared -> Prop} (I : Inv c W) (ra : RP c W.G W.ρ a u) (h : i4 W.H a = some r) (q : ∀ tk, Q r (mkS x W.h tk)) : WP c A (truthy u) Q (mkS x W.h t) := by
 have na := ra.nrm I
 unfold i4 at h
 refine oOE h λ y hy h => ?_
 rw [bO hy] at na
 have na := na.fE
 cases y with
 | bool b => cases h; exact RF.boolE na (wpAny_truthy_bool (q t))
 | non => cases h; exact RF.nonE na (wpAny_pure (q t))
 | str cs => cases cs with
  | nil => cases h; exact RF.strE na λ _ _ => P.truthy_str (by decide) (q _)
  | cons y r' =>
   have hl' := aM.mp (gOE h).1
   have e : (aC (y :: r')).length = r'.length + 1 := rfl
   refine RF.strE na λ _ _ => P.truthy_str (by rw [e]; omega) ?_
   rw [e, show (((r'.length + 1 : Nat) : Int) != 0) = true from bne_iff_ne.mpr (by omega), Option.some.inj (gOE h).2]
   exact q _
 | _ => exact noS h
end
section
variable {c : Cx} {tc : Tc} {ev : Ev} {n : Nat} {ct : Ctr}
theorem m7 {op : CmpOp} {r : Expr} (h : aA r = true) : behindInMarks op r = false := by
 unfold aA at h
 unfold exA at h
 refine aN (P := λ r => behindInMarks op r = false) h ?_ ?_ ?_ ?_ ?_ ?_ ?_ ?_ ?_ ?_ ?_ ?_ ?_ ?_ <;> intros <;> rfl
theorem NC {op : CmpOp} {l r : IExpr} (B : TabOk c tc) (S : Sound c tc ev n) : SE c tc ct ev n (.cmp op l r) := by
 intro A env vs W x t ex m Q hA hc F I h
 refine sG (P := λ e => WP c A (eval e env) Q (mkS x W.h t)) hc λ l' op' r' p hc => ?_
 cases (beq_iff_eq.mp (bl (bl (bl hc))) : op = op')
 have hn := hA.le (Nat.le_succ _)
 refine wpAny_Compare1 (S.useE hn (br (bl (bl hc))) F I (Nat.le_refl _) h λ W₁ p1 u tk e1 I1 F1 r1 hk1 h1 => ?_) (m7 (br hc))
 refine S.useE hn (br (bl hc)) F1 I1 hk1 h1 λ W₂ p2 v tk2 e2 I2 F2 rc hk2 h2 => ?_
 obtain ⟨b, hb, h2⟩ := zQ h2
 exact rL B I2 (hA.le (Nat.succ_le_succ (Nat.zero_le _))) (e2.rp r1) rc hb λ tk' => Gd.here h2 I2 (.f (.bool _))
theorem x6 (pos : Pos) (op : BoolOp) (x y : Sem Value) (rest : List (Sem Value)) : boolOp pos op (x :: y :: rest) = (do
  let v ← x
  standAt pos
  let t ← holding [v] (truthy v)
  match op, t with
  | .And, false | .Or, true => pure v
  | _, _ => boolOp pos op (y :: rest)) := rfl
theorem FN {isAnd : Bool} (B : TabOk c tc) (S : Sound c tc ev n) {A : Around} {env : Env} {vs : Vs} {x : Sx} {pos : Pos} {m k₀ : Nat} {Q : Value -> Shared -> Prop} (hA : AOk n A) {is : List IExpr} : ∀ {es : List Expr} {W : Wd} {t : Nat}, all2 (aW tc m env.kindOf) is es = true -> FrameOk c env vs W -> Inv c W -> k₀ <= W.ρ.length ->
  bC c No k₀ W x (RE c) Q (PZ isAnd (λ e H => ev.e e vs H) is W.H) -> WP c A (boolOp pos (if isAnd then .And else .Or) (evalEach es env)) Q (mkS x W.h t) := by
 induction is with
 | nil => exact λ _ _ _ _ h => h.elim
 | cons i is ih =>
  intro es W t hc F I hk h
  cases es with
  | nil => exact ff hc
  | cons e es => cases is with
   | nil => cases es with
    | nil => exact S.e hA (bl hc) F I (bC.up h hk)
    | cons _ _ => exact ff (br hc)
   | cons j is => cases es with
    | nil => exact ff (br hc)
    | cons f es =>
     show WP c A (boolOp pos _ (eval e env :: eval f env :: evalEach es env)) Q _
     rw [x6]
     refine wpAny_bind (S.useE hA (bl hc) F I hk (k := λ a => oB (i4 a.2 a.1) λ b => CY isAnd b (PZ isAnd (λ e H => ev.e e vs H) (j :: is) a.2) (.ret a)) h λ W₁ p u tk e1 I1 F1 r1 hk1 h1 => ?_)
     refine wpAny_bind (wpAny_standAt (wpAny_bind (wpAny_holding ?_)))
     refine oBE h1 λ b hb h1 => gM I1 r1 hb λ tk' => ?_
     cases isAnd <;> cases b
     ·exact ih (br (show (aW tc m env.kindOf i e && all2 (aW tc m env.kindOf) (j :: is) (f :: es)) = true from hc)) F1 I1 hk1 h1
     ·exact wpAny_pure (Gd.here h1 I1 r1)
     ·exact wpAny_pure (Gd.here h1 I1 r1)
     ·exact ih (br (show (aW tc m env.kindOf i e && all2 (aW tc m env.kindOf) (j :: is) (f :: es)) = true from hc)) F1 I1 hk1 h1
theorem ND {isAnd : Bool} {es : List IExpr} (B : TabOk c tc) (S : Sound c tc ev n) : SE c tc ct ev n (.bop isAnd es) := by
 intro A env vs W x t ex m Q hA hc F I h
 refine KU (P := λ e => WP c A (eval e env) Q (mkS x W.h t)) hc λ op vs' p hc => ?_
 cases (beq_iff_eq.mp (bl hc) : op = if isAnd then .And else .Or)
 rw [arm_eval_BoolOp]
 exact FN B S (hA.le (Nat.le_succ _)) (br hc) F I (Nat.le_refl _) h
theorem M2 {o : IExpr} (B : TabOk c tc) (S : Sound c tc ev n) : SE c tc ct ev n (.not o) := by
 intro A env vs W x t ex m Q hA hc F I h
 refine B7 (P := λ e => WP c A (eval e env) Q (mkS x W.h t)) hc λ op y p hc => ?_
 cases (beq_iff_eq.mp (bl hc) : op = .Not)
 refine wpAny_UnaryOp (S.useE (hA.le (Nat.le_succ _)) (br hc) F I (Nat.le_refl _) h λ W₁ p u tk e1 I1 F1 r1 hk1 h1 => ?_)
 exact oBE h1 λ b hb h1 => not_value (gM I1 r1 hb λ tk' => Gd.here h1 I1 (.f (.bool _)))
theorem M7 {a b d : IExpr} (B : TabOk c tc) (S : Sound c tc ev n) : SE c tc ct ev n (.ite a b d) := by
 intro A env vs W x t ex m Q hA hc F I h
 refine KR (P := λ e => WP c A (eval e env) Q (mkS x W.h t)) hc λ a' b' d' p hc => ?_
 have hn := hA.le (Nat.le_succ _)
 refine wpAny_IfExp (S.useT hn (bl (bl hc)) F I (Nat.le_refl _) h λ W₁ q tk e1 I1 F1 hk1 h1 => ?_)
 cases q with
 | false => exact S.e hn (br hc) F1 I1 (bC.up h1 hk1)
 | true => exact S.e hn (br (bl hc)) F1 I1 (bC.up h1 hk1)
theorem mO {i : Int} (h : mP i = true) : -1000000 <= i /\ i < 1000000 := by
 cases i with
 | ofNat k =>
  have := Nat.blt_eq.mp (show Nat.blt k 1000000 = true from h)
  exact ⟨by show (-1000000 : Int) <= (k : Int); omega, by show (k : Int) < 1000000; omega⟩
 | negSucc k =>
  have := Nat.blt_eq.mp (show Nat.blt k 1000000 = true from h)
  constructor <;> omega
theorem M4 {o : IExpr} (B : TabOk c tc) (S : Sound c tc ev n) : SE c tc ct ev n (.neg o) := by
 intro A env vs W x t ex m Q hA hc F I h
 refine B7 (P := λ e => WP c A (eval e env) Q (mkS x W.h t)) hc λ op y p hc => ?_
 cases (beq_iff_eq.mp (bl hc) : op = .USub)
 refine wpAny_UnaryOp (S.useE (hA.le (Nat.le_succ _)) (br hc) F I (Nat.le_refl _) h λ W₁ p u tk e1 I1 F1 r1 hk1 h1 => ?_)
 refine oBE h1 λ i hi h1 => ?_
 obtain ⟨_, rfl⟩ := tA I1 r1 hi
 exact P.neg_int (Gd.here (tk := tk + 1) (gBE h1).2 I1 (.f (.int _ _)))
theorem mS {W : Wd} (I : Inv c W) {p : PV} {v : Value} {y : FV} (r : RP c W.G W.ρ p v) (h : NT W.H p = some y) : RF c W.G y v := by
 have rn := r.nrm I
 rw [bO h] at rn
 exact rn.fE
theorem i7 {W : Wd} (I : Inv c W) {ps : List PV} {vs : List Value} (r : RPs c W.G W.ρ ps vs) : ∀ {ys : List FV}, C8 W.H ps = some ys -> RL c W.G ys vs :=
 r.rec (motive := λ ps vs _ => ∀ {ys : List FV}, C8 W.H ps = some ys -> RL c W.G ys vs) (λ h => by cases h; exact .nil) λ a _ ih ys h => oOE h λ y hy h => oOE h λ zs hz h => by cases h; exact .cons (mS I a hy) (ih hz)
theorem wH {G : Gh} {ρ : List (Nat × Nat)} {ps : List PV} {vs : List Value} (r : RPs c G ρ ps vs) : ∀ {ys : List FV}, MA ps = some ys -> RL c G ys vs :=
 r.rec (motive := λ ps vs _ => ∀ {ys : List FV}, MA ps = some ys -> RL c G ys vs) (λ h => by cases h; exact .nil) λ a _ ih ys h => oOE h λ y hy h => oOE h λ zs hz h => by cases h; rw [bO hy] at a; exact .cons a.fE (ih hz)
theorem Gd.frz {W : Wd} {x : Sx} {o : Obj} {v : FV} {X : Nat -> Prop} {k tk : Nat} {Q : Value -> Shared -> Prop} (h : Gd c X k W x (RE c (.f v, W.H)) Q) (I : Inv c W) (ho : o.isFreed = false) (r : ∀ G', d7 W.G G' -> G' W.h.objs.size = some o -> RF c G' v (.ref W.h.objs.size)) : Q (.ref W.h.objs.size) (mkS x (W.h.push o) tk) := by
 have fr : ∀ b o', W.h.get? b = some o' -> (W.h.push o).get? b = some o' := λ b o' ho => Heap.get?_push_of_some _ ho
 have ha := Nat.le_refl W.h.objs.size
 exact h _ _ tk (Ext.addG I fr ha) (I.addG fr ha (Heap.get?_push_size _ ho)) ⟨rfl, .f (r _ (bW (I.G_none ha)) (cL ..))⟩
theorem zB {W : Wd} (I : Inv c W) {o : Obj} {ao : AO} (ho : o.isFreed = false) (h1 : fpA ao (W.h.objs.size, 0) = [W.h.objs.size]) (h2 : ∀ C fs, ao = .inst C fs -> False) (ok : (W.h.push o).get? W.h.objs.size = some o -> OkAO c W.G (W.ρ ++ [(W.h.objs.size, 0)]) (W.h.push o) ao (W.h.objs.size, 0)) {X : Nat -> Prop} {k : Nat} :
  ∃ W', W'.G = W.G /\ W'.ρ = W.ρ ++ [(W.h.objs.size, 0)] /\ W'.H = W.H ++ [ao] /\ W'.h = W.h.push o /\ Inv c W' /\ Ext X k W W' /\ RP c W'.G W'.ρ (.ref W.H.length) (.ref W.h.objs.size) := by
 have fr : ∀ b o', W.h.get? b = some o' -> (W.h.push o).get? b = some o' := λ b o' ho => Heap.get?_push_of_some _ ho
 have ha : ∀ b ∈ fpA ao (W.h.objs.size, 0), W.h.objs.size <= b := λ b hb => by rw [h1] at hb; rw [List.mem_singleton.mp hb]; exact Nat.le_refl _
 refine ⟨{ W with ρ := W.ρ ++ [(W.h.objs.size, 0)], H := W.H ++ [ao], h := W.h.push o }, rfl, rfl, rfl, rfl, I.addH fr ha (λ C fs e => (h2 C fs e).elim) (ok (Heap.get?_push_size _ ho)), Ext.addH I fr ha, ?_⟩
 refine .ref (p := (W.h.objs.size, 0)) ?_
 show nth (W.ρ ++ [_]) W.H.length = _
 rw [← I.len]
 exact aZ
theorem Gd.mut {W : Wd} {x : Sx} {o : Obj} {ao : AO} {X : Nat -> Prop} {k tk : Nat} {Q : Value -> Shared -> Prop} (h : Gd c X k W x (RE c (.ref W.H.length, W.H ++ [ao])) Q) (I : Inv c W) (ho : o.isFreed = false) (h1 : fpA ao (W.h.objs.size, 0) = [W.h.objs.size]) (h2 : ∀ C fs, ao = .inst C fs -> False)
  (ok : (W.h.push o).get? W.h.objs.size = some o -> OkAO c W.G (W.ρ ++ [(W.h.objs.size, 0)]) (W.h.push o) ao (W.h.objs.size, 0)) : Q (.ref W.h.objs.size) (mkS x (W.h.push o) tk) := by
 obtain ⟨W', _, _, g3, g4, I', e', r'⟩ := zB (X := X) (k := k) I ho h1 h2 ok
 exact g4 ▸ h W' _ tk e' I' ⟨g3, r'⟩
theorem Gd.flist {W : Wd} {x : Sx} {xs : List FV} {us : List Value} {X : Nat -> Prop} {k tk : Nat} {Q : Value -> Shared -> Prop} (h : Gd c X k W x (RE c (.ref W.H.length, W.H ++ [.flist xs])) Q) (I : Inv c W) (l : xs.length <= 1500) (r : RL c W.G xs us) : Q (.ref W.h.objs.size) (mkS x (W.h.push { cls := .type "list", data := .seq us.toArray }) tk) :=
 Gd.mut h I rfl rfl (λ _ _ z => nomatch z) λ ho => .flist ho ⟨_, rfl⟩ l r
theorem Gd.rlist {W : Wd} {x : Sx} {xs : List PV} {us : List Value} {X : Nat -> Prop} {k tk : Nat} {Q : Value -> Shared -> Prop} (h : Gd c X k W x (RE c (.ref W.H.length, W.H ++ [.rlist xs])) Q) (I : Inv c W) (l : xs.length <= 1500) (r : RPs c W.G W.ρ xs us) : Q (.ref W.h.objs.size) (mkS x (W.h.push { cls := .type "list", data := .seq us.toArray }) tk) :=
 Gd.mut h I rfl rfl (λ _ _ z => nomatch z) λ ho => .rlist ho ⟨_, rfl⟩ l (r.mono (λ _ _ z => z) λ _ _ z => dY z)
theorem M5 {es : List IExpr} (B : TabOk c tc) (S : Sound c tc ev n) : SE c tc ct ev n (.lst es) := by
 intro A env vs W x t ex m Q hA hc F I h
 refine B8 (P := λ e => WP c A (eval e env) Q (mkS x W.h t)) hc λ ws p hc => ?_
 refine wpAny_List (S.spl (hA.le (Nat.le_succ _)) (bl hc) (br hc) F I (Nat.le_refl _) h λ W₁ ps us tk e1 I1 F1 r1 hk1 h1 => ?_)
 have hl : ps.length <= 100 := aM.mp (gBE h1).1
 have hlen := r1.length
 refine ⟨aL (by omega), oTE (gBE h1).2 (λ xs hxs h2 => ?_) λ h2 => Gd.rlist h2 I1 (show ps.length <= 1500 by omega) r1⟩
 have rl := wH r1 hxs
 have hlen2 := rl.length
 exact Gd.flist h2 I1 (by omega) rl
theorem MY {es : List IExpr} (B : TabOk c tc) (S : Sound c tc ev n) : SE c tc ct ev n (.tup es) := by
 intro A env vs W x t ex m Q hA hc F I h
 refine jM (P := λ e => WP c A (eval e env) Q (mkS x W.h t)) hc λ ws kk p hc => ?_
 refine wpAny_Tuple (S.spl (hA.le (Nat.le_succ _)) (bl hc) (br hc) F I (Nat.le_refl _) h λ W₁ ps us tk e1 I1 F1 r1 hk1 h1 => ?_)
 have hl : ps.length <= 100 := aM.mp (gBE h1).1
 have hlen := r1.length
 refine ⟨aL (by omega), oBE (gBE h1).2 λ xs hxs h2 => ?_⟩
 have rl := i7 I1 r1 hxs
 have hlen2 := rl.length
 exact Gd.frz h2 I1 rfl λ G' g1 g2 => .tup g2 ⟨_, rfl⟩ (by omega) (rl.mono g1)
end
section
variable {c : Cx} {tc : Tc} {ev : Ev} {n : Nat} {ct : Ctr}
theorem RL.nth {G : Gh} {xs : List FV} {vs : List Value} (r : RL c G xs vs) : ∀ {i : Nat} {y : FV}, Mine.nth xs i = some y -> ∃ v, vs[i]? = some v /\ RF c G y v :=
 RL.ind (m := λ xs vs => ∀ {i : Nat} {y : FV}, Mine.nth xs i = some y -> ∃ v, vs[i]? = some v /\ RF c G y v) (λ h => noS h) (λ a _ ih i y h => by cases i with
  | zero => cases h; exact ⟨_, rfl, a⟩
  | succ i => exact ih (i := i) h) r
theorem jE {G : Gh} {xs : List FV} {vs : List Value} {i : Int} {y : FV} (r : RL c G xs vs) (h : itemAt xs i = some y) : 0 <= i /\ i.toNat < xs.length /\ ∃ v, vs[i.toNat]? = some v /\ RF c G y v := by
 cases i with
 | ofNat k => exact ⟨Int.natCast_nonneg _, bQ h, r.nth h⟩
 | negSucc k => exact noS h
theorem mL {value slice : Expr} {pos : Pos} {env : Env} {A : Around} {s : Shared} {Q : Value -> Shared -> Prop} (hs : aA slice = true)
  (h : WP c A (eval value env) (λ o s1 => WP c A (eval slice env) (λ i s2 => SubscriptOn (model c.prog c.w) A o i Q (λ _ _ => False) s2) s1) s) : WP c A (eval (.Subscript value slice pos) env) Q s := by
 rw [arm_eval_Subscript]
 refine wpAny_bind (wpAny_mono h (λ o s1 h1 => wpAny_bind (wpAny_holding (wpAny_mono h1 (λ i s2 h2 => wpAny_bind (wpAny_standAt ?_)) λ _ _ z => z))) λ _ _ z => z)
 obtain ⟨T, id, hl, hT, hg⟩ := h2
 refine wpAny_bind ?_
 rw [getitemInPython_of_ne hT.not_modules]
 refine wpAny_bind (wpAny_specialOf hT hl ?_)
 have e : subscripted slice false o i = operate [o, i] (getItem o i) := by
  unfold aA at hs
  unfold exA at hs
  refine aN (P := λ slice => subscripted slice false o i = operate [o, i] (getItem o i)) hs ?_ ?_ ?_ ?_ ?_ ?_ ?_ ?_ ?_ ?_ ?_ ?_ ?_ ?_ <;> intros <;> rfl
 have fin : WP c A (operate [o, i] (getItem o i)) (λ r s3 => WP c A (letTemporaryGo value o r >>= λ _ => pure r) Q s3) s2 :=
  wpAny_operating (wpAny_mono hg (λ r s3 h3 => wpAny_bind (wpAny_letTemporaryGo (wpAny_pure h3))) λ _ _ z => z)
 rw [← e] at fin
 exact wpAny_pure (wpAny_bind fin)
theorem gZ : typeLookup (.type "list") "__getitem__" = pure (some (.builtin "list.__getitem__")) := PySem.F.slot_list_getitem.lookup
theorem sW : typeLookup (.type "tuple") "__getitem__" = pure (some (.builtin "tuple.__getitem__")) := PySem.F.slot_tuple_getitem.lookup
theorem u0 : typeLookup (.type "dict") "__getitem__" = pure (some (.builtin "dict.__getitem__")) := PySem.F.slot_dict_getitem.lookup
theorem nQ {A : Around} {x : Sx} {h : Heap} {t : Nat} {a : Addr} {vs : List Value} {m : Nat} {k : Int} {tk : Tok} {v : Value} {Q : Value -> Shared -> Prop} (hl : IsL h a vs.toArray m) (h0 : 0 <= k) (h1 : k.toNat < 2000) (hv : vs[k.toNat]? = some v) (q : Q v (mkS x h t)) :
  SubscriptOn (model c.prog c.w) A (.ref a) (.int k tk) Q (λ _ _ => False) (mkS x h t) :=
 ⟨"list", _, gZ, ⟨_, hl, rfl⟩, wpAny_getItem_list hl.isList h0 (by omega) (by simpa using hv) q⟩
theorem A3 {A : Around} {x : Sx} {h : Heap} {t : Nat} {a : Addr} {vs : List Value} {m : Nat} {k : Int} {tk : Tok} {v : Value} {Q : Value -> Shared -> Prop} (hl : IsT h a vs.toArray m) (h0 : 0 <= k) (h1 : k.toNat < 2000) (hv : vs[k.toNat]? = some v) (q : Q v (mkS x h t)) :
  SubscriptOn (model c.prog c.w) A (.ref a) (.int k tk) Q (λ _ _ => False) (mkS x h t) := by
 refine ⟨"tuple", _, sW, ⟨_, hl, rfl⟩, P.getItem_tuple (n := m) hl (by omega) (by omega) (k := k.toNat) ?_ (by simpa using hv) q⟩
 have hlt : k.toNat < vs.length := by
  rcases Nat.lt_or_ge k.toNat vs.length with z | z
  ·exact z
  ·rw [List.getElem?_eq_none z] at hv; cases hv
 exact seqIndex_of h0 (by rw [List.size_toArray]; omega)
theorem MM {A : Around} {W : Wd} {x : Sx} {t : Nat} {tk : Tok} {p : PV} {u : Value} {xs : List FV} {k : Int} {y : FV} {Q : Value -> Shared -> Prop} (I : Inv c W) (r : RP c W.G W.ρ p u) (h : CX W.H p = some xs) (hy : itemAt xs k = some y) (q : ∀ w, RF c W.G y w -> Q w (mkS x W.h t)) :
  SubscriptOn (model c.prog c.w) A u (.int k tk) Q (λ _ _ => False) (mkS x W.h t) := by
 have n1 := r.nrm I
 unfold CX at h
 generalize nrm W.H p = z at h n1
 cases z with
 | ref i =>
  refine oOE h λ ao hi h => RP.refE n1 λ pp e => ?_
  cases pA h
  obtain ⟨us, m, g, l, r⟩ := I.at hi e
  obtain ⟨g1, g2, w', g3, g4⟩ := jE r hy
  exact nQ g g1 (by omega) g3 (q _ g4)
 | f z =>
  have n1 := n1.fE
  cases z with
  | lst xs =>
   cases h
   refine RF.lstE n1 λ a us m g _ l r => ?_
   obtain ⟨g1, g2, w', g3, g4⟩ := jE r hy
   exact nQ (I.sub _ _ g) g1 (by omega) g3 (q _ g4)
  | tup xs =>
   cases h
   refine RF.tupE n1 λ a us m g _ l r => ?_
   obtain ⟨g1, g2, w', g3, g4⟩ := jE r hy
   exact A3 (I.sub _ _ g) g1 (by omega) g3 (q _ g4)
  | _ => exact noS h
theorem MZ {o i : IExpr} (B : TabOk c tc) (S : Sound c tc ev n) : SE c tc ct ev n (.sub o i) := by
 intro A env vs W x t ex m Q hA hc F I h
 refine p8 (P := λ e => WP c A (eval e env) Q (mkS x W.h t)) hc λ v s p hc => ?_
 have hn := hA.le (Nat.le_succ _)
 refine mL (br hc) (S.useE hn (bl (bl hc)) F I (Nat.le_refl _) h λ W₁ p1 u tk e1 I1 F1 r1 hk1 h1 => ?_)
 refine S.useE hn (br (bl hc)) F1 I1 hk1 h1 λ W₂ p2 v tk2 e2 I2 F2 rc hk2 h2 => ?_
 have r1 := e2.rp r1
 have n2 := rc.nrm I2
 refine oBE h2 λ p hp h2 => oOE hp λ y hy hp => ?_
 rw [bO hy] at n2
 have n2 := n2.fE
 cases y with
 | int k =>
  refine RF.intE n2 λ _ => oOE hp λ xs hx hp => ?_
  obtain ⟨y, hy, rfl⟩ := Option.map_eq_some_iff.mp hp
  exact MM I2 r1 hx hy λ w r => Gd.here h2 I2 (.f r)
 | str k =>
  refine RF.strE n2 λ _ _ => oOE hp λ z hz hp => oOE hp λ es he hp => ?_
  obtain ⟨y, hy, rfl⟩ := Option.map_eq_some_iff.mp hp
  have n1 := r1.nrm I2
  rw [bO hz, FS he] at n1
  refine RF.sdctE n1.fE λ a o kvs g d l hs => ?_
  have z := l.look (k := k)
  rw [hy] at z
  obtain ⟨w', g1, g2⟩ := z
  have hm := d.mapOf (I2.sub _ _ g)
  exact ⟨"dict", _, u0, ⟨_, I2.sub _ _ g, d.choose_spec.choose_spec.1.1⟩, wpAny_getItem_of (strKind_is ..) hm g1 (Gd.here h2 I2 (.f g2))⟩
 | _ => exact noS hp
end
section
variable {c : Cx} {tc : Tc} {ev : Ev} {n : Nat} {ct : Ctr}
theorem w6 {W : Wd} (I : Inv c W) {C : Addr} {ps : List (Nat × PV)} {es : List DictEntry} (r : RPf c W.G W.ρ C ps es) : ∀ {ys : List (Nat × FV)}, NU W.H ps = some ys -> RFs c W.G C ys es :=
 r.rec (motive := λ ps es _ => ∀ {ys : List (Nat × FV)}, NU W.H ps = some ys -> RFs c W.G C ys es) (λ h => by cases h; exact .nil) λ a b d _ ih ys h => oOE h λ y hy h => oOE h λ zs hz h => by cases h; exact .cons a b (mS I d hy) (ih hz)
def KL (c : Cx) (X : Nat -> Prop) (k : Nat) (W : Wd) (r : FV × Hp) (u : Value) : Prop := ∃ W', Ext X k W W' /\ Inv c W' /\ W'.H = r.2 /\ W'.h = W.h /\ W'.ρ = W.ρ /\ RF c W'.G r.1 u
theorem EH {W : Wd} (I : Inv c W) {i : Nat} {q : Nat × Nat} {ao : AO} {v : FV} {G' : Gh} {X : Nat -> Prop} {k : Nat} (hi : nth W.H i = some ao) (hp : nth W.ρ i = some q) (hG : d7 W.G G') (hn : ∀ b o, G' b = some o -> W.G b = some o \/ (b ∈ fpA ao q /\ W.h.get? b = some o)) (hv : RF c G' v (.ref q.1)) : KL c X k W (v, a9 W.H i (.fz v)) (.ref q.1) :=
 ⟨_, Ext.freeze hi hp hG hn, Inv.freeze I hi hp hG hn hv, rfl, rfl, rfl, hv⟩
theorem tD {W : Wd} (I : Inv c W) {i : Nat} {q : Nat × Nat} {ao : AO} {o : Obj} {v : FV} {X : Nat -> Prop} {k : Nat} (ha : nth W.H i = some ao) (e : nth W.ρ i = some q) (hf : fpA ao q = [q.1]) (ho : W.h.get? q.1 = some o) (hr : ∀ G', d7 W.G G' -> G' q.1 = some o -> RF c G' v (.ref q.1)) : KL c X k W (v, a9 W.H i (.fz v)) (.ref q.1) := by
 have hG := bW (o := o) (I.fresh _ ⟨i, ao, q, ha, e, by rw [hf]; exact .head _⟩)
 refine EH I ha e hG (λ b o' eb => ?_) (hr _ hG (cL ..))
 rcases cI eb with ⟨rfl, rfl⟩ | eb
 ·exact .inr ⟨by rw [hf]; exact .head _, ho⟩
 ·exact .inl eb
theorem EG {W : Wd} (I : Inv c W) {i C m : Nat} {q : Nat × Nat} {fs : List (Nat × PV)} {vs : List (Nat × FV)} {es : List DictEntry} {X : Nat -> Prop} {k : Nat} (hx : nth W.H i = some (.inst C fs)) (e : nth W.ρ i = some q) (a : W.h.get? q.1 = some (instObj C q.2)) (b : W.h.get? q.2 = some (dictOf es m)) (rl : RFs c W.G C vs es) : KL c X k W (.node C vs, a9 W.H i (.fz (.node C vs))) (.ref q.1) := by
 have n2 : W.G q.2 = none := I.fresh _ ⟨i, _, q, hx, e, .tail _ (.head _)⟩
 have n1' : addG W.G q.2 (dictOf es m) q.1 = none := (if_neg (I.two _ _ _ _ hx e)).trans (I.fresh _ ⟨i, _, q, hx, e, .head _⟩)
 have hG : d7 W.G (addG (addG W.G q.2 (dictOf es m)) q.1 (instObj C q.2)) := λ b o eb => bW n1' _ _ (bW n2 _ _ eb)
 refine EH I hx e hG (λ b' o' eb => ?_) (.node (cL ..) (bW n1' _ _ (cL ..)) (rl.mono hG))
 rcases cI eb with ⟨rfl, rfl⟩ | eb
 ·exact .inr ⟨.head _, a⟩
 ·rcases cI eb with ⟨rfl, rfl⟩ | eb
  ·exact .inr ⟨.tail _ (.head _), b⟩
  ·exact .inl eb
theorem kO {W : Wd} (I : Inv c W) {p : PV} {u : Value} {r : FV × Hp} {X : Nat -> Prop} {k : Nat} (rp : RP c W.G W.ρ p u) (h : frz p W.H = some r) : KL c X k W r u := by
 have rn := rp.nrm I
 unfold frz at h
 generalize nrm W.H p = z at h rn
 cases z with
 | f v => cases h; exact ⟨W, .refl .., I, rfl, rfl, rfl, rn.fE⟩
 | ref i =>
  refine oOE h λ ao hi h => oOE h λ v hv h => RP.refE rn λ q e => ?_
  cases h
  have ok := I.at hi e
  cases ao with
  | flist xs => cases hv; obtain ⟨us, m, g, l, r⟩ := ok; exact tD I hi e rfl g λ G' g1 g2 => .lst g2 ⟨_, rfl⟩ (by omega) (r.mono g1)
  | idct xs => cases hv; obtain ⟨o, kvs, g, d, _, r, ne⟩ := ok; exact tD I hi e rfl g λ G' g1 g2 => .idct g2 d (r.mono g1) ne
  | rlist ps =>
   refine oOE hv λ vs hvs hv => ?_
   cases hv
   obtain ⟨us, m, g, l, r⟩ := ok
   have rl := i7 I r hvs
   have l1 := rl.length
   have l2 := r.length
   exact tD I hi e rfl g λ G' g1 g2 => .lst g2 ⟨_, rfl⟩ (by omega) (rl.mono g1)
  | inst C fs =>
   refine oOE hv λ vs hvs hv => ?_
   cases hv
   obtain ⟨es, m, a, b, r, _⟩ := ok
   exact EG I hi e a b (w6 I r hvs)
  | _ => exact noS hv
theorem NA {o : IExpr} (B : TabOk c tc) (S : Sound c tc ev n) : SE c tc ct ev n (.frz o) := by
 intro A env vs W x t ex m Q hA hc F I h
 refine S.useE (hA.le (Nat.le_succ _)) (bl hc) F I (Nat.le_refl _) h λ W₁ p u tk e1 I1 F1 r1 hk1 h1 => ?_
 refine oBE h1 λ r hr h1 => ?_
 obtain ⟨W', e', I', g1, g2, g3, g4⟩ := kO (X := No) (k := W.ρ.length) I1 r1 hr
 exact g2 ▸ h1 W' u tk e' I' ⟨g1, .f g4⟩
theorem RL.toP {G : Gh} {ρ : List (Nat × Nat)} {xs : List FV} {vs : List Value} (h : RL c G xs vs) : RPs c G ρ (xs.map .f) vs := RL.ind (m := λ xs vs => RPs c G ρ (xs.map .f) vs) .nil (λ a _ r => .cons (.f a) r) h
theorem fC {W : Wd} (I : Inv c W) {p : PV} {u : Value} {xs : List FV} (rp : RP c W.G W.ρ p u) (h : j1 W.H p = some xs) : ∃ a vs m, u = .ref a /\ IsL W.h a (List.toArray vs) m /\ RL c W.G xs vs := by
 have rn := rp.nrm I
 unfold j1 at h
 generalize nrm W.H p = z at h rn
 cases z with
 | f v => rw [dK h] at rn; exact RF.lstE rn.fE λ a us m g _ _ r => ⟨_, _, m, rfl, I.sub _ _ g, r⟩
 | ref i =>
  refine oOE h λ ao hi h => RP.refE rn λ q e => ?_
  cases pA h
  obtain ⟨us, m, g, _, r⟩ := I.at hi e
  exact ⟨_, _, m, rfl, g, r⟩
theorem gS {W : Wd} (I : Inv c W) {p : PV} {u : Value} {xs : List PV} (rp : RP c W.G W.ρ p u) (h : jV W.H p = some xs) : ∃ a vs m, u = .ref a /\ IsL W.h a (List.toArray vs) m /\ RPs c W.G W.ρ xs vs := by
 have rn := rp.nrm I
 unfold jV at h
 generalize nrm W.H p = z at h rn
 cases z with
 | f v =>
  refine oOE h λ ys hy h => ?_
  rw [dK hy] at rn
  cases h
  exact RF.lstE rn.fE λ a us m g _ _ r => ⟨_, _, m, rfl, I.sub _ _ g, r.toP⟩
 | ref i =>
  refine oOE h λ ao hi h => RP.refE rn λ q e => ?_
  have ok := I.at hi e
  cases ao with
  | flist ys => cases h; obtain ⟨us, m, g, _, r⟩ := ok; exact ⟨_, _, m, rfl, g, r.toP⟩
  | rlist ys => cases h; obtain ⟨us, m, g, _, r⟩ := ok; exact ⟨_, _, m, rfl, g, r⟩
  | _ => exact noS h
theorem RL.append {G : Gh} {ys : List FV} {us : List Value} (hy : RL c G ys us) {xs : List FV} {vs : List Value} (h : RL c G xs vs) : RL c G (xs ++ ys) (vs ++ us) := RL.ind (m := λ xs vs => RL c G (xs ++ ys) (vs ++ us)) hy (λ a _ r => .cons a r) h
theorem RPs.append {G : Gh} {ρ : List (Nat × Nat)} {ys : List PV} {us : List Value} (hy : RPs c G ρ ys us) {xs : List PV} {vs : List Value} (h : RPs c G ρ xs vs) : RPs c G ρ (xs ++ ys) (vs ++ us) := h.rec (motive := λ xs vs _ => RPs c G ρ (xs ++ ys) (vs ++ us)) hy (λ a _ r => .cons a r)
theorem xC {a b : List Nat} (ha : okS a = true) (hb : okS b = true) : okS (a ++ b) = true := jW.mpr λ x hx => by
 rcases List.mem_append.mp hx with h | h
 ·exact jW.mp ha x h
 ·exact jW.mp hb x h
theorem pH (a b : List Nat) : aC a ++ aC b = aC (a ++ b) := by
 show (⟨a.toArray ++ b.toArray⟩ : Str) = ⟨(a ++ b).toArray⟩
 rw [List.append_toArray]
theorem A1 {op : Operator} (h : LJ op = true) : op = .Add := by cases op with
 | Add => rfl
 | _ => exact ff h
theorem uJ {vs us : List Value} {α : Type} {xs ys : List α} (h1 : vs.length = xs.length) (h2 : us.length = ys.length) (hl : (xs ++ ys).length <= 1000) : vs.length + us.length <= 1000 := by rw [List.length_append] at hl; omega
theorem add_lists {A : Around} {h : Heap} {x : Sx} {t : Nat} {la lb m m' : Nat} {vs us : List Value} {Q : Value -> Shared -> Prop} (g1 : IsL h la vs.toArray m) (g2 : IsL h lb us.toArray m') (hl : vs.length + us.length <= 1000) (q : Q (.ref h.objs.size) (mkS x (h.push { cls := .type "list", data := .seq (vs ++ us).toArray }) t)) : WP c A (binaryOp .Add (.ref la) (.ref lb)) Q (mkS x h t) := by
 refine P.add_list g1 g2 ?_ (aL (by rw [List.size_toArray, List.size_toArray]; omega))
 rw [List.append_toArray]
 exact q
theorem yB {A : Around} {x : Sx} {h : Heap} {t : Nat} {op : Operator} {i j r : Int} {ti tj : Tok} {Q : Value -> Shared -> Prop} (hr : binI op i j = some r) (q : Q (.int r t) (mkS x h (t + 1))) : WP c A (binaryOp op (.int i ti) (.int j tj)) Q (mkS x h t) := by
 have g1 := gOE hr
 have g2 := gOE g1.2
 have si := mO g1.1
 have sj := mO g2.1
 have g3 := g2.2
 cases op with
 | Add => cases g3; exact P.add_int q
 | Sub => cases g3; exact P.sub_int q
 | Mult => cases g3; exact P.mul_int q (.of_left (intBits_le_64 (by omega) (by omega)))
 | FloorDiv => cases j with
  | negSucc _ => exact noS g3
  | ofNat m => cases m with
   | zero => exact noS g3
   | succ mm =>
    cases g3
    have sj' : ((mm + 1 : Nat) : Int) < 1000000 := sj.2
    exact AutoIntOps.floordiv_1 (by show ¬ ((((mm + 1 : Nat) : Int) == 0) = true); simp; omega) (by rw [PyProof.noPylong_small (by show ((mm + 1 : Nat) : Int).natAbs < _; omega)]; decide) q
 | _ => exact noS g3
theorem yA (B : TabOk c tc) {nd : Bool} {op : Operator} {A : Around} {W : Wd} {x : Sx} {t k₀ : Nat} {a b : PV} {u v : Value} {Q : Value -> Shared -> Prop} (I : Inv c W) (ra : RP c W.G W.ρ a u) (rb : RP c W.G W.ρ b v)
  (h : bC c No k₀ W x (RE c) Q (P0 nd op a b W.H)) : WP c A (binaryOp op u v) Q (mkS x W.h t) := by
 unfold P0 at h
 refine oTE h (λ i hi h => oBE h λ j hj h => oBE h λ r hr h => ?_) λ h => ?_
 ·obtain ⟨_, rfl⟩ := tA I ra hi
  obtain ⟨_, rfl⟩ := tA I rb hj
  exact yB hr (Gd.here h I (.f (.int _ _)))
 ·cases A1 (gBE h).1
  refine oTE (gBE h).2 (λ s hs h => oBE h λ s' hs' h => ?_) λ h => oTE h (λ z hz h => ?_) λ h => oBE h λ z hz h => ?_
  ·obtain ⟨_, rfl, o1⟩ := wO I ra hs
   obtain ⟨_, rfl, o2⟩ := wO I rb hs'
   obtain ⟨hl, h⟩ := fO h
   rw [List.length_append] at hl
   refine SBL.add (λ t' k' _ => ?_) (aL (by show s.toArray.size + s'.toArray.size <= _; rw [List.size_toArray, List.size_toArray]; omega))
   rw [pH]
   exact Gd.here h I (.f (.str _ _ (xC o1 o2)))
  ·obtain ⟨la, vs, m, rfl, g1, g2⟩ := fC I ra (iN hz).1
   obtain ⟨lb, us, m', rfl, g3, g4⟩ := fC I rb (iN hz).2
   obtain ⟨hl, h⟩ := fO h
   exact add_lists g1 g3 (uJ g2.length g4.length hl) (Gd.flist h I (Nat.le_trans hl (by decide)) (g4.append g2))
  ·obtain ⟨la, vs, m, rfl, g1, g2⟩ := gS I ra (iN hz).1
   obtain ⟨lb, us, m', rfl, g3, g4⟩ := gS I rb (iN hz).2
   obtain ⟨hl, h⟩ := fO h
   exact add_lists g1 g3 (uJ g2.length g4.length hl) (Gd.rlist h I (Nat.le_trans hl (by decide)) (g4.append g2))
theorem NE {nd : Bool} {op : Operator} {l r : IExpr} (B : TabOk c tc) (S : Sound c tc ev n) : SE c tc ct ev n (.bin nd op l r) := by
 intro A env vs W x t ex m Q hA hc F I h
 refine CD (P := λ e => WP c A (eval e env) Q (mkS x W.h t)) hc λ l' op' r' p hc => ?_
 cases (beq_iff_eq.mp (bl (bl hc)) : op = op')
 have hn := hA.le (Nat.le_succ _)
 refine wpAny_BinOp (S.useE hn (br (bl hc)) F I (Nat.le_refl _) h λ W₁ p1 u tk e1 I1 F1 r1 hk1 h1 => ?_)
 exact S.useE hn (br hc) F1 I1 hk1 h1 λ W₂ p2 v tk2 e2 I2 F2 rc hk2 h2 => yA B I2 (e2.rp r1) rc h2
end
section
variable {c : Cx} {tc : Tc} {ev : Ev} {n : Nat} {ct : Ctr}
theorem uX {g : Int -> Int -> Bool} {W : Wd} {x : Sx} {k₀ : Nat} {a b : PV} {u v : Value} {Q : Value -> Shared -> Prop} (I : Inv c W) (ra : RP c W.G W.ρ a u) (rb : RP c W.G W.ρ b v) (h : bC c No k₀ W x (RE c) Q (mmT g a b W.H)) :
  ∃ i ti j tj, u = .int i ti /\ v = .int j tj /\ ∀ h' tk, (∀ b o, W.h.get? b = some o -> h'.get? b = some o) -> Q (if g i j = true then .int j tj else .int i ti) (mkS x h' tk) := by
 refine oBE h λ i hi h => oBE h λ j hj h => ?_
 obtain ⟨ti, rfl⟩ := tA I ra hi
 obtain ⟨tj, rfl⟩ := tA I rb hj
 refine ⟨i, ti, j, tj, rfl, rfl, λ h' tk kp => ?_⟩
 revert h
 cases g i j with
 | true => exact λ h => h _ _ tk (Ext.heap kp) (I.heap kp) ⟨rfl, .f (.int _ tj)⟩
 | false => exact λ h => h _ _ tk (Ext.heap kp) (I.heap kp) ⟨rfl, .f (.int _ ti)⟩
theorem QZ {a b : IExpr} (B : TabOk c tc) (S : Sound c tc ev n) : SE c tc ct ev n (.mx a b) := by
 intro A env vs W x t ex m Q hA hc F I h
 refine mG (P := λ e => WP c A (eval e env) Q (mkS x W.h t)) hc λ f y z p hc => ?_
 refine dR B F I (bl (bl (bl (bl hc)))) (u := .builtin "max") rfl (by decide) (S.call2 B (hA.le (Nat.le_succ _)) (d6 _) (br (bl (bl (bl hc)))) (br (bl (bl hc))) (br (bl hc)) (br hc) F I (Nat.le_refl _) (k := λ y z => mmT (λ i j => decide (j > i)) y.1 z.1 z.2) h λ W₁ p1 p2 u v tk e1 I1 F1 r1 rc hk1 h1 => ?_)
 obtain ⟨i, ti, j, tj, rfl, rfl, q⟩ := uX I1 r1 rc h1
 exact max_two_ints hA.1 λ h' tk' kp => by simpa only [decide_eq_true_eq] using q h' tk' kp
theorem Q0 {a b : IExpr} (B : TabOk c tc) (S : Sound c tc ev n) : SE c tc ct ev n (.mn a b) := by
 intro A env vs W x t ex m Q hA hc F I h
 refine mG (P := λ e => WP c A (eval e env) Q (mkS x W.h t)) hc λ f y z p hc => ?_
 refine dR B F I (bl (bl (bl (bl hc)))) (u := .builtin "min") rfl (by decide) (S.call2 B (hA.le (Nat.le_succ _)) (d6 _) (br (bl (bl (bl hc)))) (br (bl (bl hc))) (br (bl hc)) (br hc) F I (Nat.le_refl _) (k := λ y z => mmT (λ i j => decide (j < i)) y.1 z.1 z.2) h λ W₁ p1 p2 u v tk e1 I1 F1 r1 rc hk1 h1 => ?_)
 obtain ⟨i, ti, j, tj, rfl, rfl, q⟩ := uX I1 r1 rc h1
 exact min_two_ints hA.1 λ h' tk' kp => by simpa only [decide_eq_true_eq] using q h' tk' kp
theorem x7 (B : TabOk c tc) (S : Sound c tc ev n) {s : String} {u : Value} {ie : IExpr} {A : Around} {env : Env} {vs : Vs} {W : Wd} {x : Sx} {t m : Nat} {e : Expr} {β : Type} {R : β -> Wd -> Value -> Prop} {k : PV × Hp -> T β} {Q : Value -> Shared -> Prop} (hA : AOk (n + 1) A) (hv : blV s = some u) (hd : (Str.ofString s == ("__debug__" : Str)) = false)
  (hk : Keeps c u) (hc : fK e (λ f y => gK tc env.kindOf s f && aW tc m env.kindOf ie y && aA y) = true) (F : FrameOk c env vs W) (I : Inv c W) (h : bC c No W.ρ.length W x R Q ((ev.e ie vs W.H).bind k))
  (rest : ∀ W₁ p v tk, Ext No W.ρ.length W W₁ -> Inv c W₁ -> FrameOk c env vs W₁ -> RP c W₁.G W₁.ρ p v -> W.ρ.length <= W₁.ρ.length -> bC c No W.ρ.length W₁ x R Q (k (p, W₁.H)) -> WP c A (call u [v]) Q (mkS x W₁.h tk)) : WP c A (eval e env) Q (mkS x W.h t) :=
 mH (P := λ e => WP c A (eval e env) Q (mkS x W.h t)) hc λ f y p hc => dR B F I (bl (bl hc)) hv hd (S.call1 B (first := []) (hA.le (Nat.le_succ _)) hk (br (bl hc)) (br hc) F I (Nat.le_refl _) h rest)
theorem RZ {W : Wd} (I : Inv c W) {p : PV} {v : Value} {i : Nat} (ra : RP c W.G W.ρ p v) (h : BW (nrm W.H p) = some i) : ∃ t, v = .int (.ofNat i) t := by
 refine oOE h λ x hx h => ?_
 obtain ⟨t, rfl⟩ := tA I ra hx
 cases x with
 | ofNat k => cases h; exact ⟨t, rfl⟩
 | negSucc k => exact noS h
theorem HT {W : Wd} (I : Inv c W) {p : PV} {v : Value} {xs : List FV} (ra : RP c W.G W.ρ p v) (h : yI (nrm W.H p) = some xs) : ∃ a us m, v = .ref a /\ W.G a = some (seqObj "list" us m) /\ xs.length <= 2000 /\ RL c W.G xs us := by
 have n := ra.nrm I
 refine oOE h λ x hx h => ?_
 rw [bO hx, dK h] at n
 exact n.fE.inv
theorem BB : ∀ k : Fin 10, Str.ofString (toString (Int.ofNat k.1)) = aC [48 + k.1] /\ okS [48 + k.1] = true /\ k.1.log2 < 1920 := by decide +kernel
theorem C0 {a : IExpr} (B : TabOk c tc) (S : Sound c tc ev n) : SE c tc ct ev n (.tostr a) := by
 intro A env vs W x t ex m Q hA hc F I h
 refine x7 B S hA (s := "str") (u := .type "str") rfl (by decide) (eN _) hc F I h λ W₁ p1 u tk e1 I1 F1 r1 hk1 h1 => ?_
 refine oBE h1 λ k hk h1 => oBE h1 λ d hd h1 => ?_
 obtain ⟨_, rfl⟩ := RZ I1 r1 hk
 cases (gOE hd).2
 have z := BB ⟨k, Nat.blt_eq.mp (gOE hd).1⟩
 exact P.str_of_int z.2.2 (z.1 ▸ Gd.here (tk := tk + 1) h1 I1 (.f (.str _ _ z.2.1)))
theorem M0 {a : IExpr} (B : TabOk c tc) (S : Sound c tc ev n) : SE c tc ct ev n (.rng a) := by
 intro A env vs W x t ex m Q hA hc F I h
 refine x7 B S hA (s := "range") (u := .type "range") rfl (by decide) (eN _) hc F I h λ W₁ p1 u tk e1 I1 F1 r1 hk1 h1 => ?_
 refine oBE h1 λ k hk h1 => ?_
 obtain ⟨_, rfl⟩ := RZ I1 r1 hk
 exact call_range_1 (Gd.frz (gBE h1).2 I1 rfl λ G' g1 g2 => .rng g2 (Nat.blt_eq.mp (gBE h1).1))
theorem tQ {G : Gh} {xs : List FV} {vs : List Value} (r : RL c G xs vs) : ∀ {b : Bool}, n8 xs = some b -> ∃ bs : List Bool, vs = bs.map .bool /\ bs.all id = b :=
 RL.ind (m := λ xs vs => ∀ {b : Bool}, n8 xs = some b -> ∃ bs : List Bool, vs = bs.map .bool /\ bs.all id = b) (λ h => ⟨[], rfl, Option.some.inj h⟩) (λ a _ ih b h => oOE h λ y hy h => oOE h λ z hz h => by
  obtain ⟨bs, rfl, e⟩ := ih hz
  rw [yK hy] at a
  refine RF.boolE a ⟨y :: bs, rfl, ?_⟩
  rw [List.all_cons, e]; exact Option.some.inj h) r
theorem P4 {bs : List Bool} : (List.range bs.length).all (λ i => (bs[i]?).getD false) = bs.all id := by
 apply Bool.eq_iff_iff.mpr
 rw [List.all_eq_true, List.all_eq_true]
 constructor
 ·intro hh y hy
  obtain ⟨i, hi, rfl⟩ := List.getElem_of_mem hy
  have := hh i (List.mem_range.mpr hi)
  rw [List.getElem?_eq_getElem hi] at this
  exact this
 ·intro hh i hi
  rw [List.getElem?_eq_getElem (List.mem_range.mp hi)]
  exact hh _ (List.getElem_mem (List.mem_range.mp hi))
theorem NF {a : IExpr} (B : TabOk c tc) (S : Sound c tc ev n) : SE c tc ct ev n (.all a) := by
 intro A env vs W x t ex m Q hA hc F I h
 refine x7 B S hA (s := "all") (u := .builtin "all") rfl (by decide) (d6 _) hc F I h λ W₁ p1 u tk e1 I1 F1 r1 hk1 h1 => ?_
 refine oBE h1 λ xs hx h1 => oBE h1 λ b hb h1 => ?_
 obtain ⟨l, us, mm, rfl, q1, _, q2⟩ := HT I1 r1 hx
 obtain ⟨bs, rfl, rfl⟩ := tQ q2 hb
 have hl : IsL W₁.h l (bs.map .bool).toArray mm := I1.sub _ _ q1
 refine call_all_walk (wpAny_pyIter_list hl.isList ?_)
 have hne : l ≠ W₁.h.objs.size := Nat.ne_of_lt (Heap.lt_size hl)
 refine ⟨W₁.h.objs.size, _, _, _, _, _, λ i => (bs[i]?).getD false, rfl, Walks.list (A := A.in1) hA.1 W₁.h.objs.size l hne (List.toArray (bs.map Value.bool)), ⟨⟨_, Heap.get?_push_size _ rfl, rfl, rfl⟩, (hl.push _).isList⟩, ?_, ?_⟩
 ·intro i v s Q' E' hv hq
  have hv' : (bs.map Value.bool)[i]? = some v := by simpa using hv
  rw [List.getElem?_map] at hv'
  obtain ⟨y, hy, rfl⟩ := Option.map_eq_some_iff.mp hv'
  have hq' : Q' ((bs[i]?).getD false) s := hq
  rw [hy] at hq'
  exact wpAny_truthy_bool hq'
 ·intro h' tk' kp
  have kp' : ∀ b o, W₁.h.get? b = some o -> h'.get? b = some o := λ b o ho => kp b o (λ hm => by
   rw [List.mem_singleton.mp hm] at ho
   exact absurd (Heap.lt_size ho) (Nat.lt_irrefl _)) (Heap.get?_push_of_some _ ho)
  rw [List.size_toArray, List.length_map, P4]
  exact h1 _ _ tk' (Ext.heap kp') (I1.heap kp') ⟨rfl, .f (.bool _)⟩
theorem AI {a : IExpr} (B : TabOk c tc) (S : Sound c tc ev n) : SE c tc ct ev n (.tolist a) := by
 intro A env vs W x t ex m Q hA hc F I h
 refine x7 B S hA (s := "list") (u := .type "list") rfl (by decide) (eN _) hc F I h λ W₁ p1 u tk e1 I1 F1 r1 hk1 h1 => ?_
 refine oBE h1 λ xs hx h1 => ?_
 obtain ⟨l, us, mm, rfl, q1, q3, q4⟩ := HT I1 r1 hx
 have l1 := q4.length
 refine call_list_seq _ (.inl rfl) (I1.sub _ _ q1) rfl rfl (λ h' c' kp ho => ?_) (aL (by rw [List.size_toArray]; omega))
 have ha := Nat.le_refl W₁.h.objs.size
 exact h1 _ _ tk (Ext.addG I1 kp ha) (I1.addG kp ha ho) ⟨rfl, .f (.lst (cL ..) ⟨c', rfl⟩ q3 (q4.mono (bW (I1.G_none ha))))⟩
theorem CZ {a : IExpr} (B : TabOk c tc) (S : Sound c tc ev n) : SE c tc ct ev n (.totup a) := by
 intro A env vs W x t ex m Q hA hc F I h
 refine x7 B S hA (s := "tuple") (u := .type "tuple") rfl (by decide) (eN _) hc F I h λ W₁ p1 u tk e1 I1 F1 r1 hk1 h1 => ?_
 refine oBE h1 λ xs hx h1 => ?_
 obtain ⟨l, us, mm, rfl, q1, q3, q4⟩ := HT I1 r1 hx
 have l1 := q4.length
 have hl : IsL W₁.h l us.toArray mm := I1.sub _ _ q1
 refine call_tuple_list hl.isList (λ h' kp => ?_) (aL (by rw [List.size_toArray]; omega))
 have I2 := I1.heap kp
 exact Gd.frz (Gd.nextX (W₁ := { W₁ with h := h' }) h1 (Ext.heap kp) I2) I2 rfl λ G' g1 g2 => .tup g2 ⟨_, rfl⟩ q3 (q4.mono g1)
theorem DI (B : TabOk c tc) {W : Wd} (I : Inv c W) {a : Addr} (h : W.h.objs.size <= a) : a ≠ sysModules := by
 obtain ⟨o, ho⟩ := B.base.sysm
 have := Heap.lt_size (I.keeps _ _ ho)
 intro e
 rw [e] at h
 exact absurd this (Nat.not_lt.mpr h)
theorem G9 (B : TabOk c tc) (S : Sound c tc ev n) : SE c tc ct ev n .dct0 := by
 intro A env vs W x t ex m Q hA hc F I h
 refine yT (P := λ e => WP c A (eval e env) Q (mkS x W.h t)) hc λ os vs p hc => ?_
 refine eQ (P := λ os => WP c A (eval (.Dict os vs p) env) Q (mkS x W.h t)) (bl hc) (eQ (P := λ vs => WP c A (eval (.Dict [] vs p) env) Q (mkS x W.h t)) (br hc) (wpAny_Dict_empty (Gd.mut (ao := .idct []) h I rfl rfl (λ _ _ z => nomatch z) λ ho => ?_)))
 obtain ⟨o, es, ep, k1, k2, k3, k4, k5, k6⟩ := Heap.DictOf.new (knd := intKind c.prog c.w) W.h
 rw [ho] at k1
 cases k1
 exact .idct ho ⟨es, ep, k2, k3, k4, k5, k6⟩ (Nat.zero_le _) .nil (DI B I (Nat.le_refl _))
end
section
variable {c : Cx} {tc : Tc} {ev : Ev} {n : Nat} {ct : Ctr}
theorem xH {K : Type} [DecidableEq K] {kvs : List (K × Value)} : ∀ {acc : List (K × Value)}, ((acc ++ kvs).map (·.1)).Nodup -> merged acc kvs = acc ++ kvs := by
 induction kvs with
 | nil => exact λ {acc} _ => (List.append_nil acc).symm
 | cons p r ih =>
  intro acc h
  have hno : (acc.any λ kv => kv.1 = p.1) = false := by
   apply Bool.eq_false_iff.mpr
   intro hh
   obtain ⟨q, hq, he⟩ := List.any_eq_true.mp hh
   rw [List.map_append, List.nodup_append] at h
   exact h.2.2 q.1 (List.mem_map_of_mem hq) p.1 (.head _) (of_decide_eq_true he)
  have e : merged acc (p :: r) = merged (acc ++ [p]) r := by
   unfold merged
   rw [List.foldl_cons]
   congr 1
   unfold stored
   rw [hno]
   rfl
  exact e.trans ((ih (by rw [← List.append_cons]; exact h)).trans (List.append_cons acc p r).symm)
theorem EB {k : List Nat} {rows : List (List Nat × List Nat)} : IF rows k = true ↔ k ∈ rows.map (·.1) := by induction rows with
 | nil => exact ⟨λ h => ff h, λ h => (List.not_mem_nil h).elim⟩
 | cons p r ih => exact (Bool.or_eq_true_iff (x := lV p.1 k) (y := IF r k)).trans ((or_congr (cN.trans eq_comm) ih).trans List.mem_cons.symm)
theorem uO {rows : List (List Nat × List Nat)} (h : K4 rows = true) : (rows.map λ p => aC p.1).Nodup := by induction rows with
 | nil => exact .nil
 | cons p r ih =>
  rw [List.map_cons, List.nodup_cons]
  refine ⟨λ hm => ?_, ih (br h)⟩
  obtain ⟨y, hy, e⟩ := List.mem_map.mp hm
  have g : (!(IF r p.1)) = true := bl h
  rw [EB.mpr (by rw [← i5 e]; exact List.mem_map_of_mem hy)] at g
  exact ff g
theorem D1 {k : Const} {cs : List Nat} (h : OX k cs = true) : k = .str (aC cs) /\ okS cs = true := by cases k with
 | str s => exact ⟨congrArg Const.str (beq_iff_eq.mp (bl h)), br h⟩
 | _ => exact ff h
noncomputable def SdP (c : Cx) (A : Around) (x : Sx) (h : Heap) (env : Env) (pos : Pos) (rows : List (List Nat × List Nat)) (os : List (Option Expr)) (vs : List Expr) : Prop :=
 ∃ pairs : List (Sem Value × Sem Value), (evalEachOpt os env).zip ((evalEach vs env).map λ v => do let x ← v; standAt pos; pure x) = pairs.map (λ p => (some p.1, p.2)) /\ pairs.length = rows.length ∧
   ∀ {t : Nat} {Q : List (Value × Value) -> Shared -> Prop}, (∀ us kvs tk, Carries (PySem.strKind c.prog c.w) us kvs -> kvs.map (·.1) = rows.map (λ p => aC p.1) -> (∀ G, RS c G (sdV rows) kvs) -> Q us (mkS x h tk)) -> WP c A (evalPairs pairs) Q (mkS x h t)
theorem C3 {A : Around} {x : Sx} {h : Heap} {env : Env} {pos : Pos} {rows : List (List Nat × List Nat)} : ∀ {os : List (Option Expr)} {vs : List Expr}, LP rows os vs = true -> SdP c A x h env pos rows os vs := by
 induction rows with
 | nil =>
  intro os vs hc
  exact eQ (P := λ os => SdP c A x h env pos [] os vs) (by cases os with | nil => rfl | cons _ _ => exact ff (bl hc)) (eQ (P := λ vs => SdP c A x h env pos [] [] vs) (by cases vs with | nil => rfl | cons _ _ => exact ff (br hc)) ⟨[], rfl, rfl, λ k => wpAny_pure (k [] [] _ trivial rfl λ _ => .nil)⟩)
 | cons p r ih =>
  intro os vs hc
  cases os with
  | nil => exact ff (bl hc)
  | cons o os => cases vs with
   | nil => exact ff (br hc)
   | cons v vs =>
    have c1 : (_ && _) = true := bl hc
    have c2 : (_ && _) = true := br hc
    refine wG (P := λ o => SdP c A x h env pos (p :: r) (o :: os) (v :: vs)) (bl c1) λ e h1 => uB (P := λ e => SdP c A x h env pos (p :: r) (some e :: os) (v :: vs)) h1 λ k k1 k2 h1 => uB (P := λ v => SdP c A x h env pos (p :: r) (some (.Constant k k1 k2) :: os) (v :: vs)) (bl c2) λ k' k3 k4 h2 => ?_
    rw [(D1 h1).1, (D1 h2).1]
    obtain ⟨pairs, g1, g2, g3⟩ := ih (Bool.and_eq_true_iff.mpr ⟨br c1, br c2⟩)
    refine ⟨(eval (.Constant (.str (aC p.1)) k1 k2) env, (do let x ← eval (.Constant (.str (aC p.2)) k3 k4) env; standAt pos; pure x)) :: pairs, ?_, congrArg (· + 1) g2, ?_⟩
    ·rw [List.map_cons, ← g1]; rfl
    ·intro t Q k
     refine wpAny_bind (wpAny_Constant_str (wpAny_bind (wpAny_holding (wpAny_bind (wpAny_Constant_str (wpAny_bind (wpAny_standAt (wpAny_pure (wpAny_bind (wpAny_holding ?_))))))))))
     exact g3 λ us kvs tk e1 e2 e3 => wpAny_pure (k (_ :: us) ((aC p.1, .str (aC p.2) _) :: kvs) tk ⟨strKind_is .., rfl, e1⟩ (by rw [List.map_cons, List.map_cons, e2]) λ G => .cons (.str _ _ (D1 h2).2) (e3 G))
theorem G5 {rows : List (List Nat × List Nat)} (B : TabOk c tc) (S : Sound c tc ev n) : SE c tc ct ev n (.sdct rows) := by
 intro A env vs W x t ex m Q hA hc F I h
 refine yT (P := λ e => WP c A (eval e env) Q (mkS x W.h t)) hc λ os ws pos hc => ?_
 have hok := (gBE h).1
 have hl := aM.mp (bl hok)
 have hnd := uO (br (br hok))
 obtain ⟨pairs, h1, h2, h3⟩ := C3 (c := c) (A := A) (x := x) (h := W.h.push emptyDict) (env := env) (pos := pos) hc
 refine wpAny_Dict_pairs (knd := PySem.strKind c.prog c.w) h1 (λ z => ?_) (by omega) (h3 λ us kvs tk g1 g2 g3 => ?_)
 ·rw [z] at h2
  have := bl (br hok)
  rw [List.eq_nil_of_length_eq_zero h2.symm] at this
  exact ff this
 ·refine ⟨kvs, g1, Heap.DictOf.new W.h, λ h' hd hs => ?_⟩
  rw [xH (acc := []) (by rw [List.nil_append, g2]; exact hnd)] at hd
  obtain ⟨o, es, ep, k1, k2, k3, k4, k5, k6⟩ := hd
  have kp : ∀ b o, W.h.get? b = some o -> h'.get? b = some o := λ b o ho => (hs.2 b (Nat.ne_of_lt (Heap.lt_size ho))).trans (Heap.get?_push_of_some _ ho)
  have ha := Nat.le_refl W.h.objs.size
  exact (gBE h).2 _ _ (tk + us.length) (Ext.addG I kp ha) (I.addG kp ha k1) ⟨rfl, .f (.sdct (cL ..) ⟨es, ep, k2, k3, k4, k5, k6⟩ (g3 _) (DI B I ha))⟩
end
section
variable {c : Cx} {tc : Tc} {ev : Ev} {n : Nat} {ct : Ctr}
noncomputable def ST (c : Cx) (tc : Tc) (ct : Ctr) (ev : Ev) (n : Nat) (ie : IExpr) : Prop := ∀ {A : Around} {env : Env} {vs : Vs} {W : Wd} {x : Sx} {t : Nat} {e : Expr} {m : Nat} {Q : Bool -> Shared -> Prop}, AOk (n + 1) A -> aW tc (m + 1) env.kindOf ie e = true -> FrameOk c env vs W -> Inv c W ->
 bC c No W.ρ.length W x RT Q (stepT ev ie vs W.H) -> WP c A (isTrue e env (eval e env)) Q (mkS x W.h t)
theorem RT.here {b : Bool} {W : Wd} {x : Sx} {k tk : Nat} {Q : Bool -> Shared -> Prop} (h : bC c No k W x RT Q (.ret (b, W.H))) (I : Inv c W) : Q b (mkS x W.h tk) := h W b tk (Ext.refl ..) I ⟨rfl, rfl⟩
theorem J7 {isAnd : Bool} (S : Sound c tc ev n) {A : Around} {env : Env} {vs : Vs} {x : Sx} {m k₀ : Nat} {Q : Bool -> Shared -> Prop} (hA : AOk n A) {is : List IExpr} : ∀ {es : List Expr} {W : Wd} {t : Nat}, all2 (aW tc m env.kindOf) is es = true -> FrameOk c env vs W -> Inv c W -> k₀ <= W.ρ.length ->
  bC c No k₀ W x RT Q (btT isAnd (λ e H => ev.t e vs H) is W.H) -> WP c A (allTrue (if isAnd then .And else .Or) es env) Q (mkS x W.h t) := by
 induction is with
 | nil =>
  intro es W t hc F I hk h
  cases es with
  | nil => cases isAnd with
   | false => exact wpAny_allTrue_Or_nil (RT.here h I)
   | true => exact wpAny_allTrue_And_nil (RT.here h I)
  | cons _ _ => exact ff hc
 | cons i is ih =>
  intro es W t hc F I hk h
  cases es with
  | nil => exact ff hc
  | cons e es =>
   have go : ∀ {q : Bool -> Shared -> Prop}, (∀ (b : Bool) W₁ tk, Inv c W₁ -> FrameOk c env vs W₁ -> k₀ <= W₁.ρ.length -> bC c No k₀ W₁ x RT Q (CY isAnd b (btT isAnd (λ e H => ev.t e vs H) is W₁.H) (.ret (!isAnd, W₁.H))) -> q b (mkS x W₁.h tk)) -> WP c A (isTrue e env (eval e env)) q (mkS x W.h t) := λ k =>
    S.useT hA (bl hc) F I hk (k := λ a => CY isAnd a.1 (btT isAnd (λ e H => ev.t e vs H) is a.2) (.ret (!isAnd, a.2))) h λ W₁ b tk e1 I1 F1 hk1 h1 => k b W₁ tk I1 F1 hk1 h1
   have rest := λ {W₁ : Wd} {tk : Nat} (I1 : Inv c W₁) F1 hk1 h1 => ih (t := tk) (br (show (aW tc m env.kindOf i e && all2 (aW tc m env.kindOf) is es) = true from hc)) F1 I1 hk1 h1
   cases isAnd with
   | false => exact wpAny_allTrue_Or_cons (go λ b W₁ tk I1 F1 hk1 h1 => by cases b with
    | false => exact rest I1 F1 hk1 h1
    | true => exact RT.here h1 I1)
   | true => exact wpAny_allTrue_And_cons (go λ b W₁ tk I1 F1 hk1 h1 => by cases b with
    | false => exact RT.here h1 I1
    | true => exact rest I1 F1 hk1 h1)
def PlT (env : Env) (e : Expr) : Prop := isTrue e env (eval e env) = (do let v ← eval e env; standAt e.pos; holding [v] (truthy v))
theorem qS {e : Expr} {env : Env} (h : mC e = true) : PlT env e := by
 unfold mC at h
 unfold exA at h
 exact aN (P := PlT env) h zf3 (λ _ _ _ _ _ => rfl) zf3 zf4 (λ _ _ _ _ => rfl) (λ _ _ _ _ _ => rfl) zf4 (λ _ _ _ _ _ => rfl) (λ _ _ _ _ => rfl) (λ _ _ _ _ => rfl) (λ _ _ _ _ => rfl) (λ _ _ _ => rfl) (λ _ _ _ => rfl) (λ _ _ _ _ => rfl)
theorem MO {ie : IExpr} (B : TabOk c tc) (S : Sound c tc ev n) {A : Around} {env : Env} {vs : Vs} {W : Wd} {x : Sx} {t : Nat} {e : Expr} {m : Nat} {Q : Bool -> Shared -> Prop} (hA : AOk n A) (hc : aW tc m env.kindOf ie e = true) (F : FrameOk c env vs W) (I : Inv c W)
  (h : bC c No W.ρ.length W x RT Q ((ev.e ie vs W.H).bind λ z => oB (i4 z.2 z.1) λ b => .ret (b, z.2))) (he : PlT env e) : WP c A (isTrue e env (eval e env)) Q (mkS x W.h t) :=
 wpAny_isTrue_value (S.useE hA hc F I (Nat.le_refl _) h λ W₁ p u tk e1 I1 F1 r1 hk1 h1 => oBE h1 λ b hb h1 => gM I1 r1 hb λ tk' => RT.here h1 I1) he
theorem qP {W : Wd} {A : Around} {x : Sx} {t : Nat} {a b : PV} {u v : Value} {r : Bool} {Q : Value -> Shared -> Prop} (I : Inv c W) (ra : RP c W.G W.ρ a u) (rb : RP c W.G W.ρ b v) (h : leT W.H a b = some r) (q : Q (.bool r) (mkS x W.h t)) : WP c A (compareOp .LtE u v) Q (mkS x W.h t) := by
 refine oOE h λ y hy h => oOE h λ z hz h => ?_
 obtain ⟨_, rfl, _⟩ := wO I ra hy
 obtain ⟨_, rfl, _⟩ := wO I rb hz
 cases h
 exact P.le_str q
theorem GL {a b d : IExpr} (S : Sound c tc ev n) {A : Around} {env : Env} {vs : Vs} {W : Wd} {x : Sx} {t : Nat} {e : Expr} {m : Nat} {Q : Bool -> Shared -> Prop} (hn : AOk n A) (hc : BJ tc (aW tc m) env.kindOf (.cmp2 a b d) e = true) (F : FrameOk c env vs W) (I : Inv c W)
  (h : bC c No W.ρ.length W x RT Q ((ev.e a vs W.H).bind λ p => (ev.e b vs p.2).bind λ q => oB (leT q.2 p.1 q.1) λ o => Bool.casesOn (motive := λ _ => T (Bool × Hp)) o (.ret (false, q.2)) ((ev.e d vs q.2).bind λ r => oB (leT r.2 q.1 r.1) λ t => .ret (t, r.2)))) : WP c A (isTrue e env (eval e env)) Q (mkS x W.h t) := by
 refine L4 (P := λ e => WP c A (isTrue e env (eval e env)) Q (mkS x W.h t)) hc λ a' o o' b' d' pos hc => ?_
 cases (beq_iff_eq.mp (bl (bl (bl (bl (bl hc))))) : o = .LtE)
 cases (beq_iff_eq.mp (br (bl (bl (bl (bl hc))))) : o' = .LtE)
 have hm : lastMarks [.LtE, .LtE] [b', d'] = false := m7 (op := .LtE) (br hc)
 refine isTrue_chain (S.useE hn (br (bl (bl (bl hc)))) F I (Nat.le_refl _) h λ W₁ p1 u tk e1 I1 F1 r1 hk1 h1 => ?_) hm
 refine test_link (S.useE hn (br (bl (bl hc))) F1 I1 hk1 h1 λ W₂ p2 v tk2 e2 I2 F2 rc hk2 h2 => oBE h2 λ q hq h2 => qP I2 (e2.rp r1) rc hq (wpAny_truthy_bool ?_))
 cases q with
 | false => exact RT.here h2 I2
 | true => exact test_last (S.useE hn (br (bl hc)) F2 I2 hk2 h2 λ W₃ p3 z tk3 e3 I3 F3 rd hk3 h3 => oBE h3 λ b hb h3 => qP I3 (e3.rp rc) rd hb (wpAny_truthy_bool (RT.here h3 I3)))
theorem QJ {P : IExpr -> T (Bool × Hp) -> Prop} {ie : IExpr} {vs : Vs} {H : Hp} {t : T (Bool × Hp)} (h : y0 ev ie vs H = some t) (k1 : ∀ e, P (.not e) ((ev.t e vs H).bind λ z => .ret (!z.1, z.2))) (k2 : ∀ a es, P (.bop a es) (btT a (λ e H => ev.t e vs H) es H)) (k3 : ∀ t a b, P (.ite t a b) ((ev.t t vs H).bind λ z => bT z.1 (ev.t a vs z.2) (ev.t b vs z.2))) (k4 : ∀ op l r, P (.cmp op l r) ((ev.e l vs H).bind λ y => (ev.e r vs y.2).bind λ z => (vJ ev op y.1 z.1 z.2).bind λ b => .ret (b, z.2)))
  (k5 : ∀ a b d, P (.cmp2 a b d) ((ev.e a vs H).bind λ p => (ev.e b vs p.2).bind λ q => oB (leT q.2 p.1 q.1) λ o => Bool.casesOn (motive := λ _ => T (Bool × Hp)) o (.ret (false, q.2)) ((ev.e d vs q.2).bind λ r => oB (leT r.2 q.1 r.1) λ t => .ret (t, r.2)))) : P ie t := by
 cases ie with
 | not e => cases h; exact k1 e
 | bop a es => cases h; exact k2 a es
 | ite t a b => cases h; exact k3 t a b
 | cmp op l r => cases h; exact k4 op l r
 | cmp2 a b d => cases h; exact k5 a b d
 | _ => exact noS h
theorem BH {go : Kd -> IExpr -> Expr -> Bool} {kd : Kd} {ie : IExpr} {e : Expr} {vs : Vs} {H : Hp} (h : y0 ev ie vs H = none) {env : Env} (hc : BJ tc go kd ie e = true) : PlT env e := by
 cases ie with
 | cst _ => exact uB (P := PlT env) hc λ _ _ _ _ => rfl
 | var _ => exact dW (P := PlT env) hc λ _ _ _ => rfl
 | glo _ => exact dW (P := PlT env) hc λ _ _ _ => rfl
 | attr _ _ => exact uD (P := PlT env) hc λ _ _ _ _ => rfl
 | bin _ _ _ _ => exact CD (P := PlT env) hc λ _ _ _ _ _ => rfl
 | neg _ => exact B7 (P := PlT env) hc λ op _ _ hc => by cases (beq_iff_eq.mp (bl hc) : op = .USub); rfl
 | lst _ => exact B8 (P := PlT env) hc λ _ _ _ => rfl
 | tup _ => exact jM (P := PlT env) hc λ _ _ _ _ => rfl
 | dct0 => exact yT (P := PlT env) hc λ _ _ _ _ => rfl
 | sdct _ => exact yT (P := PlT env) hc λ _ _ _ _ => rfl
 | sub _ _ => exact p8 (P := PlT env) hc λ _ _ _ _ => rfl
 | comp _ _ _ _ => exact KQ (P := PlT env) hc λ _ _ _ _ _ => rfl
 | frz _ => exact qS (br hc)
 | wall => exact qS hc
 | not _ => cases h
 | bop _ _ => cases h
 | ite _ _ _ => cases h
 | cmp _ _ _ => cases h
 | cmp2 _ _ _ => cases h
 | _ => exact uC (P := PlT env) hc λ _ _ _ _ _ => rfl
theorem MP (B : TabOk c tc) (S : Sound c tc ev n) (ie : IExpr) : ST c tc ct ev n ie := by
 intro A env vs W x t e m Q hA hc F I h
 have hn := hA.le (Nat.le_succ n)
 have hc' : BJ tc (aW tc m) env.kindOf ie e = true := hc
 unfold stepT at h
 cases ht : y0 ev ie vs W.H with
 | none =>
  rw [ht] at h
  exact MO B S hn hc F I h (BH ht hc')
 | some t' =>
  rw [ht] at h
  have h' : bC c No W.ρ.length W x RT Q t' := h
  refine QJ (P := λ ie t' => BJ tc (aW tc m) env.kindOf ie e = true -> bC c No W.ρ.length W x RT Q t' -> WP c A (isTrue e env (eval e env)) Q (mkS x W.h t)) ht ?_ ?_ ?_ ?_ ?_ hc' h'
  ·exact λ o hc h => B7 (P := λ e => WP c A (isTrue e env (eval e env)) Q (mkS x W.h t)) hc λ op y p hc => by
    cases (beq_iff_eq.mp (bl hc) : op = .Not)
    exact wpAny_isTrue_Not (S.useT hn (br hc) F I (Nat.le_refl _) h λ W₁ b tk e1 I1 F1 hk1 h1 => RT.here h1 I1)
  ·exact λ a es hc h => KU (P := λ e => WP c A (isTrue e env (eval e env)) Q (mkS x W.h t)) hc λ op y p hc => by
    cases (beq_iff_eq.mp (bl hc) : op = if a then .And else .Or)
    exact wpAny_isTrue_BoolOp (J7 S hn (br hc) F I (Nat.le_refl _) h)
  ·exact λ q a b hc h => KR (P := λ e => WP c A (isTrue e env (eval e env)) Q (mkS x W.h t)) hc λ q' a' b' p hc => by
    rw [arm_isTrue_IfExp]
    refine wpAny_bind (S.useT hn (bl (bl hc)) F I (Nat.le_refl _) h λ W₁ q tk e1 I1 F1 hk1 h1 => ?_)
    cases q with
    | false => exact S.t hn (br hc) F1 I1 (bC.up h1 hk1)
    | true => exact S.t hn (br (bl hc)) F1 I1 (bC.up h1 hk1)
  ·exact λ op l r hc h => sG (P := λ e => WP c A (isTrue e env (eval e env)) Q (mkS x W.h t)) hc λ l' op' r' p hc => by
    cases (beq_iff_eq.mp (bl (bl (bl hc))) : op = op')
    refine wpAny_isTrue_Compare1 (S.useE hn (br (bl (bl hc))) F I (Nat.le_refl _) h λ W₁ p1 u tk e1 I1 F1 r1 hk1 h1 => ?_) (m7 (br hc))
    refine S.useE hn (br (bl hc)) F1 I1 hk1 h1 λ W₂ p2 v tk2 e2 I2 F2 rc hk2 h2 => ?_
    obtain ⟨b, hb, h2⟩ := zQ h2
    exact rL B I2 (hA.le (Nat.succ_le_succ (Nat.zero_le _))) (e2.rp r1) rc hb λ tk' => wpAny_truthy_bool (RT.here h2 I2)
  ·exact λ a b d hc h => GL S hn hc F I h
end
section
variable {c : Cx} {tc : Tc} {ev : Ev} {n : Nat} {ct : Ctr}
theorem not_true {b : Bool} (h : (!b) = true) : b = false := by cases b <;> first | rfl | cases h
theorem HK {α : Type} {l : List α} : ∀ {i : Nat}, nth l i = l[i]? := by induction l with
 | nil => exact rfl
 | cons x r ih => intro i; cases i with
  | zero => rfl
  | succ i => exact ih (i := i)
theorem CF {n : Nat} : ∀ {k i : Nat}, i < n -> nth (upTo n k) i = some (.int (.ofNat (k + i))) := by induction n with
 | zero => exact λ h => absurd h (Nat.not_lt_zero _)
 | succ n ih => intro k i h; cases i with
  | zero => rfl
  | succ i => exact (ih (k := k + 1) (i := i) (Nat.lt_of_succ_lt_succ h)).trans (by rw [Nat.succ_add_eq_add_succ])
theorem jP {n : Nat} : ∀ {k : Nat}, (upTo n k).length = n := by induction n with
 | zero => exact rfl
 | succ n ih => exact congrArg (· + 1) ih
theorem RL.at {G : Gh} {xs : List FV} {vs : List Value} (r : RL c G xs vs) {i : Nat} {v : Value} (h : vs[i]? = some v) : ∃ y, Mine.nth xs i = some y /\ RF c G y v := by
 have hlt : i < vs.length := by
  rcases Nat.lt_or_ge i vs.length with z | z
  ·exact z
  ·rw [List.getElem?_eq_none z] at h; cases h
 rw [r.length] at hlt
 obtain ⟨y, hy⟩ := gX hlt
 obtain ⟨v', hv', rv⟩ := r.nth hy
 rw [h] at hv'
 cases hv'
 exact ⟨y, hy, rv⟩
def sV : List String := ["enumerate", "zip", "dict_itemiterator", "dict_reverseitemiterator", "odict_iterator", "itertools.zip_longest", "itertools.pairwise"]
def fZ (o : Obj) : Bool := match o.cls with
 | .type n => !sV.contains n
 | _ => true
theorem nM {tgt : Expr} {I : Addr} {v : Value} {A : Around} {s : Shared} {Q : Unit -> Shared -> Prop} {o : Obj} (ho : s.heap.get? I = some o) (hq : fZ o = true) (h : Q () s) : WP c A (letOwnedTupleGo tgt (.ref I) v) Q s := by
 have key : WP c A (do
   let (.ref r, .ref a) := (Value.ref I, v) | return
   let o ← load r
   match o.cls, o.data with
   | .type n, .fields vs =>
    if ["enumerate", "zip", "dict_itemiterator", "dict_reverseitemiterator", "odict_iterator", "itertools.zip_longest", "itertools.pairwise"].contains n && vs[0]? == some (rawInt a) then
     rule "for.unpacks-the-owned-tuple"
     updateField r 0 .none
   | _, _ => pure ()) Q s := by
  cases v with
  | ref a =>
   refine wpAny_bind (wpAny_load ho ?_)
   unfold fZ at hq
   split
   ·rename_i n vs hc hd
    rw [hc] at hq
    have hq' : sV.contains n = false := not_true hq
    unfold sV at hq'
    rw [hq', Bool.false_and, if_neg Bool.false_ne_true]
    exact wpAny_pure h
   ·exact wpAny_pure h
  | _ => exact wpAny_pure h
 cases tgt <;> first | exact wpAny_pure h | exact key
noncomputable def P8 (c : Cx) (A : Around) (W : Wd) (x : Sx) (xs : List FV) (u : Value) : Prop := ∀ (t : Nat) (Q : Value -> Shared -> Prop), (∀ (o : Obj) (fp : List Addr) (St : Nat -> Heap -> Prop) (P : Nat -> Value -> Prop), Walks c.prog c.w A W.h.objs.size fp [W.h.objs.size] xs.length P St ->
 (∀ b ∈ fp, b = W.h.objs.size \/ (W.G b).isSome = true) -> (∀ i v, i < xs.length -> P i v -> ∃ y, nth xs i = some y /\ RF c W.G y v) -> o.isFreed = false -> (∀ i h, St i h -> ∃ o, h.get? W.h.objs.size = some o /\ fZ o = true) -> St 0 (W.h.push o) -> Q (.ref W.h.objs.size) (mkS x (W.h.push o) t)) -> WP c A (pyIter u) Q (mkS x W.h t)
theorem rP {cs : List Nat} : tX cs = true ↔ ∀ x ∈ cs, x < 128 := by induction cs with
 | nil => exact ⟨λ _ x h => (List.not_mem_nil h).elim, λ _ => rfl⟩
 | cons d r ih => exact (Bool.and_eq_true_iff (x := Nat.blt d 128) (y := tX r)).trans ((and_congr (Iff.of_eq Nat.blt_eq) ih).trans (List.forall_mem_cons (p := λ x => x < 128)).symm)
theorem BV {cs : List Nat} (h : tX cs = true) : (aC cs).cps.all (· < 128) = true := by
 unfold aC
 rw [← Array.all_toList]
 exact List.all_eq_true.mpr λ x hx => decide_eq_true (rP.mp h x hx)
theorem jD (hh : A.handled = none) {W : Wd} {x : Sx} {p : PV} {u : Value} {xs : List FV} (I : Inv c W) (r : RP c W.G W.ρ p u) (h : bY W.H p = some xs) : P8 c A W x xs u /\ xs.length <= 2000 := by
 have rn := r.nrm I
 refine oOE h λ v hv h => ?_
 rw [bO hv] at rn
 have z := rn.fE
 have own : ∀ {ad : Addr} {o : Obj}, W.G ad = some o -> ∀ b ∈ [W.h.objs.size, ad], b = W.h.objs.size \/ (W.G b).isSome = true := λ a b hb => by
  rcases List.mem_cons.mp hb with e | hb
  ·exact .inl e
  ·rw [List.mem_singleton.mp hb]; exact .inr (by rw [a]; rfl)
 cases v with
 | lst ys =>
  cases h
  refine RF.lstE z λ ad us m a e l rl => ⟨λ t Q k => ?_, l⟩
  have hl : IsL W.h ad us.toArray m := I.sub _ _ a
  refine wpAny_pyIter_list hl.isList ?_
  have w := Walks.list (prog := c.prog) (w := c.w) hh W.h.objs.size ad (Nat.ne_of_lt (Heap.lt_size hl)) us.toArray
  rw [show us.toArray.size = xs.length from e] at w
  exact k _ _ _ _ w (own a) (λ i v _ hv => rl.at (by simpa using hv)) rfl (λ _ _ st => let ⟨⟨o, ho, hcl, _⟩, _⟩ := st; ⟨o, ho, by unfold fZ; rw [hcl]; rfl⟩) ⟨⟨_, Heap.get?_push_size _ rfl, rfl, rfl⟩, (hl.push _).isList⟩
 | tup ys =>
  cases h
  refine RF.tupE z λ ad us m a e l rl => ⟨λ t Q k => ?_, l⟩
  have hl : W.h.IsTuple ad us.toArray := ⟨_, I.sub _ _ a, rfl, m, rfl⟩
  refine wpAny_pyIter_tuple hl ?_
  have w := Walks.tuple (prog := c.prog) (w := c.w) hh W.h.objs.size ad (Nat.ne_of_lt (Heap.lt_size (I.sub _ _ a))) us.toArray
  rw [show us.toArray.size = xs.length from e] at w
  exact k _ _ _ _ w (own a) (λ i v _ hv => rl.at (by simpa using hv)) rfl (λ _ _ st => let ⟨⟨o, ho, hcl, _⟩, _⟩ := st; ⟨o, ho, by unfold fZ; rw [hcl]; rfl⟩) ⟨⟨_, Heap.get?_push_size _ rfl, rfl, rfl⟩, ⟨_, Heap.get?_push_of_some _ (I.sub _ _ a), rfl, m, rfl⟩⟩
 | rng k =>
  cases h
  refine RF.rngE z λ ad t1 t2 t3 a l => ⟨λ t Q kk => ?_, by rw [jP]; omega⟩
  have hsz : Builtin.Range.rangeSize 0 k 1 = (k : Int) := by
   unfold Builtin.Range.rangeSize
   split
   ·split <;> omega
   ·omega
  have hsm : Builtin.Range.small 0 k 1 = true := by
   unfold Builtin.Range.small
   rw [hsz]
   have fit : ∀ i : Int, 0 <= i -> i <= 200 -> Builtin.Range.rangeFitsLong i = true := by
    intro i h0 h1
    unfold Builtin.Range.rangeFitsLong
    simp
    omega
   rw [fit 0 (by omega) (by omega), fit k (by omega) (by omega), fit 1 (by omega) (by omega)]
   simp
   exact .inr (fit k (by omega) (by omega))
  refine wpAny_pyIter_range (I.sub _ _ a) hsm ?_
  have w := Walks.range (prog := c.prog) (w := c.w) hh W.h.objs.size 0 1 k
  refine kk _ [W.h.objs.size] _ _ ((jP (n := k) (k := 0)).symm ▸ w) (λ b hb => .inl (List.mem_singleton.mp hb)) ?_ rfl (λ _ _ st => ⟨_, st, rfl⟩) ?_
  ·rintro i v hi ⟨tt, rfl⟩
   rw [jP] at hi
   exact ⟨_, CF hi, kN (by simp)⟩
  ·rw [hsz]
   have hp := Heap.get?_push_size W.h (o := { cls := .type "range_iterator", data := .fields #[rawInt 0, rawInt k, rawInt 1] }) rfl
   show IsRangeIter _ _ (0 + ((0 : Nat) : Int) * 1) (((upTo k 0).length : Int) - ((0 : Nat) : Int)) 1
   rw [jP]
   simpa using hp
 | str cs =>
  have ha := (gOE h).1
  have hl := gOE (gOE h).2
  cases hl.2
  refine RF.strE z λ tk ok => ⟨λ t Q k => ?_, by rw [List.length_map]; exact aM.mp hl.1⟩
  refine wpAny_pyIter_ascii (BV ha) ?_
  have w := Walks.strAscii (prog := c.prog) (w := c.w) hh W.h.objs.size (aC cs) tk
  rw [show (aC cs).cps.size = (cs.map λ x => FV.str [x]).length from (List.length_map (λ x => FV.str [x]) (as := cs)).symm] at w
  refine k _ _ _ _ w (λ b hb => .inl (List.mem_singleton.mp hb)) ?_ rfl (λ _ _ st => let ⟨o, ho, hcl, _⟩ := st; ⟨o, ho, by unfold fZ; rw [hcl]; rfl⟩) ⟨_, Heap.get?_push_size _ rfl, rfl, rfl⟩
  rintro i v _ ⟨cc, uu, hc, rfl⟩
  have hc' : cs[i]? = some cc := by simpa [aC] using hc
  refine ⟨.str [cc], ?_, .str [cc] uu (jW.mpr λ y hy => ?_)⟩
  ·rw [HK, List.getElem?_map, hc']; rfl
  ·rw [List.mem_singleton.mp hy]
   exact Nat.lt_trans (rP.mp ha cc (List.mem_of_getElem? hc')) (by decide)
 | _ => exact noS h
end
section
variable {c : Cx} {tc : Tc} {ev : Ev} {n : Nat} {ct : Ctr}
theorem Ext.unX {X Y : Nat -> Prop} {k : Nat} {W W' : Wd} (e : Ext X k W W') (h : ∀ b, X b -> ¬ Y b -> W.h.get? b = none) : Ext Y k W W' :=
 ⟨e.G, e.rho, λ b o ho hf hy => e.keep b o ho hf λ hx => (by
  have := h b hx hy
  rw [ho] at this
  cases this), e.dom, e.live⟩
theorem Ext.turned {X : Nat -> Prop} {k : Nat} {W W₁ : Wd} {h' : Heap} (e : Ext X k W W₁) (kp : ∀ b o, ¬ X b -> W₁.h.get? b = some o -> h'.get? b = some o) (lv : ∀ b o, W₁.h.get? b = some o -> ∃ o', h'.get? b = some o') : Ext X k W { W₁ with h := h' } :=
 ⟨e.G, e.rho, λ b o ho hf hx => kp b o hx (e.keep b o ho hf hx), e.dom, λ b o ho => by
  obtain ⟨o', ho'⟩ := e.live b o ho
  exact lv b o' ho'⟩
theorem Inv.turned {X : Nat -> Prop} {W₁ : Wd} {h' : Heap} (I : Inv c W₁) (hX : ∀ b, X b -> ¬ W₁.dom b) (kp : ∀ b o, ¬ X b -> W₁.h.get? b = some o -> h'.get? b = some o) : Inv c { W₁ with h := h' } :=
 I.heapOff λ b o hb ho => kp b o (λ hx => hX b hx hb) ho
theorem Inv.tellG {W : Wd} (I : Inv c W) {a : Addr} {o : Obj} (ho : W.h.get? a = some o) (hd : ¬ W.dom a) : Inv c { W with G := Mine.addG W.G a o } := by
 have hG : W.G a = none := by
  cases e : W.G a with
  | none => rfl
  | some _ => exact absurd (.inr (by rw [e]; rfl)) hd
 refine ⟨I.len, ?_, ?_, ?_, I.apart, I.two, λ b o' e => bW hG _ _ (I.base b o' e)⟩
 ·intro b o' e
  rcases cI e with ⟨rfl, rfl⟩ | e
  ·exact ho
  ·exact I.sub b o' e
 ·exact λ i ao p h1 h2 => (I.ok i ao p h1 h2).mono (bW hG) (λ _ _ e => e) λ _ _ _ e => e
 ·intro b h
  show Mine.addG W.G a o b = none
  unfold Mine.addG
  rw [if_neg (λ (e : b = a) => hd (.inl (e ▸ h)))]
  exact I.fresh b h
theorem Ext.tellG {X : Nat -> Prop} {k : Nat} {W W₁ : Wd} {a : Addr} {o : Obj} (e : Ext X k W W₁) (hd : ¬ W₁.dom a) (hn : W.h.get? a = none) : Ext X k W { W₁ with G := Mine.addG W₁.G a o } := by
 have hG : W₁.G a = none := by
  cases e : W₁.G a with
  | none => rfl
  | some _ => exact absurd (.inr (by rw [e]; rfl)) hd
 refine ⟨λ b o' q => bW hG _ _ (e.G b o' q), e.rho, e.keep, λ b h => ?_, e.live⟩
 rcases h with h | h
 ·exact e.dom b (.inl h)
 ·obtain ⟨o', q⟩ := Option.isSome_iff_exists.mp h
  rcases cI q with ⟨rfl, rfl⟩ | q
  ·exact .inr hn
  ·exact e.dom b (.inr (by rw [q]; rfl))
theorem FrameOk.stays {env : Env} {vs : Vs} {W W' : Wd} (F : FrameOk c env vs W) (hG : d7 W.G W'.G) (hρ : ∀ i q, nth W.ρ i = some q -> nth W'.ρ i = some q) (kp : ∀ b, Own env b -> ∀ o, W.h.get? b = some o -> W'.h.get? b = some o) (hd : ∀ b, Own env b -> ¬ W'.dom b) : FrameOk c env vs W' := by
 refine ⟨F.kind, F.glob, F.blt, F.ids, ?_, ?_, ?_, F.has, F.inj, F.off, hd⟩
 ·obtain ⟨m, ⟨o, es, ep, ho, r⟩, h⟩ := F.ns
  exact ⟨m, ⟨o, es, ep, kp _ (.inl rfl) o ho, r⟩, λ y p hy hk => let ⟨v, a, b⟩ := h y p hy hk; ⟨v, a, b.mono hG hρ⟩⟩
 ·intro y p hy hk
  obtain ⟨a, v, h1, ⟨o, ho, hd⟩, h3⟩ := F.cell y p hy hk
  exact ⟨a, v, h1, ⟨o, kp a (.inr ⟨_, h1⟩) o ho, hd⟩, h3.mono hG hρ⟩
 ·intro n a e
  obtain ⟨v, o, ho, hd⟩ := F.cells n a e
  exact ⟨v, o, kp a (.inr ⟨_, e⟩) o ho, hd⟩
theorem FrameOk.bindL {env : Env} {vs : Vs} {W : Wd} {h' : Heap} {m : Str -> Option Value} {y : Nat} {p : PV} {v : Value} (B : BaseOk c) (F : FrameOk c env vs W) (hy : y < c.N) (hk : env.kindOf (c.nm y) = some .local) (r : RP c W.G W.ρ p v)
  (hm : ∀ x p, look vs x = some p -> env.kindOf (c.nm x) = some .local -> ∃ v, m (c.nm x) = some v /\ RP c W.G W.ρ p v) (hn : h'.Ns env.locals λ x => if x = c.nm y then some v else m x) (hs : Heap.SameBut env.locals W.h h') : FrameOk c env (put vs y p) { W with h := h' } := by
 have kp : ∀ b, b ≠ env.locals -> ∀ o, W.h.get? b = some o -> h'.get? b = some o := λ b hb o e => (hs.2 b hb).trans e
 refine ⟨F.kind, F.glob, F.blt, ?_, ⟨_, hn, ?_⟩, ?_, ?_, F.has, F.inj, F.off, F.own⟩
 ·intro x q hx
  rw [bR] at hx
  by_cases e : y = x
  ·rw [← e]; exact hy
  ·rw [if_neg e] at hx; exact F.ids x q hx
 ·intro x q hx hkx
  rw [bR] at hx
  by_cases e : y = x
  ·subst e
   rw [if_pos rfl] at hx
   cases hx
   exact ⟨v, if_pos rfl, r⟩
  ·rw [if_neg e] at hx
   have hxN := F.ids x q hx
   obtain ⟨u, h1, h2⟩ := hm x q hx hkx
   refine ⟨u, ?_, h2⟩
   rw [if_neg (λ z => e (B.inj x y hxN hy z).symm)]
   exact h1
 ·intro x q hx hkx
  rw [bR] at hx
  by_cases e : y = x
  ·subst e
   rw [hk] at hkx
   rcases hkx with z | z <;> cases z
  ·rw [if_neg e] at hx
   obtain ⟨a, u, h1, ⟨o, ho, hd⟩, h3⟩ := F.cell x q hx hkx
   exact ⟨a, u, h1, ⟨o, kp a (F.off _ _ h1) o ho, hd⟩, h3⟩
 ·intro n a e
  obtain ⟨u, o, ho, hd⟩ := F.cells n a e
  exact ⟨u, o, kp a (F.off _ _ e) o ho, hd⟩
theorem FrameOk.bindC {env : Env} {vs : Vs} {W : Wd} {h' : Heap} {y : Nat} {p : PV} {v : Value} {a : Addr} (B : BaseOk c) (F : FrameOk c env vs W) (hy : y < c.N) (hk : env.kindOf (c.nm y) = some .cell) (r : RP c W.G W.ρ p v) (ha : env.cells.lookup (c.nm y) = some a)
  (hc : h'.IsCell a (some v)) (hs : Heap.SameBut a W.h h') : FrameOk c env (put vs y p) { W with h := h' } := by
 have kp : ∀ b, b ≠ a -> ∀ o, W.h.get? b = some o -> h'.get? b = some o := λ b hb o e => (hs.2 b hb).trans e
 refine ⟨F.kind, F.glob, F.blt, ?_, ?_, ?_, ?_, F.has, F.inj, F.off, F.own⟩
 ·intro x q hx
  rw [bR] at hx
  by_cases e : y = x
  ·rw [← e]; exact hy
  ·rw [if_neg e] at hx; exact F.ids x q hx
 ·obtain ⟨m, ⟨o, es, ep, ho, rr⟩, h⟩ := F.ns
  refine ⟨m, ⟨o, es, ep, kp _ (Ne.symm (F.off _ _ ha)) o ho, rr⟩, λ x q hx hkx => ?_⟩
  rw [bR] at hx
  by_cases e : y = x
  ·subst e; rw [hk] at hkx; cases hkx
  ·rw [if_neg e] at hx; exact h x q hx hkx
 ·intro x q hx hkx
  rw [bR] at hx
  by_cases e : y = x
  ·subst e
   rw [if_pos rfl] at hx
   cases hx
   exact ⟨a, v, ha, hc, r⟩
  ·rw [if_neg e] at hx
   have hxN := F.ids x q hx
   obtain ⟨b, u, h1, ⟨o, ho, hd⟩, h3⟩ := F.cell x q hx hkx
   have hne : b ≠ a := λ z => e (B.inj x y hxN hy (F.inj _ _ _ h1 (z ▸ ha))).symm
   exact ⟨b, u, h1, ⟨o, kp b hne o ho, hd⟩, h3⟩
 ·intro n b e
  by_cases q : b = a
  ·subst q; exact ⟨_, hc⟩
  ·obtain ⟨u, o, ho, hd⟩ := F.cells n b e
   exact ⟨u, o, kp b q o ho, hd⟩
theorem cW {A : Around} {env : Env} {vs : Vs} {W : Wd} {x : Sx} {t y : Nat} {p : PV} {v : Value} {Q : Unit -> Shared -> Prop} (B : BaseOk c) (F : FrameOk c env vs W) (I : Inv c W) (hy : y < c.N) (hk : env.kindOf (c.nm y) = some .local \/ env.kindOf (c.nm y) = some .cell) (r : RP c W.G W.ρ p v)
  (k : ∀ h' tk, Heap.SameBut env.locals W.h h' \/ (∃ a, env.cells.lookup (c.nm y) = some a /\ Heap.SameBut a W.h h') -> Ext (Own env) W.ρ.length W { W with h := h' } -> Inv c { W with h := h' } -> FrameOk c env (put vs y p) { W with h := h' } -> Q () (mkS x h' tk)) : WP c A (storeName env (c.nm y) v) Q (mkS x W.h t) := by
 have fin : ∀ (a : Addr) (h' : Heap), Own env a -> Heap.SameBut a W.h h' -> (∃ o, h'.get? a = some o) -> Ext (Own env) W.ρ.length W { W with h := h' } /\ Inv c { W with h := h' } := by
  intro a h' ho hs ha
  have kp : ∀ b o, ¬ Own env b -> W.h.get? b = some o -> h'.get? b = some o := λ b o hb e => (hs.2 b (λ z => hb (z ▸ ho))).trans e
  refine ⟨Ext.turned (.refl ..) kp λ b o e => ?_, I.turned F.own kp⟩
  by_cases q : b = a
  ·rw [q]; exact ha
  ·exact ⟨o, (hs.2 b q).trans e⟩
 rcases hk with hk | hk
 ·obtain ⟨m, hn, hm⟩ := F.ns
  refine wpAny_storeName_local hk hn (λ h' hn' hs => ?_) (by rw [F.kind]; rfl)
  have hn'' := hn'
  obtain ⟨o, es, ep, ho, _⟩ := hn''
  obtain ⟨e', I'⟩ := fin env.locals h' (.inl rfl) hs ⟨o, ho⟩
  exact k h' _ (.inl hs) e' I' (F.bindL B hy hk r hm hn' hs)
 ·obtain ⟨a, ha⟩ := F.has _ hk
  obtain ⟨v0, hc⟩ := F.cells _ _ ha
  refine wpAny_storeName_cell F.kind hk ha hc (λ h' hc' hs => ?_)
  obtain ⟨o, ho, _⟩ := id hc'
  obtain ⟨e', I'⟩ := fin a h' (.inr ⟨_, ha⟩) hs ⟨o, ho⟩
  exact k h' _ (.inr ⟨a, ha, hs⟩) e' I' (F.bindC B hy hk r ha hc' hs)
end
section
variable {c : Cx} {tc : Tc} {ev : Ev} {n : Nat} {ct : Ctr}
theorem Ext.off {X : Nat -> Prop} {k : Nat} {W W₁ : Wd} {h' : Heap} (Z : Nat -> Prop) (e : Ext X k W W₁) (kp : ∀ b o, ¬ Z b -> W₁.h.get? b = some o -> h'.get? b = some o) (hz : ∀ b, Z b -> W.h.get? b = none) : Ext X k W { W₁ with h := h' } := by
 have nz : ∀ b o, W.h.get? b = some o -> ¬ Z b := λ b o ho z => by rw [hz b z] at ho; cases ho
 refine ⟨e.G, e.rho, λ b o ho hf hx => kp b o (nz b o ho) (e.keep b o ho hf hx), e.dom, λ b o ho => ?_⟩
 obtain ⟨o', ho'⟩ := e.live b o ho
 exact ⟨o', kp b o' (nz b o ho) ho'⟩
theorem Sound.evE (S : Sound c tc ev n) {β : Type} {A : Around} {env : Env} {vs : Vs} {W : Wd} {x : Sx} {t : Nat} {ie : IExpr} {e : Expr} {m : Nat} {P : β -> Prop} {k : PV × Hp -> T β} {Q : Value -> Shared -> Prop}
  (hA : AOk n A) (hc : aW tc m env.kindOf ie e = true) (F : FrameOk c env vs W) (I : Inv c W) (h : ((ev.e ie vs W.H).bind k).AllP P)
  (rest : ∀ W₁ p v tk, Ext No W.ρ.length W W₁ -> Inv c W₁ -> FrameOk c env vs W₁ -> RP c W₁.G W₁.ρ p v -> (k (p, W₁.H)).AllP P -> Q v (mkS x W₁.h tk)) : WP c A (eval e env) Q (mkS x W.h t) := by
 refine S.e hA hc F I (T.AllP_mono (λ r hr => ?_) (T.AllP_bind h))
 intro W₁ v tk e1 I1 ⟨hH, hv⟩
 refine rest W₁ r.1 v tk e1 I1 (F.keepNo e1) hv ?_
 have : (r.1, W₁.H) = r := by rw [hH]
 rw [this]
 exact hr
theorem Sound.evT (S : Sound c tc ev n) {β : Type} {A : Around} {env : Env} {vs : Vs} {W : Wd} {x : Sx} {t : Nat} {ie : IExpr} {e : Expr} {m : Nat} {P : β -> Prop} {k : Bool × Hp -> T β} {Q : Bool -> Shared -> Prop}
  (hA : AOk n A) (hc : aW tc m env.kindOf ie e = true) (F : FrameOk c env vs W) (I : Inv c W) (h : ((ev.t ie vs W.H).bind k).AllP P)
  (rest : ∀ W₁ b tk, Ext No W.ρ.length W W₁ -> Inv c W₁ -> FrameOk c env vs W₁ -> (k (b, W₁.H)).AllP P -> Q b (mkS x W₁.h tk)) : WP c A (isTrue e env (eval e env)) Q (mkS x W.h t) := by
 refine S.t hA hc F I (T.AllP_mono (λ r hr => ?_) (T.AllP_bind h))
 rintro W₁ b tk e1 I1 ⟨hH, rfl⟩
 refine rest W₁ r.1 tk e1 I1 (F.keepNo e1) ?_
 have : (r.1, W₁.H) = r := by rw [hH]
 rw [this]
 exact hr
theorem uE {env : Env} {A : Around} {s : Shared} {Q : Bool -> Shared -> Prop} {es : List Expr} (h : Q false s) : WP c A (forIn es false λ c r => if r = true then do let ok ← isTrue c env (eval c env); pure (ForInStep.yield ok) else pure (ForInStep.yield r)) Q s := by
 induction es with
 | nil => rw [List.forIn_nil]; exact wpAny_pure h
 | cons e es ih => rw [List.forIn_cons]; exact wpAny_bind (wpAny_pure ih)
theorem AC (S : Sound c tc ev n) {β : Type} {A : Around} {env : Env} {vs : Vs} {x : Sx} {m : Nat} {P : β -> Prop} {k : Bool × Hp -> T β} {Q : Bool -> Shared -> Prop} (hA : AOk n A) {is : List IExpr} : ∀ {es : List Expr} {W : Wd} {t : Nat}, all2 (aW tc m env.kindOf) is es = true -> FrameOk c env vs W -> Inv c W ->
  ((bP (λ e H => ev.t e vs H) is W.H).bind k).AllP P -> (∀ W₁ b tk, Ext No W.ρ.length W W₁ -> Inv c W₁ -> FrameOk c env vs W₁ -> (k (b, W₁.H)).AllP P -> Q b (mkS x W₁.h tk)) ->
  WP c A (forIn es true λ c r => if r = true then do let ok ← isTrue c env (eval c env); pure (ForInStep.yield ok) else pure (ForInStep.yield r)) Q (mkS x W.h t) := by
 induction is with
 | nil =>
  intro es W t hc F I h rest
  cases es with
  | nil => rw [List.forIn_nil]; exact wpAny_pure (rest W true t (.refl ..) I F h)
  | cons _ _ => exact ff hc
 | cons i is ih =>
  intro es W t hc F I h rest
  cases es with
  | nil => exact ff hc
  | cons e es =>
   rw [List.forIn_cons]
   have h' : ((ev.t i vs W.H).bind λ a => (bT a.1 (bP (λ e H => ev.t e vs H) is a.2) (T.ret (false, a.2))).bind k).AllP P := by
    rw [← T.bind_assoc]; exact h
   refine wpAny_bind (wpAny_bind (S.evT hA (bl hc) F I h' λ W₁ b tk e1 I1 F1 h1 => wpAny_pure ?_))
   cases b with
   | false => exact uE (rest W₁ false tk e1 I1 F1 h1)
   | true => exact ih (br (show (aW tc m env.kindOf i e && all2 (aW tc m env.kindOf) is es) = true from hc)) F1 I1 h1 λ W₂ b2 tk2 e2 I2 F2 h2 => rest W₂ b2 tk2 (Ext.trans I1 (e1.lenLe (Nat.le_refl _)) e1 e2) I2 F2 h2
theorem lK {f : Str × NameKind -> Str × NameKind} (hf : ∀ p, (f p).1 = p.1) (n : Str) : ∀ l : List (Str × NameKind), (l.map f).lookup n = (l.lookup n).map λ k => (f (n, k)).2
 | [] => rfl
 | (a, k) :: r => by
  have e : f (a, k) = (a, (f (a, k)).2) := Prod.ext (hf _) rfl
  rw [List.map_cons, e, List.lookup_cons, List.lookup_cons]
  cases q : n == a with
  | true => rw [beq_iff_eq.mp q]; rfl
  | false => exact lK hf n r
theorem kQ {env : Env} {scope : Scope} {cl : List (Str × Addr)} {C : Addr} (hk : env.scope.kind = .function) (n : Str) : (compEnvC scope cl C env).kindOf n = bZ env.kindOf scope n := by
 show (relabel scope env).names.lookup n = _
 unfold relabel bZ
 dsimp only
 rw [lK (f := λ (n, k) => if (k == NameKind.free && env.scope.kind == .function && env.kindOf n == some .cell) then (n, .cell) else (n, k)) (λ p => by obtain ⟨a, k⟩ := p; dsimp only; split <;> rfl)]
 cases scope.names.lookup n with
 | none => rfl
 | some k =>
  have hk' : (env.scope.kind == ScopeKind.function) = true := by rw [hk]; rfl
  show some (if (k == NameKind.free && env.scope.kind == .function && env.kindOf n == some .cell) = true then (n, NameKind.cell) else (n, k)).2 = _
  rw [hk', Bool.and_true]
  cases k
  case free =>
   cases q : env.kindOf n == some NameKind.cell
   ·simp
   ·simp
  all_goals rfl
theorem rK {env : Env} {scope : Scope} {cl : List (Str × Addr)} {C : Addr} (hk : env.scope.kind = .function) : (compEnvC scope cl C env).kindOf = bZ env.kindOf scope := funext (kQ hk)
noncomputable def bU (env : Env) : List (Str × NameKind) -> List (Str × Addr) -> List (Str × Addr)
 | [], cs => cs
 | (n, k) :: r, cs => if k == .free then bU env r ((n, (env.cells.lookup n).getD 0) :: cs) else bU env r cs
theorem pT {env : Env} {scope : Scope} (h : ∀ n, (n, NameKind.free) ∈ scope.names -> ∃ a, env.cells.lookup n = some a) : closureFor scope env = pure (bU env scope.names []) := by
 unfold closureFor
 have gen : ∀ (l : List (Str × NameKind)) (cs : List (Str × Addr)), (∀ n, (n, NameKind.free) ∈ l -> ∃ a, env.cells.lookup n = some a) ->
   (forIn l cs λ (x : Str × NameKind) (r : List (Str × Addr)) => (match x with | (name, kind) => (if (kind == NameKind.free) = true then do let a ← cellOf env name; pure (ForInStep.yield ((name, a) :: r)) else pure (ForInStep.yield r)) : Sem (ForInStep (List (Str × Addr))))) = pure (bU env l cs) := by
  intro l
  induction l with
  | nil => intro cs _; rfl
  | cons p r ih =>
   intro cs hl
   obtain ⟨nn, k⟩ := p
   rw [List.forIn_cons]
   have hr : ∀ n, (n, NameKind.free) ∈ r -> ∃ a, env.cells.lookup n = some a := λ n hn => hl n (.tail _ hn)
   cases q : k == NameKind.free with
   | true =>
    have : k = .free := by cases k <;> first | rfl | cases q
    subst this
    obtain ⟨a, ha⟩ := hl nn (.head _)
    unfold cellOf bU
    simp only [ha, q, if_true]
    exact ih _ hr
   | false =>
    unfold bU
    simp only [q, Bool.false_eq_true, if_false]
    exact ih _ hr
 have e := gen scope.names [] h
 show ((forIn scope.names ([] : List (Str × Addr)) λ (x : Str × NameKind) (r : List (Str × Addr)) => (match x with | (name, kind) => (if (kind == NameKind.free) = true then do let a ← cellOf env name; pure (ForInStep.yield ((name, a) :: r)) else pure (ForInStep.yield r)) : Sem (ForInStep (List (Str × Addr))))) >>= λ cs => pure cs) = _
 rw [e]
 rfl
end
section
variable {c : Cx} {tc : Tc} {ev : Ev} {n : Nat} {ct : Ctr}
theorem hE {env : Env} : ∀ (l : List (Str × NameKind)) (cs : List (Str × Addr)), (∀ n, (n, NameKind.free) ∈ l -> ∃ a, env.cells.lookup n = some a) ->
  (∀ n a, cs.lookup n = some a -> env.cells.lookup n = some a) ->
  (∀ n a, (bU env l cs).lookup n = some a -> env.cells.lookup n = some a) /\ (∀ n, ((n, NameKind.free) ∈ l \/ ∃ a, cs.lookup n = some a) -> ∃ a, (bU env l cs).lookup n = some a)
 | [], cs, _, hc => ⟨hc, λ n h => by
  rcases h with h | h
  ·cases h
  ·exact h⟩
 | (nn, k) :: r, cs, hl, hc => by
  have hr : ∀ n, (n, NameKind.free) ∈ r -> ∃ a, env.cells.lookup n = some a := λ n hn => hl n (.tail _ hn)
  unfold bU
  cases q : k == NameKind.free with
  | true =>
   have : k = .free := by cases k <;> first | rfl | cases q
   subst this
   obtain ⟨a, ha⟩ := hl nn (.head _)
   rw [if_pos rfl, ha]
   have hc' : ∀ n b, ((nn, (some a).getD 0) :: cs).lookup n = some b -> env.cells.lookup n = some b := by
    intro n b hb
    rw [List.lookup_cons] at hb
    cases z : n == nn with
    | true => rw [z] at hb; cases hb; rw [beq_iff_eq.mp z]; exact ha
    | false => rw [z] at hb; exact hc n b hb
   obtain ⟨h1, h2⟩ := hE r _ hr hc'
   refine ⟨h1, λ n h => h2 n ?_⟩
   by_cases z : n = nn
   ·exact .inr ⟨a, by rw [List.lookup_cons, z, beq_self_eq_true]; rfl⟩
   ·rcases h with h | ⟨b, hb⟩
    ·rcases List.mem_cons.mp h with e | h
     ·exact absurd (Prod.ext_iff.mp e).1 z
     ·exact .inl h
    ·refine .inr ⟨b, ?_⟩
     rw [List.lookup_cons, show (n == nn) = false by simpa using z]
     exact hb
  | false =>
   rw [if_neg Bool.false_ne_true]
   obtain ⟨h1, h2⟩ := hE r cs hr hc
   refine ⟨h1, λ n h => h2 n ?_⟩
   rcases h with h | h
   ·rcases List.mem_cons.mp h with e | h
    ·have e2 : NameKind.free = k := (Prod.ext_iff.mp e).2
     rw [← e2] at q; cases q
    ·exact .inl h
   ·exact .inr h
structure CompOk (c : Cx) (env : Env) (y : Nat) (scope : Scope) : Prop where
 kind : scope.kind = .function
 loc : ∀ z ∈ scope.names, z.2 = .local -> z.1 = c.nm y \/ z.1 = (".0" : Str)
 nocell : ∀ z ∈ scope.names, z.2 ≠ .cell
 locl : ∀ z ∈ scope.names, z.2 = .local -> scope.names.lookup z.1 = some .local
 here : scope.names.lookup (c.nm y) = some .local
 free : ∀ n, (n, NameKind.free) ∈ scope.names -> env.kindOf n = some .cell
 lt : y < c.N
theorem bX {α β : Type} [BEq α] [LawfulBEq α] {a : α} {b : β} : ∀ {l : List (α × β)}, l.lookup a = some b -> (a, b) ∈ l
 | [], h => by cases h
 | (x, y) :: r, h => by
  rw [List.lookup_cons] at h
  cases q : a == x with
  | true => rw [q] at h; cases h; rw [beq_iff_eq.mp q]; exact .head _
  | false => rw [q] at h; exact .tail _ (bX h)
theorem rJ {env : Env} {y : Nat} {scope : Scope} (B : TabOk c tc) (h : hM env.kindOf tc y scope = true) : CompOk c env y scope := by
 unfold hM at h
 simp only [Bool.and_eq_true, List.all_eq_true, beq_iff_eq, decide_eq_true_iff, Bool.or_eq_true, bne_iff_ne, ne_eq] at h
 obtain ⟨⟨⟨⟨⟨⟨⟨h1, h2⟩, h3⟩, h4⟩, h5⟩, h6⟩, h7⟩, h8⟩ := h
 rw [B.nm] at h5 h2
 rw [B.N] at h7
 have hk : scope.kind = .function := by cases hs : scope.kind <;> rw [hs] at h1 <;> first | rfl | cases h1
 refine ⟨hk, λ z hz hl => ?_, λ z hz => h3 z hz, λ z hz hl => ?_, h5, λ n hn => ?_, h7⟩
 ·rcases h2 z hz with (q | q) | q
  ·exact absurd hl q
  ·exact .inl q
  ·exact .inr q
 ·rcases h4 z hz with q | q
  ·exact absurd hl q
  ·exact q
 ·refine h6 n ?_
  unfold freeNames
  exact List.mem_map.mpr ⟨(n, .free), List.mem_filter.mpr ⟨hn, rfl⟩, rfl⟩
theorem gA {env : Env} {y : Nat} {scope : Scope} {vs : Vs} {W : Wd} (F : FrameOk c env vs W) (K : CompOk c env y scope) : closureFor scope env = pure (bU env scope.names []) ∧
  (∀ n a, (bU env scope.names []).lookup n = some a -> env.cells.lookup n = some a) /\ (∀ n, (n, NameKind.free) ∈ scope.names -> ∃ a, (bU env scope.names []).lookup n = some a) := by
 have hf : ∀ n, (n, NameKind.free) ∈ scope.names -> ∃ a, env.cells.lookup n = some a := λ n hn => F.has n (K.free n hn)
 obtain ⟨h1, h2⟩ := hE scope.names [] hf (λ _ _ z => by cases z)
 exact ⟨pT hf, h1, λ n hn => h2 n (.inl hn)⟩
theorem xV {env : Env} {y : Nat} {scope : Scope} {vs : Vs} {W : Wd} {C : Addr} {m : Str -> Option Value} {p : PV} {v : Value} (B : BaseOk c) (F : FrameOk c env vs W) (K : CompOk c env y scope) (hn : W.h.Ns C m) (hm : m (c.nm y) = some v) (r : RP c W.G W.ρ p v)
  (hC : ¬ W.dom C) (hoff : ∀ n a, env.cells.lookup n = some a -> a ≠ C) : FrameOk c (compEnvC scope (bU env scope.names []) C env) (put vs y p) W := by
 obtain ⟨_, g1, g2⟩ := gA F K
 have kd : ∀ n, (compEnvC scope (bU env scope.names []) C env).kindOf n = bZ env.kindOf scope n := kQ F.kind
 have hloc : ∀ x, x < c.N -> (compEnvC scope (bU env scope.names []) C env).kindOf (c.nm x) = some .local -> x = y := by
  intro x hx hk
  rw [kd] at hk
  unfold bZ at hk
  cases q : scope.names.lookup (c.nm x) with
  | none => rw [q] at hk; cases hk
  | some k =>
   rw [q] at hk
   cases k
   case free => dsimp only at hk; split at hk <;> cases hk
   all_goals first | cases hk | skip
   rcases K.loc _ (bX q) rfl with e | e
   ·exact B.inj x y hx K.lt e
   ·exact absurd e (B.nodot x hx)
 have hcell : ∀ nn, ((compEnvC scope (bU env scope.names []) C env).kindOf nn = some .cell \/ (compEnvC scope (bU env scope.names []) C env).kindOf nn = some .free) -> (nn, NameKind.free) ∈ scope.names := by
  intro nn hk
  rw [kd] at hk
  unfold bZ at hk
  cases q : scope.names.lookup nn with
  | none => rw [q] at hk; rcases hk with z | z <;> cases z
  | some k =>
   rw [q] at hk
   cases k
   case free => exact bX q
   case cell => exact absurd rfl (K.nocell _ (bX q))
   all_goals rcases hk with z | z <;> cases z
 refine ⟨?_, F.glob, F.blt, ?_, ⟨m, hn, ?_⟩, ?_, ?_, ?_, ?_, ?_, ?_⟩
 ·exact K.kind
 ·intro x q hx
  rw [bR] at hx
  by_cases e : y = x
  ·rw [← e]; exact K.lt
  ·rw [if_neg e] at hx; exact F.ids x q hx
 ·intro x q hx hk
  have hxN : x < c.N := by
   rw [bR] at hx
   by_cases e : y = x
   ·rw [← e]; exact K.lt
   ·rw [if_neg e] at hx; exact F.ids x q hx
  have := hloc x hxN hk
  subst this
  rw [bR, if_pos rfl] at hx
  cases hx
  exact ⟨v, hm, r⟩
 ·intro x q hx hk
  have hf := hcell _ hk
  obtain ⟨a, ha⟩ := g2 _ hf
  have ha' := g1 _ _ ha
  have hne : y ≠ x := by
   rintro rfl
   have h1 : bZ env.kindOf scope (c.nm y) = some .local := by unfold bZ; rw [K.here]
   rw [kd, h1] at hk
   rcases hk with z | z <;> cases z
  rw [bR, if_neg hne] at hx
  obtain ⟨b, u, h1, h2, h3⟩ := F.cell x q hx (.inl (K.free _ hf))
  rw [ha'] at h1
  cases h1
  exact ⟨a, u, ha, h2, h3⟩
 ·intro nn a ha
  exact F.cells nn a (g1 _ _ ha)
 ·intro nn hk
  exact g2 _ (hcell nn (.inl hk))
 ·intro n1 n2 a h1 h2
  exact F.inj n1 n2 a (g1 _ _ h1) (g1 _ _ h2)
 ·intro nn a ha
  exact hoff nn a (g1 _ _ ha)
 ·intro b hb
  rcases hb with e | ⟨nn, e⟩
  ·rw [e]; exact hC
  ·exact F.own b (.inr ⟨nn, g1 _ _ e⟩)
end
section
variable {c : Cx} {tc : Tc} {ev : Ev} {n : Nat} {ct : Ctr}
theorem vG {α : Type} {l : List α} : ∀ {j : Nat} {y : α}, nth l j = some y -> l.drop j = y :: l.drop (j + 1) := by induction l with
 | nil => exact λ h => noS h
 | cons x r ih => intro j y h; cases j with
  | zero => cases h; rfl
  | succ j => exact ih (j := j) h
theorem jX {h h' : Heap} {C : Addr} {m : Str -> Option Value} (hn : h.Ns C m) (k : ∀ o, h.get? C = some o -> h'.get? C = some o) : h'.Ns C m := by
 obtain ⟨o, es, ep, ho, r⟩ := hn
 exact ⟨o, es, ep, k o ho, r⟩
theorem f6 {k : Nat} {W W' : Wd} (e : Ext No k W W') {b : Addr} (h : ¬ W.dom b) (hb : ∃ o, W.h.get? b = some o) : ¬ W'.dom b := λ hd => by
 rcases e.dom b hd with q | q
 ·exact h q
 ·obtain ⟨o, ho⟩ := hb; rw [q] at ho; cases ho
theorem kL {k : Nat} {W W' : Wd} (e : Ext No k W W') {b : Addr} (h : ¬ W.dom b) {o : Obj} (ho : W.h.get? b = some o) : W'.h.get? b = some o := e.keep b o ho (λ z => h (.inl z)) (λ z => z)
theorem GK {k k' : Nat} {W W₀ W' : Wd} {St : Nat -> Heap -> Prop} {A : Around} {I : Addr} {fp wr : List Addr} {N j : Nat} {P : Nat -> Value -> Prop} (w : Walks c.prog c.w A I fp wr N P St) (hfp : ∀ b ∈ fp, b = I \/ (W.G b).isSome = true) (e0 : Ext No k' W W₀) (I0 : Inv c W₀) (I' : Inv c W') (e : Ext No k W₀ W') (hI : ¬ W₀.dom I) (st : St j W₀.h) : St j W'.h :=
 w.frame j _ _ st λ b hb o ho => by
  rcases hfp b hb with rfl | q
  ·exact kL e hI ho
  ·obtain ⟨o', q⟩ := Option.isSome_iff_exists.mp q
   have q0 := e0.G _ _ q
   have h1 := I0.sub _ _ q0
   rw [ho] at h1
   cases h1
   exact I'.sub _ _ (e.G _ _ q0)
theorem eO {X : Nat -> Prop} {k : Nat} {W W₃ : Wd} {h' : Heap} {Z : Addr} (e : Ext X k W W₃) (I : Inv c W₃) (nZ : W.h.get? Z = none) (dZ : ¬ W₃.dom Z) (kp : ∀ b o, b ≠ Z -> W₃.h.get? b = some o -> h'.get? b = some o) : Ext X k W { W₃ with h := h' } /\ Inv c { W₃ with h := h' } :=
 ⟨Ext.off (λ b => b = Z) e kp (λ b z => z ▸ nZ), I.turned (X := λ b => b = Z) (λ b z => z ▸ dZ) kp⟩
structure CL (c : Cx) (W : Wd) (I D C : Addr) (St : Nat -> Heap -> Prop) (j : Nat) (W₁ : Wd) (m : Str -> Option Value) (uv : List Value) (cc : Nat) : Prop where
 e : Ext No W.ρ.length W W₁
 i : Inv c W₁
 dI : ¬ W₁.dom I
 dC : ¬ W₁.dom C
 dD : ¬ W₁.dom D
 st : St j W₁.h
 ns : W₁.h.Ns C m
 l : IsL W₁.h D (List.toArray uv) cc
section
variable {W W₁ W₂ : Wd} {I D C : Addr} {St : Nat -> Heap -> Prop} {j N : Nat} {m : Str -> Option Value} {uv : List Value} {cc : Nat} {A : Around} {fp : List Addr} {P : Nat -> Value -> Prop}
theorem CL.next (s : CL c W I D C St j W₁ m uv cc) (w : Walks c.prog c.w A I fp [I] N P St) (hfp : ∀ b ∈ fp, b = I \/ (W.G b).isSome = true) (hlive : ∀ i h, St i h -> ∃ o, h.get? I = some o) (e : Ext No W₁.ρ.length W₁ W₂) (I2 : Inv c W₂) : CL c W I D C St j W₂ m uv cc :=
 ⟨Ext.trans s.i (Nat.le_refl _) s.e (e.weaken (s.e.lenLe (Nat.le_refl _)) λ _ z => z), I2, f6 e s.dI (hlive _ _ s.st), f6 e s.dC ⟨_, s.ns.choose_spec.choose_spec.choose_spec.1⟩, f6 e s.dD ⟨_, s.l⟩,
  GK w hfp s.e s.i I2 e s.dI s.st, jX s.ns λ o ho => kL e s.dC ho, kL e s.dD s.l⟩
theorem CL.heap (s : CL c W I D C St j W₁ m uv cc) {Z : Addr} {h' : Heap} {j' : Nat} {m' : Str -> Option Value} {uv' : List Value} {cc' : Nat} (nZ : W.h.get? Z = none) (dZ : ¬ W₁.dom Z) (kp : ∀ b o, b ≠ Z -> W₁.h.get? b = some o -> h'.get? b = some o) (st : St j' h') (ns : h'.Ns C m') (l : IsL h' D (List.toArray uv') cc') :
  CL c W I D C St j' { W₁ with h := h' } m' uv' cc' := ⟨(eO s.e s.i nZ dZ kp).1, (eO s.e s.i nZ dZ kp).2, s.dI, s.dC, s.dD, st, ns, l⟩
theorem CL.stF (s : CL c W I D C St j W₁ m uv cc) (w : Walks c.prog c.w A I fp [I] N P St) (hfp : ∀ b ∈ fp, b = I \/ (W.G b).isSome = true) {Z : Addr} {h' : Heap} (zI : I ≠ Z) (dZ : ¬ W₁.dom Z) (kp : ∀ b o, b ≠ Z -> W₁.h.get? b = some o -> h'.get? b = some o) : St j h' :=
 w.frame _ _ _ s.st λ b hb o ho => kp b o (λ z => (hfp b hb).elim (λ q => zI (q.symm.trans z)) λ q => (Option.isSome_iff_exists.mp q).elim λ o' q => dZ (.inr (by rw [← z, s.e.G _ _ q]; rfl))) ho
end
theorem tG {N j k : Nat} (h : k = N + 1 - j) (hlt : j < N) : N + 1 - (j + 1) < k := by omega
inductive CoI (c : Cx) (W : Wd) (x : Sx) (I D C : Addr) (St : Nat -> Heap -> Prop) (R : Nat -> Nat -> List FV -> Hp -> Prop) (f : Nat) : Shared -> Prop
 | mk (W₁ : Wd) (tk j : Nat) (m : Str -> Option Value) (us : List FV) (uv : List Value) (cc : Nat) (s : CL c W I D C St j W₁ m uv cc) (rl : RL c W₁.G us uv) (hus : us.length <= j) (r : R f j us W₁.H) : CoI c W x I D C St R f (mkS x W₁.h tk)
theorem BF (B : TabOk c tc) (S : Sound c tc ev n) {A : Around} {env : Env} {y : Nat} {scope : Scope} {vs : Vs} {W : Wd} {x : Sx} {I D C : Addr} {fp : List Addr} {St : Nat -> Heap -> Prop} {P : Nat -> Value -> Prop} {xs : List FV} {m : Nat} {iel : IExpr} {iifs : List IExpr} {elt iter : Expr} {ifs : List Expr} {px pos : Pos}
  {β : Type} {PP : β -> Prop} {KK : List FV × Hp -> T β} {RR : Result -> Shared -> Prop} (hA : AOk n A) (K : CompOk c env y scope) (w : Walks c.prog c.w A I fp [I] xs.length P St) (hfp : ∀ b ∈ fp, b = I \/ (W.G b).isSome = true) (hP : ∀ i v, i < xs.length -> P i v -> ∃ y, nth xs i = some y /\ RF c W.G y v) (hlive : ∀ i h, St i h -> ∃ o, h.get? I = some o)
  (nI : W.h.get? I = none) (nC : W.h.get? C = none) (nD : W.h.get? D = none) (iC : I ≠ C) (iD : I ≠ D) (cD : C ≠ D) (F : FrameOk c env vs W) (hel : aW tc m (bZ env.kindOf scope) iel elt = true) (hif : all2 (aW tc m (bZ env.kindOf scope)) iifs ifs = true) (hxs : xs.length <= 2000)
  (hR : ∀ W' tk m us uvals cc, CL c W I D C (λ _ _ => True) 0 W' m uvals cc -> RL c W'.G us uvals -> us.length <= xs.length -> (KK (us, W'.H)).AllP PP -> RR (.ok .next) (mkS x W'.h tk))
  {W₀ : Wd} {tk : Nat} {m0 : Str -> Option Value} {cc : Nat} (sa : CL c W I D C St 0 W₀ m0 [] cc) (h₀ : ((cR (λ vs H => bP (λ e H => ev.t e vs H) iifs H) (λ vs H => ev.e iel vs H) vs y xs W₀.H).bind KK).AllP PP) :
  codeAny (model c.prog c.w) A (.compLoop (.ListComp elt [⟨.Name (c.nm y) px, iter, ifs, 0⟩] scope pos) 0 (.ref I) (.ref D) (compEnvC scope (bU env scope.names []) C env)) RR (mkS x W₀.h tk) := by
 have hoff : ∀ n a, env.cells.lookup n = some a -> a ≠ C := λ nn a ha z => by
  obtain ⟨o, o', ho, _⟩ := F.cells nn a ha
  rw [z, nC] at ho; cases ho
 refine codeAny_compLoop_tests (CoI c W x I D C St λ k j us H => (k = xs.length + 1 - j /\ j <= xs.length) /\ ((cR (λ vs H => bP (λ e H => ev.t e vs H) iifs H) (λ vs H => ev.e iel vs H) vs y (xs.drop j) H).bind λ z => KK (us ++ z.1, z.2)).AllP PP) ?_ (xs.length + 1)
  (.mk W₀ tk 0 m0 [] [] cc sa .nil (Nat.le_refl _) ⟨⟨rfl, Nat.zero_le _⟩, h₀⟩)
 intro k s hs
 cases hs with
 | mk W₁ tk1 j m1 us uvals cc1 s1 rl1 hus r1 =>
 have hkj := r1.1.1
 have hj := r1.1.2
 have h1 := r1.2
 by_cases hlt : j < xs.length
 ·refine w.item j _ _ _ hlt s1.st λ v h' tk2 hPv stc kp => ?_
  have kp' : ∀ b o, b ≠ I -> W₁.h.get? b = some o -> h'.get? b = some o := λ b o hb ho => kp b o (λ z => hb (List.mem_singleton.mp z)) ho
  have s2 := s1.heap nI s1.dI kp' stc (jX s1.ns λ o ho => kp' C o (λ z => iC z.symm) ho) (kp' D _ (λ z => iD z.symm) s1.l)
  obtain ⟨yv, hy1, hy2⟩ := hP j v hlt hPv
  have hkl : (compEnvC scope (bU env scope.names []) C env).kindOf (c.nm y) = some .local := by
   rw [kQ F.kind]; unfold bZ; rw [K.here]
  refine wpAny_assign_Name (wpAny_storeName_local hkl s2.ns (λ h3 hn3 hs3 => ?_) (by show (scope.kind == ScopeKind.class || scope.kind == ScopeKind.module && _) = false; rw [K.kind]; rfl))
  have kp3 : ∀ b o, b ≠ C -> h'.get? b = some o -> h3.get? b = some o := λ b o hb ho => (hs3.2 b hb).trans ho
  have s3 := s2.heap nC s2.dC kp3 (s2.stF w hfp iC s2.dC kp3) hn3 (kp3 D _ (λ z => cD z.symm) s2.l)
  have Fc := xV (p := .f yv) (v := v) B.base (F.keepNo s3.e) K hn3 (if_pos rfl) (.f (hy2.mono s1.e.G)) s3.dC hoff
  rw [vG hy1] at h1
  have h1' : ((bP (λ e H => ev.t e (put vs y (.f yv)) H) iifs W₁.H).bind λ a => (bT a.1 ((ev.e iel (put vs y (.f yv)) a.2).bind λ yy => oB (asF (nrm yy.2 yy.1)) λ u => (cR (λ vs H => bP (λ e H => ev.t e vs H) iifs H) (λ vs H => ev.e iel vs H) vs y (xs.drop (j + 1)) yy.2).bind λ z => .ret (u :: z.1, z.2))
    (cR (λ vs H => bP (λ e H => ev.t e vs H) iifs H) (λ vs H => ev.e iel vs H) vs y (xs.drop (j + 1)) a.2)).bind λ z => KK (us ++ z.1, z.2)).AllP PP := by
   rw [← T.bind_assoc]; exact h1
  refine WP.any (AC S hA (by rw [rK F.kind]; exact hif) Fc s3.i h1' λ W4 b tk4 e4 I4 F4 h4 => ?_)
  have s4 := s3.next w hfp hlive e4 I4
  have rl4 := rl1.mono e4.G
  cases b with
  | false =>
   rw [if_neg Bool.false_ne_true]
   exact ⟨xs.length + 1 - (j + 1), tG hkj hlt, .mk W4 tk4 (j + 1) _ us uvals cc1 s4 rl4 (Nat.le_succ_of_le hus) ⟨⟨rfl, hlt⟩, h4⟩⟩
  | true =>
   rw [if_pos rfl]
   have h4' : ((ev.e iel (put vs y (.f yv)) W4.H).bind λ yy => (oB (asF (nrm yy.2 yy.1)) λ u => (cR (λ vs H => bP (λ e H => ev.t e vs H) iifs H) (λ vs H => ev.e iel vs H) vs y (xs.drop (j + 1)) yy.2).bind λ z => .ret (u :: z.1, z.2)).bind λ z => KK (us ++ z.1, z.2)).AllP PP := by
    rw [← T.bind_assoc]; exact h4
   refine WP.any (S.evE hA (by rw [rK F.kind]; exact hel) F4 I4 h4' λ W5 pe u tk5 e5 I5 F5 rf h5 => ?_)
   have s5 := s4.next w hfp hlive e5 I5
   have rl5 := rl4.mono e5.G
   have rn := rf.nrm I5
   dsimp only at h5
   cases ho : asF (nrm W5.H pe) with
   | none => rw [ho] at h5; exact h5.elim
   | some uv =>
    rw [ho] at h5
    rw [bO ho] at rn
    have h5' : (((cR (λ vs H => bP (λ e H => ev.t e vs H) iifs H) (λ vs H => ev.e iel vs H) vs y (xs.drop (j + 1)) W5.H).bind λ z => .ret (uv :: z.1, z.2)).bind λ z => KK (us ++ z.1, z.2)).AllP PP := h5
    rw [T.bind_assoc] at h5'
    have hlen := rl5.length
    refine wpAny_list_append_plain ⟨cc1, s5.l⟩ (λ h6 hp6 hs6 => ?_) (aL (by rw [List.size_toArray]; omega))
    obtain ⟨cc6, hp6⟩ := hp6
    rw [List.push_toArray] at hp6
    have kp6 : ∀ b o, b ≠ D -> W5.h.get? b = some o -> h6.get? b = some o := λ b o hb ho => (hs6.2 b hb).trans ho
    refine ⟨xs.length + 1 - (j + 1), tG hkj hlt, .mk { W5 with h := h6 } tk5 (j + 1) _ (us ++ [uv]) (uvals ++ [u]) cc6 (s5.heap nD s5.dD kp6 (s5.stF w hfp iD s5.dD kp6) (jX s5.ns λ o ho => kp6 C o cD ho) hp6) (rl5.snoc rn.fE) (by rw [List.length_append]; exact Nat.succ_le_succ hus) ⟨⟨rfl, hlt⟩, ?_⟩⟩
    refine Eq.mp (congrArg (λ t : T β => t.AllP PP) (congrArg _ (funext λ z => ?_))) h5'
    show KK (us ++ uv :: z.1, z.2) = _
    rw [List.append_cons]
 ·have hje : j = xs.length := Nat.le_antisymm hj (Nat.not_lt.mp hlt)
  subst hje
  refine w.done _ _ _ s1.st λ h' tk2 kp => ?_
  have kp' : ∀ b o, b ≠ I -> W₁.h.get? b = some o -> h'.get? b = some o := λ b o hb ho => kp b o (λ z => hb (List.mem_singleton.mp z)) ho
  have hh := eO s1.e s1.i nI s1.dI kp'
  refine hR { W₁ with h := h' } tk2 m1 us uvals cc1 ⟨hh.1, hh.2, s1.dI, s1.dC, s1.dD, trivial, jX s1.ns λ o ho => kp' C o (λ z => iC z.symm) ho, kp' D _ (λ z => iD z.symm) s1.l⟩ rl1 hus ?_
  rw [List.drop_length] at h1
  have h1' : (KK (us ++ [], W₁.H)).AllP PP := h1
  rw [List.append_nil] at h1'
  exact h1'
end
section
variable {c : Cx} {tc : Tc} {ev : Ev} {n : Nat} {ct : Ctr}
theorem Inv.domAt {W : Wd} (I : Inv c W) {b : Addr} (h : W.dom b) : ∃ o, W.h.get? b = some o := h.elim (λ h => I.fpLt h) λ h => (Option.isSome_iff_exists.mp h).elim λ o e => ⟨o, I.sub _ _ e⟩
theorem vH (B : TabOk c tc) (S : Sound c tc ev n) {A : Around} {env : Env} {y : Nat} {scope : Scope} {vs : Vs} {W : Wd} {x : Sx} {I : Addr} {fp : List Addr} {St : Nat -> Heap -> Prop} {P : Nat -> Value -> Prop} {xs : List FV} {m : Nat} {iel : IExpr} {iifs : List IExpr} {elt iter : Expr} {ifs : List Expr} {px pos : Pos}
  {β : Type} {PP : β -> Prop} {KK : List FV × Hp -> T β} {RR : Value -> Addr -> Result -> Shared -> Prop} {E : Value -> Shared -> Prop} (hA : AOk n A) (K : CompOk c env y scope) (w : Walks c.prog c.w A I fp [I] xs.length P St) (hfp : ∀ b ∈ fp, b = I \/ (W.G b).isSome = true) (hP : ∀ i v, i < xs.length -> P i v -> ∃ y, nth xs i = some y /\ RF c W.G y v) (hlive : ∀ i h, St i h -> ∃ o, h.get? I = some o)
  (F : FrameOk c env vs W) (J : Inv c W) (hel : aW tc m (bZ env.kindOf scope) iel elt = true) (hif : all2 (aW tc m (bZ env.kindOf scope)) iifs ifs = true) (hxs : xs.length <= 2000) (hI : I = W.h.objs.size) {oI : Obj} (fI : oI.isFreed = false) (st : St 0 (W.h.push oI)) {t : Nat}
  (h : ((cR (λ vs H => bP (λ e H => ev.t e vs H) iifs H) (λ vs H => ev.e iel vs H) vs y xs W.H).bind KK).AllP PP)
  (hR : ∀ W' C D tk m us uvals cc, W.h.get? C = none -> W.h.get? D = none -> C ≠ D -> CL c W I D C (λ _ _ => True) 0 W' m uvals cc -> RL c W'.G us uvals -> us.length <= xs.length -> (KK (us, W'.H)).AllP PP -> RR (.ref D) C (.ok .next) (mkS x W'.h tk)) :
  wpAny (model c.prog c.w) A (newList []) (λ acc s3 => wpAny (model c.prog c.w) A (newFunctionEnv scope env.globals (bU env scope.names []) [] env.qual none .none (some env)) (λ cenv s4 =>
    codeAny (model c.prog c.w) A (.compStart (.ListComp elt [⟨.Name (c.nm y) px, iter, ifs, 0⟩] scope pos) 0 (.ref I) acc { cenv with scope := relabel scope env }) (RR acc cenv.locals) s4) E s3) E (mkS x (W.h.push oI) t) := by
 refine wpAny_newList (wpAny_newFunctionEnv K.nocell (by intro y hy; cases hy) (λ h₁ hns hsb => ?_) K.kind)
 dsimp only at hns hsb ⊢
 subst hI
 let h1 := W.h.push oI
 let D := h1.objs.size
 let h2 := h1.push { cls := .type "list", data := .seq (List.toArray []) }
 let C := h2.objs.size
 have sI : h1.objs.size = W.h.objs.size + 1 := Heap.size_push ..
 have sD : h2.objs.size = h1.objs.size + 1 := Heap.size_push ..
 have gD : h2.get? D = some { cls := .type "list", data := .seq (List.toArray []) } := Heap.get?_push_size _ rfl
 have up2 : ∀ b o, h2.get? b = some o -> h₁.get? b = some o := λ b o ho => by
  have hne : b ≠ C := Nat.ne_of_lt (Heap.lt_size ho)
  exact (hsb.2 b hne).trans (Heap.get?_push_of_some _ ho)
 have kp : ∀ b o, W.h.get? b = some o -> h₁.get? b = some o := λ b o ho => up2 b o (Heap.get?_push_of_some _ (Heap.get?_push_of_some _ ho))
 have nI : W.h.get? W.h.objs.size = none := cQ (Nat.le_refl _)
 have nD : W.h.get? D = none := cQ (by show W.h.objs.size <= h1.objs.size; omega)
 have nC : W.h.get? C = none := cQ (by show W.h.objs.size <= h2.objs.size; omega)
 have ndom : ∀ b, W.h.get? b = none -> ¬ W.dom b := λ b hb hd => by
  obtain ⟨o, ho⟩ := J.domAt hd; rw [hb] at ho; cases ho
 have st0 : St 0 h₁ := w.frame _ _ _ st λ b hb o ho => up2 b o (Heap.get?_push_of_some _ ho)
 have cD : C ≠ D := by show h2.objs.size ≠ h1.objs.size; omega
 have key := BF (RR := RR (.ref D) C) (tk := t + ([] : List (Str × Value)).length) (px := px) (pos := pos) (iter := iter) B S hA K w hfp hP hlive nI nC nD (by show W.h.objs.size ≠ h2.objs.size; omega) (by show W.h.objs.size ≠ h1.objs.size; omega) cD F hel hif hxs
  (λ W' tk m us uvals cc s g k l => hR W' C D tk m us uvals cc nC nD cD s g k l) ⟨Ext.heap kp, J.heap kp, ndom _ nI, ndom _ nC, ndom _ nD, st0, hns, up2 D _ gD⟩ h
 exact codeAny_compStart_list key (w.self 0 _ _ _ st0 key)
theorem dP {e : Expr} {env : Env} (h : aA e = true) (v : Value) : foldedSetIterable e env v = pure v := by
 unfold aA at h
 unfold exA at h
 refine aN (P := λ e => foldedSetIterable e env v = pure v) h ?_ ?_ ?_ ?_ ?_ ?_ ?_ ?_ ?_ ?_ ?_ ?_ ?_ ?_ <;> intros <;> rfl
def lE (W : Wd) (D : Addr) (us : List Value) (cc : Nat) : Wd := { W with G := addG W.G D { cls := .type "list", data := .seq (List.toArray us) cc } }
theorem rI {W W' : Wd} {D C I : Addr} {St : Nat -> Heap -> Prop} {m : Str -> Option Value} {us : List FV} {uvals : List Value} {cc j : Nat} {v : FV} (s : CL c W I D C St j W' m uvals cc) (nD : W.h.get? D = none) (cD : C ≠ D) (rl : RL c W'.G us uvals) (hl : us.length <= 2000) (hv : fvw c.tb v = .lst us) :
  Ext No W.ρ.length W (lE W' D uvals cc) /\ Inv c (lE W' D uvals cc) /\ RP c (lE W' D uvals cc).G W'.ρ (.f v) (.ref D) /\ ¬ (lE W' D uvals cc).dom C := by
 have hG : W'.G D = none := by
  cases q : W'.G D with
  | none => rfl
  | some _ => exact absurd (.inr (by rw [q]; rfl)) s.dD
 refine ⟨Ext.tellG s.e s.dD nD, Inv.tellG s.i s.l s.dD, .f (RF.unfvw hv (.lst (cL ..) ⟨cc, rfl⟩ hl (rl.mono (bW hG)))), λ w => w.elim (λ w => s.dC (.inl w)) λ w => ?_⟩
 obtain ⟨o', w⟩ := Option.isSome_iff_exists.mp w
 exact (cI w).elim (λ w => cD w.1) λ w => s.dC (.inr (by rw [w]; rfl))
theorem HA {iel : IExpr} {y : Nat} {it : IExpr} {iifs : List IExpr} (B : TabOk c tc) (S : Sound c tc ev n) : SE c tc ct ev n (.comp iel y it iifs) := by
 intro A env vs W x t ex m Q hA hc F I h
 refine QE (P := λ e => WP c A (eval e env) Q (mkS x W.h t)) (g := λ elt' id it' ifs' scope => id == tc.nm y && hM env.kindOf tc y scope && aW tc m env.kindOf it it' && aA it' && aW tc m (bZ env.kindOf scope) iel elt' && all2 (aW tc m (bZ env.kindOf scope)) iifs ifs') hc λ elt id px it' ifs scope pos hc => ?_
 cases B.id (bl (bl (bl (bl (bl hc)))))
 have hn := hA.le (Nat.le_succ n)
 have K := rJ B (br (bl (bl (bl (bl hc)))))
 rw [eval_ListComp]
 refine wpAny_comprehension_free (use := none) rfl (dP (br (bl (bl hc)))) (gA F K).1 K.kind K.locl (S.useE hn (br (bl (bl (bl hc)))) F I (Nat.le_refl _) h λ W₁ pu u tk e1 I1 F1 r1 hk1 h1 => ?_)
 refine oBE h1 λ xs hxs h1 => ?_
 obtain ⟨it1, it2⟩ := jD (A := A) (x := x) hA.1 I1 r1.opn hxs
 refine it1 _ _ λ o fp St P w hfp hP fo hlive st => ?_
 refine vH (β := List FV × Hp) (KK := .ret) (RR := λ acc C => compPost (model c.prog c.w) A (λ _ _ => False) none Q acc C) B S hn K w hfp hP (λ i h st => let ⟨o, ho, _⟩ := hlive i h st; ⟨o, ho⟩) F1 I1 (br (bl hc)) (br hc) it2 rfl fo st (vI h1) ?_
 intro W' C D tk' mm us uvals cc nC nD cD s rl' hus hret
 obtain ⟨v, hv, hret⟩ := hret
 refine ⟨mm, s.ns, λ h'' hs => ?_⟩
 obtain ⟨g1, g2, g3, g4⟩ := rI s nD cD rl' (Nat.le_trans hus it2) hv
 have z := eO (W₃ := lE W' D uvals cc) g1 g2 nC g4 λ b o hb ho => (hs.2 b hb).trans ho
 exact hret _ _ tk' (z.1.weaken hk1 λ _ z => z) z.2 ⟨rfl, g3⟩
end
section
variable {c : Cx} {tc : Tc} {ev : Ev} {n : Nat} {ct : Ctr}
theorem fM {α : Type} {k : Nat} : ∀ {l : List α}, k <= l.length -> (aV k l).length = k := by induction k with
 | zero => exact λ _ => rfl
 | succ k ih => intro l h; cases l with
  | nil => exact absurd h (Nat.not_succ_le_zero k)
  | cons x r => exact congrArg (· + 1) (ih (l := r) (Nat.le_of_succ_le_succ h))
theorem fL {α : Type} {k : Nat} : ∀ {i : Nat} {l : List α}, i < k -> nth (aV k l) i = nth l i := by induction k with
 | zero => exact λ h => absurd h (Nat.not_lt_zero _)
 | succ k ih => intro i l h; cases l with
  | nil => rfl
  | cons x r => cases i with
   | zero => rfl
   | succ i => exact ih (l := r) (Nat.lt_of_succ_lt_succ h)
section
variable {k : Nat} {G : Gh} {ρ ρ' : List (Nat × Nat)} (hρ : ∀ i, i < k -> nth ρ' i = nth ρ i)
include hρ
theorem qI {p : PV} {v : Value} (h : NV k p = true) (r : RP c G ρ p v) : RP c G ρ' p v := by cases p with
 | f x => exact .f r.fE
 | ref i => exact RP.refE r λ q e => .ref ((hρ i (Nat.blt_eq.mp h)).trans e)
theorem w8 {ps : List PV} {vs : List Value} (h : DA k ps = true) (r : RPs c G ρ ps vs) : RPs c G ρ' ps vs := r.rec (motive := λ ps vs _ => DA k ps = true -> RPs c G ρ' ps vs) (λ _ => .nil) (λ a _ ih h => .cons (qI hρ (bl h) a) (ih (br h))) h
theorem w7 {C : Addr} {ps : List (Nat × PV)} {es : List DictEntry} (h : C9 k ps = true) (r : RPf c G ρ C ps es) : RPf c G ρ' C ps es := r.rec (motive := λ ps es _ => C9 k ps = true -> RPf c G ρ' C ps es) (λ _ => .nil) (λ h1 h2 a _ ih h => .cons h1 h2 (qI hρ (bl h) a) (ih (br h))) h
theorem mT {h : Heap} {ao : AO} {p : Nat × Nat} (hr : y5 k ao = true) (r : OkAO c G ρ h ao p) : OkAO c G ρ' h ao p :=
 r.rec (motive := λ ao p _ => y5 k ao = true -> OkAO c G ρ' h ao p) (λ a b d e hr => .inst a b (w7 hρ hr d) e) (λ a b d e _ => .flist a b d e) (λ a b d e hr => .rlist a b d (w8 hρ hr e)) (λ a b d e f _ => .idct a b d e f) (λ a b d e _ => .src a b d e) (λ a _ => .fz a) hr
end
theorem qH {k : Nat} {H : Hp} : ∀ {i : Nat} {ao : AO}, y6 k H = true -> nth H i = some ao -> y5 k ao = true := by induction H with
 | nil => exact λ _ h => noS h
 | cons o r ih => intro i ao h hi; cases i with
  | zero => cases hi; exact bl h
  | succ i => exact ih (br h) hi
theorem wQ {G : Gh} {ρ ρ' : List (Nat × Nat)} {h : Heap} {ao : AO} {p : Nat × Nat} (hs : stays ao = true) (r : OkAO c G ρ h ao p) : OkAO c G ρ' h ao p :=
 r.rec (motive := λ ao p _ => stays ao = true -> OkAO c G ρ' h ao p) zf4 (λ a b d e _ => .flist a b d e) zf4 zf5 (λ a b d e _ => .src a b d e) zf1 hs
theorem KZ {W : Wd} (I : Inv c W) {ρ' : List (Nat × Nat)} {H' : Hp} {f : Nat -> Nat} {X : Nat -> Prop} {k : Nat} (hl : ρ'.length = H'.length) (hf : ∀ i ao p, nth H' i = some ao -> nth ρ' i = some p -> nth W.H (f i) = some ao /\ nth W.ρ (f i) = some p /\ (OkAO c W.G W.ρ W.h ao p -> OkAO c W.G ρ' W.h ao p))
  (inj : ∀ i j, i < H'.length -> j < H'.length -> i ≠ j -> f i ≠ f j) (hρ : ∀ i p, i < k -> nth W.ρ i = some p -> nth ρ' i = some p) : Inv c { W with ρ := ρ', H := H' } /\ Ext X k W { W with ρ := ρ', H := H' } := by
 have fpW : ∀ b, ({ W with ρ := ρ', H := H' } : Wd).fp b -> W.fp b := λ b ⟨i, ao, p, h1, h2, h3⟩ => ⟨f i, ao, p, (hf i ao p h1 h2).1, (hf i ao p h1 h2).2.1, h3⟩
 exact ⟨⟨hl, I.sub, λ i ao p h1 h2 => (hf i ao p h1 h2).2.2 (I.ok _ ao p (hf i ao p h1 h2).1 (hf i ao p h1 h2).2.1), λ b hb => I.fresh b (fpW b hb), λ i j ao ao' p p' hij h1 h2 h3 h4 => I.apart _ _ ao ao' p p' (inj i j (bQ h1) (bQ h2) hij) (hf i ao p h1 h3).1 (hf j ao' p' h2 h4).1 (hf i ao p h1 h3).2.1 (hf j ao' p' h2 h4).2.1,
  λ i C fs p h1 h2 => I.two _ C fs p (hf i _ p h1 h2).1 (hf i _ p h1 h2).2.1, I.base⟩, ⟨λ _ _ e => e, hρ, λ _ _ e _ _ => e, λ b hd => hd.elim (λ hd => .inl (.inl (fpW b hd))) λ hd => .inl (.inr hd), λ _ o e => ⟨o, e⟩⟩⟩
theorem MI {W : Wd} (I : Inv c W) {k : Nat} (hk : k <= W.ρ.length) (hr : y6 k (aV k W.H) = true) {X : Nat -> Prop} : Inv c { W with ρ := aV k W.ρ, H := aV k W.H } /\ Ext X k W { W with ρ := aV k W.ρ, H := aV k W.H } := by
 have lH : (aV k W.H).length = k := fM (I.len ▸ hk)
 exact KZ (f := λ i => i) I ((fM hk).trans lH.symm) (λ i ao p h1 h2 => by
  have hi : i < k := lH ▸ bQ h1
  have ok := mT (c := c) (G := W.G) (h := W.h) (p := p) (ρ := W.ρ) (ρ' := aV k W.ρ) (λ i hi => fL hi) (qH hr h1)
  rw [fL hi] at h1 h2
  exact ⟨h1, h2, ok⟩) (λ _ _ _ _ h => h) λ i p hi e => (fL hi).trans e
theorem MH {W : Wd} (I : Inv c W) {k j : Nat} {o : AO} {q : Nat × Nat} (hk : k <= W.ρ.length) (hr : y6 k (aV k W.H) = true) (hs : stays o = true) (hj : k <= j) (ho : nth W.H j = some o) (hq : nth W.ρ j = some q) {X : Nat -> Prop} :
  Inv c { W with ρ := aV k W.ρ ++ [q], H := aV k W.H ++ [o] } /\ Ext X k W { W with ρ := aV k W.ρ ++ [q], H := aV k W.H ++ [o] } := by
 have lH : (aV k W.H).length = k := fM (I.len ▸ hk)
 have lρ := fM hk
 have hρ : ∀ i, i < k -> nth (aV k W.ρ ++ [q]) i = nth W.ρ i := λ i hi => (b6 (by rw [lρ]; exact hi)).trans (fL hi)
 have len : ∀ i, i < (aV k W.H ++ [o]).length -> i < k \/ i = k := λ i hi => Nat.lt_or_eq_of_le (Nat.le_of_lt_succ (by rw [List.length_append, lH] at hi; exact hi))
 have e1 : nth (aV k W.H ++ [o]) k = some o := by have := aZ (l := aV k W.H) (x := o) (r := []); rw [lH] at this; exact this
 have e2 : nth (aV k W.ρ ++ [q]) k = some q := by have := aZ (l := aV k W.ρ) (x := q) (r := []); rw [lρ] at this; exact this
 refine KZ (f := λ i => if i < k then i else j) I (by rw [List.length_append, List.length_append, lρ, lH]; rfl) (λ i ao p h1 h2 => ?_) (λ i i' hi hi' h => ?_) λ i p hi e => (hρ i hi).trans e
 ·rcases len i (bQ h1) with hi | rfl
  ·rw [b6 (by rw [lH]; exact hi)] at h1
   have ok := mT (c := c) (G := W.G) (h := W.h) (p := p) hρ (qH hr h1)
   rw [fL hi] at h1
   rw [hρ i hi] at h2
   rw [if_pos hi]
   exact ⟨h1, h2, ok⟩
  ·cases e1.symm.trans h1
   cases e2.symm.trans h2
   rw [if_neg (Nat.lt_irrefl _)]
   exact ⟨ho, hq, wQ hs⟩
 ·rcases len i hi with a | a <;> rcases len i' hi' with b | b <;> simp only [a, b, if_pos, Nat.lt_irrefl, if_neg, not_false_eq_true] <;> omega
end
section
variable {c : Cx} {tc : Tc} {ev : Ev} {n : Nat} {ct : Ctr}
theorem FrameOk.retell {env : Env} {vs vs' : Vs} {W W' : Wd} (F : FrameOk c env vs W) (hh : W'.h = W.h) (hd : ∀ b, W'.dom b -> W.dom b \/ W.h.get? b = none)
  (hv : ∀ x p', look vs' x = some p' -> ∃ p, look vs x = some p /\ ∀ v, RP c W.G W.ρ p v -> RP c W'.G W'.ρ p' v) : FrameOk c env vs' W' := by
 refine ⟨F.kind, F.glob, F.blt, ?_, ?_, ?_, ?_, F.has, F.inj, F.off, ?_⟩
 ·intro x p' hx
  obtain ⟨p, hp, _⟩ := hv x p' hx
  exact F.ids x p hp
 ·obtain ⟨m, hn, hm⟩ := F.ns
  refine ⟨m, by rw [hh]; exact hn, λ x p' hx hk => ?_⟩
  obtain ⟨p, hp, hr⟩ := hv x p' hx
  obtain ⟨v, h1, h2⟩ := hm x p hp hk
  exact ⟨v, h1, hr v h2⟩
 ·intro x p' hx hk
  obtain ⟨p, hp, hr⟩ := hv x p' hx
  obtain ⟨a, v, h1, h2, h3⟩ := F.cell x p hp hk
  exact ⟨a, v, h1, by rw [hh]; exact h2, hr v h3⟩
 ·intro nn a e
  obtain ⟨o, ho⟩ := F.cells nn a e
  exact ⟨o, by rw [hh]; exact ho⟩
 ·intro b hb hdb
  rcases hd b hdb with q | q
  ·exact F.own b hb q
  ·obtain ⟨o, ho⟩ := F.ownAt hb; rw [q] at ho; cases ho
theorem zK {W : Wd} (I : Inv c W) {p : PV} {r : FV × Hp} {X : Nat -> Prop} {k : Nat} (h : frz p W.H = some r) : ∃ W', Ext X k W W' /\ Inv c W' /\ W'.H = r.2 /\ W'.h = W.h /\ W'.ρ = W.ρ /\ ∀ v, RP c W.G W.ρ p v -> RF c W'.G r.1 v := by
 cases p with
 | f v => cases h; exact ⟨W, .refl .., I, rfl, rfl, rfl, λ v hv => hv.fE⟩
 | ref i =>
  cases q : nth W.H i with
  | none =>
   have e : nrm W.H (.ref i) = .ref i := by unfold nrm; dsimp only; rw [q]
   unfold frz at h
   rw [e] at h
   exact oOE h λ ao ha _ => noS (q.symm.trans ha)
  | some ao =>
   obtain ⟨q, hq⟩ := gX (l := W.ρ) (i := i) (by rw [I.len]; exact bQ q)
   obtain ⟨W', h1, h2, h3, h4, h5, h6⟩ := kO (X := X) (k := k) I (.ref hq) h
   exact ⟨W', h1, h2, h3, h4, h5, λ v hv => RP.refE hv λ q' e' => by cases hq.symm.trans e'; exact h6⟩
def swP (vs : Vs) (k : Nat) (o : Option Nat) (x : Nat) (p' : PV) : Prop := ∃ p, look vs x = some p /\ ((∃ v, p = .f v /\ p' = .f v) \/ ∃ i, p = .ref i /\ p' = .ref k /\ o = some i)
theorem IG {vs : Vs} {k : Nat} {xs : List Nat} : ∀ {q : Vs × Option Nat}, gcV vs k xs = some q -> (∀ x p', look q.1 x = some p' -> swP vs k q.2 x p') /\ ∀ i, q.2 = some i -> k <= i := by
 induction xs with
 | nil => intro q h; cases h; exact ⟨λ x p' hx => noS hx, λ i hi => noS hi⟩
 | cons y xs ih =>
  refine λ {q} h => oOE h λ p hp h => oOE h λ r hr h => ?_
  have z := ih hr
  have at' : ∀ {o : Option Nat} {pa : PV}, swP vs k o y pa -> (∀ x p', look r.1 x = some p' -> swP vs k o x p') -> ∀ x p', look ((y, pa) :: r.1) x = some p' -> swP vs k o x p' := λ {o pa} h1 h2 x p' hx => by
   rw [bJ] at hx
   by_cases e : y = x
   ·rw [if_pos e] at hx; cases hx; exact e ▸ h1
   ·rw [if_neg e] at hx; exact h2 x p' hx
  cases p with
  | f v => cases h; exact ⟨at' ⟨_, hp, .inl ⟨v, rfl, rfl⟩⟩ z.1, z.2⟩
  | ref i =>
   have g := gOE h
   obtain ⟨r1, r2⟩ := r
   cases r2 with
   | some _ => exact noS g.2
   | none =>
    cases g.2
    exact ⟨at' ⟨_, hp, .inr ⟨i, rfl, rfl, rfl⟩⟩ λ x p' hx => (z.1 x p' hx).elim λ p g => ⟨p, g.1, g.2.elim .inl λ ⟨j, _, _, g3⟩ => noS g3⟩, λ j hj => by cases hj; exact Nat.le_of_ble_eq_true g.1⟩
def GhP (c : Cx) (env : Env) (k : Nat) (W : Wd) (PP : Fl × Vs × Hp -> Prop) : Prop := ∃ vs' W', W'.h = W.h /\ Ext (Own env) k W W' /\ Inv c W' /\ FrameOk c env vs' W' /\ PP (.next, vs', W'.H)
section
variable {env : Env} {vs : Vs} {W : Wd} {k : Nat} {PP : Fl × Vs × Hp -> Prop}
theorem A2 {y : Nat} {p : PV} {r : FV × Hp} (F : FrameOk c env vs W) (I : Inv c W) (hp : look vs y = some p) (hr : frz p W.H = some r) (h : PP (.next, put vs y (.f r.1), r.2)) : GhP c env k W PP := by
 obtain ⟨W', h1, h2, h3, h4, h5, h6⟩ := zK (X := Own env) (k := k) I hr
 refine ⟨put vs y (.f r.1), W', h4, h1, h2, F.retell h4 h1.dom (λ x p' hx => ?_), by rw [h3]; exact h⟩
 rw [bR] at hx
 by_cases e : y = x
 ·rw [if_pos e] at hx
  cases hx
  exact ⟨p, e ▸ hp, λ v hv => .f (h6 v hv)⟩
 ·rw [if_neg e] at hx
  exact ⟨p', hx, λ v hv => hv.mono h1.G (by rw [h5]; exact λ _ _ z => z)⟩
theorem xR {p : PV} {r : FV × Hp} (F : FrameOk c env vs W) (I : Inv c W) (hr : frz p W.H = some r) (h : PP (.next, vs, r.2)) : GhP c env k W PP := by
 obtain ⟨W', h1, h2, h3, h4, h5, h6⟩ := zK (X := Own env) (k := k) I hr
 exact ⟨vs, W', h4, h1, h2, F.retell h4 h1.dom (λ x p' hx => ⟨p', hx, λ v hv => hv.mono h1.G (by rw [h5]; exact λ _ _ z => z)⟩), by rw [h3]; exact h⟩
theorem ED {keep : List Nat} (F : FrameOk c env vs W) (I : Inv c W) (hk : k <= W.ρ.length) (h : (jS c.tb ev k (.gc keep) vs W.H).AllP PP) : GhP c env k W PP := by
 refine oBE h λ q hq h => ?_
 obtain ⟨q1, q2⟩ := q
 have g := IG hq
 have hr := gBE h
 have fr : ∀ {o : Option Nat} {x : Nat} {p' : PV} {ρ' : List (Nat × Nat)}, swP vs k o x p' -> (∀ i, o = some i -> ∀ q, nth W.ρ i = some q -> nth ρ' k = some q) -> ∃ p, look vs x = some p /\ ∀ v, RP c W.G W.ρ p v -> RP c W.G ρ' p' v := λ {o x p' ρ'} ⟨p, hp, z⟩ hn => by
  rcases z with ⟨v, rfl, rfl⟩ | ⟨i, rfl, rfl, z⟩
  ·exact ⟨_, hp, λ u hu => .f hu.fE⟩
  ·exact ⟨_, hp, λ u hu => RP.refE hu λ q e => .ref (hn i z q e)⟩
 cases q2 with
 | none =>
  obtain ⟨I', e'⟩ := MI (X := Own env) I hk hr.1
  exact ⟨q1, { W with ρ := aV k W.ρ, H := aV k W.H }, rfl, e', I', F.retell (W' := { W with ρ := aV k W.ρ, H := aV k W.H }) rfl e'.dom (λ x p' hx => fr (g.1 x p' hx) λ _ z => noS z), hr.2⟩
 | some i =>
   refine oBE hr.2 λ o hys h' => ?_
   obtain ⟨pl, hpl⟩ := gX (l := W.ρ) (i := i) (by rw [I.len]; exact bQ hys)
   obtain ⟨I', e'⟩ := MH (X := Own env) I hk hr.1 (gBE h').1 (g.2 i rfl) hys hpl
   refine ⟨q1, { W with ρ := aV k W.ρ ++ [pl], H := aV k W.H ++ [o] }, rfl, e', I', F.retell (W' := { W with ρ := aV k W.ρ ++ [pl], H := aV k W.H ++ [o] }) rfl e'.dom (λ x p' hx => fr (g.1 x p' hx) λ j z q e => ?_), (gBE h').2⟩
   cases z
   cases hpl.symm.trans e
   have := aZ (l := aV k W.ρ) (x := pl) (r := [])
   rw [fM hk] at this
   exact this
theorem xQ {β : Type} {PP : β -> Prop} {KK : Fl × Vs × Hp -> T β} {s : IStmt} (hg : vB s = true) (F : FrameOk c env vs W) (I : Inv c W) (hk : k <= W.ρ.length)
  (h : ((jS c.tb ev k s vs W.H).bind KK).AllP PP) : GhP c env k W λ a => (KK a).AllP PP := by
 have h := T.AllP_bind h
 cases s with
 | gfrz y => exact oBE h λ p hp h => oBE h λ r hr h => A2 F I hp hr h
 | gfrzA y a => exact oBE h λ p hp h => oBE h λ q hq h => oBE h λ r hr h => xR F I hr h
 | gc keep => exact ED F I hk h
 | _ => exact ff hg
end
end
section
variable {c : Cx} {tc : Tc} {ev : Ev} {n : Nat} {ct : Ctr}
noncomputable def SS (c : Cx) (tc : Tc) (ev : Ev) (n : Nat) (is : IStmt) : Prop := ∀ {A : Around} {env : Env} {vs : Vs} {W : Wd} {x : Sx} {t : Nat} {st : Stmt} {m k : Nat} {Q : Flow -> Shared -> Prop}, AOk (n + 1) A -> LQ tc m (jF tc m) env.kindOf is st = true -> FrameOk c env vs W -> Inv c W -> k <= W.ρ.length ->
 bC c (Own env) k W x (RB c env) Q (jS c.tb ev k is vs W.H) -> WP c A (exec st env) Q (mkS x W.h t)
theorem RB.fin {env : Env} {vs : Vs} {W : Wd} {x : Sx} {k tk : Nat} {Q : Flow -> Shared -> Prop} {f : Fl} {fl : Flow} (h : bC c (Own env) k W x (RB c env) Q (.ret (f, vs, W.H))) (F : FrameOk c env vs W) (I : Inv c W) (r : RFl c W f fl) : Q fl (mkS x W.h tk) := h W fl tk (.refl ..) I ⟨rfl, F, r⟩
theorem eI {e : Expr} {tgt : Option Expr} {l : Nat} {env : Env} (h : dQ e = true) : swapsWith e tgt l env = pure false := by
 unfold dQ at h
 unfold exA at h
 exact aN (P := λ e => swapsWith e tgt l env = pure false) h (λ _ _ _ _ => rfl) (λ _ _ _ _ _ => rfl) (λ _ _ _ _ => rfl) (λ _ _ _ _ _ => rfl) (λ _ _ _ _ => rfl) zf4 (λ _ _ _ _ _ => rfl) (λ _ _ _ _ _ => rfl) (λ _ _ _ _ => rfl) (λ _ _ _ _ => rfl) (λ _ _ _ _ => rfl) (λ _ _ _ => rfl) (λ _ _ _ => rfl) (λ _ _ _ _ => rfl)
theorem BA {v : Expr} {pos : Pos} : dropValue v pos .none = pure .next := by cases v <;> rfl
theorem GP {e : IExpr} (B : TabOk c tc) (S : Sound c tc ev n) : SS c tc ev n (.expr e) := by
 intro A env vs W x t st m k Q hA hc F I hk h
 refine Q5 (P := λ st => WP c A (exec st env) Q (mkS x W.h t)) hc λ v pos hc => ?_
 rw [arm_exec_Expr]
 refine wpAny_bind (wpAny_standAt ?_)
 have hi : interactive env = false := by unfold interactive; rw [F.kind]; rfl
 rw [hi, eI (br hc), if_neg Bool.false_ne_true]
 refine wpAny_bind (wpAny_pure ?_)
 rw [if_neg Bool.false_ne_true]
 refine wpAny_bind (S.useE (hA.le (Nat.le_succ _)) (bl hc) F I hk h λ W₁ p u tk e1 I1 F1 r1 hk1 h1 => ?_)
 have g := gBE h1
 rw [show p = .f .non from jY g.1] at r1
 refine RF.nonE r1.fE ?_
 rw [BA]
 exact wpAny_pure (RB.fin g.2 F1 I1 .next)
theorem MR {e : IExpr} (B : TabOk c tc) (S : Sound c tc ev n) : SS c tc ev n (.ret e) := by
 intro A env vs W x t st m k Q hA hc F I hk h
 refine C4 (P := λ st => WP c A (exec st env) Q (mkS x W.h t)) hc λ o pos hc => wG (P := λ o => WP c A (exec (.Return o pos) env) Q (mkS x W.h t)) hc λ v hc => ?_
 exact wpAny_Return_some (S.useE (hA.le (Nat.le_succ _)) hc F I hk h λ W₁ p u tk e1 I1 F1 r1 hk1 h1 => RB.fin h1 F1 I1 (.ret r1))
theorem GM (B : TabOk c tc) (S : Sound c tc ev n) : SS c tc ev n .retn := by
 intro A env vs W x t st m k Q hA hc F I hk h
 refine C4 (P := λ st => WP c A (exec st env) Q (mkS x W.h t)) hc λ o pos hc => L0 (P := λ o => WP c A (exec (.Return o pos) env) Q (mkS x W.h t)) hc ?_
 rw [arm_exec_Return]
 exact wpAny_bind (wpAny_standAt (wpAny_pure (RB.fin h F I (.ret (.f .non)))))
theorem MT (B : TabOk c tc) (S : Sound c tc ev n) : SS c tc ev n .brk := by
 intro A env vs W x t st m k Q hA hc F I hk h
 exact Q7 (P := λ st => WP c A (exec st env) Q (mkS x W.h t)) hc λ pos => wpAny_Break (RB.fin h F I .brk)
theorem GQ (B : TabOk c tc) (S : Sound c tc ev n) : SS c tc ev n .cont := by
 intro A env vs W x t st m k Q hA hc F I hk h
 exact NQ (P := λ st => WP c A (exec st env) Q (mkS x W.h t)) hc λ pos => wpAny_Continue (RB.fin h F I .cont)
theorem MS {e : IExpr} {a b : List IStmt} (B : TabOk c tc) (S : Sound c tc ev n) : SS c tc ev n (.ite e a b) := by
 intro A env vs W x t st m k Q hA hc F I hk h
 refine NN (P := λ st => WP c A (exec st env) Q (mkS x W.h t)) hc λ e' a' b' pos hc => ?_
 have hn := hA.le (Nat.le_succ n)
 refine wpAny_If (S.useT hn (bl (bl hc)) F I hk h λ W₁ q tk e1 I1 F1 hk1 h1 => ?_)
 cases q with
 | false => exact S.b hn (br hc) F1 I1 hk1 h1
 | true => exact S.b hn (br (bl hc)) F1 I1 hk1 h1
theorem orE {a b : Bool} (h : (a || b) = true) : a = true \/ b = true := Bool.or_eq_true_iff.mp h
theorem DY {env : Env} {n : Str} (h : (env.kindOf n == some NameKind.local || env.kindOf n == some NameKind.cell) = true) : env.kindOf n = some .local \/ env.kindOf n = some .cell := (orE h).imp beq_iff_eq.mp beq_iff_eq.mp
theorem wL {e : Expr} {id : Str} {p : Pos} {l : Nat} {env : Env} (h : env.kindOf id = some .cell) : swapsWith e (some (.Name id p)) l env = pure false := by
 have e' : (some NameKind.cell == some NameKind.local) = false := rfl
 cases e with
 | ListComp _ _ _ _ => unfold swapsWith; simp only [h, e', Bool.and_false, Bool.false_and]
 | SetComp _ _ _ _ => unfold swapsWith; simp only [h, e', Bool.and_false, Bool.false_and]
 | DictComp _ _ _ _ _ => unfold swapsWith; simp only [h, e', Bool.and_false, Bool.false_and]
 | _ => rfl
theorem MU {y : Nat} {e : IExpr} (B : TabOk c tc) (S : Sound c tc ev n) : SS c tc ev n (.asg y e) := by
 intro A env vs W x t st m k Q hA hc F I hk h
 refine jU (P := λ st => WP c A (exec st env) Q (mkS x W.h t)) hc λ tg v pos hc => dW (P := λ tg => WP c A (exec (.Assign [tg] v pos) env) Q (mkS x W.h t)) hc λ id p' hc => ?_
 cases B.id (bl (bl (bl (bl hc))))
 have hsw : swapsWith v (some (.Name (c.nm y) p')) pos.line env = pure false := (orE (br hc)).elim eI λ z => wL (beq_iff_eq.mp z)
 refine wpAny_Assign_Name (S.useE (hA.le (Nat.le_succ _)) (br (bl hc)) F I hk h λ W₁ p u tk e1 I1 F1 r1 hk1 h1 => ?_) hsw
 exact cW B.base F1 I1 (B.lt (br (bl (bl (bl hc))))) (DY (br (bl (bl hc)))) r1 λ h' tk' hs e' I' F' => h1 { W₁ with h := h' } .next tk' (e'.weaken hk1 λ _ z => z) I' ⟨rfl, F', .next⟩
end
section
variable {c : Cx} {tc : Tc} {ev : Ev} {n : Nat} {ct : Ctr}
theorem GW {o : IExpr} {a : Nat} {e : IExpr} (B : TabOk c tc) (S : Sound c tc ev n) : SS c tc ev n (.asgA o a e) := by
 intro A env vs W x t st m k Q hA hc F I hk h
 refine jU (P := λ st => WP c A (exec st env) Q (mkS x W.h t)) hc λ tg v pos hc => uD (P := λ tg => WP c A (exec (.Assign [tg] v pos) env) Q (mkS x W.h t)) hc λ o' b p' hc => ?_
 cases B.id (bl (bl (bl (bl hc))))
 have hn := hA.le (Nat.le_succ n)
 refine plainObj_wpAny_Assign_Attribute (S.useE hn (br (bl (bl hc))) F I hk h λ W₁ p u tk e1 I1 F1 r1 hk1 h1 => ?_) (eI (br hc))
 refine S.useE hn (br (bl hc)) F1 I1 hk1 h1 λ W₂ p2 ov tk2 e2 I2 F2 rc hk2 h2 => oBE h2 λ H' hs h2 => ?_
 exact v6 (X := No) (k₀ := W₂.ρ.length) B I2 rc (e2.rp r1) hs λ W₃ tk3 e3 I3 hH _ _ => h2 W₃ .next tk3 (e3.weaken hk2 λ _ z => z.elim) I3 ⟨hH, F2.keepNo e3, .next⟩
theorem RI.any {G : Gh} {i : Int} {es : List (Int × FV)} {kvs : List (Int × Value)} (r : RI c G es kvs) : (kvs.any λ kv => kv.1 = i) = hasI es i := RI.ind (m := λ es kvs => (kvs.any λ kv => kv.1 = i) = hasI es i) rfl (λ {j x v es kvs} _ _ ih => (List.any_cons).trans (congrArg (decide (j = i) || ·) ih)) r
theorem RI.keys {G : Gh} {es : List (Int × FV)} {kvs : List (Int × Value)} (r : RI c G es kvs) : es.map (·.1) = kvs.map (·.1) := RI.ind (m := λ es kvs => es.map (·.1) = kvs.map (·.1)) rfl (λ _ _ ih => congrArg (_ :: ·) ih) r
theorem RI.len {G : Gh} {es : List (Int × FV)} {kvs : List (Int × Value)} (r : RI c G es kvs) : kvs.length = es.length := by
 have := congrArg List.length r.keys
 rw [List.length_map, List.length_map] at this
 exact this.symm
theorem AQ {i j : Int} {v x : FV} {es : List (Int × FV)} : pO ((j, x) :: es) i v = if j = i then (j, v) :: es else (j, x) :: pO es i v := by
 show Bool.casesOn (motive := λ _ => List (Int × FV)) (decide (j = i)) ((j, x) :: pO es i v) ((j, v) :: es) = _
 by_cases q : j = i
 ·rw [if_pos q, decide_eq_true q]
 ·rw [if_neg q, decide_eq_false q]
theorem RI.set {G : Gh} {i : Int} {v : FV} {u : Value} (hv : RF c G v u) {es : List (Int × FV)} {kvs : List (Int × Value)} (r : RI c G es kvs) (nd : (kvs.map (·.1)).Nodup) : RI c G (pO es i v) (if hasI es i = true then kvs.map λ kv => if kv.1 = i then (kv.1, u) else kv else kvs ++ [(i, u)]) :=
 RI.ind (m := λ es kvs => (kvs.map (·.1)).Nodup -> RI c G (pO es i v) (if hasI es i = true then kvs.map λ kv => if kv.1 = i then (kv.1, u) else kv else kvs ++ [(i, u)])) (λ _ => .cons hv .nil) (λ {j x w es kvs} a r ih nd => by
  rw [List.map_cons] at nd
  obtain ⟨n1, n2⟩ := List.nodup_cons.mp nd
  rw [AQ, List.map_cons, show hasI ((j, x) :: es) i = (decide (j = i) || hasI es i) from rfl]
  by_cases q : j = i
  ·rw [if_pos q, decide_eq_true q, Bool.true_or, if_pos rfl, if_pos (show (j, w).1 = i from q)]
   have : (kvs.map λ kv => if kv.1 = i then (kv.1, u) else kv) = kvs := by
    refine (List.map_congr_left λ kv hkv => ?_).trans (List.map_id _)
    rw [if_neg (λ z => n1 (List.mem_map.mpr ⟨kv, hkv, z.trans q.symm⟩))]
    rfl
   rw [this]
   exact .cons hv r
  ·rw [if_neg q, decide_eq_false q, Bool.false_or, if_neg (show ¬ (j, w).1 = i from q)]
   have z := ih n2
   revert z
   cases hasI es i with
   | true => exact λ z => .cons a z
   | false => exact λ z => .cons a z) r nd
theorem RI.put {G : Gh} {i : Int} {v : FV} {u : Value} (hv : RF c G v u) {es : List (Int × FV)} {kvs : List (Int × Value)} (nd : (kvs.map (·.1)).Nodup) (r : RI c G es kvs) : RI c G (pO es i v) (stored kvs i u) := by
 unfold stored
 rw [r.any]
 exact r.set hv nd
theorem wP {kvs : List (Int × Value)} {i : Int} {u : Value} : (stored kvs i u).length <= kvs.length + 1 := by
 unfold stored
 split
 ·rw [List.length_map]; exact Nat.le_succ _
 ·rw [List.length_append]; exact Nat.le_refl _
theorem D5 {A : Around} {W : Wd} {x : Sx} {t j : Nat} {tk : Tok} {es : List (Int × FV)} {i : Int} {v : FV} {u o : Value} {k : Nat} {Q : Unit -> Shared -> Prop} (I : Inv c W) (ro : RP c W.G W.ρ (.ref j) o) (hes : nth W.H j = some (.idct es)) (rv : RF c W.G v u) (hl : es.length <= 100)
  (q : ∀ W' tk, Ext No W.ρ.length W W' -> Inv c W' -> W'.H = a9 W.H j (.idct (pO es i v)) -> Q () (mkS x W'.h tk)) : WP c A (setItem o (.int i tk) u) Q (mkS x W.h t) := by
 refine RP.refE ro λ pl ee => ?_
 obtain ⟨o, kvs, a1, ⟨es0, ep0, b1, b2, b3, b4, b5⟩, a3, a4, a5⟩ := I.at hes ee
 have l1 := a4.len
 refine wpAny_setItem_pairs (knd := intKind c.prog c.w) (intKind_is ..) ⟨_, es0, ep0, a1, b1, b2, b3, b4, b5⟩ (λ h' hd hs => ?_) (aL (by omega))
 obtain ⟨o', es', ep', k1, k2, k3, k4, k5, k6⟩ := hd
 have kp : ∀ b o, b ∉ fpA (.idct es) pl -> W.h.get? b = some o -> h'.get? b = some o := λ b o hb ho => (hs.2 b (λ z => hb (by rw [z]; exact .head _))).trans ho
 have ok' : OkAO c W.G W.ρ h' (.idct (pO es i v)) pl := .idct k1 ⟨es', ep', k2, k3, k4, k5, k6⟩ (Nat.le_trans wP (by omega)) (a4.put rv b5) a5
 exact q { W with H := a9 W.H j (.idct (pO es i v)), h := h' } _ (Ext.turn hes ee kp (λ _ hb => hb) λ b hb => by rw [List.mem_singleton.mp hb]; exact ⟨_, k1⟩) (Inv.turn I hes ee kp (λ _ hb => hb) (λ _ _ z => nomatch z) ok') rfl
theorem GU {o i e : IExpr} (B : TabOk c tc) (S : Sound c tc ev n) : SS c tc ev n (.asgS o i e) := by
 intro A env vs W x t st m k Q hA hc F I hk h
 refine jU (P := λ st => WP c A (exec st env) Q (mkS x W.h t)) hc λ tg v pos hc => p8 (P := λ tg => WP c A (exec (.Assign [tg] v pos) env) Q (mkS x W.h t)) hc λ o' i' p' hc => ?_
 have hn := hA.le (Nat.le_succ n)
 refine wpAny_Assign_Subscript (S.useE hn (bl (bl (bl (bl hc)))) F I hk h λ W₁ p u tk e1 I1 F1 r1 hk1 h1 => ?_) (eI (br (bl hc)))
 refine S.useE hn (br (bl (bl (bl hc)))) F1 I1 hk1 h1 λ W₂ p2 ov tk2 e2 I2 F2 rc hk2 h2 => ?_
 refine S.useE hn (br (bl (bl hc))) F2 I2 hk2 h2 λ W₃ p3 iv tk3 e3 I3 F3 rd hk3 h3 => ?_
 refine oBE h3 λ vv hv h3 => oBE h3 λ j hj h3 => oBE h3 λ ao hao h3 => oBE h3 λ es hes h3 => oBE (gBE h3).2 λ nn hnn h4 => ?_
 have rv := (e3.rp (e2.rp r1)).nrm I3
 have ro := e3.rp rc
 rw [bO hv] at rv
 rw [show p2 = .ref j from eE hj] at ro
 cases oV hes
 obtain ⟨_, rfl⟩ := tA I3 rd hnn
 exact D5 (k := 0) I3 ro hao rv.fE (aM.mp (gBE h3).1) λ W' tk e I' hH => h4 _ .next _ (e.weaken hk3 λ _ z => z.elim) I' ⟨hH, F3.keepNo e, .next⟩
end
section
variable {c : Cx} {tc : Tc} {ev : Ev} {n : Nat} {ct : Ctr}
theorem v7 {e : Expr} {rest : List Expr} {env : Env} (h : aA e = true) : assignEach (e :: rest) env = (false, assign e env) :: assignEach rest env := by
 unfold aA at h
 unfold exA at h
 refine aN (P := λ e => assignEach (e :: rest) env = (false, assign e env) :: assignEach rest env) h ?_ ?_ ?_ ?_ ?_ ?_ ?_ ?_ ?_ ?_ ?_ ?_ ?_ ?_ <;> intros <;> rfl
theorem oM {env : Env} {l : List Expr} (h : l.all aA = true) : assignEach l env = l.map λ e => (false, assign e env) := by induction l with
 | nil => rfl
 | cons e r ih =>
  rw [List.all_cons] at h
  rw [v7 (bl h), ih (br h)]; rfl
theorem hZ {tgt value : Expr} {pos : Pos} {env : Env} {A : Around} {s : Shared} {Q : Flow -> Shared -> Prop} (ht : aA tgt = true) (hs : swapsWith value (some tgt) pos.line env = pure false)
  (h : WP c A (eval value env) (λ v s1 => WP c A (swappedStores [tgt] value env) (λ sw s2 => WP c A (assignStores env v sw [assign tgt env]) Q s2) s1) s) : WP c A (exec (.Assign [tgt] value pos) env) Q s := by
 rw [arm_exec_Assign]
 refine wpAny_bind (wpAny_standAt (wpAny_bind (wpAny_of_eq hs ?_)))
 rw [if_neg Bool.false_ne_true]
 refine wpAny_bind (wpAny_mono h (λ v s1 h1 => ?_) λ _ _ z => z)
 refine wpAny_bind (wpAny_mono h1 (λ sw s2 h2 => ?_) λ _ _ z => z)
 rw [oM (l := [tgt]) (by rw [List.all_cons, ht]; rfl)]
 exact h2
theorem tF {α β : Type} {f : α -> Option β} {l : List α} (h : ∃ t ∈ l, f t = none) : (l.filterMap f).length < l.length := by induction l with
 | nil => obtain ⟨t, ht, _⟩ := h; exact (List.not_mem_nil ht).elim
 | cons a r ih =>
  have le : (r.filterMap f).length <= r.length := List.length_filterMap_le ..
  rw [List.filterMap_cons]
  cases q : f a with
  | none => exact Nat.lt_succ_of_le le
  | some b =>
   obtain ⟨t, ht, hn⟩ := h
   rcases List.mem_cons.mp ht with e | ht
   ·rw [e, q] at hn; exact noS hn.symm
   ·exact Nat.succ_lt_succ (ih ⟨t, ht, hn⟩)
theorem sO {ts vs : List Expr} {k k' : Nat} {p p' : Pos} {env : Env} (h : (f7 env.kindOf ts || !(ts.length == 2 || ts.length == 3)) = true) : swappedStores [.Tuple ts k p] (.Tuple vs k' p') env = pure none := by
 unfold swappedStores
 dsimp only
 by_cases h1 : (!(ts.length == 2 || ts.length == 3) || vs.length != ts.length || env.blockKind != .function) = true
 ·rw [if_pos h1]
 ·rw [if_neg h1]
  have h2 : f7 env.kindOf ts = true := by
   rcases Bool.or_eq_true_iff.mp h with z | z
   ·exact z
   ·exact absurd (by rw [z]; rfl) h1
  split
  ·rfl
  ·split
   ·rfl
   ·rename_i h4
    exfalso
    apply h4
    rw [Bool.or_eq_true]
    left
    rw [bne_iff_ne]
    refine Nat.ne_of_lt (tF ?_)
    unfold f7 at h2
    obtain ⟨t, ht, hn⟩ := List.any_eq_true.mp h2
    refine ⟨t, ht, ?_⟩
    unfold exA at hn
    exact aN (P := λ t => (match t with | .Name id p => if (env.kindOf id == some .local && p.line == (ts.head?.map (·.pos.line)).getD 0) = true then some id else none | _ => none) = none) hn (λ _ _ _ _ => rfl) (λ _ _ _ _ _ => rfl) (λ _ _ _ _ => rfl) (λ _ _ _ _ _ => rfl) (λ _ _ _ _ => rfl) (λ _ _ _ _ _ => rfl) (λ _ _ _ _ _ => rfl) (λ _ _ _ _ _ => rfl) (λ _ _ _ _ => rfl) (λ _ _ _ _ => rfl) (λ _ _ _ _ => rfl)
     (λ a p h => if_neg λ z => by rw [bne, bl z] at h; exact ff h) (λ _ _ _ => rfl) (λ _ _ _ _ => rfl)
theorem fU {env : Env} {ts : List Expr} {v : Value} {A : Around} {s : Shared} {Q : Unit -> Shared -> Prop} (ht : ts.all aA = true) (h : WP c A (unpackItems v ts.length none) (λ items s1 => WP c A (assignInOrder (ts.map λ e => assign e env) items) Q s1) s) : WP c A (unpack v (assignEach ts env)) Q s := by
 rw [oM ht]
 unfold unpack
 have e1 : ((ts.map λ e => (false, assign e env)).findIdx? (·.1)) = none := by
  rw [List.findIdx?_eq_none_iff]
  intro x hx
  obtain ⟨y, _, rfl⟩ := List.mem_map.mp hx
  rfl
 have e2 : (ts.map λ e => (false, assign e env)).length = ts.length := List.length_map ..
 have e3 : (ts.map λ e => (false, assign e env)).map (·.2) = ts.map λ e => assign e env := by rw [List.map_map]; rfl
 rw [e1, e2, e3]
 exact wpAny_bind (wpAny_holding h)
theorem RV {α β γ : Type} {o : Option α} {k : α -> T β} {K : β -> T γ} {P : γ -> Prop} {G : Prop} (h : ((oB o k).bind K).AllP P) (g : ∀ a, o = some a -> ((k a).bind K).AllP P -> G) : G := by cases o with
 | none => exact h.elim
 | some a => exact g a rfl h
theorem qB (B : TabOk c tc) (S : Sound c tc ev n) {A : Around} {env : Env} {x : Sx} {m k₀ : Nat} {Q₀ : Flow -> Shared -> Prop} {Q : Unit -> Shared -> Prop} (hA : AOk n A) {KK : Vs × Hp -> T (Fl × Vs × Hp)} {tgs : List Tg} : ∀ {ts : List Expr} {ps : List PV} {vals : List Value} {vs : Vs} {W : Wd} {t : Nat}, all2 (n6 tc m env.kindOf) tgs ts = true -> FrameOk c env vs W -> Inv c W -> RPs c W.G W.ρ ps vals -> k₀ <= W.ρ.length ->
  bC c (Own env) k₀ W x (RB c env) Q₀ ((sP c.tb ev vs W.H tgs ps).bind KK) -> (∀ vs' W' tk, FrameOk c env vs' W' -> Inv c W' -> k₀ <= W'.ρ.length -> bC c (Own env) k₀ W' x (RB c env) Q₀ (KK (vs', W'.H)) -> Q () (mkS x W'.h tk)) ->
  WP c A (assignInOrder (ts.map λ e => assign e env) vals) Q (mkS x W.h t) := by
 induction tgs with
 | nil =>
  intro ts ps vals vs W t hc F I r hk h rest
  cases ts with
  | cons _ _ => exact ff hc
  | nil => cases ps with
   | cons _ _ => exact h.elim
   | nil => cases (show vals = [] from r.inv); exact wpAny_assignInOrder_none (rest vs W t F I hk h)
 | cons tg tgs ih =>
  intro ts ps vals vs W t hc F I r hk h rest
  cases ts with
  | nil => exact ff hc
  | cons e ts =>
   have hc2 := br (show (n6 tc m env.kindOf tg e && all2 (n6 tc m env.kindOf) tgs ts) = true from hc)
   have hc1 := bl (show (n6 tc m env.kindOf tg e && all2 (n6 tc m env.kindOf) tgs ts) = true from hc)
   cases ps with
   | nil => exact h.elim
   | cons p ps =>
    obtain ⟨v, vals, rfl, r, rs⟩ := r.inv
    cases tg with
    | v y =>
     refine dW (P := λ e => WP c A (assignInOrder ((e :: ts).map λ e => assign e env) (v :: vals)) Q (mkS x W.h t)) hc1 λ id pos hc => ?_
     cases B.id (bl (bl hc))
     exact wpAny_assignInOrder_more (wpAny_assign_Name (cW B.base F I (B.lt (br (bl hc))) (DY (br hc)) r λ h' tk' hs e' I' F' => ih hc2 F' I' (rs.mono e'.G e'.rho') hk (cY h (e'.weaken hk λ _ z => z) I') rest))
    | a o a =>
     refine uD (P := λ e => WP c A (assignInOrder ((e :: ts).map λ e => assign e env) (v :: vals)) Q (mkS x W.h t)) hc1 λ ve b pos hc => ?_
     cases B.id (bl (bl hc))
     refine wpAny_assignInOrder_more ?_
     show WP c A (assign (.Attribute ve (c.nm a) pos) env v) _ _
     rw [arm_assign_Attribute]
     have h' : bC c (Own env) k₀ W x (RB c env) Q₀ ((ev.e o vs W.H).bind λ q => (oB (G3 c.tb q.2 q.1 a p) λ H' => sP c.tb ev vs H' tgs ps).bind KK) := by
      unfold bC
      rw [← T.bind_assoc]; exact h
     refine wpAny_bind (wpAny_holding (S.useE hA (br hc) F I hk h' λ W₁ p2 ov tk1 e1 I1 F1 r1 hk1 h1 => RV h1 λ H' hs h1 => ?_))
     refine wpAny_bind (wpAny_standAt (wpAny_bind (wpAny_holding ?_)))
     refine v6 (X := No) (k₀ := W₁.ρ.length) B I1 r1 (e1.rp r) hs λ W₂ tk2 e2 I2 hH hG hρ => wpAny_release ?_
     subst hH
     exact ih hc2 (F1.keepNo e2) I2 (e2.rps (e1.rps rs)) (Nat.le_trans hk1 (e2.lenLe (Nat.le_refl _))) (iP h1 e2 I2 hk1) rest
end
section
variable {c : Cx} {tc : Tc} {ev : Ev} {n : Nat} {ct : Ctr}
theorem kD {α β : Type} {f : α -> β -> Bool} {l : List α} : ∀ {r : List β}, all2 f l r = true -> l.length = r.length := by induction l with
 | nil => intro r h; cases r with
  | nil => rfl
  | cons _ _ => exact ff h
 | cons a l ih => intro r h; cases r with
  | nil => exact ff h
  | cons b r => exact congrArg (· + 1) (ih (br h))
theorem rA {W : Wd} {h' : Heap} (I : Inv c W) {env : Env} {vs : Vs} (F : FrameOk c env vs W) (kp : ∀ b o, W.h.get? b = some o -> h'.get? b = some o) {X : Nat -> Prop} {k : Nat} : Ext X k W { W with h := h' } /\ Inv c { W with h := h' } /\ FrameOk c env vs { W with h := h' } :=
 ⟨Ext.heap kp, I.heap kp, F.keepNo (Ext.heap kp)⟩
theorem eU {h h' : Heap} (e : Heap.ExtBut h.objs.size h h') : ∀ b o, h.get? b = some o -> h'.get? b = some o := λ b o ho => e b o (Nat.ne_of_lt (Heap.lt_size ho)) ho
theorem uZ {f : IExpr -> Hp -> T (PV × Hp)} {α : Type} {P : α -> Prop} {is : List IExpr} : ∀ {H : Hp} {k : List PV × Hp -> T α}, ((iR f is H).bind k).AllP P -> ((iR f is H).bind λ z => gB (Nat.beq z.1.length is.length) (k z)).AllP P := by induction is with
 | nil => exact λ h => h
 | cons i is ih =>
  intro H k h
  rw [qN, T.bind_assoc] at h ⊢
  refine T.AllP_of_bind (T.AllP_mono (λ a ha => ?_) (T.AllP_bind h))
  rw [T.bind_assoc] at ha ⊢
  exact ih ha
theorem GT {tgs : List Tg} {es : List IExpr} (B : TabOk c tc) (S : Sound c tc ev n) : SS c tc ev n (.asgT tgs es) := by
 intro A env vs W x t st m k Q hA hc F I hk h
 refine jU (P := λ st => WP c A (exec st env) Q (mkS x W.h t)) hc λ tg v pos hc => jM (P := λ tg => WP c A (exec (.Assign [tg] v pos) env) Q (mkS x W.h t)) hc λ ts k1 p1 hc => jM (P := λ v => WP c A (exec (.Assign [.Tuple ts k1 p1] v pos) env) Q (mkS x W.h t)) hc λ ws k2 p2 hc => ?_
 have hn := hA.le (Nat.le_succ n)
 refine hZ rfl rfl (wpAny_Tuple (S.spl hn (br (bl (bl (bl (bl hc))))) (br (bl (bl (bl hc)))) F I hk (uZ h) λ W₁ ps vals tk e1 I1 F1 r1 hk1 h1 => ?_))
 have hlen : ps.length = es.length := kA.mp (gBE h1).1
 have h2 := gBE (gBE h1).2
 have hl : ps.length <= 100 := aM.mp h2.1
 have hrl := r1.length
 have hsz : ts.length = vals.toArray.size := by
  have e2 := kD (br (bl (bl (bl (bl hc)))))
  have e4 := of_decide_eq_true (br hc)
  rw [List.size_toArray]
  omega
 refine ⟨aL (by omega), wpAny_of_eq (sO (br (bl hc))) (wpAny_bind ?_)⟩
 show WP c A (assign (.Tuple ts k1 p1) env (.ref W₁.h.objs.size)) _ _
 rw [arm_assign_Tuple]
 refine wpAny_bind (wpAny_standAt (fU (br (bl (bl hc))) ?_))
 rw [hsz]
 refine wpAny_unpackItems_tuple hA.1 ⟨_, Heap.get?_push_size _ rfl, rfl, _, rfl⟩ λ h' hx => ?_
 obtain ⟨e2, I2, F2⟩ := rA I1 F1 (λ b o ho => eU hx b o (Heap.get?_push_of_some _ ho)) (X := Own env) (k := k)
 exact qB (W := { W₁ with h := h' }) B S hn (bl (bl (bl (bl (bl hc))))) F2 I2 r1 hk1 (cY h2.2 e2 I2) λ vs' W' tk' F' I' hk' h'' => wpAny_pure (RB.fin h'' F' I' .next)
theorem pG {ts : List Expr} {k : Nat} {p : Pos} {value : Expr} {env : Env} (h : m6 value = true) : swappedStores [.Tuple ts k p] value env = pure none := by
 unfold m6 at h
 unfold exA at h
 exact aN (P := λ value => swappedStores [.Tuple ts k p] value env = pure none) h (λ _ _ _ _ => rfl) (λ _ _ _ _ _ => rfl) (λ _ _ _ _ => rfl) (λ _ _ _ _ _ => rfl) (λ _ _ _ _ => rfl) zf4 (λ _ _ _ _ _ => rfl) (λ _ _ _ _ _ => rfl) (λ _ _ _ _ => rfl) (λ _ _ _ _ => rfl) (λ _ _ _ _ => rfl) (λ _ _ _ => rfl) (λ _ _ _ => rfl) zf3
theorem uU {e : Expr} (h : m6 e = true) : dQ e = true := by
 unfold m6 at h
 unfold exA at h
 exact aN (P := λ e => dQ e = true) h (λ _ _ _ _ => rfl) (λ _ _ _ _ _ => rfl) (λ _ _ _ _ => rfl) (λ _ _ _ _ _ => rfl) (λ _ _ _ _ => rfl) zf4 (λ _ _ _ _ _ => rfl) (λ _ _ _ _ _ => rfl) (λ _ _ _ _ => rfl) (λ _ _ _ _ => rfl) (λ _ _ _ _ => rfl) (λ _ _ _ => rfl) (λ _ _ _ => rfl) (λ _ _ _ _ => rfl)
theorem GS {tgs : List Tg} {e : IExpr} (B : TabOk c tc) (S : Sound c tc ev n) : SS c tc ev n (.asgU tgs e) := by
 intro A env vs W x t st m k Q hA hc F I hk h
 refine jU (P := λ st => WP c A (exec st env) Q (mkS x W.h t)) hc λ tg v pos hc => jM (P := λ tg => WP c A (exec (.Assign [tg] v pos) env) Q (mkS x W.h t)) hc λ ts k1 p1 hc => ?_
 have hn := hA.le (Nat.le_succ n)
 refine hZ rfl (eI (uU (br (bl hc)))) (S.useE hn (br (bl (bl hc))) F I hk h λ W₁ p u tk eb I1 F1 r1 hk1 h1 => oBE h1 λ xs hxs h1 => oOE hxs λ y hy hxs => ?_)
 have rn := r1.nrm I1
 rw [bO hy, rQ hxs] at rn
 refine RF.tupE rn.fE λ ad us mm a e3 _ rl => wpAny_of_eq (pG (br (bl hc))) (wpAny_bind ?_)
 show WP c A (assign (.Tuple ts k1 p1) env (.ref ad)) _ _
 rw [arm_assign_Tuple]
 refine wpAny_bind (wpAny_standAt (fU (br hc) ?_))
 have h2 := gBE h1
 have hsz : ts.length = us.toArray.size := by
  have e1 : xs.length = tgs.length := kA.mp h2.1
  have e2 := kD (bl (bl (bl hc)))
  rw [List.size_toArray]; omega
 rw [hsz]
 refine wpAny_unpackItems_tuple hA.1 ⟨_, I1.sub _ _ a, rfl, mm, rfl⟩ λ h' hx => ?_
 obtain ⟨e2, I2, F2⟩ := rA I1 F1 (eU hx) (X := Own env) (k := k)
 exact qB (W := { W₁ with h := h' }) B S hn (bl (bl (bl hc))) F2 I2 rl.toP hk1 (cY h2.2 e2 I2) λ vs' W' tk' F' I' hk' h'' => wpAny_pure (RB.fin h'' F' I' .next)
theorem FrameOk.congr {env : Env} {vs vs' : Vs} {W : Wd} (F : FrameOk c env vs W) (h : ∀ x, look vs' x = look vs x) : FrameOk c env vs' W := by
 refine ⟨F.kind, F.glob, F.blt, λ x p hx => F.ids x p (by rw [← h]; exact hx), ?_, λ x p hx hk => F.cell x p (by rw [← h]; exact hx) hk, F.cells, F.has, F.inj, F.off, F.own⟩
 obtain ⟨m, hn, hm⟩ := F.ns
 exact ⟨m, hn, λ x p hx hk => hm x p (by rw [← h]; exact hx) hk⟩
noncomputable def FZ (c : Cx) (env : Env) (A : Around) (xs : List Nat) (as : List (Value -> Sem Unit)) : Prop := List.rec (motive := λ _ => List (Value -> Sem Unit) -> Prop) (λ as => as = []) (λ y _ ih as => List.casesOn (motive := λ _ => Prop) as False λ a as => ((y < c.N /\ env.kindOf (c.nm y) = some .local) /\ ∀ v Q s, WP c A (storeName env (c.nm y) v) Q s -> WP c A (a v) Q s) /\ ih as) xs as
theorem yL {A : Around} {env : Env} {xs : List Nat} (h : ∀ y ∈ xs, y < c.N /\ env.kindOf (c.nm y) = some .local) : FZ c env A xs (xs.map λ y => bindName env (c.nm y)) := by induction xs with
 | nil => rfl
 | cons y xs ih => exact ⟨⟨h y (.head _), λ v Q s k => wpAny_bindName k⟩, ih λ z hz => h z (.tail _ hz)⟩
theorem qM (B : TabOk c tc) {A : Around} {env : Env} {x : Sx} {Q : Unit -> Shared -> Prop} {vs' : Vs} {xs : List Nat} : ∀ {as : List (Value -> Sem Unit)} {ps : List PV} {vals : List Value} {vs : Vs} {W : Wd} {t : Nat}, FZ c env A xs as -> FrameOk c env vs W -> Inv c W -> RPs c W.G W.ρ ps vals -> putAll xs ps vs = some vs' ->
  (∀ h' tk, Ext (Own env) W.ρ.length W { W with h := h' } -> Inv c { W with h := h' } -> FrameOk c env vs' { W with h := h' } -> Q () (mkS x h' tk)) -> WP c A (assignInOrder as vals) Q (mkS x W.h t) := by
 induction xs with
 | nil =>
  intro as ps vals vs W t ha F I r hp k
  cases (show as = [] from ha)
  cases ps with
  | cons _ _ => exact noS hp
  | nil => cases (show vals = [] from r.inv); cases hp; exact wpAny_assignInOrder_none (k W.h t (.refl ..) I F)
 | cons y xs ih =>
  intro as ps vals vs W t ha F I r hp k
  cases as with
  | nil => exact ha.elim
  | cons a as => cases ps with
   | nil => exact noS hp
   | cons p ps =>
    obtain ⟨v, vals, rfl, r, rs⟩ := r.inv
    obtain ⟨⟨hy, ha⟩, has⟩ := ha
    exact wpAny_assignInOrder_more (ha _ _ _ (cW B.base F I hy.1 (.inl hy.2) r λ h' tk' hs e' I' F' => ih (W := { W with h := h' }) has F' I' (rs.mono e'.G e'.rho') hp λ h'' tk'' e'' I'' F'' => k h'' tk'' (Ext.trans I' (Nat.le_refl _) e' e'') I'' F''))
theorem lI {xs : List Nat} : ∀ {ps : List PV} {vs vs' : Vs}, putAll xs ps vs = some vs' -> xs.Nodup -> xs.length = ps.length /\ ∀ z, look vs' z = (look (xs.zip ps) z).or (look vs z) := by induction xs with
 | nil => intro ps vs vs' h _; cases ps with
  | nil => cases h; exact ⟨rfl, λ _ => rfl⟩
  | cons _ _ => exact noS h
 | cons y xs ih => intro ps vs vs' h nd; cases ps with
  | nil => exact noS h
  | cons p ps =>
   obtain ⟨n1, n2⟩ := List.nodup_cons.mp nd
   obtain ⟨e, k⟩ := ih h n2
   refine ⟨congrArg (· + 1) e, λ z => ?_⟩
   rw [k z, List.zip_cons_cons, bJ, bR]
   by_cases q : y = z
   ·have : look (xs.zip ps) z = none := by
     cases w : look (xs.zip ps) z with
     | none => rfl
     | some p' => exact absurd (q ▸ (List.of_mem_zip (b7 w)).1) n1
    rw [this, if_pos q, if_pos q]; rfl
   ·rw [if_neg q, if_neg q]
theorem uR {xs : List Nat} : ∀ {ps : List PV} {vs : Vs}, xs.length = ps.length -> ∃ vs', putAll xs ps vs = some vs' := by induction xs with
 | nil => intro ps vs h; cases ps with
  | nil => exact ⟨vs, rfl⟩
  | cons _ _ => exact absurd h.symm (Nat.succ_ne_zero _)
 | cons y xs ih => intro ps vs h; cases ps with
  | nil => exact absurd h (Nat.succ_ne_zero _)
  | cons p ps => exact ih (Nat.succ.inj h)
theorem KM {z : Nat} {p : PV} {l : List Nat} : ∀ {r : List PV}, l.Nodup -> l.length = r.length -> (z, p) ∈ l.zip r -> look (l.zip r) z = some p := by induction l with
 | nil => exact λ _ _ h => (List.not_mem_nil h).elim
 | cons a l ih => intro r nd hl h; cases r with
  | nil => exact (List.not_mem_nil h).elim
  | cons b r =>
   obtain ⟨n1, n2⟩ := List.nodup_cons.mp nd
   rw [List.zip_cons_cons] at h ⊢
   rw [bJ]
   rcases List.mem_cons.mp h with e | h
   ·cases e; rw [if_pos rfl]
   ·rw [if_neg (λ (q : a = z) => n1 (q ▸ (List.of_mem_zip h).1))]
    exact ih n2 (Nat.succ.inj hl) h
theorem rW {α β : Type} {xs : List α} : ∀ {ps : List β}, xs.length = ps.length -> xs.reverse.zip ps.reverse = (xs.zip ps).reverse := by induction xs with
 | nil => exact λ _ => rfl
 | cons x xs ih => intro ps h; cases ps with
  | nil => exact absurd h (Nat.succ_ne_zero _)
  | cons p ps =>
   have h' : xs.length = ps.length := Nat.succ.inj h
   rw [List.reverse_cons, List.reverse_cons, List.zip_append (by rw [List.length_reverse, List.length_reverse]; exact h'), ih h']
   exact (List.reverse_cons (a := (x, p)) (as := xs.zip ps)).symm
theorem sX {xs : List Nat} {ps : List PV} (nd : xs.Nodup) (hl : xs.length = ps.length) (z : Nat) : look (xs.reverse.zip ps.reverse) z = look (xs.zip ps) z := by
 have key : ∀ p, look (xs.reverse.zip ps.reverse) z = some p ↔ look (xs.zip ps) z = some p := λ p => by
  rw [rW hl]
  refine ⟨λ h => KM nd hl (List.mem_reverse.mp (b7 h)), λ h => ?_⟩
  rw [← rW hl]
  exact KM (List.pairwise_reverse.mpr (nd.imp λ h => h.symm)) (by rw [List.length_reverse, List.length_reverse]; exact hl) (by rw [rW hl]; exact List.mem_reverse.mpr (b7 h))
 exact Option.ext key
end
section
variable {c : Cx} {tc : Tc} {ev : Ev} {n : Nat} {ct : Ctr}
theorem gC (B : TabOk c tc) {kd : Kd} {xs : List Nat} : ∀ {ts : List Expr}, c9 tc kd xs ts = true -> xs.length = ts.length /\ ts.all aA = true /\ (∀ y ∈ xs, y < c.N /\ kd (c.nm y) = some .local) /\ ∀ f : Expr -> Option Str, (∀ id p, kd id = some .local -> (∃ t ∈ ts, t = .Name id p) -> f (.Name id p) = some id) -> ts.filterMap f = xs.map c.nm := by
 induction xs with
 | nil => intro ts h; cases ts with
  | nil => exact ⟨rfl, rfl, λ _ h => (List.not_mem_nil h).elim, λ _ _ => rfl⟩
  | cons _ _ => exact ff h
 | cons y xs ih => intro ts h; cases ts with
  | nil => exact ff h
  | cons t ts =>
   obtain ⟨g1, g0, g2, g3⟩ := ih (br (show (vK tc kd y t && c9 tc kd xs ts) = true from h))
   have hq : ∃ p, t = .Name (c.nm y) p /\ y < c.N /\ kd (c.nm y) = some .local := dW (P := λ t => ∃ p, t = .Name (c.nm y) p /\ y < c.N /\ kd (c.nm y) = some .local) (bl (show (vK tc kd y t && c9 tc kd xs ts) = true from h)) λ id p hc => by
    cases B.id (bl (bl hc))
    exact ⟨p, rfl, B.lt (br (bl hc)), beq_iff_eq.mp (br hc)⟩
   obtain ⟨p, rfl, h2⟩ := hq
   refine ⟨congrArg (· + 1) g1, g0, λ z hz => (List.mem_cons.mp hz).elim (λ e => e ▸ h2) (g2 z), λ f hf => ?_⟩
   rw [List.filterMap_cons, hf _ _ h2.2 ⟨_, .head _, rfl⟩, List.map_cons, g3 f λ id p hk ⟨t, ht, e⟩ => hf id p hk ⟨t, .tail _ ht, e⟩]
theorem xD {l : List Str} (h : l.Nodup) : l.eraseDups = l := by induction l with
 | nil => rfl
 | cons a l ih =>
  obtain ⟨h1, h2⟩ := List.nodup_cons.mp h
  rw [List.eraseDups_cons]
  have : (l.filter λ b => !b == a) = l := List.filter_eq_self.mpr λ b hb => by
   cases q : b == a with
   | false => rfl
   | true => exact absurd (by rw [← beq_iff_eq.mp q]; exact hb) h1
  rw [this, ih h2]
theorem CQ {vs : List Expr} (h : vs.all aA = true) : vs.any (λ v => match v with | .Starred .. => true | _ => false) = false := by induction vs with
 | nil => rfl
 | cons v vs ih =>
  rw [List.all_cons] at h
  rw [List.any_cons, ih (br h), Bool.or_false]
  have h := bl h
  unfold aA at h
  unfold exA at h
  refine aN (P := λ v => (match v with | .Starred .. => true | _ => false) = false) h ?_ ?_ ?_ ?_ ?_ ?_ ?_ ?_ ?_ ?_ ?_ ?_ ?_ ?_ <;> intros <;> rfl
theorem sM (B : TabOk c tc) {xs : List Nat} {ts vs : List Expr} {k k' : Nat} {p p' : Pos} {env : Env} (hkind : env.scope.kind = .function) (h1 : c9 tc env.kindOf xs ts = true) (h2 : vs.all aA = true) (h3 : (ts.length == 2 || ts.length == 3) = true) (h4 : ts.length = vs.length)
  (h5 : ts.all (λ t => t.pos.line == (ts.head?.map (·.pos.line)).getD 0) = true) (h6 : xs.Nodup) (h7 : vs.all (foldedForSure 8) = false) (h8 : vs.all (constantsAlone 8) = false) : swappedStores [.Tuple ts k p] (.Tuple vs k' p') env = pure (some (xs.map c.nm)) := by
 obtain ⟨g1, _, g2, g3⟩ := gC B h1
 have hb : env.blockKind = .function := by unfold Env.blockKind; rw [hkind]; rfl
 unfold swappedStores
 dsimp only
 have c1 : (!(ts.length == 2 || ts.length == 3) || vs.length != ts.length || env.blockKind != .function) = false := by
  rw [h3, hb, ← h4]; simp
 rw [c1, if_neg Bool.false_ne_true]
 split
 ·rename_i z
  exfalso
  exact absurd ((CQ h2).symm.trans z) Bool.false_ne_true
 ·have nd : (xs.map c.nm).Nodup := by
   refine List.pairwise_map.mpr (List.Pairwise.imp_of_mem (λ {a b} ha hb hne e => ?_) h6)
   exact hne (B.base.inj a b (g2 a ha).1 (g2 b hb).1 e)
  have hlen : (xs.map c.nm).length = 2 \/ (xs.map c.nm).length = 3 := by
   rw [List.length_map, g1]
   rcases Bool.or_eq_true_iff.mp h3 with z | z
   ·exact .inl (beq_iff_eq.mp z)
   ·exact .inr (beq_iff_eq.mp z)
  have ed := xD nd
  split
  ·rename_i z
   exfalso
   rw [g3, ed, List.length_map, g1] at z
   ·simp at z
   ·intro id p hk ⟨t, ht, et⟩
    have := List.all_eq_true.mp h5 t ht
    subst et
    dsimp only
    rw [if_pos]
    rw [Bool.and_eq_true]
    exact ⟨by rw [hk]; rfl, this⟩
  ·rw [h7, h8, if_neg Bool.false_ne_true, if_neg Bool.false_ne_true, g3]
   intro id p hk ⟨t, ht, et⟩
   have := List.all_eq_true.mp h5 t ht
   subst et
   dsimp only
   rw [if_pos]
   rw [Bool.and_eq_true]
   exact ⟨by rw [hk]; rfl, this⟩
end
section
variable {c : Cx} {tc : Tc} {ev : Ev} {n : Nat} {ct : Ctr}
theorem RPs.rev {G : Gh} {ρ : List (Nat × Nat)} {xs : List PV} {vs : List Value} (h : RPs c G ρ xs vs) : RPs c G ρ xs.reverse vs.reverse := h.rec (motive := λ xs vs _ => RPs c G ρ xs.reverse vs.reverse) .nil (λ a _ r => by
 rw [List.reverse_cons, List.reverse_cons]
 exact RPs.append (.cons a .nil) r)
theorem GR {xs : List Nat} {es : List IExpr} (B : TabOk c tc) (S : Sound c tc ev n) : SS c tc ev n (.asgW xs es) := by
 intro A env vs W x t st m k Q hA hc F I hk h
 refine jU (P := λ st => WP c A (exec st env) Q (mkS x W.h t)) hc λ tg v pos hc => jM (P := λ tg => WP c A (exec (.Assign [tg] v pos) env) Q (mkS x W.h t)) hc λ ts k1 p1 hc => jM (P := λ v => WP c A (exec (.Assign [.Tuple ts k1 p1] v pos) env) Q (mkS x W.h t)) hc λ ws k2 p2 hc => ?_
 have h7 := of_decide_eq_true (br (bl (bl hc)))
 have hn := hA.le (Nat.le_succ n)
 obtain ⟨g1, _, g2, g3⟩ := gC B (bl (bl (bl (bl (bl (bl (bl (bl hc))))))))
 refine hZ rfl rfl (wpAny_Tuple (S.spl hn (br (bl (bl (bl (bl (bl (bl (bl hc)))))))) (br (bl (bl (bl (bl (bl (bl hc))))))) F I hk (uZ h) λ W₁ ps vals tk e1 I1 F1 r1 hk1 h1 => ?_))
 have h2 := gBE (gBE h1).2
 refine oBE h2.2 λ vs' hp h1 => ?_
 have hl : ps.length <= 100 := aM.mp h2.1
 have hrl := r1.length
 refine ⟨aL (by omega), ?_⟩
 refine wpAny_of_eq (sM B F1.kind (bl (bl (bl (bl (bl (bl (bl (bl hc)))))))) (br (bl (bl (bl (bl (bl (bl hc))))))) (br (bl (bl (bl (bl (bl hc)))))) (of_decide_eq_true (br (bl (bl (bl (bl hc)))))) (br (bl (bl (bl hc)))) h7 (not_true (br (bl hc))) (not_true (br hc))) ?_
 obtain ⟨q1, q2⟩ := lI hp h7
 show WP c A (do
  rule "assign.swapped-stores"
  let items ← unpackItems (.ref W₁.h.objs.size) (xs.map c.nm).length none
  assignInOrder ((xs.map c.nm).reverse.map λ n => bindName env n) items.reverse
  pure Flow.next) _ _
 rw [show (xs.map c.nm).length = vals.toArray.size by rw [List.length_map, List.size_toArray]; exact q1.trans hrl.symm]
 refine wpAny_bind (wpAny_rule (wpAny_bind (wpAny_unpackItems_tuple hA.1 ⟨_, Heap.get?_push_size _ rfl, rfl, _, rfl⟩ λ h' hx => wpAny_bind ?_)))
 obtain ⟨e2, I2, F2⟩ := rA I1 F1 (λ b o ho => eU hx b o (Heap.get?_push_of_some _ ho)) (X := Own env) (k := k)
 rw [show ((xs.map c.nm).reverse.map λ n => bindName env n) = xs.reverse.map λ y => bindName env (c.nm y) by rw [← List.map_reverse, List.map_map]; rfl]
 obtain ⟨vs'', hp''⟩ := uR (vs := vs) (show xs.reverse.length = ps.reverse.length by rw [List.length_reverse, List.length_reverse]; exact q1)
 refine qM (W := { W₁ with h := h' }) B (yL λ y hy => g2 y (List.mem_reverse.mp hy)) F2 I2 r1.rev hp'' λ h'' tk'' e3 I3 F3 => wpAny_pure ?_
 have q3 := (lI hp'' (List.pairwise_reverse.mpr (h7.imp λ h => h.symm))).2
 exact h1 { W₁ with h := h'' } .next tk'' (Ext.trans (k := k) I2 hk1 e2 e3) I3 ⟨rfl, F3.congr λ z => by rw [q2 z, q3 z, sX h7 q1], .next⟩
theorem AD {elt it : Expr} {id id2 : Str} {p' px : Pos} {ifs : List Expr} {scope : Scope} {q r : Pos} {env : Env} (hk : env.scope.kind = .function) (h1 : (p'.line == q.line) = true) (h2 : (env.kindOf id == some .local) = true) (h3 : (!(scope.names.any λ (n, k) => n == id && (k == .local || k == .cell))) = true) :
  swapsWith (.ListComp elt [⟨.Name id2 px, it, ifs, 0⟩] scope q) (some (.Name id p')) r.line env = pure true := by
 have hb : env.blockKind = .function := by unfold Env.blockKind; rw [hk]; rfl
 show (pure (env.blockKind == .function && env.kindOf id == some .local && p'.line == q.line && !(scope.names.any λ (n, k) => n == id && (k == .local || k == .cell))) : Sem Bool) = pure true
 rw [hb, h1, h2, h3]
 rfl
theorem GV {y : Nat} {iel : IExpr} {z : Nat} {it : IExpr} {iifs : List IExpr} (B : TabOk c tc) (S : Sound c tc ev n) : SS c tc ev n (.asgC y iel z it iifs) := by
 intro A env vs W x t st m k Q hA hc F I hk h
 refine jU (P := λ st => WP c A (exec st env) Q (mkS x W.h t)) hc λ tg v r hc => ?_
 have hln : (tg.pos.line == v.pos.line) = true := dW (P := λ _ => (tg.pos.line == v.pos.line) = true) hc λ id p hc => bl hc
 refine dW (P := λ tg => (tg.pos.line == v.pos.line) = true -> WP c A (exec (.Assign [tg] v r) env) Q (mkS x W.h t)) hc (λ id p' hc hln => ?_) hln
 refine QE (P := λ v => ((Expr.Name id p').pos.line == v.pos.line) = true -> WP c A (exec (.Assign [.Name id p'] v r) env) Q (mkS x W.h t)) (br hc) (λ elt id2 px it' ifs scope q hc hln => ?_) hln
 cases B.id (bl (bl (bl (bl (bl (bl (bl (bl (bl hc)))))))))
 cases B.id (br (bl (bl (bl (bl (bl hc))))))
 have hn := hA.le (Nat.le_succ n)
 have K := rJ B (br (bl (bl (bl (bl hc)))))
 rw [exec_Assign_Name_used _ _ _ _ (AD F.kind (show (p'.line == q.line) = true from hln) (br (bl (bl (bl (bl (bl (bl (bl hc)))))))) (br (bl (bl (bl (bl (bl (bl hc))))))))]
 refine wpAny_bind (wpAny_standAt (wpAny_bind ?_))
 rw [arm_evalThenUse_ListComp]
 refine wpAny_bind (wpAny_mono (Q := λ _ s' => WP c A (pure Flow.next) Q s') (E := λ _ _ => False) ?_ (λ _ _ g => wpAny_pure g) (λ _ _ g => g))
 refine wpAny_comprehension_free (use := some (assign (.Name (c.nm y) p') env)) rfl (dP (br (bl (bl hc)))) (gA F K).1 K.kind K.locl (S.useE hn (br (bl (bl (bl hc)))) F I hk h λ W₁ pu u tk e1 I1 F1 r1 hk1 h1 => oBE h1 λ xs hxs h1 => ?_)
 obtain ⟨it1, it2⟩ := jD (A := A) (x := x) hA.1 I1 r1.opn hxs
 refine it1 _ _ λ o fp St P w hfp hP fo hlive st => ?_
 refine vH (β := List FV × Hp) (KK := .ret) (RR := λ acc C => compPost (model c.prog c.w) A (λ _ _ => False) (some (assign (.Name (c.nm y) p') env)) (λ _ s' => WP c A (pure Flow.next) Q s') acc C) B S hn K w hfp hP (λ i h st => let ⟨o, ho, _⟩ := hlive i h st; ⟨o, ho⟩) F1 I1 (br (bl hc)) (br hc) it2 rfl fo st (vI h1) ?_
 intro W' C D tk' mm us uvals cc nC nD cD s rl' hus hret
 obtain ⟨v, hv, hret⟩ := hret
 obtain ⟨e3, I3, r3, dC3⟩ := rI s nD cD rl' (Nat.le_trans hus it2) hv
 refine wpAny_assign_Name (cW (W := lE W' D uvals cc) B.base (F1.keepNo e3) I3 (B.lt (br (bl (bl (bl (bl (bl (bl (bl (bl hc)))))))))) (.inl (beq_iff_eq.mp (br (bl (bl (bl (bl (bl (bl (bl hc)))))))))) r3 λ h4' tk4 hs4 e4 I4 F4 => ?_)
 have oC : ∀ b, Own env b -> b ≠ C := λ b hb z => (F1.ownAt hb).elim λ o ho => noS ((z ▸ nC).symm.trans ho)
 refine ⟨mm, jX s.ns λ o ho => e4.keep C o ho (λ w => s.dC (.inl w)) λ w => oC C w rfl, λ h5' hs5 => ?_⟩
 have kp : ∀ b o, b ≠ C -> h4'.get? b = some o -> h5'.get? b = some o := λ b o hb ho => (hs5.2 b hb).trans ho
 have z := eO (W₃ := { lE W' D uvals cc with h := h4' }) (Ext.trans I3 (Nat.le_trans hk1 (e3.lenLe (Nat.le_refl _))) (e3.weaken hk1 λ _ z => z.elim) (e4.weaken (Nat.le_refl _) λ _ z => z)) I4 nC dC3 kp
 exact wpAny_pure (hret _ .next tk4 z.1 z.2 ⟨rfl, F4.stays (W' := { lE W' D uvals cc with h := h5' }) (λ _ _ z => z) (λ _ _ z => z) (λ b hb o ho => kp b o (oC b hb) ho) F4.own, .next⟩)
end
section
variable {c : Cx} {tc : Tc} {ev : Ev} {n : Nat} {ct : Ctr}
theorem Sound.evB (S : Sound c tc ev n) {β : Type} {A : Around} {env : Env} {vs : Vs} {W : Wd} {x : Sx} {t : Nat} {is : List IStmt} {ss : List Stmt} {m k : Nat} {P : β -> Prop} {kk : Fl × Vs × Hp -> T β} {Q : Flow -> Shared -> Prop}
  (hA : AOk n A) (hc : gJ (jF tc m env.kindOf) is ss = true) (F : FrameOk c env vs W) (I : Inv c W) (hk : k <= W.ρ.length) (h : ((ev.b k is vs W.H).bind kk).AllP P)
  (rest : ∀ W₁ vs1 f fl tk, Ext (Own env) k W W₁ -> Inv c W₁ -> FrameOk c env vs1 W₁ -> RFl c W₁ f fl -> (kk (f, vs1, W₁.H)).AllP P -> Q fl (mkS x W₁.h tk)) : WP c A (execs ss env) Q (mkS x W.h t) := by
 refine S.b hA hc F I hk (T.AllP_mono (λ r hr => ?_) (T.AllP_bind h))
 intro W₁ fl tk e1 I1 ⟨hH, F1, rf⟩
 refine rest W₁ r.2.1 r.1 fl tk e1 I1 F1 rf ?_
 have : (r.1, r.2.1, W₁.H) = r := by rw [hH]
 rw [this]
 exact hr
@[elab_as_elim] theorem RFl.lp {W : Wd} {f : Fl} {fl : Flow} {vs : Vs} {H : Hp} {kk : Vs -> Hp -> T (Fl × Vs × Hp)} {PP : Fl × Vs × Hp -> Prop} {G : Flow -> Prop} (rf : RFl c W f fl) (h : (lpT (f, vs, H) kk).AllP PP) (h1 : (kk vs H).AllP PP -> G .next) (h2 : (kk vs H).AllP PP -> G .cont) (h3 : PP (.next, vs, H) -> G .brk) (h4 : ∀ p v, RP c W.G W.ρ p v -> PP (.ret p, vs, H) -> G (.ret v)) : G fl :=
 rf.rec (motive := λ f fl _ => (lpT (f, vs, H) kk).AllP PP -> G fl) h1 h3 h2 (λ r h => h4 _ _ r h) h
theorem gV {k : Nat} {W W' : Wd} {env : Env} (e : Ext (Own env) k W W') {b : Addr} (h : ¬ W.dom b) (ho : ¬ Own env b) {o : Obj} (hb : W.h.get? b = some o) : W'.h.get? b = some o /\ ¬ W'.dom b :=
 ⟨e.keep b o hb (λ z => h (.inl z)) ho, λ z => by
  rcases e.dom b z with q | q
  ·exact h q
  ·rw [hb] at q; cases q⟩
theorem nL {X : Nat -> Prop} {k : Nat} {env : Env} {vs : Vs} {W W₁ : Wd} {h' : Heap} {Z : Addr} (e : Ext X k W W₁) (I : Inv c W₁) (F : FrameOk c env vs W₁) (nZ : W.h.get? Z = none) (dZ : ¬ W₁.dom Z) (oZ : ¬ Own env Z) (kp : ∀ b o, b ≠ Z -> W₁.h.get? b = some o -> h'.get? b = some o) :
  Ext X k W { W₁ with h := h' } /\ Inv c { W₁ with h := h' } /\ FrameOk c env vs { W₁ with h := h' } := ⟨(eO e I nZ dZ kp).1, (eO e I nZ dZ kp).2, F.stays (λ _ _ z => z) (λ _ _ z => z) (λ b hb o ho => kp b o (λ z => oZ (z ▸ hb)) ho) F.own⟩
theorem CR {k : Nat} {X : Nat -> Prop} {k' : Nat} {W W₁ W₂ : Wd} {env : Env} {A : Around} {I : Addr} {fp : List Addr} {St : Nat -> Heap -> Prop} {P : Nat -> Value -> Prop} {N j : Nat} (w : Walks c.prog c.w A I fp [I] N P St) (hfp : ∀ b ∈ fp, b = I \/ (W.G b).isSome = true) (e : Ext X k W W₁) (I1 : Inv c W₁) (e' : Ext (Own env) k' W₁ W₂) (I2 : Inv c W₂) (d : ¬ W₁.dom I) (oI : ¬ Own env I) (st : St j W₁.h) : St j W₂.h :=
 w.frame _ _ _ st λ b hb o ho => by
  rcases hfp b hb with rfl | q
  ·exact (gV e' d oI ho).1
  ·obtain ⟨o', q⟩ := Option.isSome_iff_exists.mp q
   cases ho.symm.trans (I1.sub _ _ (e.G _ _ q))
   exact I2.sub _ _ (e'.G _ _ (e.G _ _ q))
inductive FoI (c : Cx) (env : Env) (k : Nat) (W : Wd) (x : Sx) (St : Nat -> Wd -> Prop) (R : Nat -> Nat -> Vs -> Hp -> Prop) (f : Nat) : Shared -> Prop
 | mk (W₁ : Wd) (vs₁ : Vs) (tk j : Nat) (e : Ext (Own env) k W W₁) (i : Inv c W₁) (F : FrameOk c env vs₁ W₁) (st : St j W₁) (r : R f j vs₁ W₁.H) : FoI c env k W x St R f (mkS x W₁.h tk)
theorem EI (B : TabOk c tc) (S : Sound c tc ev n) {A : Around} {env : Env} {W : Wd} {x : Sx} {I : Addr} {fp : List Addr} {St : Nat -> Heap -> Prop} {P : Nat -> Value -> Prop} {xs : List FV} {m k : Nat} {bd : FV -> Vs -> Hp -> T (Fl × Vs × Hp)} {bnd : FV -> Vs -> Option Vs} {ibody : List IStmt} {body : List Stmt} {tgt : Expr}
  {β : Type} {PP : β -> Prop} {KK : Fl × Vs × Hp -> T β} {RR : Result -> Shared -> Prop} (hA : AOk n A) (w : Walks c.prog c.w A I fp [I] xs.length P St) (hfp : ∀ b ∈ fp, b = I \/ (W.G b).isSome = true) (hP : ∀ i v, i < xs.length -> P i v -> ∃ y, nth xs i = some y /\ RF c W.G y v) (hlive : ∀ i h, St i h -> ∃ o, h.get? I = some o /\ fZ o = true)
  (nI : W.h.get? I = none) (hb : gJ (jF tc m env.kindOf) ibody body = true) (hk : k <= W.ρ.length) (oI : ¬ Own env I)
  (hbd : ∀ v vs H, bd v vs H = oB (bnd v vs) λ vs' => ev.b k ibody vs' H)
  (hT : ∀ {W' : Wd} {vs' vs'' : Vs} {y : FV} {v : Value} {t : Nat} {Q : Unit -> Shared -> Prop}, FrameOk c env vs' W' -> Inv c W' -> RF c W'.G y v -> bnd y vs' = some vs'' -> (∀ W'' tk, Ext (Own env) W'.ρ.length W' W'' -> Inv c W'' -> FrameOk c env vs'' W'' -> W''.H = W'.H -> Q () (mkS x W''.h tk)) -> WP c A (assign tgt env v) Q (mkS x W'.h t))
  (hR : ∀ W' vs' f fl tk, Ext (Own env) k W W' -> Inv c W' -> FrameOk c env vs' W' -> RFl c W' f fl -> (KK (f, vs', W'.H)).AllP PP -> RR (.ok fl) (mkS x W'.h tk))
  {W₀ : Wd} {vs0 : Vs} {tk : Nat} (e0 : Ext (Own env) k W W₀) (I0 : Inv c W₀) (F0 : FrameOk c env vs0 W₀) (dI : ¬ W₀.dom I) (st0 : St 0 W₀.h) (h₀ : ((forT bd xs vs0 W₀.H).bind KK).AllP PP) :
  codeAny (model c.prog c.w) A (.forLoop tgt (.ref I) body [] env) RR (mkS x W₀.h tk) := by
 refine codeAny_forLoop_any (FoI c env k W x (λ j W₁ => ¬ W₁.dom I /\ St j W₁.h) λ kk j vs H => (kk = xs.length + 1 - j /\ j <= xs.length) /\ (forT bd (xs.drop j) vs H).AllP λ a => (KK a).AllP PP) ?_ (xs.length + 1)
  (.mk W₀ vs0 tk 0 e0 I0 F0 ⟨dI, st0⟩ ⟨⟨rfl, Nat.zero_le _⟩, T.AllP_bind h₀⟩)
 intro kk s hs
 cases hs with
 | mk W₁ vs1 tk1 j e1 I1 F1 sd r1 =>
 have d1 := sd.1
 have stb := sd.2
 have hkj := r1.1.1
 have hj := r1.1.2
 have h1 := r1.2
 by_cases hlt : j < xs.length
 ·refine w.item j _ _ _ hlt stb λ v h' tk2 hPv stc kp => ?_
  obtain ⟨e2, I2, F2⟩ := nL e1 I1 F1 nI d1 oI λ b o hb ho => kp b o (λ z => hb (List.mem_singleton.mp z)) ho
  obtain ⟨oq, hoq, hq⟩ := hlive _ _ stc
  refine WP.any (nM hoq hq ?_)
  obtain ⟨yv, hy1, hy2⟩ := hP j v hlt hPv
  rw [vG hy1] at h1
  have h1' : ((bd yv vs1 W₁.H).bind λ z => lpT z (forT bd (xs.drop (j + 1)))).AllP λ a => (KK a).AllP PP := h1
  rw [hbd] at h1'
  refine RV h1' λ vs2 hbn h1' => ?_
  refine WP.any (hT (W' := { W₁ with h := h' }) F2 I2 (hy2.mono e1.G) hbn λ W₃ tk3 e3 I3 F3 hH => ?_)
  have E3 : Ext (Own env) k W W₃ := Ext.trans I2 (e1.lenLe hk) e2 e3
  have z3 := gV e3 (b := I) d1 oI hoq
  have std := CR w hfp e2 I2 e3 I3 d1 oI stc
  rw [show W₁.H = W₃.H from hH.symm] at h1'
  refine WP.any (S.evB hA hb F3 I3 (E3.lenLe hk) h1' λ W4 vs4 f fl tk4 e4 I4 F4 rf h4 => ?_)
  have E4 : Ext (Own env) k W W4 := Ext.trans I3 (Nat.le_refl _) E3 e4
  have ste := CR w hfp E3 I3 e4 I4 z3.2 oI std
  have d4 := (gV e4 z3.2 oI z3.1).2
  exact rf.lp h4 (λ h => ⟨xs.length + 1 - (j + 1), tG hkj hlt, .mk W4 vs4 tk4 (j + 1) E4 I4 F4 ⟨d4, ste⟩ ⟨⟨rfl, hlt⟩, h⟩⟩) (λ h => ⟨xs.length + 1 - (j + 1), tG hkj hlt, .mk W4 vs4 tk4 (j + 1) E4 I4 F4 ⟨d4, ste⟩ ⟨⟨rfl, hlt⟩, h⟩⟩) (λ h => hR W4 vs4 .next .next tk4 E4 I4 F4 .next h) λ p v r h => hR W4 vs4 _ _ tk4 E4 I4 F4 (.ret r) h
 ·have hje : j = xs.length := Nat.le_antisymm hj (Nat.not_lt.mp hlt)
  subst hje
  refine w.done _ _ _ stb λ h' tk2 kp => ?_
  obtain ⟨e2, I2, F2⟩ := nL e1 I1 F1 nI d1 oI λ b o hb ho => kp b o (λ z => hb (List.mem_singleton.mp z)) ho
  rw [List.drop_length] at h1
  exact wpAny_execs_nil (hR { W₁ with h := h' } vs1 .next .next tk2 e2 I2 F2 .next h1)
end
section
variable {c : Cx} {tc : Tc} {ev : Ev} {n : Nat} {ct : Ctr}
theorem T.bind_ret {α : Type} (t : T α) : t.bind .ret = t := by induction t with
 | ret _ => rfl
 | fail => rfl
 | take n k ih => exact congrArg (T.take n) (funext ih)
 | pick p k ih => exact congrArg (T.pick p) (funext ih)
 | need p k ih => exact congrArg (T.need p) ih
theorem MQ {t : IExpr} {b : List IStmt} (B : TabOk c tc) (S : Sound c tc ev n) : SS c tc ev n (.whl t b) := by
 intro A env vs W x tk0 st m k Q hA hc F I hk h
 refine Q1 (P := λ st => WP c A (exec st env) Q (mkS x W.h tk0)) hc λ t' body' pos hc => ?_
 have hn := hA.le (Nat.le_succ n)
 refine wpAny_While (codeAny_whileLoop (FoI c env k W x (λ _ _ => True) λ f _ vs H => (whT (λ vs H => ev.t t vs H) (λ vs H => ev.b k b vs H) f vs H).AllP λ r => Gd c (Own env) k W x (RB c env r) Q) ?_ 40 (.mk W vs tk0 0 (.refl ..) I F trivial h))
 intro f s hs
 cases hs with
 | mk W₁ vs1 tk1 j e1 I1 F1 _ h1 =>
 cases f with
 | zero => exact h1.elim
 | succ f =>
  refine WP.any (S.evT hn (bl hc) F1 I1 (k := λ z => bT z.1 ((ev.b k b vs1 z.2).bind λ y => lpT y (whT (λ vs H => ev.t t vs H) (λ vs H => ev.b k b vs H) f)) (.ret (.next, vs1, z.2))) h1 λ W₂ bb tk2 e2 I2 F2 h2 => ?_)
  have E2 : Ext (Own env) k W W₂ := Ext.trans I1 (e1.lenLe hk) e1 (e2.weaken (Nat.le_refl _) λ _ z => z.elim)
  cases bb with
  | false =>
   rw [if_neg Bool.false_ne_true]
   exact wpAny_execs_nil (h2 W₂ .next tk2 E2 I2 ⟨rfl, F2, .next⟩)
  | true =>
   rw [if_pos rfl]
   refine WP.any (S.evB hn (br hc) F2 I2 (E2.lenLe hk) h2 λ W₃ vs3 fl flw tk3 e3 I3 F3 rf h3 => ?_)
   have E3 : Ext (Own env) k W W₃ := Ext.trans I2 (Nat.le_refl _) E2 e3
   exact rf.lp h3 (λ h => ⟨f, Nat.lt_succ_self f, .mk W₃ vs3 tk3 0 E3 I3 F3 trivial h⟩) (λ h => ⟨f, Nat.lt_succ_self f, .mk W₃ vs3 tk3 0 E3 I3 F3 trivial h⟩) (λ h => h W₃ .next tk3 E3 I3 ⟨rfl, F3, .next⟩) λ p v r h => h W₃ _ tk3 E3 I3 ⟨rfl, F3, .ret r⟩
theorem rB (B : TabOk c tc) (S : Sound c tc ev n) {A : Around} {env : Env} {vs : Vs} {W : Wd} {x : Sx} {t : Nat} {xs : List FV} {m k : Nat} {bd : FV -> Vs -> Hp -> T (Fl × Vs × Hp)} {bnd : FV -> Vs -> Option Vs} {ibody : List IStmt} {body : List Stmt} {tgt : Expr} {u : Value} {p : PV} {Q : Flow -> Shared -> Prop}
  (hA : AOk n A) (F : FrameOk c env vs W) (I : Inv c W) (r : RP c W.G W.ρ p u) (hxs : bY W.H p = some xs) (hb : gJ (jF tc m env.kindOf) ibody body = true) (hk : k <= W.ρ.length)
  (hbd : ∀ v vs H, bd v vs H = oB (bnd v vs) λ vs' => ev.b k ibody vs' H)
  (hT : ∀ {W' : Wd} {vs' vs'' : Vs} {y : FV} {v : Value} {t : Nat} {Q : Unit -> Shared -> Prop}, FrameOk c env vs' W' -> Inv c W' -> RF c W'.G y v -> bnd y vs' = some vs'' -> (∀ W'' tk, Ext (Own env) W'.ρ.length W' W'' -> Inv c W'' -> FrameOk c env vs'' W'' -> W''.H = W'.H -> Q () (mkS x W''.h tk)) -> WP c A (assign tgt env v) Q (mkS x W'.h t))
  (h : bC c (Own env) k W x (RB c env) Q (forT bd xs vs W.H)) :
  WP c A (pyIter u) (λ it s2 => codeAny (model c.prog c.w) A (.forLoop tgt it body [] env) (λ r s' => match r with | .ok f => Q f s' | .error e => cameBackBy (model c.prog c.w) A env (λ _ _ => False) e s') s2) (mkS x W.h t) := by
 obtain ⟨it1, it2⟩ := jD (A := A) (x := x) hA.1 I r hxs
 refine it1 _ _ λ o fp St P w hfp hP fo hlive st => ?_
 have kp : ∀ b o', W.h.get? b = some o' -> (W.h.push o).get? b = some o' := λ b o' ho => Heap.get?_push_of_some _ ho
 obtain ⟨e0, I0, F0⟩ := rA I F kp (X := Own env) (k := k)
 refine EI (W := W) (W₀ := { W with h := W.h.push o }) (KK := T.ret) (PP := λ r => Gd c (Own env) k W x (RB c env r) Q) B S hA w hfp hP hlive (cQ (Nat.le_refl _)) hb hk (λ ho => Nat.lt_irrefl _ (F.ownLt ho)) hbd hT ?_ e0 I0 F0 (λ hd => Nat.lt_irrefl _ (I.domLt hd)) st (by rw [T.bind_ret]; exact h)
 intro W' vs' f fl tk e' I' F' rf hh
 exact hh W' fl tk e' I' ⟨rfl, F', rf⟩
theorem xA {xs : List Nat} : ∀ {ps : List PV} {vs vs' : Vs}, putAll xs ps vs = some vs' -> xs.length = ps.length := by induction xs with
 | nil => intro ps vs vs' h; cases ps with
  | nil => rfl
  | cons _ _ => exact noS h
 | cons y xs ih => intro ps vs vs' h; cases ps with
  | nil => exact noS h
  | cons p ps => exact congrArg (· + 1) (ih h)
theorem BY (B : TabOk c tc) {A : Around} {env : Env} {xs : List Nat} : ∀ {ts : List Expr}, c9 tc env.kindOf xs ts = true -> FZ c env A xs (ts.map λ e => assign e env) := by induction xs with
 | nil => intro ts h; cases ts with
  | nil => rfl
  | cons _ _ => exact ff h
 | cons y xs ih => intro ts h; cases ts with
  | nil => exact ff h
  | cons t ts => exact ⟨dW (P := λ t => (y < c.N /\ env.kindOf (c.nm y) = some .local) /\ ∀ v Q s, WP c A (storeName env (c.nm y) v) Q s -> WP c A (assign t env v) Q s) (bl (show (vK tc env.kindOf y t && c9 tc env.kindOf xs ts) = true from h)) λ id p hc => by
    cases B.id (bl (bl hc))
    exact ⟨⟨B.lt (br (bl hc)), beq_iff_eq.mp (br hc)⟩, λ v Q s k => wpAny_assign_Name k⟩, ih (br (show (vK tc env.kindOf y t && c9 tc env.kindOf xs ts) = true from h))⟩
theorem GN {ys : List Nat} {it : IExpr} {b : List IStmt} (B : TabOk c tc) (S : Sound c tc ev n) : SS c tc ev n (.forT ys it b) := by
 intro A env vs W x t st m k Q hA hc F I hk h
 refine K9 (P := λ st => WP c A (exec st env) Q (mkS x W.h t)) hc λ tg it' body' pos hc => jM (P := λ tg => WP c A (exec (.For tg it' body' [] pos) env) Q (mkS x W.h t)) hc λ ts k1 p1 hc => ?_
 refine wpAny_For (S.useE (hA.le (Nat.le_succ n)) (br (bl (bl hc))) F I hk h λ W₁ p u tk eb I1 F1 r1 hk1 h1 => oBE h1 λ xs hxs h1 => ?_) (dP (br (bl hc)))
 refine rB (bnd := λ v vs => oO (oN v) λ us => putAll ys (us.map .f) vs) B S (hA.le (Nat.le_succ n)) F1 I1 r1 hxs (br hc) hk1 (λ v vs H => by cases oN v <;> rfl) (λ {W' vs' vs'' y v t' Q'} F' I' r' hb hq => oOE hb λ us hu hb => ?_) h1
 rw [rQ hu] at r'
 refine RF.tupE r' λ ad vals mm a e3 _ rl => ?_
 rw [arm_assign_Tuple]
 refine wpAny_bind (wpAny_standAt (fU (br (bl (bl (bl hc)))) ?_))
 have hsz : ts.length = vals.toArray.size := by
  have e1 := xA hb
  rw [List.length_map] at e1
  have g1 := (gC B (bl (bl (bl (bl hc))))).1
  rw [List.size_toArray]; omega
 rw [hsz]
 refine wpAny_unpackItems_tuple hA.1 ⟨_, I'.sub _ _ a, rfl, mm, rfl⟩ λ h' hx => ?_
 obtain ⟨e2, I2, F2⟩ := rA I' F' (eU hx) (X := Own env) (k := W'.ρ.length)
 exact qM (W := { W' with h := h' }) B (BY B (bl (bl (bl (bl hc))))) F2 I2 rl.toP hb λ h'' tk'' e3 I3 F3 => hq { W' with h := h'' } tk'' (Ext.trans I2 (Nat.le_refl _) e2 e3) I3 F3 rfl
end
section
variable {c : Cx} {tc : Tc} {ev : Ev} {n : Nat} {ct : Ctr}
def naP (c : Cx) (G : Gh) (ρ : List (Nat × Nat)) (o : Option Value) (p : Option PV) : Prop := Option.casesOn (motive := λ _ => Prop) p (o = none) λ p => ∃ v, o = some v /\ RP c G ρ p v
theorem RPs.nthAt {G : Gh} {ρ : List (Nat × Nat)} {xs : List PV} {vs : List Value} (r : RPs c G ρ xs vs) : ∀ {i : Nat}, naP c G ρ vs[i]? (Mine.nth xs i) :=
 r.rec (motive := λ xs vs _ => ∀ {i : Nat}, naP c G ρ vs[i]? (Mine.nth xs i)) rfl λ a _ ih i => by cases i with
  | zero => exact ⟨_, rfl, a⟩
  | succ i => exact ih (i := i)
theorem A5 (B : TabOk c tc) (S : Sound c tc ev n) {A : Around} {env : Env} {W : Wd} {x : Sx} {t : Nat} {vs : Vs} {i y m k : Nat} {pl : Nat × Nat} {ibody : List IStmt} {body : List Stmt} {px : Pos} {xs0 : List PV} {Q : Flow -> Shared -> Prop}
  (hA : AOk n A) (F : FrameOk c env vs W) (I : Inv c W) (hi : nth W.ρ i = some pl) (hx0 : nth W.H i = some (.rlist xs0)) (hy : y < c.N) (hky : env.kindOf (c.nm y) = some .local) (hb : gJ (jF tc m env.kindOf) ibody body = true) (hk : k <= W.ρ.length) {N : Nat}
  (h : bC c (Own env) k W x (RB c env) Q (IH (λ p vs H => ev.b H.length ibody (put vs y p) H) i N 0 vs W.H)) :
  WP c A (pyIter (.ref pl.1)) (λ it s2 => codeAny (model c.prog c.w) A (.forLoop (.Name (c.nm y) px) it body [] env) (λ r s' => match r with | .ok f => Q f s' | .error e => cameBackBy (model c.prog c.w) A env (λ _ _ => False) e s') s2) (mkS x W.h t) := by
 obtain ⟨us, mm, hl, l, r⟩ := I.at hx0 hi
 have hl : IsL W.h pl.1 us.toArray mm := hl
 refine wpAny_pyIter_list hl.isList ?_
 have kp : ∀ b o', W.h.get? b = some o' -> (W.h.push { cls := .type "list_iterator", data := .fields #[.ref pl.1, .int 0 0] }).get? b = some o' := λ b o' ho => Heap.get?_push_of_some _ ho
 obtain ⟨e0, I0, F0⟩ := rA I F kp (X := Own env) (k := W.ρ.length)
 have oI : ¬ Own env W.h.objs.size := λ ho => Nat.lt_irrefl _ (F.ownLt ho)
 have nI : W.h.get? W.h.objs.size = none := cQ (Nat.le_refl _)
 refine codeAny_forLoop (FoI c env W.ρ.length W x (λ j W₁ => ¬ W₁.dom W.h.objs.size /\ W₁.h.IsListIter W.h.objs.size pl.1 j) λ f j vs H => (IH (λ p vs H => ev.b H.length ibody (put vs y p) H) i f j vs H).AllP λ r => Gd c (Own env) k W x (RB c env r) Q) ?_ N
  (.mk { W with h := _ } vs t 0 e0 I0 F0 ⟨λ hd => Nat.lt_irrefl _ (I.domLt hd), ⟨_, Heap.get?_push_size _ rfl, rfl, rfl⟩⟩ h)
 intro f s hs
 cases hs with
 | mk W₁ vs1 tk1 j e1 I1 F1 sd h1 =>
 have d1 := sd.1
 have it1 := sd.2
 have hi1 : nth W₁.ρ i = some pl := e1.rho _ _ (bQ hi) hi
 have off := λ {h' : Heap} => nL (h' := h') e1 I1 F1 nI d1 oI
 cases f with
 | zero =>
  refine oBE h1 λ ao hao h2 => oBE h2 λ ys hys h₃ => ?_
  cases oR hys
  obtain ⟨vals, m', hl1, _, rl1⟩ := I1.at hao hi1
  have hn : nth ys j = none := by
   cases q : nth ys j with
   | none => rfl
   | some _ => exact absurd (bQ q) (Nat.not_lt.mpr (aM.mp (gBE h₃).1))
  have z := rl1.nthAt (i := j)
  rw [hn] at z
  refine wpAny_pyNext_list_end hA.1 it1 (IsL.isList hl1) (by simpa using (show vals[j]? = none from z)) λ h' hx => ?_
  obtain ⟨e2, I2, F2⟩ := off hx
  exact wpAny_execs_nil ((gBE h₃).2 { W₁ with h := h' } .next _ (e2.weaken hk λ _ z => z) I2 ⟨rfl, F2, .next⟩)
 | succ f =>
  refine oBE h1 λ ao hao h2 => oBE h2 λ ys hys h₃ => ?_
  cases oR hys
  obtain ⟨vals, m', hl1, _, rl1⟩ := I1.at hao hi1
  have z := rl1.nthAt (i := j)
  cases hn : nth ys j with
  | none =>
   rw [hn] at z h₃
   refine wpAny_pyNext_list_end hA.1 it1 (IsL.isList hl1) (by simpa using (show vals[j]? = none from z)) λ h' hx => ?_
   obtain ⟨e2, I2, F2⟩ := off hx
   exact wpAny_execs_nil (h₃ { W₁ with h := h' } .next _ (e2.weaken hk λ _ z => z) I2 ⟨rfl, F2, .next⟩)
  | some p =>
   rw [hn] at z h₃
   obtain ⟨v, hv1, hv2⟩ := z
   refine wpAny_pyNext_list_item it1 (IsL.isList hl1) (by simpa using hv1) λ h' it2 hs => ?_
   obtain ⟨e2, I2, F2⟩ := off λ b o hb ho => (hs.2 b hb).trans ho
   refine WP.any (wpAny_assign_Name (cW (W := { W₁ with h := h' }) B.base F2 I2 hy (.inl hky) hv2 λ h3 tk3 hs3 e3 I3 F3 => ?_))
   have hk1 := e1.lenLe (Nat.le_refl _)
   obtain ⟨oI2, hoI2, g1, g2⟩ := id it2
   have q1 := gV e3 (b := W.h.objs.size) d1 oI hoI2
   have E3 : Ext (Own env) W.ρ.length W { W₁ with h := h3 } := Ext.trans I2 hk1 e2 e3
   have h5 : ((ev.b W₁.H.length ibody (put vs1 y p) W₁.H).bind λ z => lpT z (IH (λ p vs H => ev.b H.length ibody (put vs y p) H) i f (j + 1))).AllP λ r => Gd c (Own env) k W x (RB c env r) Q := h₃
   rw [← I1.len] at h5
   refine WP.any (S.evB (W := { W₁ with h := h3 }) (k := W₁.ρ.length) hA hb F3 I3 (Nat.le_refl _) h5 λ W4 vs4 fl flw tk4 e4 I4 F4 rf h4 => ?_)
   have E4 : Ext (Own env) W.ρ.length W W4 := Ext.trans I3 hk1 E3 e4
   have q3 := gV e4 (b := W.h.objs.size) q1.2 oI q1.1
   exact rf.lp h4 (λ h => ⟨f, Nat.lt_succ_self f, .mk W4 vs4 tk4 (j + 1) E4 I4 F4 ⟨q3.2, ⟨_, q3.1, g1, g2⟩⟩ h⟩) (λ h => ⟨f, Nat.lt_succ_self f, .mk W4 vs4 tk4 (j + 1) E4 I4 F4 ⟨q3.2, ⟨_, q3.1, g1, g2⟩⟩ h⟩)
    (λ h => h W4 .next tk4 (E4.weaken hk λ _ z => z) I4 ⟨rfl, F4, .next⟩) λ p v r h => h W4 _ tk4 (E4.weaken hk λ _ z => z) I4 ⟨rfl, F4, .ret r⟩
theorem GO {y : Nat} {it : IExpr} {b : List IStmt} (B : TabOk c tc) (S : Sound c tc ev n) : SS c tc ev n (.for1 y it b) := by
 intro A env vs W x t st m k Q hA hc F I hk h
 refine K9 (P := λ st => WP c A (exec st env) Q (mkS x W.h t)) hc λ tg it' body' pos hc => dW (P := λ tg => WP c A (exec (.For tg it' body' [] pos) env) Q (mkS x W.h t)) hc λ id px hc => ?_
 cases B.id (bl (bl (bl (bl (bl hc)))))
 have h2 := B.lt (br (bl (bl (bl (bl hc)))))
 have h3 := beq_iff_eq.mp (br (bl (bl (bl hc))))
 have hn := hA.le (Nat.le_succ n)
 refine wpAny_For (S.useE hn (br (bl (bl hc))) F I hk h λ W₁ p u tk e1 I1 F1 r1 hk1 h1 => oTE h1 (λ xs hxs h1 => ?_) λ h1 => ?_) (dP (br (bl hc)))
 ·exact rB (bnd := λ v vs => some (put vs y (.f v))) B S hn F1 I1 r1 hxs (br hc) hk1 (λ v vs H => rfl) (λ {W' vs' vs'' yv v t' Q'} F' I' r' hb hq => by
   cases hb
   exact wpAny_assign_Name (cW B.base F' I' h2 (.inl h3) (.f r') λ h' tk' hs e' I2 F2 => hq { W' with h := h' } tk' e' I2 F2 rfl)) h1
 ·refine oBE h1 λ i hi h₂ => oBE h₂ λ ao hao hd => oBE hd λ xs hxs h4 => ?_
  cases oR hxs
  rw [show p = .ref i from eE hi] at r1
  exact RP.refE r1 λ pl ee => A5 B S hn F1 I1 ee hao h2 h3 (br hc) hk1 h4
end
section
variable {c : Cx} {tc : Tc} {ev : Ev} {n : Nat} {ct : Ctr}
theorem MV (B : TabOk c tc) (S : Sound c tc ev n) (is : IStmt) (h : vB is = false) : SS c tc ev n is := by cases is with
 | expr _ => exact GP B S
 | ret _ => exact MR B S
 | retn => exact GM B S
 | asg _ _ => exact MU B S
 | asgA _ _ _ => exact GW B S
 | asgS _ _ _ => exact GU B S
 | asgT _ _ => exact GT B S
 | asgW _ _ => exact GR B S
 | asgU _ _ => exact GS B S
 | asgC _ _ _ _ _ => exact GV B S
 | ite _ _ _ => exact MS B S
 | for1 _ _ _ => exact GO B S
 | forT _ _ _ => exact GN B S
 | whl _ _ => exact MQ B S
 | brk => exact MT B S
 | cont => exact GQ B S
 | _ => exact ff h.symm
@[elab_as_elim] theorem RFl.sq {W : Wd} {f : Fl} {fl : Flow} {vs : Vs} {H : Hp} {kk : Vs -> Hp -> T (Fl × Vs × Hp)} {PP : Fl × Vs × Hp -> Prop} {G : Flow -> Prop} (rf : RFl c W f fl) (h : (sqT (f, vs, H) kk).AllP PP) (h1 : (kk vs H).AllP PP -> G .next) (h2 : PP (.brk, vs, H) -> G .brk) (h3 : PP (.cont, vs, H) -> G .cont) (h4 : ∀ p v, RP c W.G W.ρ p v -> PP (.ret p, vs, H) -> G (.ret v)) : G fl :=
 rf.rec (motive := λ f fl _ => (sqT (f, vs, H) kk).AllP PP -> G fl) h1 h2 h3 (λ r h => h4 _ _ r h) h
theorem C6 (B : TabOk c tc) (S : Sound c tc ev n) {A : Around} {env : Env} {x : Sx} {m k : Nat} {Q : Flow -> Shared -> Prop} (hA : AOk (n + 1) A) (is : List IStmt) : ∀ {ss : List Stmt} {vs : Vs} {W : Wd} {t : Nat}, gJ (jF tc m env.kindOf) is ss = true -> FrameOk c env vs W -> Inv c W -> k <= W.ρ.length ->
  bC c (Own env) k W x (RB c env) Q (NR (jS c.tb ev k) is vs W.H) -> WP c A (execs ss env) Q (mkS x W.h t) := by
 induction is with
 | nil =>
  intro ss vs W t hc F I hk h
  cases ss with
  | cons _ _ => cases hc
  | nil => exact wpAny_execs_nil (RB.fin h F I .next)
 | cons s is ih =>
  intro ss vs W t hc F I hk h
  have h' : ((jS c.tb ev k s vs W.H).bind λ z => sqT z (NR (jS c.tb ev k) is)).AllP λ r => Gd c (Own env) k W x (RB c env r) Q := h
  have hc' : Bool.rec (motive := λ _ => Bool) (List.rec (motive := λ _ => Bool) false (λ t ts _ => jF tc m env.kindOf s t && gJ (jF tc m env.kindOf) is ts) ss) (gJ (jF tc m env.kindOf) is ss) (vB s) = true := hc
  cases hg : vB s with
  | true =>
   rw [hg] at hc'
   obtain ⟨vs', W', h1, h2, h3, h4, h5⟩ := xQ hg F I hk h'
   exact h1 ▸ ih (t := t) hc' h4 h3 (h2.lenLe hk) (cY h5 h2 h3)
  | false =>
   rw [hg] at hc'
   cases ss with
   | nil => exact ff hc'
   | cons st ss => cases m with
    | zero => exact ff (bl hc')
    | succ m =>
     refine wpAny_execs_cons (MV B S s hg hA (bl hc') F I hk (T.AllP_mono (λ r hr => ?_) (T.AllP_bind h')))
     intro W' fl tk e' I' ⟨hH, F', rf⟩
     obtain ⟨f, vs', H'⟩ := r
     cases (show W'.H = H' from hH)
     exact rf.sq hr (λ h => ih (br hc') F' I' (e'.lenLe hk) (cY h e' I')) (λ h => h W' .brk tk e' I' ⟨rfl, F', .brk⟩) (λ h => h W' .cont tk e' I' ⟨rfl, F', .cont⟩) λ p v r h => h W' _ tk e' I' ⟨rfl, F', .ret r⟩
theorem x9 {ps : List Nat} {as : List PV} {d : List FV} {vs : Vs} (h : zV ps as d = some vs) : as.length <= ps.length /\ ps.length <= as.length + d.length /\ vs = ps.zip (as ++ (d.drop (as.length + d.length - ps.length)).map .f) :=
 ⟨aM.mp (gOE h).1, aM.mp (gOE (gOE h).2).1, (Option.some.inj (gOE (gOE h).2).2).symm.trans GC⟩
end
section
variable {c : Cx} {tc : Tc} {ev : Ev} {n : Nat} {ct : Ctr}
theorem iX {l : List (Str × Value)} {a : Str} {v : Value} (nd : (l.map (·.1)).Nodup) (h : (a, v) ∈ l) : l.lookup a = some v := by
 induction l with
 | nil => cases h
 | cons p r ih =>
  obtain ⟨x, y⟩ := p
  rw [List.map_cons] at nd
  obtain ⟨n1, n2⟩ := List.nodup_cons.mp nd
  rw [List.lookup_cons]
  rcases List.mem_cons.mp h with e | h
  ·cases e; rw [beq_self_eq_true]
  ·have hne : (a == x) = false := by
    cases q : a == x with
    | false => rfl
    | true => exact absurd (by rw [← beq_iff_eq.mp q]; exact List.mem_map.mpr ⟨_, h, rfl⟩) n1
   rw [hne]
   exact ih n2 h
theorem GB {G : Gh} {ρ : List (Nat × Nat)} {y : Nat} {p : PV} {ps : List Nat} : ∀ {qs : List PV} {us : List Value}, RPs c G ρ qs us -> (y, p) ∈ ps.zip qs -> ∃ v, (c.nm y, v) ∈ (ps.map c.nm).zip us /\ RP c G ρ p v := by induction ps with
 | nil => exact λ _ h => (List.not_mem_nil h).elim
 | cons z ps ih => intro qs us r h; cases qs with
  | nil => exact (List.not_mem_nil h).elim
  | cons q qs =>
   obtain ⟨v, us, rfl, a, r⟩ := r.inv
   rw [List.zip_cons_cons] at h
   rw [List.map_cons, List.zip_cons_cons]
   rcases List.mem_cons.mp h with e | h
   ·cases e; exact ⟨v, .head _, a⟩
   ·exact (ih r h).elim λ u z => ⟨u, .tail _ z.1, z.2⟩
theorem vQ {K : Str -> Option NameKind} {x : Str} {binds : List (Str × Value)} : ∀ {m : Str -> Option Value}, x ∉ binds.map (·.1) -> bindL K binds m x = m x := by induction binds with
 | nil => exact λ _ => rfl
 | cons b r ih =>
  intro m h
  rw [List.map_cons] at h
  refine (ih λ z => h (.tail _ z)).trans ?_
  split
  ·exact if_neg λ (z : x = b.1) => h (z ▸ .head _)
  ·rfl
theorem vR {K : Str -> Option NameKind} {x : Str} {binds : List (Str × Value)} : ∀ {m : Str -> Option Value}, x ∉ binds.map (·.1) -> bindC K binds m x = m x := by induction binds with
 | nil => exact λ _ => rfl
 | cons b r ih =>
  intro m h
  rw [List.map_cons] at h
  refine (ih λ z => h (.tail _ z)).trans ?_
  split
  ·rfl
  ·exact if_neg λ (z : x = b.1) => h (z ▸ .head _)
theorem BQ {K : Str -> Option NameKind} {x : Str} {v : Value} (hk : K x = some .local) {binds : List (Str × Value)} : ∀ {m : Str -> Option Value}, (binds.map (·.1)).Nodup -> (x, v) ∈ binds -> bindL K binds m x = some v := by induction binds with
 | nil => exact λ _ h => (List.not_mem_nil h).elim
 | cons b r ih =>
  intro m nd h
  rw [List.map_cons] at nd
  obtain ⟨n1, n2⟩ := List.nodup_cons.mp nd
  rcases List.mem_cons.mp h with e | h
  ·cases e
   refine (vQ n1).trans ?_
   rw [if_pos hk]
   exact if_pos rfl
  ·exact ih n2 h
theorem BR {K : Str -> Option NameKind} {x : Str} {v : Value} (hk : K x ≠ some .local) {binds : List (Str × Value)} : ∀ {m : Str -> Option Value}, (binds.map (·.1)).Nodup -> (x, v) ∈ binds -> bindC K binds m x = some v := by induction binds with
 | nil => exact λ _ h => (List.not_mem_nil h).elim
 | cons b r ih =>
  intro m nd h
  rw [List.map_cons] at nd
  obtain ⟨n1, n2⟩ := List.nodup_cons.mp nd
  rcases List.mem_cons.mp h with e | h
  ·cases e
   refine (vR n1).trans ?_
   rw [if_neg hk]
   exact if_pos rfl
  ·exact ih n2 h
theorem RL.dropL {G : Gh} {k : Nat} : ∀ {xs : List FV} {vs : List Value}, RL c G xs vs -> RL c G (xs.drop k) (vs.drop k) := by induction k with
 | zero => exact λ r => r
 | succ k ih => intro xs vs r; cases xs with
  | nil => cases (show vs = [] from r.inv); exact .nil
  | cons x xs => obtain ⟨v, us, rfl, _, r⟩ := r.inv; exact ih r
noncomputable def gT : Flow -> Value
 | .ret v => v
 | _ => .none
theorem FE {W W' : Wd} {env : Env} {x : Sx} {fl : Fl} {flw : Flow} {tk : Nat} {R : Result -> Shared -> Prop} (e : Ext (Own env) W.ρ.length W W') (I' : Inv c W') (hO : ∀ b, Own env b -> W.h.get? b = none)
  {vs : Vs} (h : (IM (fl, vs, W'.H)).AllP λ r => Gd c No W.ρ.length W x (RE c r) λ v s' => R (.ok (.ret v)) s') (rf : RFl c W' fl flw) :
  R (.ok (.ret (gT flw))) (mkS x W'.h tk) := by
 have e' : Ext No W.ρ.length W W' := e.unX λ b hb _ => hO b hb
 exact rf.rec (motive := λ fl flw _ => ((IM (fl, vs, W'.H)).AllP λ r => Gd c No W.ρ.length W x (RE c r) λ v s' => R (.ok (.ret v)) s') -> R (.ok (.ret (gT flw))) (mkS x W'.h tk)) (λ h => h W' .none tk e' I' ⟨rfl, .f .non⟩) (λ h => h.elim) (λ h => h.elim) (λ r h => h W' _ tk e' I' ⟨rfl, r⟩) h
end
section
variable {c : Cx} {tc : Tc} {ev : Ev} {n : Nat} {ct : Ctr}
theorem hV (B : BaseOk c) {ps : List Nat} {qs : List PV} {us : List Value} {G : Gh} {ρ : List (Nat × Nat)} (nd : ps.Nodup) (lt : ∀ p ∈ ps, p < c.N) (r : RPs c G ρ qs us) (hl : ps.length = qs.length) :
  (((ps.map c.nm).zip us).map (·.1)).Nodup /\ (∀ x ∈ (ps.map c.nm).zip us, ∃ p ∈ ps, x.1 = c.nm p) /\ ∀ y p, look (ps.zip qs) y = some p -> y ∈ ps /\ ∃ v, (c.nm y, v) ∈ (ps.map c.nm).zip us /\ RP c G ρ p v := by
 have e : ((ps.map c.nm).zip us).map (·.1) = ps.map c.nm := by
  rw [List.map_fst_zip]
  rw [List.length_map, r.length]; omega
 refine ⟨?_, λ x hx => ?_, λ y p hy => ?_⟩
 ·rw [e]
  exact List.pairwise_map.mpr (List.Pairwise.imp_of_mem (λ {a b} ha hb hne e => hne (B.inj a b (lt a ha) (lt b hb) e)) nd)
 ·have : x.1 ∈ ps.map c.nm := by rw [← e]; exact List.mem_map_of_mem hx
  obtain ⟨p, hp, h⟩ := List.mem_map.mp this
  exact ⟨p, hp, h.symm⟩
 ·have hm := b7 hy
  exact ⟨(List.of_mem_zip hm).1, GB r hm⟩
theorem AR {n1 n2 : Str} {a : Addr} {l : List (Str × Addr)} (hp : l.Pairwise (λ x y => x.2 ≠ y.2)) (g1 : (n1, a) ∈ l) (g2 : (n2, a) ∈ l) : n1 = n2 := by induction l with
 | nil => exact (List.not_mem_nil g1).elim
 | cons p r ih =>
  obtain ⟨p1, p2⟩ := List.pairwise_cons.mp hp
  rcases List.mem_cons.mp g1 with w1 | w1 <;> rcases List.mem_cons.mp g2 with w2 | w2
  ·exact (Prod.ext_iff.mp (w1.trans w2.symm)).1
  ·exact absurd (by rw [← w1]) (p1 _ w2)
  ·exact absurd (by rw [← w2]) (p1 _ w1)
  ·exact ih p2 w1 w2
theorem kF {K : Option NameKind} (h : K = some .local) (h' : K = some .cell \/ K = some .free) : False := by
 rw [h] at h'
 rcases h' with z | z <;> cases z
theorem vM (S : Sound c tc ev n) {A : Around} {W : Wd} {x : Sx} {t m : Nat} {R : Result -> Shared -> Prop} {env : Env} {vs : Vs} {h₀ : Heap} {is : List IStmt} {body : List Stmt} (hA : AOk (n + 1) A) (I : Inv c W) (hk : ∀ b o, W.h.get? b = some o -> h₀.get? b = some o) (F0 : FrameOk c env vs { W with h := h₀ }) (fresh : ∀ b, Own env b -> W.h.objs.size <= b)
  (hchk : gJ (jF tc m env.kindOf) is body = true) (h : ((ev.b W.H.length is vs W.H).bind IM).AllP λ r => Gd c No W.ρ.length W x (RE c r) λ v s' => R (.ok (.ret v)) s') : WP c (A.deeper env) (execs body env) (λ f s => R (.ok (.ret (gT f))) s) (mkS x h₀ t) := by
 have e0 : Ext No W.ρ.length W { W with h := h₀ } := Ext.heap hk
 have I0 : Inv c { W with h := h₀ } := I.heap hk
 refine WP.any (S.evB (W := { W with h := h₀ }) (k := W.H.length) hA.deeper hchk F0 I0 (by rw [I.len]; exact Nat.le_refl _) h λ W₁ vs1 fl flw tk e1 I1 F1 rf h1 => ?_)
 rw [← I.len] at e1
 exact FE (W := W) (Ext.trans I0 (Nat.le_refl _) (e0.weaken (Nat.le_refl _) λ _ z => z.elim) e1) I1 (λ b hb => cQ (fresh b hb)) h1 rf
theorem NG {r : Nat} (B : TabOk c tc) (S : Sound c tc ev n) (K : d9 c ct r) (hr : r <= n) {A : Around} {W : Wd} {x : Sx} {t f : Nat} {as : List PV} {vals : List Value} {R : Result -> Shared -> Prop} (hA : AOk (n + 1) A) (ra : RPs c W.G W.ρ as vals) (I : Inv c W)
  (h : bC c No W.ρ.length W x (RE c) (λ v s' => R (.ok (.ret v)) s') (y2 c.tb ct ev f as W.H)) : codeAny (model c.prog c.w) A (.call (.ref f) ⟨vals, []⟩) R (mkS x W.h t) := by
 refine RN h (λ tr htr h => K (hA.le (Nat.le_succ_of_le hr)) ra I htr h) λ h => oBE h λ fi hfi h => oBE h λ vs hvs h => ?_
 have X := B.inK I
 obtain ⟨b1, b2, b3⟩ := x9 hvs
 have hlen := ra.length
 cases B.fns f fi hfi with
 | plain oc od osl name qual params body scope dV kV doc pm an cdv ct' m hlk hcd hco hgen hkind hchk hnd hlt hbind hnc hloc =>
  obtain ⟨dv, rdv, hb⟩ := hbind (mkS x W.h t) vals X (by rw [hlen]; exact b1) (by rw [hlen]; exact b2)
  have ldv := rdv.length
  have rq : RPs c W.G W.ρ (as ++ (fi.dn.drop (as.length + fi.dn.length - fi.ps.length)).map .f) (vals ++ dv.drop (vals.length + dv.length - fi.ps.length)) := by
   rw [hlen, ldv]
   exact RPs.append ((rdv.mono λ a o z => I.base a o z).dropL.toP) ra
  have f3 := hV B.base hnd hlt rq (by rw [List.length_append, List.length_map, List.length_drop]; omega)
  rw [← b3] at f3
  refine codeAny_call_def (hA.depth) (X _ _ hlk) rfl (B.nol I) (codeRec_of X hcd) rfl hb hnc (λ y hy => (f3.2.1 y hy).elim λ p z => by rw [z.2]; exact hloc p z.1) (λ h₀ hns hkeep => WP.any (vM (env := callEnv (fnOf name qual params body scope dV kV doc pm an cdv ct') W.h.objs.size f) S hA I hkeep
   ⟨hkind, rfl, rfl, λ y p hy => hlt y (f3.2.2 y p hy).1, ⟨_, hns, λ y p hy _ => ?_⟩, λ y p hy hk => (kF (hloc y (f3.2.2 y p hy).1) hk).elim, λ nn a z => noS z, λ nn hk => absurd rfl (hnc _ (bX hk)), λ _ _ a z => noS z, λ _ a z => noS z, λ b hb hd => hb.elim (λ (e : b = W.h.objs.size) => Nat.lt_irrefl _ (I.domLt (b := W.h.objs.size) (by rw [← e]; exact hd))) λ ⟨_, z⟩ => noS z⟩
   (λ b hb => hb.elim (λ (e : b = W.h.objs.size) => Nat.le_of_eq e.symm) λ ⟨_, z⟩ => noS z) hchk h)) hco hgen hkind
  exact (f3.2.2 y p hy).2.elim λ v z => ⟨v, iX (by rw [List.map_reverse]; exact List.pairwise_reverse.mpr (f3.1.imp λ h => h.symm)) (List.mem_reverse.mpr z.1), z.2⟩
 | cells oc od osl name qual params body scope dV kV doc pm an cdv ct' m hlk hcd hco hgen hkind hchk hnd hlt hdn hbind hloc =>
  rw [hdn, List.length_nil] at b2
  rw [hdn, List.drop_nil, List.map_nil, List.append_nil] at b3
  have f3 := hV B.base hnd hlt ra (Nat.le_antisymm b2 b1)
  rw [← b3] at f3
  refine codeAny_call_cells (hA.depth) (X _ _ hlk) rfl (B.nol I) (codeRec_of X hcd) rfl (hbind vals (hlen.trans (Nat.le_antisymm b1 b2))) rfl (λ y hy => (f3.2.1 y hy).elim λ p z => by rw [z.2]; exact (hloc p z.1).imp (λ z => z) λ z => ⟨z, cellsFrom_some _ _ _ (.inl z)⟩) (λ s1 hc => ?_) hco hgen hkind
  obtain ⟨⟨⟨h₀, tk0, rfl⟩, hns, hkeep, _⟩, hcell, hapart, habove⟩ := hc
  have up : ∀ nn a, (cellsFrom (W.h.objs.size + 1) scope.names []).lookup nn = some a -> W.h.objs.size < a := λ nn a z => habove nn a (bX z)
  have fresh : ∀ b, Own (callEnvC (fnOf name qual params body scope dV kV doc pm an cdv ct') W.h.objs.size f) b -> W.h.objs.size <= b := λ b hb => hb.elim (λ (e : b = W.h.objs.size) => Nat.le_of_eq e.symm) λ ⟨nn, z⟩ => Nat.le_of_lt (up nn b z)
  refine WP.any (vM S hA I hkeep ⟨hkind, rfl, rfl, λ y p hy => hlt y (f3.2.2 y p hy).1, ⟨_, hns, λ y p hy hk => ?_⟩, λ y p hy hk => ?_, λ nn a z => ⟨_, hcell nn a z⟩, λ nn hk => Option.isSome_iff_exists.mp (cellsFrom_some scope.names (W.h.objs.size + 1) [] (.inl hk)), λ n1 n2 a z1 z2 => AR hapart (bX z1) (bX z2),
    λ nn a z w => Nat.lt_irrefl _ (w ▸ up nn a z), λ b hb hd => absurd (I.domLt (b := b) hd) (Nat.not_lt.mpr (fresh b hb))⟩ fresh hchk h)
  ·exact (f3.2.2 y p hy).2.elim λ v z => ⟨v, BQ hk f3.1 z.1, z.2⟩
  ·obtain ⟨v, hv1, hv2⟩ := (f3.2.2 y p hy).2
   have hc1 : scope.names.lookup (c.nm y) = some .cell := (hloc y (f3.2.2 y p hy).1).elim (λ z => (kF z hk).elim) λ z => z
   obtain ⟨a, ha⟩ := Option.isSome_iff_exists.mp (cellsFrom_some scope.names (W.h.objs.size + 1) [] (.inl hc1))
   refine ⟨a, v, ha, ?_, hv2⟩
   have := hcell _ a ha
   rw [BR (K := (callEnvC (fnOf name qual params body scope dV kV doc pm an cdv ct') W.h.objs.size f).kindOf) (by show scope.names.lookup (c.nm y) ≠ _; rw [hc1]; exact λ z => nomatch z) f3.1 hv1] at this
   exact this
end
section
variable {c : Cx} {tc : Tc} {ev : Ev} {n : Nat} {ct : Ctr}
theorem vW {v : Expr} {name : Str} {env : Env} (h : c8 v = true) : attributeBase v name env (eval v env) = eval v env := by
 unfold c8 at h
 unfold exA at h
 exact aN (P := λ v => attributeBase v name env (eval v env) = eval v env) h (λ _ _ _ _ => rfl) (λ _ _ _ _ _ => rfl) (λ _ _ _ _ => rfl) (λ _ _ _ _ _ => rfl) (λ _ _ _ _ => rfl) (λ _ _ _ _ _ => rfl) (λ _ _ _ _ _ => rfl) zf4 (λ _ _ _ _ => rfl) (λ _ _ _ _ => rfl) (λ _ _ _ _ => rfl) (λ _ _ _ => rfl) (λ _ _ _ => rfl) (λ _ _ _ _ => rfl)
theorem uH (s : Str) : aC s.cps.toList = s := by unfold aC; rw [Array.toArray_toList]
theorem C1 {o e : IExpr} (B : TabOk c tc) (S : Sound c tc ev n) : SE c tc ct ev n (.strip o e) := by
 intro A env vs W x t ex m Q hA hc F I h
 refine mF (P := λ e => WP c A (eval e env) Q (mkS x W.h t)) hc λ v b p es q hl hc => iV (P := λ es => WP c A (eval (.Call (.Attribute v b p) es [] q) env) Q (mkS x W.h t)) hc λ y hc => ?_
 have hn := hA.le (Nat.le_succ n)
 cases (beq_iff_eq.mp (bl (bl (bl (bl hc)))) : b = ("strip" : Str))
 refine Call_method1 (vW (br hc)) (aX (br (bl hc))) (by simpa using hl) (S.useE hn (br (bl (bl (bl hc)))) F I (Nat.le_refl _) h λ W₁ p1 u tk e1 I1 F1 r1 hk1 h1 => oBE h1 λ cs hx h1 => ?_)
 obtain ⟨t1, rfl, ok1⟩ := wO I1 r1 hx
 have hl : cs.length <= 1000 := aM.mp (gBE h1).1
 refine SBL.stripChars (S.useE hn (br (bl (bl hc))) F1 I1 hk1 (gBE h1).2 λ W₂ p2 v2 tk2 e2 I2 F2 rc hk2 h2 => oBE h2 λ ds hy h2 => ?_) (aL (by show cs.toArray.size <= _; rw [List.size_toArray]; omega))
 obtain ⟨t2, rfl, ok2⟩ := wO I2 rc hy
 refine ⟨_, _, rfl, λ t' k _ => ?_⟩
 rw [show Txt.stripChars (aC cs) (aC ds) = aC (wN cs ds) from (uH _).symm]
 exact (gBE h2).2 W₂ _ k (.refl ..) I2 ⟨rfl, .f (.str _ t' (gBE h2).1)⟩
theorem AE {G : Gh} {xs : List FV} {vs : List Value} (r : RL c G xs vs) : ∀ {l : List (List Nat)}, wM xs = some l -> ∃ ps : List (Str × Tok), vs = strValues ps /\ ps.map (·.1) = l.map λ x => (⟨x.toArray⟩ : Str) :=
 RL.ind (m := λ xs vs => ∀ {l : List (List Nat)}, wM xs = some l -> ∃ ps : List (Str × Tok), vs = strValues ps /\ ps.map (·.1) = l.map λ x => (⟨x.toArray⟩ : Str)) (λ h => by cases h; exact ⟨[], rfl, rfl⟩) (λ a b ih l h => oOE h λ cs hcs h => oOE h λ l' hl h => by
  obtain ⟨ps, e1, e2⟩ := ih hl
  rw [fR hcs] at a
  cases h
  exact RF.strE a λ t _ => ⟨(aC cs, t) :: ps, by rw [e1]; rfl, by rw [List.map_cons, e2]; rfl⟩) r
theorem G7 {o e : IExpr} (B : TabOk c tc) (S : Sound c tc ev n) : SE c tc ct ev n (.join o e) := by
 intro A env vs W x t ex m Q hA hc F I h
 refine mF (P := λ e => WP c A (eval e env) Q (mkS x W.h t)) hc λ v b p es q hl hc => iV (P := λ es => WP c A (eval (.Call (.Attribute v b p) es [] q) env) Q (mkS x W.h t)) hc λ y hc => ?_
 have hn := hA.le (Nat.le_succ n)
 cases (beq_iff_eq.mp (bl (bl (bl (bl hc)))) : b = ("join" : Str))
 refine Call_method1 (vW (br hc)) (aX (br (bl hc))) (by simpa using hl) (S.useE hn (br (bl (bl (bl hc)))) F I (Nat.le_refl _) h λ W₁ p1 u tk e1 I1 F1 r1 hk1 h1 => oBE h1 λ cs hx h1 => ?_)
 obtain ⟨t1, rfl, ok1⟩ := wO I1 r1 hx
 have h2 := gBE h1
 cases cs with
 | cons _ _ => exact ff h2.1
 | nil =>
  refine SB.join (S.useE hn (br (bl (bl hc))) F1 I1 hk1 h2.2 λ W₂ p2 v2 tk2 ec I2 F2 rc hk2 h3 => oBE h3 λ xs hxs h3 => oBE h3 λ l hl h3 => ?_)
  obtain ⟨a, vals, mm, rfl, g1, g2⟩ := fC I2 rc hxs
  obtain ⟨ps, rfl, e2⟩ := AE g2 hl
  have h4 := gBE h3
  refine ⟨a, ps, rfl, g1.isList, _, e2, h4.1, λ t' k => ?_⟩
  rw [show Txt.join (aC []) (l.map λ x => (⟨x.toArray⟩ : Str)) = aC (D2 l) from (uH _).symm]
  exact (gBE h4.2).2 W₂ _ k (.refl ..) I2 ⟨rfl, .f (.str _ t' (gBE h4.2).1)⟩
end
section
variable {c : Cx} {tc : Tc} {ev : Ev} {n : Nat} {ct : Ctr}
def rT (c : Cx) (tc : Tc) (ct : Ctr) : Prop := ∀ {ev : Ev} {n : Nat}, Sound c tc ev n -> ∀ e, SE c tc ct ev n (.srt e)
def rU (c : Cx) (tc : Tc) (ct : Ctr) : Prop := ∀ {ev : Ev} {n : Nat}, Sound c tc ev n -> ∀ e, SE c tc ct ev n (.mkset e)
theorem HC {r : Nat} (B : TabOk c tc) (S : Sound c tc ev n) (K : d9 c ct r) (hr : r <= n) (P1 : rT c tc ct) (P2 : rU c tc ct) (ie : IExpr) : SE c tc ct ev n ie := by cases ie with
 | cst _ => exact NB
 | var _ => exact MX B
 | glo _ => exact M9 B
 | attr _ _ => exact HB B S
 | callF _ _ _ => exact C2 B S
 | new _ _ _ => exact M3 B S K hr
 | meth _ _ _ => exact G6 B S
 | append _ _ _ => exact AJ B S
 | pop _ => exact M1 B S
 | len _ => exact M6 B S
 | isi _ _ _ => exact M8 B S
 | isit _ _ => exact G8 B S
 | srt _ => exact P1 S _
 | mkset _ => exact P2 S _
 | all _ => exact NF B S
 | tolist _ => exact AI B S
 | totup _ => exact CZ B S
 | tostr _ => exact C0 B S
 | rng _ => exact M0 B S
 | mx _ _ => exact QZ B S
 | mn _ _ => exact Q0 B S
 | cmp _ _ _ => exact NC B S
 | bop _ _ => exact ND B S
 | not _ => exact M2 B S
 | ite _ _ _ => exact M7 B S
 | bin _ _ _ _ => exact NE B S
 | neg _ => exact M4 B S
 | lst _ => exact M5 B S
 | tup _ => exact MY B S
 | dct0 => exact G9 B S
 | sdct _ => exact G5 B S
 | sub _ _ => exact MZ B S
 | comp _ _ _ _ => exact HA B S
 | frz _ => exact NA B S
 | wall => exact λ _ _ _ _ h => h.elim
 | cmp2 _ _ _ => exact λ _ _ _ _ h => h.elim
 | strip _ _ => exact C1 B S
 | join _ _ => exact G7 B S
theorem wV {r : Nat} (B : TabOk c tc) (S : Sound c tc ev n) (K : d9 c ct r) (hr : r <= n) (P1 : rT c tc ct) (P2 : rU c tc ct) : Sound c tc (step c.tb ct ev) (n + 1) where
 e := λ {A env vs W x t ie e m Q} hA hc F I h => by
  cases m with
  | zero => exact ff hc
  | succ m => exact HC B S K hr P1 P2 ie hA hc F I h
 t := λ {A env vs W x t ie e m Q} hA hc F I h => by
  cases m with
  | zero => exact ff hc
  | succ m => exact MP (ct := ct) B S ie hA hc F I h
 b := λ {A env vs W x t is ss m k Q} hA hc F I hk h => C6 B S hA is hc F I hk h
 c := λ {A W x t f as vals R} hA ra I h => NG B S K hr hA ra I h
theorem wW (n : Nat) : Sound c tc .none n where
 e := λ _ _ _ _ h => h.elim
 t := λ _ _ _ _ h => h.elim
 b := λ _ _ _ _ _ h => h.elim
 c := λ _ _ _ h => h.elim
theorem qC {r : Nat} (B : TabOk c tc) (K : d9 c ct r) (P1 : rT c tc ct) (P2 : rU c tc ct) (n : Nat) : Sound c tc (lvl c.tb ct n) (n + r) := by induction n with
 | zero => exact wW _
 | succ n ih =>
  rw [show n + 1 + r = n + r + 1 by omega]
  exact wV B ih K (Nat.le_add_left r n) P1 P2
end
section
variable {c : Cx} {tc : Tc} {ev : Ev} {n : Nat} {ct : Ctr}
theorem insI_perm (x : Int) : ∀ l : List Int, (insI x l).Perm (x :: l)
 | [] => .refl _
 | y :: r => by
  show (match decide (x <= y) with | true => x :: y :: r | false => y :: insI x r).Perm _
  split
  ·exact .refl _
  ·exact ((insI_perm x r).cons y).trans (.swap ..)
theorem sortI_perm : ∀ l : List Int, (sortI l).Perm l
 | [] => .refl _
 | x :: r => (insI_perm x _).trans ((sortI_perm r).cons x)
theorem lO (x : Int) : ∀ {l : List Int}, l.Pairwise (· <= ·) -> (insI x l).Pairwise (· <= ·)
 | [], _ => .cons (λ _ h => by cases h) .nil
 | y :: r, h => by
  obtain ⟨h1, h2⟩ := List.pairwise_cons.mp h
  show (match decide (x <= y) with | true => x :: y :: r | false => y :: insI x r).Pairwise (· <= ·)
  split
  ·rename_i q
   have q := of_decide_eq_true q
   exact .cons (λ z hz => by
    rcases List.mem_cons.mp hz with e | hz
    ·rw [e]; exact q
    ·exact Int.le_trans q (h1 z hz)) h
  ·rename_i q
   have q := of_decide_eq_false q
   refine .cons (λ z hz => ?_) (lO x h2)
   rcases List.mem_cons.mp ((insI_perm x r).mem_iff.mp hz) with e | hz
   ·rw [e]; omega
   ·exact h1 z hz
theorem fW : ∀ l : List Int, (sortI l).Pairwise (· <= ·)
 | [] => .nil
 | x :: r => lO x (fW r)
theorem qD {ns ns' : List Int} (hp : ns'.Perm ns) (hs : ns'.Pairwise (· <= ·)) : ns' = sortI ns :=
 List.Perm.eq_of_pairwise (λ a b _ _ h1 h2 => Int.le_antisymm h1 h2) hs (fW ns) (hp.trans (sortI_perm ns).symm)
theorem H9 {G : Gh} {vs : List Value} {ns : List Int} (h : IntsAre vs ns) : RL c G (ns.map .int) vs := by
 induction h with
 | nil => exact .nil
 | cons i t _ ih => exact .cons (.int i t) ih
theorem j3 {vs : List Value} {ns : List Int} (h : IntsAre vs ns) : vs.length = ns.length := by
 induction h with
 | nil => rfl
 | cons i t _ ih => exact congrArg (· + 1) ih
theorem s9 : ∀ {vs : List Value} {ns : List Int}, vs.length = ns.length -> (∀ (j : Nat) (v : Value), vs[j]? = some v -> ∃ i t, ns[j]? = some i /\ v = .int i t) -> IntsAre vs ns
 | [], [], _, _ => .nil
 | [], _ :: _, h, _ => by cases h
 | _ :: _, [], h, _ => by cases h
 | v :: vs, i :: ns, h, k => by
  obtain ⟨i', t, h1, h2⟩ := k 0 v rfl
  cases h1
  subst h2
  exact .cons i t (s9 (Nat.succ.inj h) λ j u hu => k (j + 1) u hu)
theorem mN {T : String} {r d : Addr} {N : Nat} {P : Nat -> Value -> Prop} {OK : Heap -> Prop} {A : Around} {W : Wd} {x : Sx} {t : Nat} {res : List Int} {k₀ : Nat} {Q : Value -> Shared -> Prop} (K : KdlSrc c.prog c.w T r d N P OK) (hh : A.handled = none) (I : Inv c W) (hok : OK W.h) (hn : N < 64)
  (hints : ∀ acc : Array Value, ItemsOf P acc N -> ∃ ns', IntsAre acc.toList ns' /\ sortI ns' = res)
  (q : ∀ W' u tk, Ext No k₀ W W' -> Inv c W' -> W'.H = W.H -> RF c W'.G (.lst (res.map .int)) u -> Q u (mkS x W'.h tk)) : WP c A (call (.builtin "sorted") [.ref r]) Q (mkS x W.h t) := by
 refine Calls.call_function_entry kind_sorted plain_sorted entry_sorted (args_sorted1 _) ?_
 unfold Builtin.«sorted»
 refine wpAny_bind (m := checkCount "sorted" 1 1 _) (wpAny_pure ?_)
 refine wpAny_bind (kdu_collect (A := A.in1) K hh hok (aL (by omega)) λ h' tk acc hk hacc => ?_)
 obtain ⟨ns', hI, hs⟩ := hints acc hacc
 have hlen : acc.toList.length = N := by rw [Array.length_toList]; exact hacc.1
 refine wpAny_bind (wpAny_newList (items := acc.toList) ?_ (aL (by omega)))
 have ho : (h'.push { cls := .type "list", data := .seq acc.toList.toArray }).get? h'.objs.size = some (({ cls := .type "list", data := .seq acc.toList.toArray 0 } : Obj)) := Heap.get?_push_size _ rfl
 refine wpAny_bind (wpAny_holding (wpAny_call_entry slot_list_sort ⟨_, ho, rfl⟩ entry_list_sort (list_sort_tree (vs := acc.toList) (s := mkS x (h'.push { cls := .type "list", data := .seq acc.toList.toArray }) tk) ho hI (by omega) λ out ns'' a1 a2 a3 => ⟨_, rfl, ?_⟩) (args_list_sort _)))
 refine wpAny_pure ⟨_, rfl, ?_⟩
 have he := qD a2 a3
 rw [hs] at he
 subst he
 obtain ⟨e, hat⟩ := sortedHeap_at (out := out) ho
 have kp : ∀ b o, W.h.get? b = some o -> (sortedHeap (h'.push { cls := .type "list", data := .seq acc.toList.toArray }) h'.objs.size acc.toList out).get? b = some o := λ b o hb => by
  have h1 := hk b o hb
  have h2 := Heap.lt_size h1
  rw [sortedHeap_old (Nat.ne_of_lt h2) (by rw [Heap.size_push]; exact Nat.lt_succ_of_lt h2)]
  exact Heap.get?_push_of_some _ h1
 have hnone : W.h.get? h'.objs.size = none := by
  cases z : W.h.get? h'.objs.size with
  | none => rfl
  | some o => exact absurd (Heap.lt_size (hk _ _ z)) (Nat.lt_irrefl _)
 have hd : ¬ W.dom h'.objs.size := λ hd => by
  rcases hd with hd | hd
  ·obtain ⟨o, ho⟩ := I.fpLt hd; rw [hnone] at ho; cases ho
  ·obtain ⟨o, ho⟩ := Option.isSome_iff_exists.mp hd
   have := I.sub _ _ ho; rw [hnone] at this; cases this
 have e1 : Ext No k₀ W { W with h := sortedHeap (h'.push { cls := .type "list", data := .seq acc.toList.toArray }) h'.objs.size acc.toList out } := Ext.heap kp
 have I1 : Inv c { W with h := sortedHeap (h'.push { cls := .type "list", data := .seq acc.toList.toArray }) h'.objs.size acc.toList out } := I.heap kp
 have e2 := Ext.tellG (o := ({ cls := .type "list", data := .seq out e } : Obj)) (a := h'.objs.size) e1 hd hnone
 have I2 := Inv.tellG (o := ({ cls := .type "list", data := .seq out e } : Obj)) (a := h'.objs.size) I1 hat hd
 have l1 := j3 a1
 have l2 := a2.length_eq
 have l3 := j3 hI
 refine q _ _ _ e2 I2 rfl (.lst (cL ..) ⟨e, by rw [Array.toArray_toList]⟩ (by rw [List.length_map]; omega) (H9 a1))
theorem BC {kvs : List (Int × Value)} {acc : Array Value} (h : ItemsOf (λ i v => ∃ k x, kvs[i]? = some (k, x) /\ (intKind c.prog c.w).is k v = true) acc kvs.length) : IntsAre acc.toList (kvs.map (·.1)) := by
 refine s9 (by rw [Array.length_toList, List.length_map]; exact h.1) λ j v hj => ?_
 obtain ⟨k, x, h1, h2⟩ := h.2 j v (by rw [← Array.getElem?_toList]; exact hj)
 obtain ⟨t, rfl⟩ := Value.isInt_shape h2
 exact ⟨k, t, by rw [List.getElem?_map, h1]; rfl, rfl⟩
theorem qR : ∀ es : List (Int × FV), u9 es = es.map (·.1)
 | [] => rfl
 | p :: r => congrArg (p.1 :: ·) (qR r)
theorem lF {A : Around} {W : Wd} {x : Sx} {t : Nat} {k₀ : Nat} {a : Addr} {o : Obj} {es : List (Int × FV)} {kvs : List (Int × Value)} {Q : Value -> Shared -> Prop} (hh : A.handled = none) (I : Inv c W) (ho : W.h.get? a = some o) (hd : fS (intKind c.prog c.w) o kvs) (hr : RI c W.G es kvs) (hs : a ≠ sysModules) (hl : es.length <= 60)
  (q : ∀ W' u tk, Ext No k₀ W W' -> Inv c W' -> W'.H = W.H -> RF c W'.G (.lst ((sortI (u9 es)).map .int)) u -> Q u (mkS x W'.h tk)) : WP c A (call (.builtin "sorted") [.ref a]) Q (mkS x W.h t) := by
 obtain ⟨es', ep, k1, k2, k3, k4, k5⟩ := hd
 have hlen := hr.len
 refine mN (kdl_dict (knd := intKind c.prog c.w) (kvs := kvs) (ep := ep) (d := a) (by simpa using hs)) hh I ⟨o, es', ho, k1, k2, k3, k4, k5⟩ (by omega) (λ acc hacc => ⟨_, BC hacc, by rw [qR, hr.keys]⟩) q
end
theorem iB : Slot "set_iterator" "__next__" "set_iterator.__next__" :=
 .of (owner := "set_iterator") (n := "__next__") (by rw [typeLookup_type, builtinLookup_eq_fast]; kernel_rfl) (by decide +kernel) (by decide +kernel) (by decide +kernel)
  (by first | exact .inl (by decide +kernel) | exact .inr (by decide +kernel)) (by rw [isSubtype_type]; kernel_rfl)
theorem uL : entryFor table "set_iterator.__next__" = some Builtin.«set_iterator.__next__» := entryFor_of_tree (by kernel_rfl)
theorem uK : Manifest.owners.lookup (String.ofList ['r', 'o', 't', 'a', 'r', 'e', 't', 'i', '_', 't', 'e', 's'].reverse) = some Manifest.sig_set_iterator := by kernel_rfl
theorem y3 (a : Value) : argsOk "set_iterator.__next__" ⟨[a], []⟩ := by
 unfold argsOk; rw [signature?_of (id := "set_iterator.__next__") (n := ['_', '_', 't', 'x', 'e', 'n', '_', '_']) (o := ['r', 'o', 't', 'a', 'r', 'e', 't', 'i', '_', 't', 'e', 's']) (by kernel_rfl) uK]; kernel_rfl
theorem qE : Slot "set_iterator" "__iter__" "set_iterator.__iter__" :=
 .of (owner := "set_iterator") (n := "__iter__") (by rw [typeLookup_type, builtinLookup_eq_fast]; kernel_rfl) (by decide +kernel) (by decide +kernel) (by decide +kernel)
  (by first | exact .inl (by decide +kernel) | exact .inr (by decide +kernel)) (by rw [isSubtype_type]; kernel_rfl)
theorem wY : entryFor table "set_iterator.__iter__" = some Builtin.«dict_keyiterator.__iter__» :=
 PySem.entryFor_alias (id' := "dict_keyiterator.__iter__") (by kernel_rfl) rfl (by decide +kernel) (by kernel_rfl)
theorem AH (a : Value) : argsOk "set_iterator.__iter__" ⟨[a], []⟩ := by
 unfold argsOk; rw [signature?_of (id := "set_iterator.__iter__") (n := ['_', '_', 'r', 'e', 't', 'i', '_', '_']) (o := ['r', 'o', 't', 'a', 'r', 'e', 't', 'i', '_', 't', 'e', 's']) (by kernel_rfl) uK]; kernel_rfl
theorem wR : entryFor table "set.__iter__" = some Builtin.«frozenset.__iter__» :=
 PySem.entryFor_alias (id' := "frozenset.__iter__") (by kernel_rfl) rfl (by decide +kernel) (by kernel_rfl)
section
variable {prog : Program} {w : World} {A : Around} {E : Value -> Shared -> Prop} {s : Shared}
theorem G2 {r : Addr} {Q : Bool -> Shared -> Prop} (hT : s.TypeIs (.ref r) "set") (h : Q false s) : wpAny (model prog w) A (Builtin.List.listLengthHint (.ref r)) Q E s := by
 unfold Builtin.List.listLengthHint
 refine wpAny_bind (wpAny_specialOf hT PySem.F.slot_set_len.lookup ?_)
 generalize hid : ("set.__len__" : String) = id0
 wp_delta
 rw [show splitId id0 = some ("set", "__len__") from by subst hid; decide +kernel]
 subst hid
 refine wpAny_bind (wpAny_isInstance (T := "set") (b := true) hT (by rw [isSubtype_type]; kernel_rfl) ?_)
 refine wpAny_ite_split (λ hab => absurd hab (by decide)) (λ _ => ?_)
 refine wpAny_ite_split (λ _ => ?_) (λ hab => absurd (by decide +kernel) hab)
 refine wpAny_bind (wpAny_typeOf hT ?_)
 exact wpAny_pure h
def tbl (b : Bool) (xs : List Int) : SetTable := ⟨7, (xs.map Int.toNat).toArray, #[], 0, !b, 0, true⟩
theorem SetEs.len {es : List (Int × Value)} {xs : List Int} (h : SetEs es xs) : es.length = xs.length := by
 induction h with
 | nil => rfl
 | cons _ ih => exact congrArg (· + 1) ih
def Few (xs : List Int) : Prop := xs = [0] \/ xs = [1] \/ xs = [0, 1]
theorem j7 {b : Bool} {es : List (Int × Value)} {xs : List Int} (h : SetEs es xs) (f : Few xs) : (tbl b xs).fits es.toArray.size = true := by
 rw [List.size_toArray, h.len]
 rcases f with rfl | rfl | rfl <;> rfl
def sIt (slot i : Nat) (a n ep : Nat) : Obj := { cls := .type "set_iterator", data := .fields #[.int slot 0, .int i 0, .ref a, .int n 0, .int ep 0] }
theorem CU {a : Addr} {o : Obj} {es : List (Int × Value)} {xs : List Int} {ep : Nat} {Q : Value -> Shared -> Prop} (ho : s.heap.get? a = some o) (hx : o.ExactSet) (hd : o.data = .set es.toArray ep (tbl (aJ w) xs)) (he : SetEs es xs) (f : Few xs)
  (h : Q (.ref s.heap.objs.size) { s with heap := s.heap.push (sIt 0 0 a es.length ep) }) : wpAny (model prog w) A (pyIter (.ref a)) Q E s := by
 have hT : s.TypeIs (.ref a) "set" := ⟨_, ho, hx.1⟩
 have hf := j7 (b := aJ w) he f
 refine wpAny_pyIter_slot hT PySem.F.slot_set_iter (wpAny_call_entry PySem.F.slot_set_iter hT wR ?_ (PySem.F.args_set_iter_1 _))
 unfold Builtin.«frozenset.__iter__»
 refine wpAny_bind (wpAny_pure ?_)
 unfold Builtin.Frozenset.sizeOf
 refine wpAny_bind (wpAny_bind (wpAny_setEntries_of ho hd hf (wpAny_pure ?_)))
 unfold setDrawn setsByText
 refine wpAny_bind (wpAny_bind (wpAny_setState_of ho hd hf (wpAny_bind (wpAny_bind (wpAny_askSetting (wpAny_pure ?_))))))
 refine wpAny_pure ?_
 refine wpAny_ite_split (λ hab => absurd hab ?_) (λ _ => ?_)
 ·intro h
  exact Bool.false_ne_true (Bool.and_eq_true_iff.mp h).2
 refine wpAny_bind (wpAny_pure ?_)
 refine wpAny_bind (wpAny_setEpoch_of ho hd hf ?_)
 refine wpAny_bind (wpAny_newObj_type (wpAny_pure ⟨_, rfl, "set_iterator", _, ⟨_, Heap.get?_push_size _ rfl, rfl⟩, iB.lookup, ?_⟩))
 simpa [rawInt, sIt] using h
noncomputable def slotAt (b : Bool) (xs : List Int) (i : Nat) : Nat := match b with
 | true => 0
 | false => match i with
  | 0 => 0
  | i + 1 => match xs[i]? with
   | some j => j.toNat + 1
   | none => 0
def mY (b : Bool) (nx : Nat -> Nat) (es : List (Int × Value)) : List (Int × Value) := match b with
 | true => (pickOrder nx es.toArray).toList
 | false => es
theorem jT {a : Addr} {o : Obj} {es : List (Int × Value)} {xs : List Int} {ep i : Nat} {Q : Option (Value × Nat) -> Shared -> Prop} (ho : s.heap.get? a = some o) (hd : o.data = .set es.toArray ep (tbl (aJ w) xs)) (he : SetEs es xs) (f : Few xs) (hi : i <= es.length)
  (h : Q ((mY (aJ w) (w.params.setOrder a ep) es)[i]?.map λ e => (e.2, slotAt (aJ w) xs (i + 1))) s) : wpAny (model prog w) A (setNext a (slotAt (aJ w) xs i) i ep) Q E s := by
 have hf := j7 (b := aJ w) he f
 unfold setNext setsByText
 refine wpAny_bind (wpAny_setState_of ho hd hf (wpAny_bind (wpAny_bind (wpAny_askSetting (wpAny_pure ?_)))))
 refine wpAny_ite_split (λ hb => ?_) (λ hb => ?_)
 ·have hb : aJ w = true := hb
  refine wpAny_ite_split (λ hab => absurd hab (by simp)) (λ _ => ?_)
  unfold setWalk setsByText
  refine wpAny_bind (wpAny_bind (wpAny_setState_of ho hd hf (wpAny_bind (wpAny_bind (wpAny_askSetting (wpAny_pure ?_))))))
  refine wpAny_ite_split (λ _ => ?_) (λ hab => absurd hb hab)
  refine wpAny_bind (wpAny_askSetting (wpAny_pure ?_))
  rw [hb] at h ⊢
  refine wpAny_pure ?_
  have e : (mY true (w.params.setOrder a ep) es)[i]? = (pickOrder (w.params.setOrder a ep) es.toArray)[i]? := by rw [mY, Array.getElem?_toList]
  rw [e] at h
  exact h
 ·have hb : aJ w = false := Bool.eq_false_iff.mpr hb
  rw [hb] at h ⊢
  refine wpAny_ite_split (λ hab => absurd hab (λ h => by cases h)) (λ _ => ?_)
  refine wpAny_bind (m := ite _ _ _) (wpAny_ite_split (λ hab => absurd hab (λ h => by cases h)) (λ _ => wpAny_pure ?_))
  refine wpAny_pure ?_
  have hl := he.len
  rcases f with rfl | rfl | rfl
  all_goals rcases he with _ | ⟨_ | ⟨_ | _⟩⟩
  all_goals simp only [List.length_cons, List.length_nil] at hi
  all_goals (rcases i with _ | _ | _ | i <;> first | omega | exact h)
theorem SetEs.int {es : List (Int × Value)} {xs : List Int} (h : SetEs es xs) : ∀ e ∈ es, ∃ j t, e = (j, .int j t) := by
 induction h with
 | nil => exact λ _ h => by cases h
 | cons _ ih =>
  intro e he
  rcases List.mem_cons.mp he with rfl | he
  ·exact ⟨_, _, rfl⟩
  ·exact ih e he
theorem HS (n : Nat) : n % 2 = 0 \/ n % 2 = 1 := by omega
theorem iE {b : Bool} {nx : Nat -> Nat} {es : List (Int × Value)} {xs : List Int} (h : SetEs es xs) (f : Few xs) : (mY b nx es).Perm es := by
 cases b with
 | false => exact .refl _
 | true =>
  rcases f with rfl | rfl | rfl
  all_goals rcases h with _ | ⟨_ | ⟨_ | _⟩⟩
  ·simp [mY, pickOrder, pickOrder.go, Nat.mod_one]
  ·simp [mY, pickOrder, pickOrder.go, Nat.mod_one]
  ·rcases HS (nx 0) with q | q
   ·simp [mY, pickOrder, pickOrder.go, Nat.mod_one, q]
   ·simp [mY, pickOrder, pickOrder.go, Nat.mod_one, q, List.Perm.swap]
theorem pK {it a : Addr} {oi o : Obj} {es : List (Int × Value)} {xs : List Int} {ep i : Nat} {e : Int × Value} {Q : Option Value -> Shared -> Prop} (hit : s.heap.get? it = some oi) (hoi : oi = sIt (slotAt (aJ w) xs i) i a es.length ep)
  (ho : s.heap.get? a = some o) (hd : o.data = .set es.toArray ep (tbl (aJ w) xs)) (he : SetEs es xs) (f : Few xs) (hi : (mY (aJ w) (w.params.setOrder a ep) es)[i]? = some e)
  (hQ : ∀ h', h'.get? it = some (sIt (slotAt (aJ w) xs (i + 1)) (i + 1) a es.length ep) -> Heap.SameBut it s.heap h' -> Q (some e.2) { s with heap := h' }) : wpAny (model prog w) A (pyNext (.ref it)) Q E s := by
 subst hoi
 have hT : s.TypeIs (.ref it) "set_iterator" := ⟨_, hit, rfl⟩
 have hf := j7 (b := aJ w) he f
 have hl : i < es.length := by
  rw [← (iE (b := aJ w) (nx := w.params.setOrder a ep) he f).length_eq]
  exact (List.getElem?_eq_some_iff.mp hi).1
 unfold pyNext
 refine wpAny_bind (wpAny_attempt (wpAny_callSpecial?_slot (name := Str.ofString "__next__") hT iB (wpAny_call_entry iB hT uL ?_ (y3 _))))
 unfold Builtin.«set_iterator.__next__»
 refine wpAny_bind (wpAny_pure ?_)
 refine wpAny_bind (wpAny_fieldsOf hit rfl ?_)
 refine wpAny_bind (wpAny_setEntries_of ho hd hf ?_)
 refine wpAny_ite_split (λ hab => absurd hab (by simp)) (λ _ => ?_)
 show wpAny _ _ (setNext a (slotAt (aJ w) xs i) i ep >>= _) _ _ s
 refine wpAny_bind (jT ho hd he f (Nat.le_of_lt hl) ?_)
 rw [hi]
 refine wpAny_bind (wpAny_setField hit rfl (by simp) ?_)
 refine wpAny_bind (wpAny_setField (Heap.get?_update_self _ hit rfl) rfl (by simp) ?_)
 refine wpAny_pure ⟨_, rfl, wpAny_pure ?_⟩
 refine hQ _ (Heap.get?_update_self _ (Heap.get?_update_self _ hit rfl) rfl) ?_
 exact (Heap.SameBut.update ..).trans (Heap.SameBut.update ..)
theorem sQ {it a : Addr} {oi o : Obj} {es : List (Int × Value)} {xs : List Int} {ep : Nat} {Q : Option Value -> Shared -> Prop} (hh : A.handled = none) (hit : s.heap.get? it = some oi) (hoi : oi = sIt (slotAt (aJ w) xs es.length) es.length a es.length ep)
  (ho : s.heap.get? a = some o) (hd : o.data = .set es.toArray ep (tbl (aJ w) xs)) (he : SetEs es xs) (f : Few xs)
  (hQ : ∀ h', Heap.ExtBut it s.heap h' -> Q none { s with heap := h' }) : wpAny (model prog w) A (pyNext (.ref it)) Q E s := by
 subst hoi
 have hT : s.TypeIs (.ref it) "set_iterator" := ⟨_, hit, rfl⟩
 have hf := j7 (b := aJ w) he f
 unfold pyNext
 refine wpAny_bind (wpAny_attempt (wpAny_callSpecial?_slot (name := Str.ofString "__next__") hT iB (wpAny_call_entry iB hT uL ?_ (y3 _))))
 unfold Builtin.«set_iterator.__next__»
 refine wpAny_bind (wpAny_pure ?_)
 refine wpAny_bind (wpAny_fieldsOf hit rfl ?_)
 refine wpAny_bind (wpAny_setEntries_of ho hd hf ?_)
 refine wpAny_ite_split (λ hab => absurd hab (by simp)) (λ _ => ?_)
 show wpAny _ _ (setNext a (slotAt (aJ w) xs es.length) es.length ep >>= _) _ _ s
 refine wpAny_bind (jT ho hd he f (Nat.le_refl _) ?_)
 rw [List.getElem?_eq_none (by rw [(iE (b := aJ w) (nx := w.params.setOrder a ep) he f).length_eq]; exact Nat.le_refl _)]
 refine wpAny_bind (wpAny_setField hit rfl (by simp) ?_)
 show wpAny _ _ (newExc (.type "StopIteration") [] >>= _) _ _ _
 refine wpAny_bind ?_
 simp only [newExc, newTuple]
 refine wpAny_bind (wpAny_newObj_type ?_ (by size_fits))
 refine wpAny_bind (m := firstArgMember _ _) (wpAny_of_eq (a := Value.none) (by first | rfl | (simp only [firstArgMember]; rfl)) ?_)
 refine wpAny_newObj_type ?_ (by size_fits)
 simp only [raiseNew]
 refine wpAny_bind (wpAny_handled ?_)
 rw [show A.in1.handled = none from hh]
 refine wpAny_bind (wpAny_pure (wpAny_throw ?_))
 refine wpAny_bind (wpAny_isInstance (T := "StopIteration") (b := true) ⟨_, Heap.get?_push_size _ rfl, rfl⟩ isSubtype_stop ?_)
 exact wpAny_pure (hQ _ (((Heap.SameBut.update ..).extBut.push _).push _))
theorem pL {it : Addr} {Q : Value -> Shared -> Prop} (hT : s.TypeIs (.ref it) "set_iterator") (h : Q (.ref it) s) : wpAny (model prog w) A (pyIter (.ref it)) Q E s := by
 refine wpAny_pyIter_slot hT qE (wpAny_call_entry qE hT wY ?_ (AH _))
 show wpAny _ _ (ret (.ref it)) _ _ s
 exact wpAny_pure ⟨_, rfl, "set_iterator", _, hT, iB.lookup, h⟩
theorem HZ {a : Addr} {o : Obj} {es : List (Int × Value)} {xs : List Int} {ep : Nat} (hx : o.ExactSet) (hd : o.data = .set es.toArray ep (tbl (aJ w) xs)) (he : SetEs es xs) (f : Few xs) :
  KdlSrc prog w "set" a a es.length (λ i v => ∃ e, (mY (aJ w) (w.params.setOrder a ep) es)[i]? = some e /\ v = e.2) (λ h => h.get? a = some o) where
 type := λ _ h => ⟨_, h, hx.1⟩
 there := λ _ h => ⟨Heap.lt_size h, Heap.lt_size h⟩
 keep := λ _ _ h k => k a (.inl rfl) _ h
 notList := by decide
 notTuple := by decide
 hint := λ _ _ _ _ h q => G2 ⟨_, h, hx.1⟩ q
 iter := λ A s hh h => by
  have hn : a ≠ s.heap.objs.size := Nat.ne_of_lt (Heap.lt_size h)
  refine ⟨sIt 0 0 a es.length ep, λ i h' => h'.get? s.heap.objs.size = some (sIt (slotAt (aJ w) xs i) i a es.length ep) /\ h'.get? a = some o, λ _ _ q => CU h hx hd he f q, ?_, ?_⟩
  ·refine { sub := λ b hb => by simp at hb; simp [hb], frame := λ _ _ _ st hk => ⟨hk _ (by simp) _ st.1, hk a (by simp) _ st.2⟩, item := ?_, done := ?_, self := λ i s Q E st q => pL ⟨_, st.1, rfl⟩ q }
   ·intro i s Q E hi st hQ
    have hi' : i < (mY (aJ w) (w.params.setOrder a ep) es).length := by rw [(iE he f).length_eq]; exact hi
    refine pK st.1 rfl st.2 hd he f (List.getElem?_eq_getElem hi') λ h' g1 g2 => ?_
    exact hQ _ h' s.toks ⟨_, List.getElem?_eq_getElem hi', rfl⟩ ⟨g1, g2.extBut a o hn st.2⟩ λ b o hb e => g2.extBut b o (λ h => hb (by simp [h])) e
   ·intro s Q E st hQ
    refine sQ hh st.1 rfl st.2 hd he f λ h' g => ?_
    exact hQ h' s.toks λ b o hb e => g b o (λ h => hb (by simp [h])) e
  ·refine ⟨?_, Heap.get?_push_of_some _ h⟩
   have : slotAt (aJ w) xs 0 = 0 := by cases aJ w <;> rfl
   rw [this]
   exact Heap.get?_push_size _ rfl
end
section
variable {c : Cx} {tc : Tc} {ev : Ev} {n : Nat} {ct : Ctr}
theorem CV {ord : List (Int × Value)} {N : Nat} (hall : ∀ e ∈ ord, ∃ j t, e = (j, Value.int j t)) (hN : ord.length = N) {acc : Array Value} (h : ItemsOf (λ i v => ∃ e, ord[i]? = some e /\ v = e.2) acc N) : IntsAre acc.toList (ord.map (·.1)) := by
 refine s9 (by rw [Array.length_toList, List.length_map, hN]; exact h.1) λ j v hj => ?_
 obtain ⟨e, h1, h2⟩ := h.2 j v (by rw [← Array.getElem?_toList]; exact hj)
 obtain ⟨i, t, rfl⟩ := hall e (List.mem_of_getElem? h1)
 exact ⟨i, t, by rw [List.getElem?_map, h1]; rfl, h2⟩
theorem SetEs.fst {es : List (Int × Value)} {xs : List Int} (h : SetEs es xs) : es.map (·.1) = xs := by
 induction h with
 | nil => rfl
 | cons _ ih => exact congrArg (_ :: ·) ih
theorem pJ {a b : List Int} (h : a.Perm b) : sortI a = sortI b := qD ((sortI_perm a).trans h) (fW a)
theorem wX {A : Around} {W : Wd} {x : Sx} {t : Nat} {k₀ : Nat} {a : Addr} {o : Obj} {xs : List Int} {Q : Value -> Shared -> Prop} (hh : A.handled = none) (I : Inv c W) (ho : W.h.get? a = some o) (hd : BZ c.w o xs)
  (q : ∀ W' u tk, Ext No k₀ W W' -> Inv c W' -> W'.H = W.H -> RF c W'.G (.lst ((sortI xs).map .int)) u -> Q u (mkS x W'.h tk)) : WP c A (call (.builtin "sorted") [.ref a]) Q (mkS x W.h t) := by
 obtain ⟨k1, es, ep, k2, k3, k4⟩ := hd
 have hl : es.length < 64 := by
  rw [k2.len]
  rcases k4 with rfl | rfl | rfl <;> decide
 have hp := iE (b := aJ c.w) (nx := c.w.params.setOrder a ep) k2 k4
 refine mN (HZ (prog := c.prog) k1 k3 k2 k4) hh I ho hl (λ acc hacc => ⟨_, CV (λ e he => k2.int e (hp.mem_iff.mp he)) hp.length_eq hacc, ?_⟩) q
 rw [pJ (hp.map (·.1)), k2.fst]
theorem wS (B : TabOk c tc) : rT c tc ct := by
 intro ev n S e A env vs W x t ex m Q hA hc F I h
 refine x7 B S hA (s := "sorted") (u := .builtin "sorted") rfl (by decide) (d6 _) hc F I h λ W₁ pv u tk e1 I1 F1 r1 hk1 h1 => oBE h1 λ xs hx h1 => ?_
 have rn := r1.nrm I1
 have fin : ∀ {W' : Wd} {u' : Value} {tk' : Nat}, Ext No W.ρ.length W₁ W' -> Inv c W' -> W'.H = W₁.H -> RF c W'.G (.lst ((sortI xs).map .int)) u' -> Q u' (mkS x W'.h tk') := λ e I e' r => h1 _ _ _ e I ⟨e', .f r⟩
 unfold QU at hx
 generalize nrm W₁.H pv = z at hx rn
 cases z with
 | f v => cases v with
  | iset ys =>
   cases (gOE hx).2
   exact RF.isetE rn.fE λ a o g d => wX hA.1 I1 (I1.sub _ _ g) d λ W' u' tk' => fin
  | idct es =>
   cases (gOE hx).2
   exact RF.idctE rn.fE λ a o kvs g d r ns => lF hA.1 I1 (I1.sub _ _ g) d r ns (aM.mp (gOE hx).1) λ W' u' tk' => fin
  | _ => exact noS hx
 | ref i =>
  refine oOE hx λ ao hao hx => oOE hx λ es hes hx => RP.refE rn λ pl e => ?_
  cases oV hes
  cases (gOE hx).2
  obtain ⟨o, kvs, g, d, _, r, ns⟩ := I1.at hao e
  exact lF hA.1 I1 g d r ns (aM.mp (gOE hx).1) λ W' u' tk' => fin
end
section
variable {prog : Program} {w : World} {A : Around} {E : Value -> Shared -> Prop} {s : Shared}
def yN (b : Bool) (pre : List Int) (o : Obj) : Prop := o.ExactSet /\ ∃ es ep, SetEs es pre /\ o.data = .set es.toArray ep (tbl b pre)
theorem gP {es : List (Int × Value)} {xs : List Int} (h : SetEs es xs) (hx : ∀ i ∈ xs, hashInt i = i) : ElemsOf (intKind prog w) es := by
 induction h with
 | nil => exact λ _ h => by cases h
 | cons _ ih =>
  intro e he
  rcases List.mem_cons.mp he with rfl | he
  ·exact ⟨⟨_, intKind_is _ _ _ _, (hx _ (.head _)).symm⟩, rfl⟩
  ·exact ih (λ i hi => hx i (.tail _ hi)) e he
theorem e6 {S : Addr} {o : Obj} {es es1 : Array (Int × Value)} {ep : Nat} {t t1 : SetTable} {i : Int} {tok : Tok} {Q : Bool -> Shared -> Prop} (ho : s.heap.get? S = some o) (hd : o.data = .set es ep t) (hx : o.ExactSet) (hf : t.fits es.size = true)
  (hel : ElemsOf (intKind prog w) es.toList) (hn : es.size < 10) (hno : es.toList.findIdx? (λ e => (intKind prog w).is i e.2) = none) (hL : layNew t es (hashInt i) (.int i tok) = (es1, t1, false, false)) (hp : t1.plain = true) (hfull : t1.tooFull = false) (hs1 : es1.size <= 100)
  (hQ : ∀ h' ep', Heap.SameBut S s.heap h' -> h'.get? S = some { cls := .type "set", data := .set es1 ep' t1 } -> Q true { s with heap := h' }) : wpAny (model prog w) A (setAddHashed S (.int i tok) (hashInt i)) Q E s := by
 unfold setAddHashed setAddHashedIn
 refine wpAny_holding (wpAny_bind (wpAny_setState_of ho hd hf ?_))
 dsimp only
 rw [byScan_of rfl (by unfold scanBound; omega) hel]
 simp only [↓reduceIte]
 unfold setAddByScan
 refine wpAny_bind ?_
 refine wpAny_bind (wpAny_rule ?_)
 refine wpAny_bind (wpAny_setScan_of (knd := intKind prog w) (intKind_is _ _ _ _) ho hd hf hel ?_)
 rw [hno]
 dsimp only
 rw [hL]
 dsimp only
 refine wpAny_bind (wpAny_pure ?_)
 refine wpAny_ite_split (λ _ => ?_) (λ hab => absurd hp hab)
 refine wpAny_bind (m := hashByValue 8 (.int i tok)) (wpAny_pure ?_)
 rw [if_pos rfl]
 refine wpAny_bind (wpAny_storeSet_of ho hd ?_ (aL (by simpa using Nat.le_trans hs1 (by decide))))
 refine wpAny_ite_split (λ hab => ?_) (λ _ => wpAny_pure (wpAny_pure ?_))
 ·rw [hfull] at hab; cases hab
 ·obtain ⟨oc, od, odat, osl⟩ := o
  obtain ⟨h1, h2, h3⟩ := hx
  dsimp only at h1 h2 h3 hd
  subst h1; subst h2; subst h3; subst hd
  exact hQ _ _ (Heap.SameBut.update ..) (Heap.get?_update_self _ ho rfl)
theorem FY {b : Bool} {pre : List Int} {S : Addr} {o : Obj} {i : Int} {tok : Tok} {Q : Bool -> Shared -> Prop} (hf : Few (pre ++ [i])) (ho : s.heap.get? S = some o) (hp : yN b pre o)
  (hQ : ∀ h' o', Heap.SameBut S s.heap h' -> h'.get? S = some o' -> yN b (pre ++ [i]) o' -> Q true { s with heap := h' }) : wpAny (model prog w) A (setAddHashed S (.int i tok) (hashInt i)) Q E s := by
 obtain ⟨hx, es, ep, he, hd⟩ := hp
 have key : (pre = [] /\ (i = 0 \/ i = 1)) \/ (pre = [0] /\ i = 1) := by
  rcases hf with h | h | h
  ·rcases pre with _ | ⟨a, _ | ⟨b, r⟩⟩ <;> simp at h; exact .inl ⟨rfl, .inl h⟩
  ·rcases pre with _ | ⟨a, _ | ⟨b, r⟩⟩ <;> simp at h; exact .inl ⟨rfl, .inr h⟩
  ·rcases pre with _ | ⟨a, _ | ⟨b, r⟩⟩ <;> simp at h; exact .inr ⟨by rw [h.1], h.2⟩
 rcases key with ⟨rfl, rfl | rfl⟩ | ⟨rfl, rfl⟩
 ·cases he
  refine e6 (es1 := #[(0, .int 0 tok)]) (t1 := tbl b [0]) ho hd hx rfl (gP .nil (λ _ h => by cases h)) (by decide) rfl (by cases b <;> rfl) rfl rfl (by simp) λ h' ep' g1 g2 => hQ h' _ g1 g2 ⟨⟨rfl, rfl, rfl⟩, _, _, .cons .nil, rfl⟩
 ·cases he
  refine e6 (es1 := #[(1, .int 1 tok)]) (t1 := tbl b [1]) ho hd hx rfl (gP .nil (λ _ h => by cases h)) (by decide) rfl (by cases b <;> rfl) rfl rfl (by simp) λ h' ep' g1 g2 => hQ h' _ g1 g2 ⟨⟨rfl, rfl, rfl⟩, _, _, .cons .nil, rfl⟩
 ·cases he with
  | cons he =>
  cases he
  rename_i t0
  refine e6 (es1 := #[(0, .int 0 t0), (1, .int 1 tok)]) (t1 := tbl b [0, 1]) ho hd hx rfl (gP (.cons .nil) (λ j h => by rw [List.mem_singleton.mp h]; rfl)) (by simp) rfl (by cases b <;> rfl) rfl rfl (by simp) λ h' ep' g1 g2 => hQ h' _ g1 g2 ⟨⟨rfl, rfl, rfl⟩, _, _, .cons (.cons .nil), rfl⟩
theorem CN {xs : List Int} (f : Few xs) {i : Nat} (h : i < xs.length) : ∃ j, xs[i]? = some j /\ xs.take (i + 1) = xs.take i ++ [j] /\ Few (xs.take i ++ [j]) := by
 rcases f with rfl | rfl | rfl
 ·match i, h with
  | 0, _ => exact ⟨_, rfl, rfl, .inl rfl⟩
 ·match i, h with
  | 0, _ => exact ⟨_, rfl, rfl, .inr (.inl rfl)⟩
 ·match i, h with
  | 0, _ => exact ⟨_, rfl, rfl, .inl rfl⟩
  | 1, _ => exact ⟨_, rfl, rfl, .inr (.inr rfl)⟩
theorem CT {R : Result -> Shared -> Prop} {I : Addr} {fp wr : List Addr} {G : Array GenState -> Array GenState -> Prop} {n : Nat} {P : Nat -> Value -> Prop} {St : Nat -> Shared -> Prop} (W : WalksS prog w A.in1 I fp wr G n P St) (S : Addr) (hSf : S ∉ fp) {b : Bool} {xs : List Int} (f : Few xs) (hn : xs.length = n)
  (hval : ∀ i v, P i v -> ∃ j t, xs[i]? = some j /\ v = .int j t) :
  ∀ (k i : Nat) (s : Shared), n - i = k -> i <= n -> St i s -> (∃ o, s.heap.get? S = some o /\ yN b (xs.take i) o) ->
   (∀ s', Moved (S :: wr) G s s' -> (∃ o, s'.heap.get? S = some o /\ yN b xs o) -> R (.ok (.ret .none)) s') ->
   codeAny (model prog w) A (.builtin "set.update.loop" ⟨[.ref S, .ref I], []⟩) R s := by
 have hSw : S ∉ wr := λ h => hSf (W.sub _ h)
 have hsub : ∀ b ∈ wr, b ∈ S :: wr := λ b hb => List.mem_cons_of_mem _ hb
 intro k
 induction k with
 | zero =>
  intro i s hk hi hst hS hR
  have hin : i = n := by omega
  subst hin
  refine codeAny_builtin PyProof.Rows.F.entry_set_update_loop ?_
  rw [Around.under_plainId PyProof.Rows.F.plain_set_update_loop _]
  show wpAny _ A.in1 (pyNext (.ref I) >>= _) _ _ s
  refine wpAny_bind (W.done s _ _ hst λ s' hm => ?_)
  show wpAny _ A.in1 (ret Value.none) _ _ s'
  rw [← hn, List.take_length] at hS
  obtain ⟨o, ho, hp⟩ := hS
  exact wpAny_pure (hR s' (hm.mono hsub) ⟨o, hm.heap S _ hSw ho, hp⟩)
 | succ k ih =>
  intro i s hk hi hst hS hR
  have hlt : i < n := by omega
  refine codeAny_builtin PyProof.Rows.F.entry_set_update_loop ?_
  rw [Around.under_plainId PyProof.Rows.F.plain_set_update_loop _]
  show wpAny _ A.in1 (pyNext (.ref I) >>= _) _ _ s
  refine wpAny_bind (W.item i s _ _ hlt hst λ v s' hP hst' hm => ?_)
  obtain ⟨j, t, hj, rfl⟩ := hval i v hP
  obtain ⟨o, ho, hp⟩ := hS
  have ho' := hm.heap S _ hSw ho
  obtain ⟨j', hj', ht, hf⟩ := CN f (i := i) (by rw [hn]; exact hlt)
  rw [hj] at hj'; cases hj'
  show wpAny _ A.in1 (holding [Value.int j t] (setAdd S (.int j t)) >>= _) _ _ s'
  refine wpAny_bind (wpAny_holding ?_)
  unfold setAdd
  refine wpAny_holding ?_
  refine wpAny_bind ((intKind prog w).pyHash (k := j) (intKind_is _ _ _ _) ?_)
  refine FY (s := { s' with toks := s'.toks + 1 }) hf ho' hp λ h' o' hsb go hp' => ?_
  rw [← ht] at hp'
  refine wpAny_pure ⟨plainId_quiet PyProof.Rows.F.plain_set_update_loop _, ih (i + 1) _ (by omega) hlt (W.frame _ s' _ _ hst' (Nat.le_succ _) λ b hb o e => ?_) ⟨o', go, hp'⟩ λ s'' hm'' hS'' => ?_⟩
  ·rw [hsb.2 b (λ h : b = S => hSf (by rw [← h]; exact hb))]; exact e
  ·refine hR s'' (Moved.trans W.gtrans ((hm.mono hsub).then_heap (Nat.le_succ _) λ b o hb e => ?_) hm'') hS''
   rw [hsb.2 b (λ h : b = S => hb (by rw [h]; exact List.mem_cons_self))]; exact e
theorem code_set_new {a : Value} {Q₁ : Value -> Shared -> Prop}
  (h : Q₁ (.ref s.heap.objs.size) { s with heap := s.heap.push { cls := .type "set", dict := none, data := .set #[] 0 (.fresh 0 0 (!aJ w)) } }) :
  codeAny (model prog w) A (.call (.builtin "set.__new__") ⟨[.type "set", a], []⟩) (wants Q₁ E) s := by
 refine codeAny_of_tree ?_
 show wpAny _ A.in1 (do checkBuiltinCall "set.__new__" ⟨[.type "set", a], []⟩; again (.builtin "set.__new__" ⟨[.type "set", a], []⟩)) _ _ s
 refine wpAny_bind (wpAny_of_eq (PySem.F.newCall_set_1 a) (wpAny_pure ⟨plainId_quiet PySem.F.plain_set_new _, codeAny_builtin PySem.F.entry_set_new ?_⟩))
 rw [Around.under_plainId PySem.F.plain_set_new _]
 unfold Builtin.«set.__new__» Builtin.Frozenset.newClass
 have hsub := sub_set_self
 obtain ⟨hp, g, d, tk, os⟩ := s
 dsimp only
 wp_walk
 refine wpAny_askSetting (wpAny_pure ?_)
 dsimp only
 simp only [newObj]
 refine wpAny_bind (wpAny_alloc (wpAny_pure ?_))
 exact wpAny_pure h
theorem sR {l : Addr} {vs : List Value} {xs : List Int} {nl : Nat} {R : Result -> Shared -> Prop} {h₀ : Heap} {g : Array GenState} {d : Drawn} {tk : Nat} {os : OsState} (hh : A.handled = none) (hol : h₀.get? l = some { cls := .type "list", data := .seq vs.toArray nl }) (hi : IntsAre vs xs) (f : Few xs)
  (hR : ∀ h' tk', (∀ b o, b < h₀.objs.size -> h₀.get? b = some o -> h'.get? b = some o) -> (∃ o, h'.get? h₀.objs.size = some o /\ yN (aJ w) xs o) -> R (.ok (.ret .none)) ⟨h', g, d, tk', os⟩) :
  wpAny (model prog w) A.in1 (Builtin.«set.__init__» ⟨[.ref h₀.objs.size, .ref l], []⟩) (λ fin s' => match fin with | .done f => R (.ok f) s' | .again c' => c'.quiet = true /\ codeAny (model prog w) A c' R s') (λ e s' => R (.error e) s')
   ⟨h₀.push { cls := .type "set", dict := none, data := .set #[] 0 (.fresh 0 0 (!aJ w)) }, g, d, tk, os⟩ := by
 have hS : (h₀.push { cls := .type "set", dict := none, data := .set #[] 0 (.fresh 0 0 (!aJ w)) }).get? h₀.objs.size = some { cls := .type "set", dict := none, data := .set #[] 0 (.fresh 0 0 (!aJ w)) } := Heap.get?_push_size _ rfl
 have hol' : (h₀.push { cls := .type "set", dict := none, data := .set #[] 0 (.fresh 0 0 (!aJ w)) }).get? l = some { cls := .type "list", data := .seq vs.toArray nl } := Heap.get?_push_of_some _ hol
 have hsls := PySem.F.sub_list_set
 have hslf := PySem.F.sub_list_frozenset
 have hne : (Value.type "list" == Value.type "dict") = false := by decide
 have hl1 : (h₀.push { cls := .type "set", dict := none, data := .set #[] 0 (.fresh 0 0 (!aJ w)) }).IsList l vs.toArray := ⟨_, hol', rfl, nl, rfl⟩
 unfold Builtin.«set.__init__» noKeywords Builtin.Frozenset.updateFrom
 generalize hPI : pyIter = PI
 wp_walk
 subst hPI
 have hlS : l < h₀.objs.size := Heap.lt_size hol
 refine wpAny_pyIter_list hl1 ?_
 refine wpAny_bind (wpAny_runValue ?_)
 have hne' : l ≠ (h₀.push { cls := .type "set", dict := none, data := .set #[] 0 (.fresh 0 0 (!aJ w)) }).objs.size := by rw [Heap.size_push]; exact Nat.ne_of_lt (Nat.lt_succ_of_lt hlS)
 have hlen : xs.length = vs.toArray.size := by rw [List.size_toArray]; exact (j3 hi).symm
 refine CT ((Walks.list (A := A.in1.in1) hh _ l hne' vs.toArray).toS) h₀.objs.size ?_ f hlen ?_ _ 0 _ rfl (Nat.zero_le _) ⟨⟨_, Heap.get?_push_size _ rfl, rfl, rfl⟩, hl1.push _⟩ ⟨_, Heap.get?_push_of_some _ hS, ⟨rfl, rfl, rfl⟩, [], 0, .nil, rfl⟩ ?_
 ·rw [Heap.size_push]
  simp only [List.mem_cons, List.not_mem_nil, or_false, not_or]
  exact ⟨Nat.ne_of_lt (Nat.lt_succ_self _), Nat.ne_of_gt hlS⟩
 ·intro i v hv
  have hv : vs[i]? = some v := by simpa using hv
  obtain ⟨t, e⟩ := IntsAre.int_at hi i v hv
  have : i < xs.length := by rw [← j3 hi]; exact (List.getElem?_eq_some_iff.mp hv).1
  exact ⟨xs[i], t, List.getElem?_eq_getElem this, by rw [e]; simp [this]⟩
 ·intro s' hm ⟨o, ho, hp⟩
  rw [Moved.eq_with hm]
  show wpAny _ _ _ _ _ _
  refine wpAny_pure ?_
  show wpAny _ _ (ret Value.none) _ _ _
  refine wpAny_pure (hR _ _ (λ b o hb e => ?_) ⟨o, ho, hp⟩)
  refine hm.heap b o ?_ (Heap.get?_push_of_some _ (Heap.get?_push_of_some _ e))
  rw [Heap.size_push]
  simp only [List.mem_cons, List.not_mem_nil, or_false, not_or]
  exact ⟨Nat.ne_of_lt hb, Nat.ne_of_lt (Nat.lt_succ_of_lt hb)⟩
theorem n7 {l : Addr} {vs : List Value} {xs : List Int} {nl : Nat} {Q : Value -> Shared -> Prop} (hh : A.handled = none) (hol : s.heap.get? l = some { cls := .type "list", data := .seq vs.toArray nl }) (hi : IntsAre vs xs) (f : Few xs)
  (hQ : ∀ h' tk', (∀ b o, b < s.heap.objs.size -> s.heap.get? b = some o -> h'.get? b = some o) -> (∃ o, h'.get? s.heap.objs.size = some o /\ yN (aJ w) xs o) -> Q (.ref s.heap.objs.size) { s with heap := h', toks := tk' }) :
  wpAny (model prog w) A (call (.type "set") [.ref l]) Q E s := by
 obtain ⟨hp, g, d, tk, os⟩ := s
 dsimp only at hol hQ
 obtain ⟨c, tl, hmro⟩ := PySem.F.called_set.mro
 have hmade := PySem.F.called_set.made
 have hsub := PySem.F.called_set.sub
 have h1 := PySem.F.called_set.notType
 have h2 := PySem.F.called_set.canCreate
 have hct := PySem.F.typeCall_set_1 (.ref l)
 refine wpAny_call (codeAny_of_tree ?_)
 show wpAny _ _ (callAny (.type "set") _) _ _ _
 refine wpAny_pure ⟨Code.quiet_builtin _ (by decide +kernel), codeAny_builtin PySem.F.entry_type_call ?_⟩
 rw [Around.under_plain (weight_type_call_type "set" [.ref l] []) rfl]
 repeat (any_goals (first | assumption | wp_step))
 refine codeAny_mono (code_set_new (E := E) (Q₁ := λ obj s1 => obj = .ref hp.objs.size /\ s1 = ⟨hp.push { cls := .type "set", dict := none, data := .set #[] 0 (.fresh 0 0 (!aJ w)) }, g, d, tk, os⟩) ⟨rfl, rfl⟩) λ r s1 hr => ?_
 cases r with
 | error e => exact hr
 | ok fl =>
  cases fl with
  | ret obj =>
   obtain ⟨rfl, rfl⟩ := hr
   have hS : (hp.push { cls := .type "set", dict := none, data := .set #[] 0 (.fresh 0 0 (!aJ w)) }).get? hp.objs.size = some { cls := .type "set", dict := none, data := .set #[] 0 (.fresh 0 0 (!aJ w)) } := Heap.get?_push_size _ rfl
   have hT : Shared.TypeIs ⟨hp.push { cls := .type "set", dict := none, data := .set #[] 0 (.fresh 0 0 (!aJ w)) }, g, d, tk, os⟩ (.ref hp.objs.size) "set" := ⟨_, hS, rfl⟩
   have hli := PySem.F.called_set.init.lookup
   have hbi := PySem.F.called_set.init.bind (.ref hp.objs.size)
   repeat (any_goals (first | assumption | wp_step))
   refine codeAny_mono (codeAny_call_builtin (R := wants (λ r s2 => r = .none /\ ∃ h' tk', s2 = ⟨h', g, d, tk', os⟩ /\ (∀ b o, b < hp.objs.size -> hp.get? b = some o -> h'.get? b = some o) /\ ∃ o, h'.get? hp.objs.size = some o /\ yN (aJ w) xs o) E)
    PySem.F.called_set.init.plain PySem.F.entry_set_init (check_set_init_1 hT (sR (A := A.in1) (by simpa using hh) hol hi f λ h' tk' k1 k2 => ⟨rfl, h', tk', rfl, k1, k2⟩))) λ rc s2 hr2 => ?_
   cases rc with
   | error e => exact hr2
   | ok fl2 =>
    cases fl2 with
    | ret r =>
     obtain ⟨rfl, h', tk', rfl, k1, k2⟩ := hr2
     repeat (any_goals (first | assumption | wp_step))
     exact hQ _ _ k1 k2
    | _ => exact hr2.elim
  | _ => exact hr.elim
end
section
variable {c : Cx} {tc : Tc} {ev : Ev} {n : Nat} {ct : Ctr}
theorem xN {G : Gh} {xs : List FV} {vs : List Value} (r : RL c G xs vs) : ∀ {is : List Int}, fD xs = some is -> IntsAre vs is :=
 RL.ind (m := λ xs vs => ∀ {is : List Int}, fD xs = some is -> IntsAre vs is) (λ h => by cases h; exact .nil) (λ a b ih is h => oOE h λ i hi h => oOE h λ l hl h => by
  rw [eG hi] at a
  cases h
  exact RF.intE a λ t => .cons i t (ih hl)) r
theorem HN {A : Around} {W : Wd} {x : Sx} {t : Nat} {k₀ : Nat} {a : Addr} {nl : Nat} {vs : List Value} {is : List Int} {Q : Value -> Shared -> Prop} (hh : A.handled = none) (I : Inv c W) (ho : W.h.get? a = some { cls := .type "list", data := .seq vs.toArray nl }) (hi : IntsAre vs is) (f : Few is)
  (q : ∀ W' u tk, Ext No k₀ W W' -> Inv c W' -> W'.H = W.H -> RF c W'.G (.iset is) u -> Q u (mkS x W'.h tk)) : WP c A (call (.type "set") [.ref a]) Q (mkS x W.h t) := by
 refine n7 hh ho hi f λ h' tk' k1 ⟨o, k2, k3⟩ => ?_
 have kp : ∀ b o, W.h.get? b = some o -> h'.get? b = some o := λ b o hb => k1 b o (Heap.lt_size hb) hb
 have hnone : W.h.get? W.h.objs.size = none := cQ (Nat.le_refl _)
 have hd : ¬ W.dom W.h.objs.size := λ hd => Nat.lt_irrefl _ (I.domLt hd)
 have e1 : Ext No k₀ W { W with h := h' } := Ext.heap kp
 have I1 : Inv c { W with h := h' } := I.heap kp
 have e2 := Ext.tellG (o := o) (a := W.h.objs.size) e1 hd hnone
 have I2 := Inv.tellG (o := o) (a := W.h.objs.size) I1 k2 hd
 obtain ⟨g1, es, ep, g2, g3⟩ := k3
 exact q _ _ _ e2 I2 rfl (.iset (cL ..) ⟨g1, es, ep, g2, g3, f⟩)
theorem CW {is is' : List Int} (h : QX is = some is') : is = is' /\ Few is' := by
 cases is with
 | nil => exact noS h
 | cons i t => cases t with
  | nil =>
   have g := gOE (show (gO (nP [0, 1] i.toNat) <| gO (decide (0 <= i)) <| some [i]) = some is' from h)
   have g' := gOE g.2
   refine ⟨Option.some.inj g'.2, ?_⟩
   rw [← Option.some.inj g'.2]
   have q2 := of_decide_eq_true g'.1
   rcases List.mem_cons.mp (j6.mp g.1) with q | q
   ·exact .inl (by rw [show i = 0 by omega])
   ·have q := List.mem_singleton.mp q
    exact .inr (.inl (by rw [show i = 1 by omega]))
  | cons j t =>
   have g := gOE (show (gO (gH t) <| gO (decide (i = 0)) <| gO (decide (j = 1)) <| some [0, 1]) = some is' from h)
   cases t with
   | cons _ _ => exact ff g.1
   | nil =>
    have g1 := gOE g.2
    have g2 := gOE g1.2
    rw [of_decide_eq_true g1.1, of_decide_eq_true g2.1, ← Option.some.inj g2.2]
    exact ⟨rfl, .inr (.inr rfl)⟩
theorem w0 (B : TabOk c tc) : rU c tc ct := by
 intro ev n S e A env vs W x t ex m Q hA hc F I h
 refine x7 B S hA (s := "set") (u := .type "set") rfl (by decide) (eN _) hc F I h λ W₁ pv u tk e1 I1 F1 r1 hk1 h1 => oBE h1 λ xs hx h1 => oBE h1 λ is hi h1 => oBE h1 λ is' hs h1 => ?_
 obtain ⟨a, us, nl, rfl, g, _, r⟩ := HT I1 r1 hx
 obtain ⟨rfl, f⟩ := CW hs
 exact HN hA.1 I1 (I1.sub _ _ g) (xN r hi) f λ W' u' tk' e' I' eh r' => h1 _ _ _ e' I' ⟨eh, .f r'⟩
end
inductive JE where
 | cst (i : Int)
 | var (x : Nat)
 | at (x : Nat) (k : Bool)
 | item (x y : Nat)
 | len (x : Nat)
 | neg (e : JE)
 | bin (op : Operator) (l r : JE)
 | int (e : JE)
 | max (l r : JE)
 | intGe (l r : JE)
def tP (tc : Tc) (kd : Kd) (x : Nat) (e : Expr) : Bool := jO e λ id => id == tc.nm x && J5 (kd id) && decide (x < tc.N) && id != ("__debug__" : Str) && id != ("__classdict__" : Str)
def VX (k : Const) (i : Int) : Bool := match k with
 | .int j => decide (i = j)
 | _ => false
def J6 (i : Int) (e : Expr) : Bool := B9 e λ k => VX k i
def HH {α : Type} (o : Option α) (f : α -> Bool) : Bool := oBl o f
theorem mZ {α : Type} {o : Option α} {f : α -> Bool} (h : HH o f = true) : ∃ a, o = some a /\ f a = true := DG h λ a h1 h2 => ⟨a, h1, h2⟩
noncomputable def xZ (tc : Tc) (kd : Kd) (e : JE) : Expr -> Bool := JE.rec (motive := λ _ => Expr -> Bool) (λ i => J6 i) (λ x => tP tc kd x) (λ x k ex => AA ex λ v i => tP tc kd x v && J6 (if k then 1 else 0) i && aA i) (λ x y ex => AA ex λ v i => tP tc kd x v && tP tc kd y i && aA i)
 (λ x ex => fK ex λ f y => gK tc kd "len" f && tP tc kd x y && aA y) (λ _ ih ex => vUn ex λ op y => op == .USub && ih y) (λ op _ _ l r ex => L6 ex λ a o b => op == o && l a && r b) (λ _ ih ex => fK ex λ f y => gK tc kd "int" f && ih y && aA y)
 (λ _ _ l r ex => qA ex λ f y z => gK tc kd "max" f && l y && r z && aA y && aA z) (λ _ _ l r ex => fK ex λ f y => gK tc kd "int" f && aA y && yU y λ a op b => op == .GtE && l a && r b && aA b) e
structure Vl where
 σ : Nat -> Int
 a : Int
 b : Int
 i0 : Int
 ln : Int
def opJ (op : Operator) (i j : Int) : Int := Operator.casesOn (motive := λ _ => Int) op (i + j) (i - j) (i * j) 0 0 (i.fmod j) (i ^ j.toNat) 0 0 0 0 0 (i.fdiv j)
noncomputable def jv (v : Vl) (e : JE) : Int := JE.rec (motive := λ _ => Int) (λ i => i) (λ x => v.σ x) (λ _ k => if k then v.b else v.a) (λ _ _ => v.i0) (λ _ => v.ln) (λ _ i => - i) (λ op _ _ i j => opJ op i j) (λ _ i => i) (λ _ _ i j => if j > i then j else i) (λ _ _ i j => if i >= j then 1 else 0) e
noncomputable def RQ (op : Operator) (i j : Int) : Prop := Operator.casesOn (motive := λ _ => Prop) op True True (i.natAbs < 2 ^ 62 \/ j.natAbs < 2 ^ 62) False False (j ≠ 0) (i = 10 /\ j = 18) False False False False False (j ≠ 0 /\ j.natAbs < 1073741824)
section
def pC (vs : Vs) (W : Wd) (x : Nat) (a b : Int) : Prop := ∃ j p t u, look vs x = some (.ref j) /\ nth W.ρ j = some p /\ W.h.IsList p.1 #[.int a t, .int b u]
noncomputable def jok (v : Vl) (vs : Vs) (W : Wd) (e : JE) : Prop := JE.rec (motive := λ _ => Prop) (λ _ => True) (λ x => look vs x = some (.f (.int (v.σ x)))) (λ x _ => pC vs W x v.a v.b) (λ x y => (∃ r, look vs x = some (.f (.lst (.int v.i0 :: r)))) /\ look vs y = some (.f (.int 0))) (λ x => ∃ r, look vs x = some (.f (.lst r)) /\ v.ln = r.length)
 (λ _ p => p) (λ op l r p q => p /\ q /\ RQ op (jv v l) (jv v r)) (λ _ p => p) (λ _ _ p q => p /\ q) (λ _ _ p q => p /\ q) e
end
section
variable {c : Cx} {tc : Tc}
theorem pC.up {vs : Vs} {W : Wd} {h' : Heap} {x : Nat} {a b : Int} (k : ∀ b o, W.h.get? b = some o -> h'.get? b = some o) : pC vs W x a b -> pC vs { W with h := h' } x a b
 | ⟨j, p, t, u, h1, h2, h3⟩ => ⟨j, p, t, u, h1, h2, ⟨_, k _ _ h3.choose_spec.1, h3.choose_spec.2⟩⟩
theorem s7 {v : Vl} {vs : Vs} {W : Wd} {h' : Heap} (k : ∀ b o, W.h.get? b = some o -> h'.get? b = some o) {e : JE} (h : jok v vs W e) : jok v vs { W with h := h' } e := by induction e with
 | «at» x y => exact pC.up k h
 | neg e ih => exact ih h
 | bin op l r h1 h2 => exact ⟨h1 h.1, h2 h.2.1, h.2.2⟩
 | int e ih => exact ih h
 | max l r h1 h2 => exact ⟨h1 h.1, h2 h.2⟩
 | intGe l r h1 h2 => exact ⟨h1 h.1, h2 h.2⟩
 | _ => exact h
theorem eP {A : Around} {env : Env} {vs : Vs} {W : Wd} {x : Sx} {t y : Nat} {e : Expr} {p : PV} {Q : Value -> Shared -> Prop} (B : TabOk c tc) (F : FrameOk c env vs W) (hc : tP tc env.kindOf y e = true) (hl : look vs y = some p) (q : ∀ u, RP c W.G W.ρ p u -> Q u (mkS x W.h t)) : WP c A (eval e env) Q (mkS x W.h t) := by
 refine dW (P := λ e => WP c A (eval e env) Q (mkS x W.h t)) hc λ id pos hc => ?_
 cases B.id (bl (bl (bl (bl hc))))
 exact wpAny_Name (u7 F hl (br (bl (bl (bl hc)))) (eA (br hc)) q) (eA (br (bl hc)))
theorem tI {A : Around} {env : Env} {x : Sx} {h : Heap} {t : Nat} {i : Int} {e : Expr} {Q : Value -> Shared -> Prop} (hc : J6 i e = true) (q : Q (.int i t) (mkS x h (t + 1))) : WP c A (eval e env) Q (mkS x h t) := by
 refine uB (P := λ e => WP c A (eval e env) Q (mkS x h t)) hc λ k _ _ hc => ?_
 cases k with
 | int j => cases (of_decide_eq_true hc : i = j); exact wpAny_Constant_int q
 | _ => exact ff hc
theorem kT {A : Around} {env : Env} {s : Shared} {pos : Pos} {f : Value} {e : Expr} {Q : Value -> Shared -> Prop} (hf : Keeps c f) (hs : aA e = true) (h : WP c A (eval e env) (λ v s => c.K.In s.heap /\ WP c A (call f [v]) Q s) s) :
  WP c A (callWith pos f [] (backTo pos (starEach [e] env)) []) Q s := by
 have hs' : [e].all aA = true := by show (_ && true) = true; rw [hs]; rfl
 refine callWith_of (P := c.K.In) (by rw [fV hs']; rfl) hf ?_
 have z : WP c A (spliced (backTo pos (starEach [e] env))) (λ vs s1 => c.K.In s1.heap /\ WP c A (call f ([] ++ vs)) Q s1) s := spliced_more (wpAny_mono h (λ v s g => spliced_none g) λ _ _ x => x) (aX hs)
 rw [aX hs] at z ⊢
 exact Calls.evalArgs_plain z
theorem BN {A : Around} {env : Env} {s : Shared} {pos : Pos} {f : Value} {e e' : Expr} {Q : Value -> Shared -> Prop} (hf : Keeps c f) (hs : aA e = true) (hs2 : aA e' = true) (h : WP c A (eval e env) (λ v s => WP c A (eval e' env) (λ u s => c.K.In s.heap /\ WP c A (call f [v, u]) Q s) s) s) :
  WP c A (callWith pos f [] (backTo pos (starEach [e, e'] env)) []) Q s := by
 have hs' : [e, e'].all aA = true := by show (_ && (_ && true)) = true; rw [hs, hs2]; rfl
 refine callWith_of (P := c.K.In) (by rw [fV hs']; rfl) hf ?_
 have z : WP c A (spliced (backTo pos (starEach [e, e'] env))) (λ vs s1 => c.K.In s1.heap /\ WP c A (call f ([] ++ vs)) Q s1) s :=
  spliced_more (wpAny_mono h (λ v s g => spliced_more (wpAny_mono g (λ u s k => spliced_none k) λ _ _ x => x) (aX hs2)) λ _ _ x => x) (aX hs)
 rw [aX hs] at z ⊢
 exact Calls.evalArgs_plain z
theorem n9 {i : Int} (h : i.natAbs < 2 ^ 62) : Builtin.Int.intBits i <= 64 := intBits_le_64 (by omega) (by omega)
theorem AT {A : Around} {op : Operator} {s : Shared} {i j : Int} {t u : Tok} {Q : Value -> Shared -> Prop} (h : RQ op i j) (q : Q (.int (opJ op i j) s.toks) { s with toks := s.toks + 1 }) : WP c A (binaryOp op (.int i t) (.int j u)) Q s := by
 cases op with
 | Add => exact P.add_int q
 | Sub => exact P.sub_int q
 | Mult =>
  refine P.mul_int q ?_
  rcases h with h | h
  ·exact .of_left (n9 h)
  ·exact .of_right (n9 h)
 | FloorDiv => exact AutoIntOps.floordiv_1 (by simpa using h.1) (by rw [PyProof.noPylong_small h.2]; decide) q
 | Mod => exact mod_int h q
 | Pow =>
  obtain ⟨rfl, rfl⟩ := h
  exact PyProof.Rows.pow_int (by decide) (by decide +kernel) q
 | _ => exact h.elim
theorem kM (B : TabOk c tc) {v : Vl} {vs : Vs} {A : Around} {env : Env} {x : Sx} (hh : A.handled = none) {e : JE} : ∀ {ex : Expr} {W : Wd} {t : Nat} {Q : Value -> Shared -> Prop}, xZ tc env.kindOf e ex = true -> FrameOk c env vs W -> Inv c W -> jok v vs W e ->
  (∀ h' t' k, (∀ b o, W.h.get? b = some o -> h'.get? b = some o) -> Q (.int (jv v e) k) (mkS x h' t')) -> WP c A (eval ex env) Q (mkS x W.h t) := by
 induction e with
 | cst i => exact λ hc F I ho q => tI hc (q _ _ _ λ _ _ z => z)
 | var y => exact λ hc F I ho q => eP B F hc ho λ u r => RF.intE r.fE λ k => q _ _ _ λ _ _ z => z
 | «at» y k =>
  intro ex W t Q hc F I ho q
  refine p8 (P := λ e => WP c A (eval e env) Q (mkS x W.h t)) hc λ o i p hc => ?_
  obtain ⟨j, pp, t1, t2, g1, g2, g3⟩ := ho
  refine mL (br hc) (eP B F (bl (bl hc)) g1 λ u r => RP.refE r λ q' e => ?_)
  cases g2.symm.trans e
  refine tI (br (bl hc)) ?_
  cases k with
  | false => exact ⟨"list", _, gZ, g3.typeIs, wpAny_getItem_list g3 (by decide) (by decide) rfl (q _ _ _ λ _ _ z => z)⟩
  | true => exact ⟨"list", _, gZ, g3.typeIs, wpAny_getItem_list g3 (by decide) (by decide) rfl (q _ _ _ λ _ _ z => z)⟩
 | item y z =>
  intro ex W t Q hc F I ho q
  refine p8 (P := λ e => WP c A (eval e env) Q (mkS x W.h t)) hc λ o i p hc => ?_
  obtain ⟨⟨r, g1⟩, g2⟩ := ho
  refine mL (br hc) (eP B F (bl (bl hc)) g1 λ u r => eP B F (br (bl hc)) g2 λ u' r' => RF.intE r'.fE λ _ => RF.lstE r.fE λ a us m g _ _ l => ?_)
  obtain ⟨v, us, rfl, a1, _⟩ := l.inv
  obtain ⟨k, rfl⟩ := a1.inv
  exact nQ (I.sub _ _ g) (by decide) (by decide) rfl (q _ _ _ λ _ _ z => z)
 | len y =>
  intro ex W t Q hc F I ho q
  refine mH (P := λ e => WP c A (eval e env) Q (mkS x W.h t)) hc λ f y p hc => ?_
  obtain ⟨r, g1, g2⟩ := ho
  refine dR B F I (bl (bl hc)) (u := .builtin "len") rfl (by decide) (kT (d6 _) (br hc) (eP B F (br (bl hc)) g1 λ u r => ⟨B.inK I, RF.lstE r.fE λ a us m g hl l _ => ?_⟩))
  refine Calls.call_len_list ⟨_, I.sub _ _ g, rfl, m, rfl⟩ (by rw [List.size_toArray]; omega) ?_
  rw [List.size_toArray, hl, show ((List.length _ : Nat) : Int) = v.ln from g2.symm]
  exact q _ _ _ λ _ _ z => z
 | neg e ih =>
  intro ex W t Q hc F I ho q
  refine B7 (P := λ e => WP c A (eval e env) Q (mkS x W.h t)) hc λ op y p hc => ?_
  cases (beq_iff_eq.mp (bl hc) : op = .USub)
  exact wpAny_UnaryOp (ih (br hc) F I ho λ h' t' k kp => P.neg_int (q _ _ _ kp))
 | bin op l r h1 h2 =>
  intro ex W t Q hc F I ho q
  refine CD (P := λ e => WP c A (eval e env) Q (mkS x W.h t)) hc λ a o b p hc => ?_
  cases (beq_iff_eq.mp (bl (bl hc)) : op = o)
  exact wpAny_BinOp (h1 (br (bl hc)) F I ho.1 λ h' t' k kp => h2 (W := { W with h := h' }) (br hc) (F.keepNo (Ext.heap kp)) (I.heap kp) (s7 kp ho.2.1) λ h'' t'' k' kp' => AT ho.2.2 (q _ _ _ λ b o z => kp' b o (kp b o z)))
 | int e ih =>
  intro ex W t Q hc F I ho q
  refine mH (P := λ e => WP c A (eval e env) Q (mkS x W.h t)) hc λ f y p hc => ?_
  exact dR B F I (bl (bl hc)) (u := .type "int") rfl (by decide) (kT (eN _) (br hc) (ih (br (bl hc)) F I ho λ h' t' k kp => ⟨B.inK (I.heap kp), call_int_int (q _ _ _ kp)⟩))
 | max l r h1 h2 =>
  intro ex W t Q hc F I ho q
  refine mG (P := λ e => WP c A (eval e env) Q (mkS x W.h t)) hc λ f y z p hc => ?_
  refine dR B F I (bl (bl (bl (bl hc)))) (u := .builtin "max") rfl (by decide) (BN (d6 _) (br (bl hc)) (br hc) (h1 (br (bl (bl (bl hc)))) F I ho.1 λ h' t' k kp => ?_))
  refine h2 (W := { W with h := h' }) (br (bl (bl hc))) (F.keepNo (Ext.heap kp)) (I.heap kp) (s7 kp ho.2) λ h'' t'' k' kp' => ⟨B.inK (I.heap λ b o z => kp' b o (kp b o z)), max_two_ints hh λ h3 t3 kp3 => ?_⟩
  have key : ∀ kk, Q (.int (if jv v r > jv v l then jv v r else jv v l) kk) (mkS x h3 t3) := λ kk => q h3 t3 kk λ b o z => kp3 b o (kp' b o (kp b o z))
  split
  ·rename_i hg; rw [if_pos hg] at key; exact key _
  ·rename_i hg; rw [if_neg hg] at key; exact key _
 | intGe l r h1 h2 =>
  intro ex W t Q hc F I ho q
  refine mH (P := λ e => WP c A (eval e env) Q (mkS x W.h t)) hc λ f y p hc => ?_
  refine dR B F I (bl (bl hc)) (u := .type "int") rfl (by decide) (kT (eN _) (br (bl hc)) ?_)
  refine sG (P := λ e => WP c A (eval e env) _ (mkS x W.h t)) (br hc) λ a op b p hc => ?_
  cases (beq_iff_eq.mp (bl (bl (bl hc))) : op = .GtE)
  refine wpAny_Compare1 (h1 (br (bl (bl hc))) F I ho.1 λ h' t' k kp => ?_) (m7 (br hc))
  refine h2 (W := { W with h := h' }) (br (bl hc)) (F.keepNo (Ext.heap kp)) (I.heap kp) (s7 kp ho.2) λ h'' t'' k' kp' => ?_
  refine P.ge_int ⟨B.inK (I.heap λ b o z => kp' b o (kp b o z)), call_int_bool ?_⟩
  have key : Q (.int (if jv v l >= jv v r then 1 else 0) t'') (mkS x h'' (t'' + 1)) := q h'' (t'' + 1) t'' λ b o z => kp' b o (kp b o z)
  simpa only [decide_eq_true_eq] using key
end
section
variable {c : Cx} {tc : Tc} {ev : Ev} {n : Nat} {ct : Ctr}
inductive FnSh (c : Cx) (f : Nat) (ps : List Nat) (chk : Kd -> List Stmt -> Bool) : Prop
 | mk (oc od osl name qual params body scope dV kV doc pm an cdv ct) (lk : c.K.lookup f = some ⟨oc, od, .func (fnOf name qual params body scope dV kV doc pm an cdv ct), osl⟩) (cd : codeIn c.K cdv qual = true) (co : scope.isCoroutine = false) (gen : scope.isGenerator = false) (kind : scope.kind = .function)
  (tx : chk (λ y => scope.names.lookup y) body = true) (nd : ps.Nodup) (lt : ∀ p ∈ ps, p < c.N) (bind : ∀ (s : Shared) (vals : List Value), vals.length = ps.length -> BindsTo s (fnOf name qual params body scope dV kV doc pm an cdv ct) ⟨vals, []⟩ ((ps.map c.nm).zip vals))
  (nc : ∀ x ∈ scope.names, x.2 ≠ .cell) (loc : ∀ p ∈ ps, scope.names.lookup (c.nm p) = some .local) : FnSh c f ps chk
theorem call_plain (B : TabOk c tc) {A : Around} {W : Wd} {x : Sx} {t f : Nat} {ps : List Nat} {chk : Kd -> List Stmt -> Bool} {as : List PV} {vals : List Value} {R : Result -> Shared -> Prop} (hf : FnSh c f ps chk) (hA : AOk (n + 1) A) (ra : RPs c W.G W.ρ as vals) (I : Inv c W) (hl : ps.length = as.length)
  (run : ∀ {env : Env} {body : List Stmt} {A' : Around} {h₀ : Heap} {t' : Nat}, AOk n A' -> (∀ b o, W.h.get? b = some o -> h₀.get? b = some o) -> (∀ b, Own env b -> W.h.get? b = none) -> chk env.kindOf body = true -> FrameOk c env (ps.zip as) { W with h := h₀ } -> Inv c { W with h := h₀ } ->
   WP c A' (execs body env) (λ fl s' => R (.ok (.ret (gT fl))) s') (mkS x h₀ t')) : codeAny (model c.prog c.w) A (.call (.ref f) ⟨vals, []⟩) R (mkS x W.h t) := by
 cases hf with
 | mk oc od osl name qual params body scope dV kV doc pm an cdv ct' hlk hcd hco hgen hkind hchk hnd hlt hbind hnc hloc =>
 have X := B.inK I
 have f3 := hV B.base hnd hlt ra hl
 refine codeAny_call_def (hA.depth) (X _ _ hlk) rfl (B.nol I) (codeRec_of X hcd) rfl (hbind (mkS x W.h t) vals (ra.length.trans hl.symm)) hnc (λ y hy => (f3.2.1 y hy).elim λ p z => by rw [z.2]; exact hloc p z.1) (λ h₀ hns hkeep => ?_) hco hgen hkind
 refine WP.any (wpAny_mono (run (env := callEnv (fnOf name qual params body scope dV kV doc pm an cdv ct') W.h.objs.size f) hA.deeper hkeep (λ b hb => hb.elim (λ (e : b = W.h.objs.size) => cQ (Nat.le_of_eq e.symm)) λ ⟨_, z⟩ => noS z) hchk
  ⟨hkind, rfl, rfl, λ y p hy => hlt y (f3.2.2 y p hy).1, ⟨_, hns, λ y p hy _ => ?_⟩, λ y p hy hk => (kF (hloc y (f3.2.2 y p hy).1) hk).elim, λ nn a z => noS z, λ nn hk => absurd rfl (hnc _ (bX hk)), λ _ _ a z => noS z, λ _ a z => noS z, λ b hb hd => hb.elim (λ (e : b = W.h.objs.size) => Nat.lt_irrefl _ (I.domLt (b := W.h.objs.size) (by rw [← e]; exact hd))) λ ⟨_, z⟩ => noS z⟩ (I.heap hkeep)) (λ fl s' h => h) λ _ _ z => z)
 exact (f3.2.2 y p hy).2.elim λ v z => ⟨v, iX (by rw [List.map_reverse]; exact List.pairwise_reverse.mpr (f3.1.imp λ h => h.symm)) (List.mem_reverse.mpr z.1), z.2⟩
end
noncomputable def lQ (tc : Tc) (kd : Kd) (y : Nat) (e : JE) (s : Stmt) : Bool := pM s λ t v => jO t λ id => id == tc.nm y && decide (y < tc.N) && (kd id == some .local || kd id == some .cell) && xZ tc kd e v && dQ v
def E9 (tc : Tc) (kd : Kd) (y : Nat) (k : Bool) (e : JE) (s : Stmt) : Bool := pM s λ t v => AA t λ o i => tP tc kd y o && J6 (if k then 1 else 0) i && xZ tc kd e v && dQ v
def FD (tc : Tc) (kd : Kd) (op : CmpOp) (l r : JE) (e : Expr) : Bool := yU e λ a o b => op == o && xZ tc kd l a && xZ tc kd r b && aA b
section
variable {c : Cx} {tc : Tc}
theorem FR (B : TabOk c tc) {v : Vl} {vs : Vs} {y : Nat} {e : JE} {st : Stmt} {A : Around} {env : Env} {W : Wd} {x : Sx} {t : Nat} {Q : Flow -> Shared -> Prop} (hh : A.handled = none) (hc : lQ tc env.kindOf y e st = true) (F : FrameOk c env vs W) (I : Inv c W) (ho : jok v vs W e)
  (q : ∀ h' t', (∀ b o, ¬ Own env b -> W.h.get? b = some o -> h'.get? b = some o) -> Ext (Own env) W.ρ.length W { W with h := h' } -> Inv c { W with h := h' } -> FrameOk c env (put vs y (.f (.int (jv v e)))) { W with h := h' } -> Q .next (mkS x h' t')) : WP c A (exec st env) Q (mkS x W.h t) := by
 refine jU (P := λ st => WP c A (exec st env) Q (mkS x W.h t)) hc λ tg ex pos hc => dW (P := λ tg => WP c A (exec (.Assign [tg] ex pos) env) Q (mkS x W.h t)) hc λ id p hc => ?_
 cases B.id (bl (bl (bl (bl hc))))
 refine wpAny_Assign_Name (kM B hh (br (bl hc)) F I ho λ h' t' k kp => ?_) (eI (br hc))
 have e1 : Ext No W.ρ.length W { W with h := h' } := Ext.heap kp
 refine cW (W := { W with h := h' }) B.base (F.keepNo e1) (I.heap kp) (B.lt (br (bl (bl (bl hc))))) (DY (br (bl (bl hc)))) (.f (.int _ k)) λ h'' tk' hs e' I' F' => ?_
 refine q h'' tk' (λ b o hb hbo => ?_) (Ext.trans (I.heap kp) (Nat.le_refl _) (e1.weaken (Nat.le_refl _) λ _ z => z.elim) e') I' F'
 have hbo' := kp b o hbo
 rcases hs with hs | ⟨a, ha, hs⟩
 ·exact (hs.2 b λ z => hb (.inl z)).trans hbo'
 ·exact (hs.2 b λ z => hb (.inr ⟨_, z ▸ ha⟩)).trans hbo'
theorem ifJ (B : TabOk c tc) {v : Vl} {vs : Vs} {l r : JE} {op : CmpOp} {e : Expr} {A : Around} {env : Env} {W : Wd} {x : Sx} {t : Nat} {Q : Bool -> Shared -> Prop} (hh : A.handled = none) (hc : FD tc env.kindOf op l r e = true) (F : FrameOk c env vs W) (I : Inv c W) (hl : jok v vs W l) (hr : jok v vs W r)
  (hop : op = .Gt \/ op = .Lt) (q : ∀ h' t', (∀ b o, W.h.get? b = some o -> h'.get? b = some o) -> Q (if op = .Gt then decide (jv v r < jv v l) else decide (jv v l < jv v r)) (mkS x h' t')) : WP c A (isTrue e env (eval e env)) Q (mkS x W.h t) := by
 refine sG (P := λ e => WP c A (isTrue e env (eval e env)) Q (mkS x W.h t)) hc λ l' op' r' p hc => ?_
 cases (beq_iff_eq.mp (bl (bl (bl hc))) : op = op')
 refine wpAny_isTrue_Compare1 (kM B hh (br (bl (bl hc))) F I hl λ h' t' k kp => ?_) (m7 (br hc))
 refine kM (W := { W with h := h' }) B hh (br (bl hc)) (F.keepNo (Ext.heap kp)) (I.heap kp) (s7 kp hr) λ h'' t'' k' kp' => ?_
 have key := q h'' t'' λ b o z => kp' b o (kp b o z)
 rcases hop with rfl | rfl
 ·exact P.gt_int (wpAny_truthy_bool key)
 ·exact P.lt_int (wpAny_truthy_bool key)
theorem uM {α : Type} {l : List α} : ∀ {i : Nat} {a : α}, nth l i = some a -> a9 l i a = l := by induction l with
 | nil => exact λ h => noS h
 | cons x r ih => intro i a h; cases i with
  | zero => cases h; rfl
  | succ i => exact congrArg (x :: ·) (ih h)
theorem QY (B : TabOk c tc) {v : Vl} {vs : Vs} {y j : Nat} {p : Nat × Nat} {t1 t2 : Tok} {k : Bool} {e : JE} {st : Stmt} {A : Around} {env : Env} {W : Wd} {x : Sx} {t : Nat} {Q : Flow -> Shared -> Prop} {a' b' : Int} (hh : A.handled = none) (hc : E9 tc env.kindOf y k e st = true) (F : FrameOk c env vs W) (I : Inv c W) (ho : jok v vs W e)
  (hl : look vs y = some (.ref j)) (hj : nth W.H j = some .src) (hp : nth W.ρ j = some p) (hs : W.h.IsList p.1 #[.int v.a t1, .int v.b t2]) (ha : a' = if k then v.a else jv v e) (hb : b' = if k then jv v e else v.b) (a0 : 0 <= a') (b0 : 0 <= b') (b1 : b' < 2147483647)
  (q : ∀ h' t' t1' t2', Ext No W.ρ.length W { W with h := h' } -> Inv c { W with h := h' } -> h'.IsList p.1 #[.int a' t1', .int b' t2'] -> Q .next (mkS x h' t')) : WP c A (exec st env) Q (mkS x W.h t) := by
 refine jU (P := λ st => WP c A (exec st env) Q (mkS x W.h t)) hc λ tg ex pos hc => p8 (P := λ tg => WP c A (exec (.Assign [tg] ex pos) env) Q (mkS x W.h t)) hc λ o i p' hc => ?_
 refine wpAny_Assign_Subscript (kM B hh (br (bl hc)) F I ho λ h' t' kk kp => ?_) (eI (br hc))
 have F1 : FrameOk c env vs { W with h := h' } := F.keepNo (Ext.heap kp)
 refine eP (W := { W with h := h' }) B F1 (bl (bl (bl hc))) hl λ u r => RP.refE r λ pa er => ?_
 ·cases hp.symm.trans er
  refine tI (br (bl (bl hc))) ?_
  have hs' : h'.IsList p.1 #[.int v.a t1, .int v.b t2] := ⟨_, kp _ _ hs.choose_spec.1, hs.choose_spec.2⟩
  have fin : ∀ (h'' : Heap) (t1' t2' : Tok) (t'' : Nat), h''.IsList p.1 #[.int a' t1', .int b' t2'] -> Heap.SameBut p.1 h' h'' -> Q .next (mkS x h'' t'') := by
   intro h'' t1' t2' t'' g sb
   have kk : ∀ b o, b ∉ fpA .src p -> h'.get? b = some o -> h''.get? b = some o := λ b o hb e => (sb.2 b (λ z => hb (by rw [z]; exact .head _))).trans e
   have I1 : Inv c { W with h := h' } := I.heap kp
   have I2 := Inv.turn (ao' := .src) I1 hj hp kk (λ _ hb => hb) (λ _ _ z => by cases z) (.src g a0 b0 b1)
   have e2 : Ext No W.ρ.length { W with h := h' } _ := Ext.turn (ao' := .src) (i := j) (p := p) (W := { W with h := h' }) hj hp kk (λ _ hb => hb) (λ b hb => by rw [List.mem_singleton.mp hb]; exact ⟨_, g.choose_spec.1⟩)
   have hH : a9 W.H j AO.src = W.H := uM hj
   dsimp only at I2 e2
   rw [hH] at I2 e2
   exact q h'' t'' t1' t2' (Ext.trans I1 (Nat.le_refl _) (Ext.heap kp) e2) I2 g
  cases k
  ·refine wpAny_setItem_list hs' (by decide) (by decide) (by simp) λ h'' g sb => fin h'' kk t2 _ ?_ sb
   rw [ha, hb]
   exact g
  ·refine wpAny_setItem_list hs' (by decide) (by decide) (by simp) λ h'' g sb => fin h'' t1 kk _ ?_ sb
   rw [ha, hb]
   exact g
abbrev jA : JE := .at 31 false
abbrev jB : JE := .at 31 true
abbrev jT1 : JE := .bin .Mod (.int jA) (.var 194)
abbrev jT2 : JE := .bin .FloorDiv jA (.var 194)
abbrev jT3 : JE := .bin .Mod (.int (.bin .Add (.bin .Mult jB (.cst 39373)) (.cst 7))) (.cst 2147483647)
abbrev jT4 : JE := .bin .Mod (.int (.bin .FloorDiv (.bin .Mod (.int (.bin .Mult jB jB)) (.cst 2147483629)) (.cst 32))) (.var 194)
def vL3 {α : Type} (l : List α) (g : α -> α -> α -> Bool) : Bool := List.casesOn (motive := λ _ => Bool) l false λ a t => z9 t (g a)
theorem L2 {α : Type} {P : List α -> Prop} {l : List α} {g : α -> α -> α -> Bool} (h : vL3 l g = true) (k : ∀ a b c, g a b c = true -> P [a, b, c]) : P l := by cases l with
 | nil => exact ff h
 | cons a t => exact uA (P := λ t => P (a :: t)) h (k a)
def tN (s : Stmt) (g : Expr -> Bool) : Bool := HD s λ o => yS o g
theorem tM {P : Stmt -> Prop} {s : Stmt} {g : Expr -> Bool} (h : tN s g = true) (k : ∀ e p, g e = true -> P (.Return (some e) p)) : P s := C4 h λ o p h => wG (P := λ o => P (.Return o p)) h λ e h => k e p h
def PU (tc : Tc) (kd : Kd) (b : List Stmt) : Bool := vL3 b λ u1 u2 u3 => lQ tc kd 195 jT1 u1 && E9 tc kd 31 false jT2 u2 && tN u3 (tP tc kd 195)
noncomputable def tL (tc : Tc) (kd : Kd) (body : List Stmt) : Bool := vL3 body λ s1 s2 s3 => sIf s1 (λ t a b => FD tc kd .Gt jA (.cst 0) t && PU tc kd a && jN b) && E9 tc kd 31 true jT3 s2 && tN s3 (xZ tc kd jT4)
theorem iK {a n : Int} (h : 0 < n) : 0 <= a.fmod n /\ a.fmod n < n := ⟨Int.fmod_nonneg_of_pos a h, Int.fmod_lt_of_pos a h⟩
theorem AU {a : Int} (h0 : 0 <= a) (h1 : a < 2147483647) : a.natAbs < 2 ^ 62 := by omega
abbrev vsT (i n : Nat) : Vs := [31, 194].zip [PV.ref i, PV.f (.int (.ofNat n))]
theorem JF (B : TabOk c tc) (hf : FnSh c 976 [31, 194] (tL tc)) {r : Nat} {A : Around} {W : Wd} {x : Sx} {t i n : Nat} {vals : List Value} {R : Result -> Shared -> Prop} (hA : AOk (r + 1) A) (ra : RPs c W.G W.ρ [.ref i, .f (.int (.ofNat n))] vals) (I : Inv c W) (hi : nth W.H i = some .src) (h0 : 0 < n) (h1 : n < 100)
  (h : bC c No W.ρ.length W x (RE c) (λ v s' => R (.ok (.ret v)) s') (.take n λ d => .ret (.f (.int (.ofNat d)), W.H))) : codeAny (model c.prog c.w) A (.call (.ref 976) ⟨vals, []⟩) R (mkS x W.h t) := by
 refine call_plain (n := r) B hf hA ra I rfl λ {env body A' h₀ t'} hA' kp fr hc F I0 => ?_
 have hh := hA'.1
 have hp : ∃ p, nth W.ρ i = some p := by obtain ⟨_, _, rfl, a, _⟩ := ra.inv; exact RP.refE (P := λ _ => ∃ p, nth W.ρ i = some p) a λ q e => ⟨q, e⟩
 obtain ⟨p, hp⟩ := hp
 obtain ⟨a, b, t1, t2, hs, a0, b0, b1⟩ := I0.at hi hp
 have hn : (0 : Int) < (n : Int) := Int.natCast_pos.mpr h0
 have hn0 : (n : Int) ≠ 0 := Int.ne_of_gt hn
 have l1 : look (vsT i n) 31 = some (.ref i) := rfl
 have l2 : look (vsT i n) 194 = some (.f (.int (.ofNat n))) := rfl
 have fin : ∀ (h' : Heap) (t'' : Nat) (d : Int) (k : Tok), Ext (Own env) W.ρ.length { W with h := h₀ } { W with h := h' } -> Inv c { W with h := h' } -> 0 <= d -> d < n -> R (.ok (.ret (.int d k))) (mkS x h' t'') := by
  intro h' t'' d k e I' d0 d1
  obtain ⟨m, rfl⟩ := Int.eq_ofNat_of_zero_le d0
  have e0 : Ext No W.ρ.length W { W with h := h₀ } := Ext.heap kp
  exact h m (Int.ofNat_lt.mp d1) { W with h := h' } _ t'' ((Ext.trans I0 (Nat.le_refl _) (e0.weaken (Nat.le_refl _) λ _ z => z.elim) e).unX λ b hb _ => fr b hb) I' ⟨rfl, .f (.int _ k)⟩
 refine L2 (P := λ body => WP c A' (execs body env) (λ fl s' => R (.ok (.ret (gT fl))) s') (mkS x h₀ t')) hc λ s1 s2 s3 hc => ?_
 refine NN (P := λ s1 => WP c A' (execs [s1, s2, s3] env) (λ fl s' => R (.ok (.ret (gT fl))) s') (mkS x h₀ t')) (bl (bl hc)) λ te tb eb pos c1 => eQ (P := λ eb => WP c A' (execs [.If te tb eb pos, s2, s3] env) (λ fl s' => R (.ok (.ret (gT fl))) s') (mkS x h₀ t')) (br c1) ?_
 have sA : ∀ (W' : Wd), W'.ρ = W.ρ -> W'.h.IsList p.1 #[.int a t1, .int b t2] -> pC (vsT i n) W' 31 a b := λ W' e hl => ⟨i, p, t1, t2, l1, by rw [e]; exact hp, hl⟩
 refine wpAny_execs_cons (wpAny_If (ifJ (v := ⟨λ _ => n, a, b, 0, 0⟩) (W := { W with h := h₀ }) B hh (bl (bl c1)) F I0 (sA _ rfl hs) trivial (.inl rfl) λ h2 t2' kp2 => ?_))
 have F2 : FrameOk c env (vsT i n) { W with h := h2 } := F.keepNo (Ext.heap (W := { W with h := h₀ }) kp2)
 have I2 : Inv c { W with h := h2 } := I0.heap kp2
 have E2 : Ext (Own env) W.ρ.length { W with h := h₀ } { W with h := h2 } := Ext.heap (W := { W with h := h₀ }) kp2
 have hs2 : h2.IsList p.1 #[.int a t1, .int b t2] := ⟨_, kp2 _ _ hs.choose_spec.1, hs.choose_spec.2⟩
 rw [if_pos rfl]
 show (if decide (0 < a) = true then _ else _)
 by_cases ha : 0 < a
 ·rw [if_pos (decide_eq_true ha)]
  refine L2 (P := λ tb => WP c A' (execs tb env) _ (mkS x h2 t2')) (br (bl c1)) λ u1 u2 u3 d => ?_
  refine wpAny_execs_cons (FR (v := ⟨λ _ => n, a, b, 0, 0⟩) (W := { W with h := h2 }) B hh (bl (bl d)) F2 I2 ⟨sA _ rfl hs2, l2, hn0⟩ λ h3 t3 kp3 E3 I3 F3 => ?_)
  have hs3 : h3.IsList p.1 #[.int a t1, .int b t2] := ⟨_, kp3 _ _ (λ z => F2.own _ z (.inl ⟨i, .src, p, hi, hp, .head _⟩)) hs2.choose_spec.1, hs2.choose_spec.2⟩
  refine wpAny_execs_cons (QY (v := ⟨λ _ => n, a, b, 0, 0⟩) (W := { W with h := h3 }) B hh (br (bl d)) F3 I3 ⟨⟨i, p, t1, t2, l1, hp, hs3⟩, l2, hn0, by show (n : Int).natAbs < _; omega⟩ l1 hi hp hs3 rfl rfl (Int.fdiv_nonneg a0 (Int.natCast_nonneg n)) b0 b1 λ h4 t4 t5 t6 E4 I4 hs4 => ?_)
  refine tM (P := λ u3 => WP c A' (execs [u3] env) _ (mkS x h4 t4)) (br d) λ e5 pos5 d3 => ?_
  refine wpAny_execs_cons (wpAny_Return_some (eP (W := { W with h := h4 }) B (F3.keepNo E4) d3 rfl λ u ru => RF.intE ru.fE λ k => ?_))
  exact fin h4 t4 _ k (Ext.trans I2 (Nat.le_refl _) E2 (Ext.trans I3 (Nat.le_refl _) E3 (E4.weaken (Nat.le_refl _) λ _ z => z.elim))) I4 (iK hn).1 (iK hn).2
 ·rw [if_neg (by rw [decide_eq_true_iff]; exact ha)]
  refine wpAny_execs_nil ?_
  have z := iK (a := jv ⟨λ _ => n, a, b, 0, 0⟩ (.int (.bin .Add (.bin .Mult jB (.cst 39373)) (.cst 7)))) (n := 2147483647) (by decide)
  refine wpAny_execs_cons (QY (v := ⟨λ _ => n, a, b, 0, 0⟩) (W := { W with h := h2 }) B hh (br (bl hc)) F2 I2 ⟨⟨⟨sA _ rfl hs2, trivial, .inr (by show (39373 : Int).natAbs < _; decide)⟩, trivial, trivial⟩, trivial, by show (2147483647 : Int) ≠ 0; decide⟩ l1 hi hp hs2 rfl rfl a0 z.1 z.2 λ h4 t4 t5 t6 E4 I4 hs4 => ?_)
  have sB : pC (vsT i n) { W with h := h4 } 31 a (jv ⟨λ _ => n, a, b, 0, 0⟩ jT3) := ⟨i, p, t5, t6, l1, hp, hs4⟩
  refine tM (P := λ s3 => WP c A' (execs [s3] env) _ (mkS x h4 t4)) (br hc) λ e3 pos3 c3 => ?_
  refine wpAny_execs_cons (wpAny_Return_some (kM (v := ⟨λ _ => n, a, jv ⟨λ _ => n, a, b, 0, 0⟩ jT3, 0, 0⟩) (W := { W with h := h4 }) B hh c3 (F2.keepNo E4) I4 ⟨⟨⟨⟨sB, sB, .inl ?_⟩, trivial, by show (2147483629 : Int) ≠ 0; decide⟩, trivial, by show (32 : Int) ≠ 0 /\ (32 : Int).natAbs < _; decide⟩, l2, hn0⟩ λ h5 t7 k kp5 => ?_))
  ·show Int.natAbs (Int.fmod _ 2147483647) < _
   exact AU z.1 z.2
  ·exact fin h5 t7 _ k (Ext.trans I2 (Nat.le_refl _) E2 ((Ext.trans I4 (Nat.le_refl _) E4 (Ext.heap kp5)).weaken (Nat.le_refl _) λ _ z => z.elim)) (I4.heap kp5) (iK hn).1 (iK hn).2
end
abbrev H7 : JE := .max (.int (.var 196)) (.int (.bin .Sub (.neg (.cst 1)) (.var 196)))
noncomputable abbrev jIn : JE := .int (.bin .Mult (.bin .Add (.bin .Add (.bin .Add (.bin .Mod (.int (.var 197)) (.cst 2147483629)) (.bin .Mult (.bin .Mult (.cst 7919) (.var 193)) (.var 193))) (.bin .Mult (.cst 31) (.var 193))) (.cst 17)) (.cst 48271))
abbrev D4 : JE := .bin .Mod jIn (.cst 2147483647)
abbrev jHd : JE := .bin .Mult (.var 197) (.intGe (.var 197) (.bin .Pow (.cst 10) (.cst 18)))
def FA (tc : Tc) (kd : Kd) (s : Stmt) : Bool := tN s λ e => L1 e λ l => z9 l λ a b => xZ tc kd jHd a && tP tc kd 198 b && aA a && aA b
noncomputable def vL5 {α : Type} (l : List α) (g : α -> α -> α -> α -> α -> Bool) : Bool := List.casesOn (motive := λ _ => Bool) l false λ a t => List.casesOn (motive := λ _ => Bool) t false λ b t => vL3 t (g a b)
theorem UV {α : Type} {P : List α -> Prop} {l : List α} {g : α -> α -> α -> α -> α -> Bool} (h : vL5 l g = true) (k : ∀ a b c d e, g a b c d e = true -> P [a, b, c, d, e]) : P l := by cases l with
 | nil => exact ff h
 | cons a t => cases t with
  | nil => exact ff h
  | cons b t => exact L2 (P := λ t => P (a :: b :: t)) h (k a b)
noncomputable def tO (tc : Tc) (kd : Kd) (body : List Stmt) : Bool := vL5 body λ s1 s2 s3 s4 s5 => lQ tc kd 196 (.cst 0) s1 && sIf s2 (λ t a b => FD tc kd .Lt (.var 193) (.len 157) t && mE a (lQ tc kd 196 (.item 157 193)) && jN b) && lQ tc kd 197 H7 s3 && lQ tc kd 198 D4 s4 && FA tc kd s5
section
variable {c : Cx} {tc : Tc}
abbrev vsP (xs : List FV) : Vs := [(157, .f (.lst xs)), (193, .f (.int 0))]
theorem qJ (B : TabOk c tc) {A : Around} {env : Env} {W : Wd} {x : Sx} {t : Nat} {xs : List FV} {cv : Int} {s3 s4 s5 : Stmt} {Q : Flow -> Shared -> Prop} (hh : A.handled = none) (c1 : lQ tc env.kindOf 197 H7 s3 = true) (c2 : lQ tc env.kindOf 198 D4 s4 = true)
  (c3 : FA tc env.kindOf s5 = true) (F : FrameOk c env (vsP xs ++ [(196, .f (.int cv))]) W) (I : Inv c W)
  (q : ∀ W' tk u, Ext (Own env) W.ρ.length W W' -> Inv c W' -> W'.H = W.H ++ [.src] -> RP c W'.G W'.ρ (.ref W.H.length) u -> Q (.ret u) (mkS x W'.h tk)) : WP c A (execs [s3, s4, s5] env) Q (mkS x W.h t) := by
 refine tM (P := λ s5 => WP c A (execs [s3, s4, s5] env) Q (mkS x W.h t)) c3 λ er pos c3 => B8 (P := λ er => WP c A (execs [s3, s4, .Return (some er) pos] env) Q (mkS x W.h t)) c3 λ l pos2 c3 => uA (P := λ l => WP c A (execs [s3, s4, .Return (some (.List l pos2)) pos] env) Q (mkS x W.h t)) c3 λ e1 e2 c3 => ?_
 have d1 := bl (bl (bl c3))
 have d2 := br (bl (bl c3))
 refine wpAny_execs_cons (FR (v := ⟨λ _ => cv, 0, 0, 0, 0⟩) B hh c1 F I ⟨rfl, trivial, rfl, trivial⟩ λ h1 t1 k1 E1 I1 F1 => ?_)
 have hbig : 0 <= jv ⟨λ _ => cv, 0, 0, 0, 0⟩ H7 := by
  show (0 : Int) <= if -1 - cv > cv then -1 - cv else cv
  split <;> omega
 generalize jv ⟨λ _ => cv, 0, 0, 0, 0⟩ H7 = bg at hbig F1
 refine wpAny_execs_cons (FR (v := ⟨λ i => if i = 197 then bg else 0, 0, 0, 0, 0⟩) (W := { W with h := h1 }) B hh c2 F1 I1 ⟨⟨⟨⟨⟨⟨rfl, trivial, by show (2147483629 : Int) ≠ 0; decide⟩, ⟨⟨trivial, rfl, .inl (by show (7919 : Int).natAbs < _; decide)⟩, rfl, .inr (by show (0 : Int).natAbs < _; decide)⟩, trivial⟩, ⟨trivial, rfl, .inl (by show (31 : Int).natAbs < _; decide)⟩, trivial⟩, trivial, trivial⟩, trivial, .inr (by show (48271 : Int).natAbs < _; decide)⟩, trivial, by show (2147483647 : Int) ≠ 0; decide⟩ λ h2 t2 k2 E2 I2 F2 => ?_)
 have hm := iK (a := jv ⟨λ i => if i = 197 then bg else 0, 0, 0, 0, 0⟩ jIn) (n := 2147483647) (by decide)
 have hm1 : 0 <= jv ⟨λ i => if i = 197 then bg else 0, 0, 0, 0, 0⟩ D4 := hm.1
 have hm2 : jv ⟨λ i => if i = 197 then bg else 0, 0, 0, 0, 0⟩ D4 < 2147483647 := hm.2
 generalize jv ⟨λ i => if i = 197 then bg else 0, 0, 0, 0, 0⟩ D4 = mx at hm1 hm2 F2
 refine wpAny_execs_cons (wpAny_Return_some (wpAny_List (spliced_more (kM (v := ⟨λ i => if i = 197 then bg else 0, 0, 0, 0, 0⟩) (W := { W with h := h2 }) B hh d1 F2 I2 ⟨rfl, ⟨rfl, trivial, trivial, rfl, rfl⟩, .inr ?_⟩ λ h3 t3 k3 kp3 => ?_) (aX (br (bl c3))))))
 ·show Int.natAbs (if _ then (1 : Int) else 0) < _
  split <;> decide
 have hd0 : 0 <= jv ⟨λ i => if i = 197 then bg else 0, 0, 0, 0, 0⟩ jHd := by
  show 0 <= bg * (if _ then (1 : Int) else 0)
  split <;> omega
 generalize jv ⟨λ i => if i = 197 then bg else 0, 0, 0, 0, 0⟩ jHd = hd at hd0
 have F3 := F2.keepNo (Ext.heap (W := { W with h := h2 }) kp3)
 have I3 : Inv c { W with h := h3 } := I2.heap kp3
 refine spliced_more (eP (W := { W with h := h3 }) B F3 d2 rfl λ u ru => spliced_none ⟨aL (by simp), ?_⟩) (aX (br c3))
 obtain ⟨tk, rfl⟩ := ru.fE.inv
 obtain ⟨W', g1, g2, g3, g4, I', e', r'⟩ := zB (W := { W with h := h3 }) (X := No) (k := W.ρ.length) (o := { cls := .type "list", data := .seq [.int hd k3, .int mx tk].toArray }) (ao := .src) I3 rfl rfl (λ _ _ z => nomatch z) (λ ho => .src ⟨_, ho, rfl, _, rfl⟩ hd0 hm1 hm2)
 exact g4 ▸ q W' t3 _ (Ext.trans I1 (Nat.le_refl _) E1 (Ext.trans I2 (Nat.le_refl _) E2 (Ext.trans I3 (Nat.le_refl _) (Ext.heap (W := { W with h := h2 }) kp3) (e'.weaken (Nat.le_refl _) λ _ z => z.elim)))) I' g3 r'
theorem JG (B : TabOk c tc) (hf : FnSh c 969 [157, 193] (tO tc)) {r : Nat} {A : Around} {W : Wd} {x : Sx} {t : Nat} {xs : List FV} {is : List Int} {vals : List Value} {R : Result -> Shared -> Prop} (hA : AOk (r + 1) A) (ra : RPs c W.G W.ρ [.f (.lst xs), .f (.int 0)] vals) (I : Inv c W) (hx : fD xs = some is)
  (h : bC c No W.ρ.length W x (RE c) (λ v s' => R (.ok (.ret v)) s') (.ret (.ref W.H.length, W.H ++ [.src]))) : codeAny (model c.prog c.w) A (.call (.ref 969) ⟨vals, []⟩) R (mkS x W.h t) := by
 refine call_plain (n := r) B hf hA ra I rfl λ {env body A' h₀ t'} hA' kp fr hc F I0 => ?_
 have hh := hA'.1
 have fin : ∀ W₁ : Wd, Ext (Own env) W.ρ.length { W with h := h₀ } W₁ -> W₁.H = W.H -> ∀ W' tk u, Ext (Own env) W₁.ρ.length W₁ W' -> Inv c W₁ -> Inv c W' -> W'.H = W₁.H ++ [.src] -> W.ρ.length <= W₁.ρ.length -> RP c W'.G W'.ρ (.ref W₁.H.length) u -> R (.ok (.ret (gT (.ret u)))) (mkS x W'.h tk) := by
  intro W₁ e1 eH W' tk u e2 I1 I' hH hl ru
  have e0 : Ext No W.ρ.length W { W with h := h₀ } := Ext.heap kp
  have e3 : Ext No W.ρ.length W W' := (Ext.trans I0 (Nat.le_refl _) (e0.weaken (Nat.le_refl _) λ _ z => z.elim) (Ext.trans I1 (Nat.le_refl _) e1 (e2.weaken hl λ _ z => z))).unX λ b hb _ => fr b hb
  rw [eH] at hH ru
  exact h W' _ tk e3 I' ⟨hH, ru⟩
 refine UV (P := λ body => WP c A' (execs body env) (λ fl s' => R (.ok (.ret (gT fl))) s') (mkS x h₀ t')) hc λ s1 s2 s3 s4 s5 hc => ?_
 refine NN (P := λ s2 => WP c A' (execs [s1, s2, s3, s4, s5] env) (λ fl s' => R (.ok (.ret (gT fl))) s') (mkS x h₀ t')) (br (bl (bl (bl hc)))) λ te tb eb pos d => eQ (P := λ eb => WP c A' (execs [s1, .If te tb eb pos, s3, s4, s5] env) (λ fl s' => R (.ok (.ret (gT fl))) s') (mkS x h₀ t')) (br d) ?_
 refine wpAny_execs_cons (FR (v := ⟨λ _ => 0, 0, 0, 0, 0⟩) (W := { W with h := h₀ }) B hh (bl (bl (bl (bl hc)))) F I0 trivial λ h1 t1 k1 E1 I1 F1 => ?_)
 have F1 : FrameOk c env (vsP xs ++ [(196, .f (.int 0))]) { W with h := h1 } := F1
 refine wpAny_execs_cons (wpAny_If (ifJ (v := ⟨λ _ => 0, 0, 0, 0, xs.length⟩) (W := { W with h := h1 }) B hh (bl (bl d)) F1 I1 rfl ⟨xs, rfl, rfl⟩ (.inr rfl) λ h2 t2 kp2 => ?_))
 have F2 := F1.keepNo (Ext.heap (W := { W with h := h1 }) kp2)
 have I2 : Inv c { W with h := h2 } := I1.heap kp2
 have E2 : Ext (Own env) W.ρ.length { W with h := h₀ } { W with h := h2 } := Ext.trans I1 (Nat.le_refl _) E1 (Ext.heap (W := { W with h := h1 }) kp2)
 rw [if_neg (show ¬ (CmpOp.Lt = CmpOp.Gt) from λ z => nomatch z)]
 show (if decide ((0 : Int) < xs.length) = true then _ else _)
 cases xs with
 | nil =>
  refine wpAny_execs_nil ?_
  exact qJ (W := { W with h := h2 }) B hh (br (bl (bl hc))) (br (bl hc)) (br hc) F2 I2 λ W' tk u e I' hH ru => fin { W with h := h2 } E2 rfl W' tk u e I2 I' hH (Nat.le_refl _) ru
 | cons y ys =>
  rw [if_pos (show decide ((0 : Int) < ((y :: ys).length : Nat)) = true from decide_eq_true (Int.natCast_pos.mpr (Nat.succ_pos _)))]
  refine oOE hx λ i0 hy _ => ?_
  cases eG hy
  refine iV (P := λ tb => WP c A' (execs tb env) _ (mkS x h2 t2)) (br (bl d)) λ u d2 => ?_
  refine wpAny_execs_cons (FR (v := ⟨λ _ => 0, 0, 0, i0, 0⟩) (W := { W with h := h2 }) B hh d2 F2 I2 ⟨⟨ys, rfl⟩, rfl⟩ λ h3 t3 k3 E3 I3 F3 => wpAny_execs_nil ?_)
  have F3 : FrameOk c env (vsP (.int i0 :: ys) ++ [(196, .f (.int i0))]) { W with h := h3 } := F3
  exact qJ (W := { W with h := h3 }) B hh (br (bl (bl hc))) (br (bl hc)) (br hc) F3 I3 λ W' tk u e I' hH ru => fin { W with h := h3 } (Ext.trans I2 (Nat.le_refl _) E2 E3) rfl W' tk u e I3 I' hH (Nat.le_refl _) ru
end
section
variable {c : Cx} {tc : Tc}
theorem qT {H : Hp} {p : PV} (h : D6 H p = true) : ∃ i, p = .ref i /\ nth H i = some .src := DG h λ i hi h => DG h λ ao ha h => ⟨i, eE hi, by
 cases ao with
 | src => exact ha
 | _ => exact ff h⟩
theorem KV {β : Type} {as : List PV} {k : PV -> PV -> Option β} {y : β} {G : List PV -> Prop} (h : L8 as k = some y) (g : ∀ p q, k p q = some y -> G [p, q]) : G as := by cases as with
 | nil => exact noS h
 | cons p t => cases t with
  | nil => exact noS h
  | cons q u => cases u with
   | nil => exact g p q h
   | cons _ _ => exact noS h
theorem v9 {q : PV} {n : Nat} (h : BW q = some n) : q = .f (.int (.ofNat n)) := oOE h λ i hi h => oOE hi λ v hv hi => by
 rw [bO hv, eG hi]
 cases i with
 | ofNat k => cases h; rfl
 | negSucc k => exact noS h
theorem FT {q : PV} {xs : List FV} (h : yI q = some xs) : q = .f (.lst xs) := oOE h λ v hv h => by rw [bO hv, dK h]
theorem PQ (B : TabOk c tc) (h1 : FnSh c 976 [31, 194] (tL tc)) (h2 : FnSh c 969 [157, 193] (tO tc)) : d9 c ct0 1 := by
 intro A W x t f as vals R tr hA ra I htr h
 unfold ct0 at htr
 cases q1 : Nat.beq f 976 with
 | true =>
  rw [q1] at htr
  cases kA.mp q1
  refine KV (G := λ as => RPs c W.G W.ρ as vals -> _) htr (λ p q htr ra => ?_) ra
  have g := gOE htr
  refine oOE g.2 λ n hn g2 => ?_
  have g3 := gOE g2
  have g4 := gOE g3.2
  obtain ⟨i, rfl, hi⟩ := qT g.1
  rw [v9 hn] at ra
  cases g4.2
  exact JF (r := 0) B h1 hA ra I hi (Nat.blt_eq.mp g3.1) (Nat.blt_eq.mp g4.1) h
 | false =>
  rw [q1] at htr
  cases q2 : Nat.beq f 969 with
  | false => rw [q2] at htr; exact noS htr
  | true =>
   rw [q2] at htr
   cases kA.mp q2
   refine KV (G := λ as => RPs c W.G W.ρ as vals -> _) htr (λ p q htr ra => ?_) ra
   refine oOE htr λ xs hx htr => oOE htr λ n hn htr => ?_
   have g := gOE htr
   cases kA.mp g.1
   rw [FT hx, v9 hn] at ra
   cases g.2
   exact JG (r := 0) B h2 hA ra I h.1.choose_spec h.2
end
theorem uN {α β : Type} (a : α) (f : α -> Sem β) : (pure a >>= f) = f a := rfl
theorem G4 {β : Type} (f : Option (Array Value) -> Sem β) : (seqItems? Value.none >>= f) = f none := rfl
theorem t9 : ∀ {ns : List Str} {vals : List Value}, vals.length = ns.length -> ∀ n ∈ ns, ((ns.zip vals).lookup n).isSome = true
 | [], _, _, n, h => by cases h
 | x :: r, [], h, _, _ => by cases h
 | x :: r, v :: vs, h, n, hn => by
  rw [List.zip_cons_cons, List.lookup_cons]
  cases q : n == x with
  | true => rfl
  | false =>
   rcases List.mem_cons.mp hn with e | hn
   ·rw [e, beq_self_eq_true] at q; cases q
   ·exact t9 (Nat.succ.inj h) n hn
theorem g7 {α β : Type} {f g : α -> Option β} : ∀ {l : List α}, (∀ x ∈ l, f x = g x) -> l.filterMap f = l.filterMap g
 | [], _ => rfl
 | x :: r, h => by
  rw [List.filterMap_cons, List.filterMap_cons, h x (.head _), g7 λ y hy => h y (.tail _ hy)]
theorem yQ : ∀ {ns : List Str} {vals : List Value}, vals.length = ns.length -> ns.Nodup -> ns.filterMap (λ n => ((ns.zip vals).lookup n).map (n, ·)) = ns.zip vals
 | [], _, _, _ => rfl
 | x :: r, [], h, _ => by cases h
 | x :: r, v :: vs, h, nd => by
  obtain ⟨n1, n2⟩ := List.nodup_cons.mp nd
  rw [List.zip_cons_cons, List.filterMap_cons]
  have e : (List.lookup x ((x, v) :: r.zip vs)) = some v := by rw [List.lookup_cons, beq_self_eq_true]
  rw [e]
  show (x, v) :: r.filterMap (λ n => (List.lookup n ((x, v) :: r.zip vs)).map (n, ·)) = _
  congr 1
  refine Eq.trans (g7 λ n hn => ?_) (yQ (Nat.succ.inj h) n2)
  rw [List.lookup_cons]
  have : (n == x) = false := by
   cases q : n == x with
   | false => rfl
   | true => exact absurd (beq_iff_eq.mp q ▸ hn) n1
  rw [this]
theorem x8 {fd : FuncData} {ns : List Str} {vals : List Value} (hp : fd.params.posonlyargs = []) (ha : fd.params.args.map (·.arg) = ns) (hk : fd.params.kwonlyargs = []) (hv : fd.params.vararg = none) (hw : fd.params.kwarg = none) (hd : fd.defaults = .none) (nd : ns.Nodup) (hl : vals.length = ns.length) :
  bindArgs fd ⟨vals, []⟩ = pure (ns.zip vals) := by
 unfold bindArgs
 simp only [hp, ha, hk, hv, hw, hd, List.map_nil, List.nil_append, List.append_nil, hl, Nat.lt_irrefl, decide_false, Bool.false_and, gt_iff_lt, List.forIn_nil, uN, G4]
 have e1 : ns.filter (λ n => ((ns.zip vals).lookup n).isNone) = [] := List.filter_eq_nil_iff.mpr λ n hn => by
  have := t9 hl n hn
  cases q : (ns.zip vals).lookup n with
  | none => rw [q] at this; cases this
  | some _ => exact λ z => by cases z
 have e2 : ns.take (ns.length - (List.drop ((none.getD #[] : Array Value).toList.length - ns.length) (none.getD #[] : Array Value).toList).length) = ns := by simp
 rw [if_neg Bool.false_ne_true, e2, e1]
 have e3 : (List.drop ((none.getD #[] : Array Value).toList.length - ns.length) (none.getD #[] : Array Value).toList) = [] := by simp
 rw [e3]
 simp only [List.isEmpty_nil, Bool.not_true, if_neg Bool.false_ne_true, List.zip_nil_right, List.forIn_nil, uN, yQ hl nd]
def fdOf (o : Option Obj) : Option (FuncData × List Stmt) := match o with
 | some ⟨_, _, .func d, _⟩ => match d.body with
  | .stmts b => some (d, b)
  | _ => none
 | _ => none
theorem nV {o : Option Obj} {d : FuncData} {b : List Stmt} (h : fdOf o = some (d, b)) : ∃ oc od osl, o = some ⟨oc, od, .func d, osl⟩ /\ d.body = .stmts b := by
 unfold fdOf at h
 split at h
 ·split at h
  ·rename_i hb
   cases h
   exact ⟨_, _, _, rfl, hb⟩
  ·cases h
 ·cases h
def isN (v : Value) : Bool := match v with
 | .none => true
 | _ => false
theorem s8 {v : Value} (h : isN v = true) : v = .none := by
 cases v with
 | none => rfl
 | _ => exact ff h
def xE (l : List Nat) : Bool := List.rec true (λ x r ih => !(nP r x) && ih) l
theorem i8 {l : List Nat} (h : xE l = true) : l.Nodup := by induction l with
 | nil => exact .nil
 | cons x r ih => exact List.nodup_cons.mpr ⟨λ hm => by
   have z := bl h
   rw [j6.mpr hm] at z; exact ff z, ih (br h)⟩
noncomputable def HI (K : Frag) (tc : Tc) (ps : List Nat) (chk : Kd -> List Stmt -> Bool) (d : FuncData) (b : List Stmt) : Bool :=
 d.globals == mainGlobals && d.closure.isEmpty && d.builtins == builtinsNs && codeIn K d.code d.qualname && !d.scope.isCoroutine && !d.scope.isGenerator && d.scope.kind == .function && xE ps && ps.all (λ p => decide (p < tc.N)) &&
 d.params.posonlyargs.isEmpty && d.params.kwonlyargs.isEmpty && d.params.vararg.isNone && d.params.kwarg.isNone && d.params.args.map (·.arg) == ps.map tc.nm && chk (λ y => d.scope.names.lookup y) b
def sY (tc : Tc) (ps : List Nat) (d : FuncData) : Bool := d.scope.names.all (λ x => x.2 != .cell) && ps.all λ p => d.scope.names.lookup (tc.nm p) == some .local
def cellsFd (tc : Tc) (ps : List Nat) (d : FuncData) : Bool := ps.all λ p => d.scope.names.lookup (tc.nm p) == some .local || d.scope.names.lookup (tc.nm p) == some .cell
noncomputable def fnGood (K : Frag) (tc : Tc) (f : Nat) (fi : FnI) : Bool := HH (fdOf (K.lookup f)) λ p => HI K tc fi.ps (λ kd body => gJ (jF tc 60 kd) fi.body body) p.1 p.2 && fi.dn.isEmpty && isN p.1.defaults && (sY tc fi.ps p.1 || cellsFd tc fi.ps p.1)
def wZ (K : Frag) (tc : Tc) (f : Nat) (ps : List Nat) (chk : Kd -> List Stmt -> Bool) : Bool := HH (fdOf (K.lookup f)) λ p => HI K tc ps chk p.1 p.2 && isN p.1.defaults && sY tc ps p.1
section
variable {c : Cx} {tc : Tc}
theorem names_nodup (inj : ∀ i j, i < c.N -> j < c.N -> c.nm i = c.nm j -> i = j) {ps : List Nat} (nd : ps.Nodup) (lt : ∀ p ∈ ps, p < c.N) : (ps.map c.nm).Nodup :=
 List.pairwise_map.mpr (List.Pairwise.imp_of_mem (λ {a b} ha hb hne e => hne (inj a b (lt a ha) (lt b hb) e)) nd)
structure FdFacts (c : Cx) (ps : List Nat) (chk : Kd -> List Stmt -> Bool) (d : FuncData) (b : List Stmt) : Prop where
 eq : d = fnOf d.name d.qualname d.params b d.scope d.defaults d.kwdefaults d.doc d.pyModule d.annotations d.code d.closureTuple
 code : codeIn c.K d.code d.qualname = true
 co : d.scope.isCoroutine = false
 gen : d.scope.isGenerator = false
 kind : d.scope.kind = .function
 chk : chk (λ y => d.scope.names.lookup y) b = true
 nd : ps.Nodup
 lt : ∀ p ∈ ps, p < c.N
 po : d.params.posonlyargs = []
 ko : d.params.kwonlyargs = []
 va : d.params.vararg = none
 kw : d.params.kwarg = none
 ar : d.params.args.map (·.arg) = ps.map c.nm
theorem m2 (hn : tc.nm = c.nm) (hN : tc.N = c.N) {ps : List Nat} {chk : Kd -> List Stmt -> Bool} {d : FuncData} {b : List Stmt} (hb : d.body = .stmts b) (h : HI c.K tc ps chk d b = true) : FdFacts c ps chk d b := by
 have h1 := beq_iff_eq.mp (bl (bl (bl (bl (bl (bl (bl (bl (bl (bl (bl (bl (bl (bl h))))))))))))))
 have h2 := List.isEmpty_iff.mp (br (bl (bl (bl (bl (bl (bl (bl (bl (bl (bl (bl (bl (bl h))))))))))))))
 have h3 := beq_iff_eq.mp (br (bl (bl (bl (bl (bl (bl (bl (bl (bl (bl (bl (bl h)))))))))))))
 refine ⟨?_, br (bl (bl (bl (bl (bl (bl (bl (bl (bl (bl (bl h))))))))))), not_true (br (bl (bl (bl (bl (bl (bl (bl (bl (bl (bl h))))))))))), not_true (br (bl (bl (bl (bl (bl (bl (bl (bl (bl h)))))))))), beq_iff_eq.mp (br (bl (bl (bl (bl (bl (bl (bl (bl h))))))))), br h, i8 (br (bl (bl (bl (bl (bl (bl (bl h)))))))), λ p hp => hN ▸ of_decide_eq_true (List.all_eq_true.mp (br (bl (bl (bl (bl (bl (bl h))))))) p hp), List.isEmpty_iff.mp (br (bl (bl (bl (bl (bl h)))))), List.isEmpty_iff.mp (br (bl (bl (bl (bl h))))), Option.isNone_iff_eq_none.mp (br (bl (bl (bl h)))), Option.isNone_iff_eq_none.mp (br (bl (bl h))), (beq_iff_eq.mp (br (bl h))).trans (by rw [hn])⟩
 cases d
 dsimp only at h1 h2 h3 hb
 subst h1; subst h2; subst h3; subst hb
 rfl
theorem FdFacts.binds {ps : List Nat} {chk : Kd -> List Stmt -> Bool} {d : FuncData} {b : List Stmt} (X : FdFacts c ps chk d b) (inj : ∀ i j, i < c.N -> j < c.N -> c.nm i = c.nm j -> i = j) (hd : d.defaults = .none) (vals : List Value) (hl : vals.length = ps.length) :
  bindArgs (fnOf d.name d.qualname d.params b d.scope d.defaults d.kwdefaults d.doc d.pyModule d.annotations d.code d.closureTuple) ⟨vals, []⟩ = pure ((ps.map c.nm).zip vals) := by
 rw [← X.eq]
 exact x8 X.po X.ar X.ko X.va X.kw hd (names_nodup inj X.nd X.lt) (by rw [List.length_map]; exact hl)
theorem jC (hn : tc.nm = c.nm) {ps : List Nat} {d : FuncData} (h : sY tc ps d = true) : (∀ x ∈ d.scope.names, x.2 ≠ .cell) /\ ∀ p ∈ ps, d.scope.names.lookup (c.nm p) = some .local :=
 ⟨λ x hx => bne_iff_ne.mp (List.all_eq_true.mp (bl h) x hx), λ p hp => hn ▸ beq_iff_eq.mp (List.all_eq_true.mp (br h) p hp)⟩
theorem qF (hn : tc.nm = c.nm) (hN : tc.N = c.N) (inj : ∀ i j, i < c.N -> j < c.N -> c.nm i = c.nm j -> i = j) {f : Nat} {ps : List Nat} {chk : Kd -> List Stmt -> Bool} (h : wZ c.K tc f ps chk = true) : FnSh c f ps chk := by
 obtain ⟨⟨d, b⟩, h1, h2⟩ := mZ h
 obtain ⟨oc, od, osl, h3, hb⟩ := nV h1
 have X := m2 hn hN hb (bl (bl h2))
 have l := jC hn (br h2)
 exact ⟨oc, od, osl, _, _, _, _, _, _, _, _, _, _, _, _, h3.trans (by rw [← X.eq]), X.code, X.co, X.gen, X.kind, X.chk, X.nd, X.lt, λ s vals hl => .of_eq (X.binds inj (s8 (br (bl h2))) vals hl), l.1, l.2⟩
theorem A6 (hn : tc.nm = c.nm) (hN : tc.N = c.N) (inj : ∀ i j, i < c.N -> j < c.N -> c.nm i = c.nm j -> i = j) {f : Nat} {fi : FnI} (h : fnGood c.K tc f fi = true) : FnOk c tc f fi := by
 obtain ⟨⟨d, b⟩, h1, h2⟩ := mZ h
 obtain ⟨oc, od, osl, h3, hb⟩ := nV h1
 have X := m2 hn hN hb (bl (bl (bl h2)))
 have h0 : fi.dn = [] := List.isEmpty_iff.mp (br (bl (bl h2)))
 have bd := X.binds inj (s8 (br (bl h2)))
 rcases Bool.or_eq_true_iff.mp (br h2) with h6 | h6
 ·have l := jC hn h6
  refine .plain oc od osl _ _ _ _ _ _ _ _ _ _ _ _ 60 (h3.trans (by rw [← X.eq])) X.code X.co X.gen X.kind X.chk X.nd X.lt (λ s vals _ k1 k2 => ⟨[], by rw [h0]; exact .nil, ?_⟩) l.1 l.2
  rw [h0, List.length_nil] at k2
  rw [List.drop_nil, List.append_nil]
  exact .of_eq (bd vals (Nat.le_antisymm k1 k2))
 ·exact .cells oc od osl _ _ _ _ _ _ _ _ _ _ _ _ 60 (h3.trans (by rw [← X.eq])) X.code X.co X.gen X.kind X.chk X.nd X.lt h0 bd λ p hp => hn ▸ (Bool.or_eq_true_iff.mp (List.all_eq_true.mp h6 p hp)).imp beq_iff_eq.mp beq_iff_eq.mp
end
end
section
open PySem PySem.W PySem.Calls PyProof.Rows
noncomputable abbrev pw : Program := PySem.Challenge.pw_nt0130_01
noncomputable abbrev S (s : String) : Str := Str.ofString s
noncomputable abbrev en (P : Params) (s : String) (t : Nat) (v : Value) : DictEntry := ⟨PyData.keyHash P (Str.ofString s), .str (Str.ofString s) t, v⟩
noncomputable def NZ : List Stmt -> Nat -> Option Stmt
 | [], _ => none
 | s :: _, 0 => some s
 | _ :: r, n + 1 => NZ r n
noncomputable def fnA (l : List Stmt) (i : Nat) : Arguments × List Stmt × Scope := match NZ l i with
 | some (.FunctionDef (args := a) (body := b) (scope := s) ..) => (a, b, s)
 | _ => default
noncomputable def clA (l : List Stmt) (i : Nat) : List Stmt := match NZ l i with
 | some (.ClassDef (body := b) ..) => b
 | _ => []
noncomputable def putL {α : Type} : List α -> Nat -> α -> List α
 | [], _, _ => []
 | _ :: r, 0, a => a :: r
 | x :: r, n + 1, a => x :: putL r n a
noncomputable def evs {α : Type} : List α -> List α
 | [] => []
 | [a] => [a]
 | a :: _ :: r => a :: evs r
noncomputable def GA : Nat -> List Obj -> BT
 | 0, _ => .nil
 | _, [] => .nil
 | n + 1, o :: r => .node o (GA n (evs r)) (GA n (evs r.tail))
noncomputable abbrev nI (n t : Nat) : Value := .int (.ofNat n) t
noncomputable abbrev nJ (n : Nat) : Value := .int (.ofNat n) 0
noncomputable abbrev nS (s : String) (t : Nat) : Value := .str (Str.ofString s) t
noncomputable abbrev nR (n : Nat) : Value := .ref n
noncomputable abbrev nT (n : Nat) : Option Value := some (.ref n)
noncomputable abbrev eR (P : Params) (s : String) (t n : Nat) : DictEntry := en P s t (.ref n)
noncomputable abbrev fA (i : Nat) := fnA pw.main.body i
noncomputable abbrev fB (i j : Nat) := fnA (clA pw.main.body i) j
noncomputable abbrev oF (c : String) (l : List Value) : Obj := ⟨.type c, none, .fields (Array.mk l), Array.mk []⟩
noncomputable abbrev oX (a : String) (i : Nat) (b : String) (j k : Nat) (l : List Value) : Obj := oF "code" (nS a i :: nS b j :: nS "/claim/cut.py" k :: l)
noncomputable abbrev oQ (c : String) (l : List Value) (n : Nat) : Obj := ⟨.type c, none, .seq (Array.mk l) n, Array.mk []⟩
noncomputable abbrev oD (c : String) (l : List DictEntry) (n : Nat) : Obj := ⟨.type c, none, .dict (Array.mk l) n, Array.mk []⟩
noncomputable abbrev oG (l : List Value) : Obj := ⟨.none, none, .fields (Array.mk l), Array.mk []⟩
noncomputable abbrev oP (c : String) (l : List (Option Value)) : Obj := ⟨.type c, none, .plain, Array.mk l⟩
noncomputable abbrev nF (a b : String) (f : Arguments × List Stmt × Scope) (n : Nat) (l : List (Str × Addr)) (d q r : Value) (z : Nat) : Obj := ⟨.type "function", none, .func ⟨S a, S b, f.1, .stmts f.2.1, f.2.2, n, l, d, .none, .none, q, none, r, .none, z⟩, Array.mk []⟩
noncomputable abbrev nG (a b : String) (f : Arguments × List Stmt × Scope) (n : Nat) (l : List (Str × Addr)) (z : Nat) : Obj := ⟨.none, none, .func ⟨S a, S b, f.1, .stmts f.2.1, f.2.2, n, l, .none, .none, .none, .none, none, .none, .none, z⟩, Array.mk []⟩
noncomputable abbrev oY (a : String) (i : Nat) (b : String) (j k c d e f g h l m n p q r s : Nat) : Obj := oX a i b j k [nJ c, nJ d, nJ e, nJ f, nJ g, nR h, .bool true, nJ 181, nR l, .none, nR m, nR n, nR p, nJ q, nJ r, nS "/claim/cut.py" s]
noncomputable abbrev oZ (a : String) (i : Nat) (b : String) (j k c d e f g h l q r s : Nat) : Obj := oX a i b j k [nJ c, nJ d, nJ e, nJ f, nJ g, nR h, .bool false, nJ 181, nR l, .none, .none, .none, .none, nJ q, nJ r, nS "/claim/cut.py" s]
noncomputable abbrev oW (a : String) (i : Nat) (b : String) (j k c d e f g h l p q r s : Nat) : Obj := oX a i b j k [nJ c, nJ d, nJ e, nJ f, nJ g, nR h, .bool true, nJ 181, nR l, .none, .none, .none, nR p, nJ q, nJ r, nS "/claim/cut.py" s]
noncomputable abbrev oC (a : String) (l m : List Value) (n : Nat) (k : List Value) (t : Option Value) (i : Nat) (s : String) (j : Nat) : Obj := ⟨.type "type", none, .cls ⟨S a, l, m, n, S a, true, [], k, false, none, false⟩, Array.mk [t, none, some (nS a i), some (nS s j), some (.builtin "object.__new__"), some (.bool true)]⟩
section
variable (P : Params)
def o0 := oD "dict" [(en P "__name__" 1 (nS "builtins" 160)), (en P "__doc__" 2 (.builtin "builtins.__doc__:str#opaque")), (en P "__package__" 3 (.builtin "builtins.__package__:str#opaque")), (en P "__loader__" 4 (.builtin "builtins.__loader__:shared#opaque")), (en P "__spec__" 5 (.builtin "builtins.__spec__#opaque")), (en P "__build_class__" 6 (.builtin "__build_class__")), (en P "__import__" 7 (.builtin "__import__")), (en P "abs" 8 (.builtin "abs")), (en P "all" 9 (.builtin "all")), (en P "any" 10 (.builtin "any")), (en P "ascii" 11 (.builtin "ascii")), (en P "bin" 12 (.builtin "bin")), (en P "breakpoint" 13 (.builtin "breakpoint")), (en P "callable" 14 (.builtin "callable")), (en P "chr" 15 (.builtin "chr")), (en P "compile" 16 (.builtin "compile")), (en P "delattr" 17 (.builtin "delattr")), (en P "dir" 18 (.builtin "dir")), (en P "divmod" 19 (.builtin "divmod")), (en P "eval" 20 (.builtin "eval")), (en P "exec" 21 (.builtin "exec")), (en P "format" 22 (.builtin "format")), (en P "getattr" 23 (.builtin "getattr")), (en P "globals" 24 (.builtin "globals")), (en P "hasattr" 25 (.builtin "hasattr")), (en P "hash" 26 (.builtin "hash")), (en P "hex" 27 (.builtin "hex")), (en P "id" 28 (.builtin "id")), (en P "input" 29 (.builtin "input")), (en P "isinstance" 30 (.builtin "isinstance")), (en P "issubclass" 31 (.builtin "issubclass")), (en P "iter" 32 (.builtin "iter")), (en P "aiter" 33 (.builtin "aiter")), (en P "len" 34 (.builtin "len")), (en P "locals" 35 (.builtin "locals")), (en P "max" 36 (.builtin "max")), (en P "min" 37 (.builtin "min")), (en P "next" 38 (.builtin "next")), (en P "anext" 39 (.builtin "anext")), (en P "oct" 40 (.builtin "oct")), (en P "ord" 41 (.builtin "ord")), (en P "pow" 42 (.builtin "pow")), (en P "print" 43 (.builtin "print")), (en P "repr" 44 (.builtin "repr")), (en P "round" 45 (.builtin "round")), (en P "setattr" 46 (.builtin "setattr")), (en P "sorted" 47 (.builtin "sorted")), (en P "sum" 48 (.builtin "sum")), (en P "vars" 49 (.builtin "vars")), (en P "None" 50 .none), (en P "Ellipsis" 51 .ellipsis), (en P "NotImplemented" 52 .notImplemented), (en P "False" 53 (.bool false)), (en P "True" 54 (.bool true)), (en P "bool" 55 (.type "bool")), (en P "memoryview" 56 (.type "memoryview")), (en P "bytearray" 57 (.type "bytearray")), (en P "bytes" 58 (.type "bytes")), (en P "classmethod" 59 (.type "classmethod")), (en P "complex" 60 (.type "complex")), (en P "dict" 61 (.type "dict")), (en P "enumerate" 62 (.type "enumerate")), (en P "filter" 63 (.type "filter")), (en P "float" 64 (.type "float")), (en P "frozenset" 65 (.type "frozenset")), (en P "property" 66 (.type "property")), (en P "int" 67 (.type "int")), (en P "list" 68 (.type "list")), (en P "map" 69 (.type "map")), (en P "object" 70 (.type "object")), (en P "range" 71 (.type "range")), (en P "reversed" 72 (.type "reversed")), (en P "set" 73 (.type "set")), (en P "slice" 74 (.type "slice")), (en P "staticmethod" 75 (.type "staticmethod")), (en P "str" 76 (.type "str")), (en P "super" 77 (.type "super")), (en P "tuple" 78 (.type "tuple")), (en P "type" 79 (.type "type")), (en P "zip" 80 (.type "zip")), (en P "__debug__" 81 (.bool true)), (en P "BaseException" 82 (.type "BaseException")), (en P "BaseExceptionGroup" 83 (.type "BaseExceptionGroup")), (en P "Exception" 84 (.type "Exception")), (en P "GeneratorExit" 85 (.type "GeneratorExit")), (en P "KeyboardInterrupt" 86 (.type "KeyboardInterrupt")), (en P "SystemExit" 87 (.type "SystemExit")), (en P "ArithmeticError" 88 (.type "ArithmeticError")), (en P "AssertionError" 89 (.type "AssertionError")), (en P "AttributeError" 90 (.type "AttributeError")), (en P "BufferError" 91 (.type "BufferError")), (en P "EOFError" 92 (.type "EOFError")), (en P "ImportError" 93 (.type "ImportError")), (en P "LookupError" 94 (.type "LookupError")), (en P "MemoryError" 95 (.type "MemoryError")), (en P "NameError" 96 (.type "NameError")), (en P "OSError" 97 (.type "OSError")), (en P "ReferenceError" 98 (.type "ReferenceError")), (en P "RuntimeError" 99 (.type "RuntimeError")), (en P "StopAsyncIteration" 100 (.type "StopAsyncIteration")), (en P "StopIteration" 101 (.type "StopIteration")), (en P "SyntaxError" 102 (.type "SyntaxError")), (en P "SystemError" 103 (.type "SystemError")), (en P "TypeError" 104 (.type "TypeError")), (en P "ValueError" 105 (.type "ValueError")), (en P "Warning" 106 (.type "Warning")), (en P "FloatingPointError" 107 (.type "FloatingPointError")), (en P "OverflowError" 108 (.type "OverflowError")), (en P "ZeroDivisionError" 109 (.type "ZeroDivisionError")), (en P "BytesWarning" 110 (.type "BytesWarning")), (en P "DeprecationWarning" 111 (.type "DeprecationWarning")), (en P "EncodingWarning" 112 (.type "EncodingWarning")), (en P "FutureWarning" 113 (.type "FutureWarning")), (en P "ImportWarning" 114 (.type "ImportWarning")), (en P "PendingDeprecationWarning" 115 (.type "PendingDeprecationWarning")), (en P "ResourceWarning" 116 (.type "ResourceWarning")), (en P "RuntimeWarning" 117 (.type "RuntimeWarning")), (en P "SyntaxWarning" 118 (.type "SyntaxWarning")), (en P "UnicodeWarning" 119 (.type "UnicodeWarning")), (en P "UserWarning" 120 (.type "UserWarning")), (en P "BlockingIOError" 121 (.type "BlockingIOError")), (en P "ChildProcessError" 122 (.type "ChildProcessError")), (en P "ConnectionError" 123 (.type "ConnectionError")), (en P "FileExistsError" 124 (.type "FileExistsError")), (en P "FileNotFoundError" 125 (.type "FileNotFoundError")), (en P "InterruptedError" 126 (.type "InterruptedError")), (en P "IsADirectoryError" 127 (.type "IsADirectoryError")), (en P "NotADirectoryError" 128 (.type "NotADirectoryError")), (en P "PermissionError" 129 (.type "PermissionError")), (en P "ProcessLookupError" 130 (.type "ProcessLookupError")), (en P "TimeoutError" 131 (.type "TimeoutError")), (en P "IndentationError" 132 (.type "IndentationError")), (en P "_IncompleteInputError" 133 (.type "_IncompleteInputError")), (en P "IndexError" 134 (.type "IndexError")), (en P "KeyError" 135 (.type "KeyError")), (en P "ModuleNotFoundError" 136 (.type "ModuleNotFoundError")), (en P "NotImplementedError" 137 (.type "NotImplementedError")), (en P "PythonFinalizationError" 138 (.type "PythonFinalizationError")), (en P "RecursionError" 139 (.type "RecursionError")), (en P "UnboundLocalError" 140 (.type "UnboundLocalError")), (en P "UnicodeError" 141 (.type "UnicodeError")), (en P "BrokenPipeError" 142 (.type "BrokenPipeError")), (en P "ConnectionAbortedError" 143 (.type "ConnectionAbortedError")), (en P "ConnectionRefusedError" 144 (.type "ConnectionRefusedError")), (en P "ConnectionResetError" 145 (.type "ConnectionResetError")), (en P "TabError" 146 (.type "TabError")), (en P "UnicodeDecodeError" 147 (.type "UnicodeDecodeError")), (en P "UnicodeEncodeError" 148 (.type "UnicodeEncodeError")), (en P "UnicodeTranslateError" 149 (.type "UnicodeTranslateError")), (en P "ExceptionGroup" 150 (.type "ExceptionGroup")), (en P "EnvironmentError" 151 (.type "OSError")), (en P "IOError" 152 (.type "OSError")), (en P "open" 153 (.builtin "open")), (en P "quit" 154 (.builtin "builtins.quit#opaque")), (en P "exit" 155 (.builtin "builtins.exit#opaque")), (en P "copyright" 156 (.builtin "builtins.copyright#opaque")), (en P "credits" 157 (.builtin "builtins.credits#opaque")), (en P "license" 158 (.builtin "builtins.license#opaque")), (en P "help" 159 (.builtin "builtins.help#opaque"))] 159
def o1 := oD "dict" [eR P "builtins" 162 4, eR P "__main__" 163 5] 2
def o2 : Obj := ⟨.none, none, (.dict (Array.mk []) 0), (Array.mk [])⟩
def l3 : List DictEntry := [(en P "__doc__" 166 .none), (en P "__package__" 167 .none), (en P "__loader__" 168 (.builtin "__main__.__loader__#opaque")), (en P "__spec__" 169 .none), eR P "__annotations__" 170 6, eR P "__builtins__" 171 4, (en P "__file__" 173 (nS "/claim/cut.py" 172)), (en P "__cached__" 174 .none), eR P "_wall" 193 21, eR P "row_of" 202 28, eR P "rows_of" 208 33, eR P "Node" 235 50, eR P "Expr" 251 64, eR P "Literal" 283 90, eR P "Name" 320 116, eR P "Unary" 354 142, eR P "Binary" 390 168, eR P "Between" 428 194, eR P "InList" 464 220, eR P "InSelect" 500 246, eR P "Exists" 534 272, eR P "Scalar" 566 298, eR P "Case" 601 322, eR P "Call" 639 348, eR P "Cast" 673 374, eR P "Collate" 707 400, eR P "IsNull" 741 426, eR P "Match" 782 452, eR P "NUMERIC_AFFINITIES" 787 455, (en P "SPACES" 789 (.str (Str.mk (Array.mk [32, 9, 10, 11, 12, 13])) 788)), eR P "fold_ascii" 798 462, eR P "affinity_of_type" 807 469, eR P "comparison_affinities" 815 476, eR P "fold" 823 481, eR P "children" 833 488, eR P "outer_numbers" 841 495, eR P "collect_numbers" 851 502, eR P "affinity_of" 859 510, eR P "explicit_collation" 866 517, eR P "column_collation" 873 524, eR P "collation_of" 881 532, eR P "comparison_collation" 890 539, eR P "TURNED" 908 540, eR P "TRUTH_OPS" 919 541, eR P "NUMBER_OPS" 929 542, eR P "NUMBER_CALLS" 932 543, eR P "split_and" 942 550, eR P "is_column_of" 950 557, eR P "is_free_of" 958 564, eR P "Bound" 995 581, eR P "Term" 1055 626, eR P "compared_bound" 1068 637, eR P "comparison_bounds" 1074 642, eR P "between_bounds" 1080 647, eR P "list_bounds" 1091 654, eR P "bounds_of" 1100 661, eR P "is_rowid_place" 1108 668, eR P "surely_integer" 1115 675, (en P "ROWS_OF_TABLE" 1119 (nI 1000 1118)), (en P "ROW_BY_TABLE" 1121 (nI 2 1120)), (en P "ROW_BY_INDEX" 1123 (nI 2 1122)), (en P "ROW_BY_BOTH" 1125 (nI 3 1124)), (en P "DESCENT" 1127 (nI 4 1126)), eR P "Path" 1195 714, eR P "first_bound" 1210 725, eR P "put_equal" 1218 732, eR P "put_list" 1226 739, eR P "put_range" 1235 746, eR P "guess" 1247 753, eR P "rowid_paths" 1253 758, eR P "fits_column" 1264 765, eR P "index_paths" 1285 772, eR P "new_index_path" 1296 779, eR P "Conditions" 1353 815, eR P "Source" 1414 850, eR P "bound_name" 1425 861, eR P "table_source" 1432 867, eR P "Column" 1469 885, eR P "Index" 1523 918, eR P "Table" 1583 958, eR P "_law_pool" 1596 969, eR P "_law_take" 1605 976, eR P "_law_one" 1613 983, eR P "_law_column" 1621 990, eR P "_law_side" 1629 997, eR P "_law_condition" 1635 1002, eR P "_law_affinity" 1642 1009, eR P "_law_bound" 1655 1016, eR P "_law_names" 1661 1021, eR P "_law_due" 1667 1026, eR P "_law_shown" 1673 1031, eR P "_law_first" 1679 1036, eR P "_law_is_whole" 1686 1043, eR P "_law_ends" 1696 1050, eR P "_law_texts" 1702 1055, eR P "law" 1708 1060]
def o3 := oD "dict" ((en P "__name__" 165 (nS "__main__" 164)) :: (l3 P).take 8) 9
def o4 : Obj := ⟨(.type "module"), (some 0), .plain, (Array.mk [])⟩
def o5 : Obj := ⟨(.type "module"), (some 3), .plain, (Array.mk [])⟩
def o6 := oD "dict" [] 0
def o7 := oQ "tuple" [] 0
def o8 := oG []
def o9 := oX "<module>" 176 "<module>" 177 178 [nJ 1, nJ 0, nJ 0, nJ 0, nJ 0, nR 7, (.bool false), nJ 175, nR 8, .none, .none, .none, .none, nJ 179, nJ 1, nS "/claim/cut.py" 180]
def o10 := oP "frame" [nT 9, nT 3, nT 3, none, (some (nS "__main__" 164)), none, nT 0]
def l12 : List Value := [nJ 0, nR 20, nJ 5, nJ 0, nR 27, nJ 7, nJ 0, nR 32, nJ 9, nJ 0, nR 39, nJ 13, nJ 0, nR 60, nJ 15, nJ 0, nR 72, nJ 26, nJ 0, nR 98, nJ 37, nJ 0, nR 124, nJ 45, nJ 0, nR 150, nJ 54, nJ 0, nR 176, nJ 64, nJ 0, nR 202, nJ 73, nJ 0, nR 228, nJ 82, nJ 0, nR 254, nJ 90, nJ 0, nR 280, nJ 97, nJ 0, nR 306, nJ 107, nJ 0, nR 330, nJ 117, nJ 0, nR 356, nJ 125, nJ 0, nR 382, nJ 133, nJ 0, nR 408, nJ 141, nJ 0, nR 434, nJ 156, nJ 0, nR 461, nJ 164, nJ 0, nR 468, nJ 176, nJ 0, nR 475, nJ 187, nJ 0, nR 480, nJ 189, nJ 0, nR 487, nJ 212, nJ 0, nR 494, nJ 216, nJ 0, nR 501, nJ 224, nJ 0, nR 509, nJ 234, nJ 0, nR 516, nJ 244, nJ 0, nR 523, nJ 252, nJ 0, nR 531, nJ 254, nJ 0, nR 538, nJ 264, nJ 0, nR 549, nJ 275, nJ 0, nR 556, nJ 277, nJ 0, nR 563, nJ 279, nJ 0, nR 570, nJ 287, nJ 0, nR 591, nJ 316, nJ 0, nR 636, nJ 321, nJ 0, nR 641, nJ 328, nJ 0, nR 646, nJ 336, nJ 0, nR 653, nJ 344, nJ 0, nR 660, nJ 353, nJ 0, nR 667, nJ 355, nJ 0, nR 674, nJ 375, nJ 0, nR 681, nJ 421, nJ 0, nR 724, nJ 428, nJ 0, nR 731, nJ 431, nJ 0, nR 738, nJ 433, nJ 0, nR 745, nJ 438, nJ 0, nR 752, nJ 454, nJ 0, nR 757, nJ 476, nJ 0, nR 764, nJ 479, nJ 0, nR 771, nJ 504, nJ 0, nR 778, nJ 511, nJ 0, nR 785, nJ 540, nJ 0, nR 825, nJ 558, nJ 0, nR 860, nJ 566, nJ 0, nR 866, nJ 570, nJ 0, nR 873, nJ 579, nJ 0, nR 895, nJ 595, nJ 0, nR 928, nJ 616, nJ 0, nR 968, nJ 623, nJ 0, nR 975, nJ 630, nJ 0, nR 982, nJ 632, nJ 0, nR 989, nJ 634, nJ 0, nR 996, nJ 638, nJ 0, nR 1001, nJ 652, nJ 0, nR 1008, nJ 654, nJ 0, nR 1015, nJ 664, nJ 0, nR 1020, nJ 675, nJ 0, nR 1025, nJ 693, nJ 0, nR 1030, nJ 697, nJ 0, nR 1035, nJ 700, nJ 0, nR 1042, nJ 702, nJ 0, nR 1049, nJ 705, nJ 0, nR 1054, nJ 727, nJ 0, nR 1059]
def o12 : Obj := ⟨.none, none, .fields (Array.mk []), (Array.mk [])⟩
def o13 := oZ "<module>" 182 "<module>" 183 184 1 0 0 0 0 11 12 185 1 186
def o14 := oP "frame" [nT 13, nT 3, nT 3, none, (some (nS "__main__" 164)), none, nT 0]
def o3v1 := oD "dict" ((en P "__name__" 165 (nS "pagebase.nodes" 194)) :: (l3 P).take 12) 13
def o12v1 := oG ((nJ 1) :: l12.take 11)
def o17 := oQ "tuple" [nS "k" 190] 0
def o19 := nG "_wall" "_wall" (fA 0) 0 [] 0
def o20 := oY "_wall" 187 "_wall" 188 189 1 1 0 0 3 15 16 17 18 19 191 1 192
def o21 := nF "_wall" "_wall" (fA 0) 3 [] .none (nS "__main__" 164) (nR 20) 0
def o24 := oQ "tuple" [nS "node" 199] 0
def o26 := nG "row_of" "row_of" (fA 2) 0 [] 0
def o27 := oY "row_of" 196 "row_of" 197 198 5 1 0 0 3 22 23 24 25 26 200 5 201
def o28 := nF "row_of" "row_of" (fA 2) 3 [] .none (nS "pagebase.nodes" 194) (nR 27) 0
def o31 := nG "rows_of" "rows_of" (fA 3) 0 [] 0
def o32 := oW "rows_of" 203 "rows_of" 204 205 7 1 0 0 3 29 30 31 206 7 207
def o33 := nF "rows_of" "rows_of" (fA 3) 3 [] .none (nS "pagebase.nodes" 194) (nR 32) 0
def o35 := oF "builtin_function_or_method" [(.builtin "type.__prepare__"), (.type "type")]
def o36 := oD "dict" [(en P "__module__" 216 (nS "pagebase.nodes" 194)), (en P "__qualname__" 218 (nS "Node" 217)), (en P "__firstlineno__" 220 (nI 9 219)), eR P "row" 227 47, eR P "__static_attributes__" 228 48] 5
def o38 := oG [nJ 11, nJ 4, nR 46]
def o39 := oZ "Node" 211 "Node" 212 213 9 0 0 0 0 37 38 214 9 215
def o40 := oP "frame" [nT 39, nT 3, nT 36, none, (some (nS "pagebase.nodes" 194)), none, nT 0]
def o43 := oQ "tuple" [nS "self" 224] 0
def o45 := nG "row" "Node.row" (fB 4 0) 0 [] 0
def o46 := oY "row" 221 "Node.row" 222 223 11 1 0 0 3 41 42 43 44 45 225 11 226
def o47 := nF "row" "Node.row" (fB 4 0) 3 [] .none (nS "pagebase.nodes" 194) (nR 46) 0
def o49 := oD "dict" [(en P "__module__" 216 (nS "pagebase.nodes" 194)), (en P "__firstlineno__" 220 (nI 9 219)), eR P "row" 227 47, eR P "__static_attributes__" 228 48, eR P "__dict__" 230 51, eR P "__weakref__" 232 52, (en P "__doc__" 233 .none)] 4
def o50 := oC "Node" [(.type "object")] [nR 50, (.type "object")] 49 [] none 209 "Node" 217
def o51 := oF "getset_descriptor" [nS "__dict__" 229, nR 50, (.builtin "function.__dict__"), (.builtin "function.__dict__#set")]
def o52 := oF "getset_descriptor" [nS "__weakref__" 231, nR 50, (.builtin "ExceptionGroup.__weakref__"), .none]
def o53 := oF "super" [nR 50, nR 50, nR 50]
def o54 := oF "builtin_function_or_method" [(.builtin "object.__init_subclass__"), nR 50]
def o3v2 := oD "dict" ((en P "__name__" 165 (nS "pagebase.nodes" 194)) :: (l3 P).take 13) 14
def o12v2 := oG ((nJ 1) :: l12.take 14)
def o50v1 := oC "Node" [(.type "object")] [nR 50, (.type "object")] 49 [nR 64] none 209 "Node" 217
def o55 := oQ "tuple" [nR 50] 0
def o57 := oD "dict" [(en P "__module__" 243 (nS "pagebase.nodes" 194)), (en P "__qualname__" 245 (nS "Expr" 244)), (en P "__firstlineno__" 247 (nI 13 246)), eR P "__static_attributes__" 248 62] 4
def o60 := oZ "Expr" 238 "Expr" 239 240 13 0 0 0 0 58 59 241 13 242
def o61 := oP "frame" [nT 60, nT 3, nT 57, none, (some (nS "pagebase.nodes" 194)), none, nT 0]
def o63 := oD "dict" [(en P "__module__" 243 (nS "pagebase.nodes" 194)), (en P "__firstlineno__" 247 (nI 13 246)), eR P "__static_attributes__" 248 62, (en P "__doc__" 249 .none)] 2
def o64 := oC "Expr" [nR 50] [nR 64, nR 50, (.type "object")] 63 [] (nT 55) 236 "Expr" 244
def o65 := oF "super" [nR 64, nR 64, nR 64]
def o66 := oF "builtin_function_or_method" [(.builtin "object.__init_subclass__"), nR 64]
def o3v3 := oD "dict" ((en P "__name__" 165 (nS "pagebase.nodes" 194)) :: (l3 P).take 14) 15
def o12v3 := oG ((nJ 1) :: l12.take 17)
def o64v1 := oC "Expr" [nR 50] [nR 64, nR 50, (.type "object")] 63 [nR 90] (nT 55) 236 "Expr" 244
def o67 := oQ "tuple" [nR 64] 0
def o69 := oD "dict" [(en P "__module__" 259 (nS "pagebase.nodes" 194)), (en P "__qualname__" 261 (nS "Literal" 260)), (en P "__firstlineno__" 263 (nI 15 262)), eR P "__init__" 271 80, eR P "row" 278 87, eR P "__static_attributes__" 280 88] 6
def o71 := oG [nJ 17, nJ 4, nR 79, nJ 20, nJ 4, nR 86]
def o72 := oZ "Literal" 254 "Literal" 255 256 15 0 0 0 0 70 71 257 15 258
def o73 := oP "frame" [nT 72, nT 3, nT 69, none, (some (nS "pagebase.nodes" 194)), none, nT 0]
def o76 := oQ "tuple" [nS "self" 267, nS "value" 268] 0
def o78 := nG "__init__" "Literal.__init__" (fB 6 0) 0 [] 0
def o79 := oY "__init__" 264 "Literal.__init__" 265 266 17 2 0 0 3 74 75 76 77 78 269 17 270
def o80 := nF "__init__" "Literal.__init__" (fB 6 0) 3 [] .none (nS "pagebase.nodes" 194) (nR 79) 0
def o83 := oQ "tuple" [nS "self" 275] 0
def o85 := nG "row" "Literal.row" (fB 6 1) 0 [] 0
def o86 := oY "row" 272 "Literal.row" 273 274 20 1 0 0 3 81 82 83 84 85 276 20 277
def o87 := nF "row" "Literal.row" (fB 6 1) 3 [] .none (nS "pagebase.nodes" 194) (nR 86) 0
def o88 := oQ "tuple" [nS "value" 279] 0
def o89 := oD "dict" [(en P "__module__" 259 (nS "pagebase.nodes" 194)), (en P "__firstlineno__" 263 (nI 15 262)), eR P "__init__" 271 80, eR P "row" 278 87, eR P "__static_attributes__" 280 88, (en P "__doc__" 281 .none)] 2
def o90 := oC "Literal" [nR 64] [nR 90, nR 64, nR 50, (.type "object")] 89 [] (nT 67) 252 "Literal" 260
def o91 := oF "super" [nR 90, nR 90, nR 90]
def o92 := oF "builtin_function_or_method" [(.builtin "object.__init_subclass__"), nR 90]
def o3v4 := oD "dict" ((en P "__name__" 165 (nS "pagebase.nodes" 194)) :: (l3 P).take 15) 16
def o12v4 := oG ((nJ 1) :: l12.take 20)
def o64v2 := oC "Expr" [nR 50] [nR 64, nR 50, (.type "object")] 63 [nR 90, nR 116] (nT 55) 236 "Expr" 244
def o95 := oD "dict" [(en P "__module__" 291 (nS "pagebase.nodes" 194)), (en P "__qualname__" 293 (nS "Name" 292)), (en P "__firstlineno__" 295 (nI 26 294)), eR P "__init__" 304 106, eR P "row" 311 113, eR P "__static_attributes__" 317 114] 6
def o97 := oG [nJ 28, nJ 4, nR 105, nJ 35, nJ 4, nR 112]
def o98 := oZ "Name" 286 "Name" 287 288 26 0 0 0 0 96 97 289 26 290
def o99 := oP "frame" [nT 98, nT 3, nT 95, none, (some (nS "pagebase.nodes" 194)), none, nT 0]
def o102 := oQ "tuple" [nS "self" 299, nS "table" 300, nS "column" 301] 0
def o104 := nG "__init__" "Name.__init__" (fB 7 0) 0 [] 0
def o105 := oY "__init__" 296 "Name.__init__" 297 298 28 3 0 0 3 100 101 102 103 104 302 28 303
def o106 := nF "__init__" "Name.__init__" (fB 7 0) 3 [] .none (nS "pagebase.nodes" 194) (nR 105) 0
def o109 := oQ "tuple" [nS "self" 308] 0
def o111 := nG "row" "Name.row" (fB 7 1) 0 [] 0
def o112 := oY "row" 305 "Name.row" 306 307 35 1 0 0 3 107 108 109 110 111 309 35 310
def o113 := nF "row" "Name.row" (fB 7 1) 3 [] .none (nS "pagebase.nodes" 194) (nR 112) 0
def o114 := oQ "tuple" [nS "column" 312, nS "depth" 313, nS "place" 314, nS "source" 315, nS "table" 316] 0
def o115 := oD "dict" [(en P "__module__" 291 (nS "pagebase.nodes" 194)), (en P "__firstlineno__" 295 (nI 26 294)), eR P "__init__" 304 106, eR P "row" 311 113, eR P "__static_attributes__" 317 114, (en P "__doc__" 318 .none)] 2
def o116 := oC "Name" [nR 64] [nR 116, nR 64, nR 50, (.type "object")] 115 [] (nT 93) 284 "Name" 292
def o117 := oF "super" [nR 116, nR 116, nR 116]
def o118 := oF "builtin_function_or_method" [(.builtin "object.__init_subclass__"), nR 116]
def o3v5 := oD "dict" ((en P "__name__" 165 (nS "pagebase.nodes" 194)) :: (l3 P).take 16) 17
def o12v5 := oG ((nJ 1) :: l12.take 23)
def o64v3 := oC "Expr" [nR 50] [nR 64, nR 50, (.type "object")] 63 [nR 90, nR 116, nR 142] (nT 55) 236 "Expr" 244
def o121 := oD "dict" [(en P "__module__" 328 (nS "pagebase.nodes" 194)), (en P "__qualname__" 330 (nS "Unary" 329)), (en P "__firstlineno__" 332 (nI 37 331)), eR P "__init__" 341 132, eR P "row" 348 139, eR P "__static_attributes__" 351 140] 6
def o123 := oG [nJ 39, nJ 4, nR 131, nJ 43, nJ 4, nR 138]
def o124 := oZ "Unary" 323 "Unary" 324 325 37 0 0 0 0 122 123 326 37 327
def o125 := oP "frame" [nT 124, nT 3, nT 121, none, (some (nS "pagebase.nodes" 194)), none, nT 0]
def o128 := oQ "tuple" [nS "self" 336, nS "op" 337, nS "operand" 338] 0
def o130 := nG "__init__" "Unary.__init__" (fB 8 0) 0 [] 0
def o131 := oY "__init__" 333 "Unary.__init__" 334 335 39 3 0 0 3 126 127 128 129 130 339 39 340
def o132 := nF "__init__" "Unary.__init__" (fB 8 0) 3 [] .none (nS "pagebase.nodes" 194) (nR 131) 0
def o135 := oQ "tuple" [nS "self" 345] 0
def o137 := nG "row" "Unary.row" (fB 8 1) 0 [] 0
def o138 := oY "row" 342 "Unary.row" 343 344 43 1 0 0 3 133 134 135 136 137 346 43 347
def o139 := nF "row" "Unary.row" (fB 8 1) 3 [] .none (nS "pagebase.nodes" 194) (nR 138) 0
def o140 := oQ "tuple" [nS "op" 349, nS "operand" 350] 0
def o141 := oD "dict" [(en P "__module__" 328 (nS "pagebase.nodes" 194)), (en P "__firstlineno__" 332 (nI 37 331)), eR P "__init__" 341 132, eR P "row" 348 139, eR P "__static_attributes__" 351 140, (en P "__doc__" 352 .none)] 2
def o142 := oC "Unary" [nR 64] [nR 142, nR 64, nR 50, (.type "object")] 141 [] (nT 119) 321 "Unary" 329
def o143 := oF "super" [nR 142, nR 142, nR 142]
def o144 := oF "builtin_function_or_method" [(.builtin "object.__init_subclass__"), nR 142]
def o3v6 := oD "dict" ((en P "__name__" 165 (nS "pagebase.nodes" 194)) :: (l3 P).take 17) 18
def o12v6 := oG ((nJ 1) :: l12.take 26)
def o64v4 := oC "Expr" [nR 50] [nR 64, nR 50, (.type "object")] 63 [nR 90, nR 116, nR 142, nR 168] (nT 55) 236 "Expr" 244
def o147 := oD "dict" [(en P "__module__" 362 (nS "pagebase.nodes" 194)), (en P "__qualname__" 364 (nS "Binary" 363)), (en P "__firstlineno__" 366 (nI 45 365)), eR P "__init__" 376 158, eR P "row" 383 165, eR P "__static_attributes__" 387 166] 6
def o149 := oG [nJ 47, nJ 4, nR 157, nJ 52, nJ 4, nR 164]
def o150 := oZ "Binary" 357 "Binary" 358 359 45 0 0 0 0 148 149 360 45 361
def o151 := oP "frame" [nT 150, nT 3, nT 147, none, (some (nS "pagebase.nodes" 194)), none, nT 0]
def o154 := oQ "tuple" [nS "self" 370, nS "op" 371, nS "left" 372, nS "right" 373] 0
def o156 := nG "__init__" "Binary.__init__" (fB 9 0) 0 [] 0
def o157 := oY "__init__" 367 "Binary.__init__" 368 369 47 4 0 0 3 152 153 154 155 156 374 47 375
def o158 := nF "__init__" "Binary.__init__" (fB 9 0) 3 [] .none (nS "pagebase.nodes" 194) (nR 157) 0
def o161 := oQ "tuple" [nS "self" 380] 0
def o163 := nG "row" "Binary.row" (fB 9 1) 0 [] 0
def o164 := oY "row" 377 "Binary.row" 378 379 52 1 0 0 3 159 160 161 162 163 381 52 382
def o165 := nF "row" "Binary.row" (fB 9 1) 3 [] .none (nS "pagebase.nodes" 194) (nR 164) 0
def o166 := oQ "tuple" [nS "left" 384, nS "op" 385, nS "right" 386] 0
def o167 := oD "dict" [(en P "__module__" 362 (nS "pagebase.nodes" 194)), (en P "__firstlineno__" 366 (nI 45 365)), eR P "__init__" 376 158, eR P "row" 383 165, eR P "__static_attributes__" 387 166, (en P "__doc__" 388 .none)] 2
def o168 := oC "Binary" [nR 64] [nR 168, nR 64, nR 50, (.type "object")] 167 [] (nT 145) 355 "Binary" 363
def o169 := oF "super" [nR 168, nR 168, nR 168]
def o170 := oF "builtin_function_or_method" [(.builtin "object.__init_subclass__"), nR 168]
def o3v7 := oD "dict" ((en P "__name__" 165 (nS "pagebase.nodes" 194)) :: (l3 P).take 18) 19
def o12v7 := oG ((nJ 1) :: l12.take 29)
def o64v5 := oC "Expr" [nR 50] [nR 64, nR 50, (.type "object")] 63 [nR 90, nR 116, nR 142, nR 168, nR 194] (nT 55) 236 "Expr" 244
def o173 := oD "dict" [(en P "__module__" 398 (nS "pagebase.nodes" 194)), (en P "__qualname__" 400 (nS "Between" 399)), (en P "__firstlineno__" 402 (nI 54 401)), eR P "__init__" 413 184, eR P "row" 420 191, eR P "__static_attributes__" 425 192] 6
def o175 := oG [nJ 56, nJ 4, nR 183, nJ 62, nJ 4, nR 190]
def o176 := oZ "Between" 393 "Between" 394 395 54 0 0 0 0 174 175 396 54 397
def o177 := oP "frame" [nT 176, nT 3, nT 173, none, (some (nS "pagebase.nodes" 194)), none, nT 0]
def o180 := oQ "tuple" [nS "self" 406, nS "value" 407, nS "low" 408, nS "high" 409, nS "negated" 410] 0
def o182 := nG "__init__" "Between.__init__" (fB 10 0) 0 [] 0
def o183 := oY "__init__" 403 "Between.__init__" 404 405 56 5 0 0 3 178 179 180 181 182 411 56 412
def o184 := nF "__init__" "Between.__init__" (fB 10 0) 3 [] .none (nS "pagebase.nodes" 194) (nR 183) 0
def o187 := oQ "tuple" [nS "self" 417] 0
def o189 := nG "row" "Between.row" (fB 10 1) 0 [] 0
def o190 := oY "row" 414 "Between.row" 415 416 62 1 0 0 3 185 186 187 188 189 418 62 419
def o191 := nF "row" "Between.row" (fB 10 1) 3 [] .none (nS "pagebase.nodes" 194) (nR 190) 0
def o192 := oQ "tuple" [nS "high" 421, nS "low" 422, nS "negated" 423, nS "value" 424] 0
def o193 := oD "dict" [(en P "__module__" 398 (nS "pagebase.nodes" 194)), (en P "__firstlineno__" 402 (nI 54 401)), eR P "__init__" 413 184, eR P "row" 420 191, eR P "__static_attributes__" 425 192, (en P "__doc__" 426 .none)] 2
def o194 := oC "Between" [nR 64] [nR 194, nR 64, nR 50, (.type "object")] 193 [] (nT 171) 391 "Between" 399
def o195 := oF "super" [nR 194, nR 194, nR 194]
def o196 := oF "builtin_function_or_method" [(.builtin "object.__init_subclass__"), nR 194]
def o3v8 := oD "dict" ((en P "__name__" 165 (nS "pagebase.nodes" 194)) :: (l3 P).take 19) 20
def o12v8 := oG ((nJ 1) :: l12.take 32)
def o64v6 := oC "Expr" [nR 50] [nR 64, nR 50, (.type "object")] 63 [nR 90, nR 116, nR 142, nR 168, nR 194, nR 220] (nT 55) 236 "Expr" 244
def o199 := oD "dict" [(en P "__module__" 436 (nS "pagebase.nodes" 194)), (en P "__qualname__" 438 (nS "InList" 437)), (en P "__firstlineno__" 440 (nI 64 439)), eR P "__init__" 450 210, eR P "row" 457 217, eR P "__static_attributes__" 461 218] 6
def o201 := oG [nJ 66, nJ 4, nR 209, nJ 71, nJ 4, nR 216]
def o202 := oZ "InList" 431 "InList" 432 433 64 0 0 0 0 200 201 434 64 435
def o203 := oP "frame" [nT 202, nT 3, nT 199, none, (some (nS "pagebase.nodes" 194)), none, nT 0]
def o206 := oQ "tuple" [nS "self" 444, nS "value" 445, nS "items" 446, nS "negated" 447] 0
def o208 := nG "__init__" "InList.__init__" (fB 11 0) 0 [] 0
def o209 := oY "__init__" 441 "InList.__init__" 442 443 66 4 0 0 3 204 205 206 207 208 448 66 449
def o210 := nF "__init__" "InList.__init__" (fB 11 0) 3 [] .none (nS "pagebase.nodes" 194) (nR 209) 0
def o213 := oQ "tuple" [nS "self" 454] 0
def o215 := nG "row" "InList.row" (fB 11 1) 0 [] 0
def o216 := oY "row" 451 "InList.row" 452 453 71 1 0 0 3 211 212 213 214 215 455 71 456
def o217 := nF "row" "InList.row" (fB 11 1) 3 [] .none (nS "pagebase.nodes" 194) (nR 216) 0
def o218 := oQ "tuple" [nS "items" 458, nS "negated" 459, nS "value" 460] 0
def o219 := oD "dict" [(en P "__module__" 436 (nS "pagebase.nodes" 194)), (en P "__firstlineno__" 440 (nI 64 439)), eR P "__init__" 450 210, eR P "row" 457 217, eR P "__static_attributes__" 461 218, (en P "__doc__" 462 .none)] 2
def o220 := oC "InList" [nR 64] [nR 220, nR 64, nR 50, (.type "object")] 219 [] (nT 197) 429 "InList" 437
def o221 := oF "super" [nR 220, nR 220, nR 220]
def o222 := oF "builtin_function_or_method" [(.builtin "object.__init_subclass__"), nR 220]
def o3v9 := oD "dict" ((en P "__name__" 165 (nS "pagebase.nodes" 194)) :: (l3 P).take 20) 21
def o12v9 := oG ((nJ 1) :: l12.take 35)
def o64v7 := oC "Expr" [nR 50] [nR 64, nR 50, (.type "object")] 63 [nR 90, nR 116, nR 142, nR 168, nR 194, nR 220, nR 246] (nT 55) 236 "Expr" 244
def o225 := oD "dict" [(en P "__module__" 472 (nS "pagebase.nodes" 194)), (en P "__qualname__" 474 (nS "InSelect" 473)), (en P "__firstlineno__" 476 (nI 73 475)), eR P "__init__" 486 236, eR P "row" 493 243, eR P "__static_attributes__" 497 244] 6
def o227 := oG [nJ 75, nJ 4, nR 235, nJ 80, nJ 4, nR 242]
def o228 := oZ "InSelect" 467 "InSelect" 468 469 73 0 0 0 0 226 227 470 73 471
def o229 := oP "frame" [nT 228, nT 3, nT 225, none, (some (nS "pagebase.nodes" 194)), none, nT 0]
def o232 := oQ "tuple" [nS "self" 480, nS "value" 481, nS "select" 482, nS "negated" 483] 0
def o234 := nG "__init__" "InSelect.__init__" (fB 12 0) 0 [] 0
def o235 := oY "__init__" 477 "InSelect.__init__" 478 479 75 4 0 0 3 230 231 232 233 234 484 75 485
def o236 := nF "__init__" "InSelect.__init__" (fB 12 0) 3 [] .none (nS "pagebase.nodes" 194) (nR 235) 0
def o239 := oQ "tuple" [nS "self" 490] 0
def o241 := nG "row" "InSelect.row" (fB 12 1) 0 [] 0
def o242 := oY "row" 487 "InSelect.row" 488 489 80 1 0 0 3 237 238 239 240 241 491 80 492
def o243 := nF "row" "InSelect.row" (fB 12 1) 3 [] .none (nS "pagebase.nodes" 194) (nR 242) 0
def o244 := oQ "tuple" [nS "negated" 494, nS "select" 495, nS "value" 496] 0
def o245 := oD "dict" [(en P "__module__" 472 (nS "pagebase.nodes" 194)), (en P "__firstlineno__" 476 (nI 73 475)), eR P "__init__" 486 236, eR P "row" 493 243, eR P "__static_attributes__" 497 244, (en P "__doc__" 498 .none)] 2
def o246 := oC "InSelect" [nR 64] [nR 246, nR 64, nR 50, (.type "object")] 245 [] (nT 223) 465 "InSelect" 473
def o247 := oF "super" [nR 246, nR 246, nR 246]
def o248 := oF "builtin_function_or_method" [(.builtin "object.__init_subclass__"), nR 246]
def o3v10 := oD "dict" ((en P "__name__" 165 (nS "pagebase.nodes" 194)) :: (l3 P).take 21) 22
def o12v10 := oG ((nJ 1) :: l12.take 38)
def o64v8 := oC "Expr" [nR 50] [nR 64, nR 50, (.type "object")] 63 [nR 90, nR 116, nR 142, nR 168, nR 194, nR 220, nR 246, nR 272] (nT 55) 236 "Expr" 244
def o251 := oD "dict" [(en P "__module__" 508 (nS "pagebase.nodes" 194)), (en P "__qualname__" 510 (nS "Exists" 509)), (en P "__firstlineno__" 512 (nI 82 511)), eR P "__init__" 521 262, eR P "row" 528 269, eR P "__static_attributes__" 531 270] 6
def o253 := oG [nJ 84, nJ 4, nR 261, nJ 88, nJ 4, nR 268]
def o254 := oZ "Exists" 503 "Exists" 504 505 82 0 0 0 0 252 253 506 82 507
def o255 := oP "frame" [nT 254, nT 3, nT 251, none, (some (nS "pagebase.nodes" 194)), none, nT 0]
def o258 := oQ "tuple" [nS "self" 516, nS "select" 517, nS "negated" 518] 0
def o260 := nG "__init__" "Exists.__init__" (fB 13 0) 0 [] 0
def o261 := oY "__init__" 513 "Exists.__init__" 514 515 84 3 0 0 3 256 257 258 259 260 519 84 520
def o262 := nF "__init__" "Exists.__init__" (fB 13 0) 3 [] .none (nS "pagebase.nodes" 194) (nR 261) 0
def o265 := oQ "tuple" [nS "self" 525] 0
def o267 := nG "row" "Exists.row" (fB 13 1) 0 [] 0
def o268 := oY "row" 522 "Exists.row" 523 524 88 1 0 0 3 263 264 265 266 267 526 88 527
def o269 := nF "row" "Exists.row" (fB 13 1) 3 [] .none (nS "pagebase.nodes" 194) (nR 268) 0
def o270 := oQ "tuple" [nS "negated" 529, nS "select" 530] 0
def o271 := oD "dict" [(en P "__module__" 508 (nS "pagebase.nodes" 194)), (en P "__firstlineno__" 512 (nI 82 511)), eR P "__init__" 521 262, eR P "row" 528 269, eR P "__static_attributes__" 531 270, (en P "__doc__" 532 .none)] 2
def o272 := oC "Exists" [nR 64] [nR 272, nR 64, nR 50, (.type "object")] 271 [] (nT 249) 501 "Exists" 509
def o273 := oF "super" [nR 272, nR 272, nR 272]
def o274 := oF "builtin_function_or_method" [(.builtin "object.__init_subclass__"), nR 272]
def o3v11 := oD "dict" ((en P "__name__" 165 (nS "pagebase.nodes" 194)) :: (l3 P).take 22) 23
def o12v11 := oG ((nJ 1) :: l12.take 41)
def o64v9 := oC "Expr" [nR 50] [nR 64, nR 50, (.type "object")] 63 [nR 90, nR 116, nR 142, nR 168, nR 194, nR 220, nR 246, nR 272, nR 298] (nT 55) 236 "Expr" 244
def o277 := oD "dict" [(en P "__module__" 542 (nS "pagebase.nodes" 194)), (en P "__qualname__" 544 (nS "Scalar" 543)), (en P "__firstlineno__" 546 (nI 90 545)), eR P "__init__" 554 288, eR P "row" 561 295, eR P "__static_attributes__" 563 296] 6
def o279 := oG [nJ 92, nJ 4, nR 287, nJ 95, nJ 4, nR 294]
def o280 := oZ "Scalar" 537 "Scalar" 538 539 90 0 0 0 0 278 279 540 90 541
def o281 := oP "frame" [nT 280, nT 3, nT 277, none, (some (nS "pagebase.nodes" 194)), none, nT 0]
def o284 := oQ "tuple" [nS "self" 550, nS "select" 551] 0
def o286 := nG "__init__" "Scalar.__init__" (fB 14 0) 0 [] 0
def o287 := oY "__init__" 547 "Scalar.__init__" 548 549 92 2 0 0 3 282 283 284 285 286 552 92 553
def o288 := nF "__init__" "Scalar.__init__" (fB 14 0) 3 [] .none (nS "pagebase.nodes" 194) (nR 287) 0
def o291 := oQ "tuple" [nS "self" 558] 0
def o293 := nG "row" "Scalar.row" (fB 14 1) 0 [] 0
def o294 := oY "row" 555 "Scalar.row" 556 557 95 1 0 0 3 289 290 291 292 293 559 95 560
def o295 := nF "row" "Scalar.row" (fB 14 1) 3 [] .none (nS "pagebase.nodes" 194) (nR 294) 0
def o296 := oQ "tuple" [nS "select" 562] 0
def o297 := oD "dict" [(en P "__module__" 542 (nS "pagebase.nodes" 194)), (en P "__firstlineno__" 546 (nI 90 545)), eR P "__init__" 554 288, eR P "row" 561 295, eR P "__static_attributes__" 563 296, (en P "__doc__" 564 .none)] 2
def o298 := oC "Scalar" [nR 64] [nR 298, nR 64, nR 50, (.type "object")] 297 [] (nT 275) 535 "Scalar" 543
def o299 := oF "super" [nR 298, nR 298, nR 298]
def o300 := oF "builtin_function_or_method" [(.builtin "object.__init_subclass__"), nR 298]
def o3v12 := oD "dict" ((en P "__name__" 165 (nS "pagebase.nodes" 194)) :: (l3 P).take 23) 24
def o12v12 := oG ((nJ 1) :: l12.take 44)
def o64v10 := oC "Expr" [nR 50] [nR 64, nR 50, (.type "object")] 63 [nR 90, nR 116, nR 142, nR 168, nR 194, nR 220, nR 246, nR 272, nR 298, nR 322] (nT 55) 236 "Expr" 244
def o303 := oD "dict" [(en P "__module__" 574 (nS "pagebase.nodes" 194)), (en P "__qualname__" 576 (nS "Case" 575)), (en P "__firstlineno__" 578 (nI 97 577)), eR P "__init__" 588 314, eR P "row" 594 319, eR P "__static_attributes__" 598 320] 6
def o305 := oG [nJ 99, nJ 4, nR 313, nJ 104, nJ 4, nR 318]
def o306 := oZ "Case" 569 "Case" 570 571 97 0 0 0 0 304 305 572 97 573
def o307 := oP "frame" [nT 306, nT 3, nT 303, none, (some (nS "pagebase.nodes" 194)), none, nT 0]
def o310 := oQ "tuple" [nS "self" 582, nS "base" 583, nS "whens" 584, nS "other" 585] 0
def o312 := nG "__init__" "Case.__init__" (fB 15 0) 0 [] 0
def o313 := oY "__init__" 579 "Case.__init__" 580 581 99 4 0 0 3 308 309 310 311 312 586 99 587
def o314 := nF "__init__" "Case.__init__" (fB 15 0) 3 [] .none (nS "pagebase.nodes" 194) (nR 313) 0
def o317 := nG "row" "Case.row" (fB 15 1) 0 [] 0
def o318 := oW "row" 589 "Case.row" 590 591 104 1 0 0 3 315 316 317 592 104 593
def o319 := nF "row" "Case.row" (fB 15 1) 3 [] .none (nS "pagebase.nodes" 194) (nR 318) 0
def o320 := oQ "tuple" [nS "base" 595, nS "other" 596, nS "whens" 597] 0
def o321 := oD "dict" [(en P "__module__" 574 (nS "pagebase.nodes" 194)), (en P "__firstlineno__" 578 (nI 97 577)), eR P "__init__" 588 314, eR P "row" 594 319, eR P "__static_attributes__" 598 320, (en P "__doc__" 599 .none)] 2
def o322 := oC "Case" [nR 64] [nR 322, nR 64, nR 50, (.type "object")] 321 [] (nT 301) 567 "Case" 575
def o323 := oF "super" [nR 322, nR 322, nR 322]
def o324 := oF "builtin_function_or_method" [(.builtin "object.__init_subclass__"), nR 322]
def o3v13 := oD "dict" ((en P "__name__" 165 (nS "pagebase.nodes" 194)) :: (l3 P).take 24) 25
def o12v13 := oG ((nJ 1) :: l12.take 47)
def o64v11 := oC "Expr" [nR 50] [nR 64, nR 50, (.type "object")] 63 [nR 90, nR 116, nR 142, nR 168, nR 194, nR 220, nR 246, nR 272, nR 298, nR 322, nR 348] (nT 55) 236 "Expr" 244
def o327 := oD "dict" [(en P "__module__" 609 (nS "pagebase.nodes" 194)), (en P "__qualname__" 611 (nS "Call" 610)), (en P "__firstlineno__" 613 (nI 107 612)), eR P "__init__" 624 338, eR P "row" 631 345, eR P "__static_attributes__" 636 346] 6
def o329 := oG [nJ 109, nJ 4, nR 337, nJ 115, nJ 4, nR 344]
def o330 := oZ "Call" 604 "Call" 605 606 107 0 0 0 0 328 329 607 107 608
def o331 := oP "frame" [nT 330, nT 3, nT 327, none, (some (nS "pagebase.nodes" 194)), none, nT 0]
def o334 := oQ "tuple" [nS "self" 617, nS "name" 618, nS "arguments" 619, nS "distinct" 620, nS "star" 621] 0
def o336 := nG "__init__" "Call.__init__" (fB 16 0) 0 [] 0
def o337 := oY "__init__" 614 "Call.__init__" 615 616 109 5 0 0 3 332 333 334 335 336 622 109 623
def o338 := nF "__init__" "Call.__init__" (fB 16 0) 3 [] .none (nS "pagebase.nodes" 194) (nR 337) 0
def o341 := oQ "tuple" [nS "self" 628] 0
def o343 := nG "row" "Call.row" (fB 16 1) 0 [] 0
def o344 := oY "row" 625 "Call.row" 626 627 115 1 0 0 3 339 340 341 342 343 629 115 630
def o345 := nF "row" "Call.row" (fB 16 1) 3 [] .none (nS "pagebase.nodes" 194) (nR 344) 0
def o346 := oQ "tuple" [nS "arguments" 632, nS "distinct" 633, nS "name" 634, nS "star" 635] 0
def o347 := oD "dict" [(en P "__module__" 609 (nS "pagebase.nodes" 194)), (en P "__firstlineno__" 613 (nI 107 612)), eR P "__init__" 624 338, eR P "row" 631 345, eR P "__static_attributes__" 636 346, (en P "__doc__" 637 .none)] 2
def o348 := oC "Call" [nR 64] [nR 348, nR 64, nR 50, (.type "object")] 347 [] (nT 325) 602 "Call" 610
def o349 := oF "super" [nR 348, nR 348, nR 348]
def o350 := oF "builtin_function_or_method" [(.builtin "object.__init_subclass__"), nR 348]
def o3v14 := oD "dict" ((en P "__name__" 165 (nS "pagebase.nodes" 194)) :: (l3 P).take 25) 26
def o12v14 := oG ((nJ 1) :: l12.take 50)
def o64v12 := oC "Expr" [nR 50] [nR 64, nR 50, (.type "object")] 63 [nR 90, nR 116, nR 142, nR 168, nR 194, nR 220, nR 246, nR 272, nR 298, nR 322, nR 348, nR 374] (nT 55) 236 "Expr" 244
def o353 := oD "dict" [(en P "__module__" 647 (nS "pagebase.nodes" 194)), (en P "__qualname__" 649 (nS "Cast" 648)), (en P "__firstlineno__" 651 (nI 117 650)), eR P "__init__" 660 364, eR P "row" 667 371, eR P "__static_attributes__" 670 372] 6
def o355 := oG [nJ 119, nJ 4, nR 363, nJ 123, nJ 4, nR 370]
def o356 := oZ "Cast" 642 "Cast" 643 644 117 0 0 0 0 354 355 645 117 646
def o357 := oP "frame" [nT 356, nT 3, nT 353, none, (some (nS "pagebase.nodes" 194)), none, nT 0]
def o360 := oQ "tuple" [nS "self" 655, nS "value" 656, nS "type_name" 657] 0
def o362 := nG "__init__" "Cast.__init__" (fB 17 0) 0 [] 0
def o363 := oY "__init__" 652 "Cast.__init__" 653 654 119 3 0 0 3 358 359 360 361 362 658 119 659
def o364 := nF "__init__" "Cast.__init__" (fB 17 0) 3 [] .none (nS "pagebase.nodes" 194) (nR 363) 0
def o367 := oQ "tuple" [nS "self" 664] 0
def o369 := nG "row" "Cast.row" (fB 17 1) 0 [] 0
def o370 := oY "row" 661 "Cast.row" 662 663 123 1 0 0 3 365 366 367 368 369 665 123 666
def o371 := nF "row" "Cast.row" (fB 17 1) 3 [] .none (nS "pagebase.nodes" 194) (nR 370) 0
def o372 := oQ "tuple" [nS "type_name" 668, nS "value" 669] 0
def o373 := oD "dict" [(en P "__module__" 647 (nS "pagebase.nodes" 194)), (en P "__firstlineno__" 651 (nI 117 650)), eR P "__init__" 660 364, eR P "row" 667 371, eR P "__static_attributes__" 670 372, (en P "__doc__" 671 .none)] 2
def o374 := oC "Cast" [nR 64] [nR 374, nR 64, nR 50, (.type "object")] 373 [] (nT 351) 640 "Cast" 648
def o375 := oF "super" [nR 374, nR 374, nR 374]
def o376 := oF "builtin_function_or_method" [(.builtin "object.__init_subclass__"), nR 374]
def o3v15 := oD "dict" ((en P "__name__" 165 (nS "pagebase.nodes" 194)) :: (l3 P).take 26) 27
def o12v15 := oG ((nJ 1) :: l12.take 53)
def o64v13 := oC "Expr" [nR 50] [nR 64, nR 50, (.type "object")] 63 [nR 90, nR 116, nR 142, nR 168, nR 194, nR 220, nR 246, nR 272, nR 298, nR 322, nR 348, nR 374, nR 400] (nT 55) 236 "Expr" 244
def o379 := oD "dict" [(en P "__module__" 681 (nS "pagebase.nodes" 194)), (en P "__qualname__" 683 (nS "Collate" 682)), (en P "__firstlineno__" 685 (nI 125 684)), eR P "__init__" 694 390, eR P "row" 701 397, eR P "__static_attributes__" 704 398] 6
def o381 := oG [nJ 127, nJ 4, nR 389, nJ 131, nJ 4, nR 396]
def o382 := oZ "Collate" 676 "Collate" 677 678 125 0 0 0 0 380 381 679 125 680
def o383 := oP "frame" [nT 382, nT 3, nT 379, none, (some (nS "pagebase.nodes" 194)), none, nT 0]
def o386 := oQ "tuple" [nS "self" 689, nS "value" 690, nS "collation" 691] 0
def o388 := nG "__init__" "Collate.__init__" (fB 18 0) 0 [] 0
def o389 := oY "__init__" 686 "Collate.__init__" 687 688 127 3 0 0 3 384 385 386 387 388 692 127 693
def o390 := nF "__init__" "Collate.__init__" (fB 18 0) 3 [] .none (nS "pagebase.nodes" 194) (nR 389) 0
def o393 := oQ "tuple" [nS "self" 698] 0
def o395 := nG "row" "Collate.row" (fB 18 1) 0 [] 0
def o396 := oY "row" 695 "Collate.row" 696 697 131 1 0 0 3 391 392 393 394 395 699 131 700
def o397 := nF "row" "Collate.row" (fB 18 1) 3 [] .none (nS "pagebase.nodes" 194) (nR 396) 0
def o398 := oQ "tuple" [nS "collation" 702, nS "value" 703] 0
def o399 := oD "dict" [(en P "__module__" 681 (nS "pagebase.nodes" 194)), (en P "__firstlineno__" 685 (nI 125 684)), eR P "__init__" 694 390, eR P "row" 701 397, eR P "__static_attributes__" 704 398, (en P "__doc__" 705 .none)] 2
def o400 := oC "Collate" [nR 64] [nR 400, nR 64, nR 50, (.type "object")] 399 [] (nT 377) 674 "Collate" 682
def o401 := oF "super" [nR 400, nR 400, nR 400]
def o402 := oF "builtin_function_or_method" [(.builtin "object.__init_subclass__"), nR 400]
def o3v16 := oD "dict" ((en P "__name__" 165 (nS "pagebase.nodes" 194)) :: (l3 P).take 27) 28
def o12v16 := oG ((nJ 1) :: l12.take 56)
def o64v14 := oC "Expr" [nR 50] [nR 64, nR 50, (.type "object")] 63 [nR 90, nR 116, nR 142, nR 168, nR 194, nR 220, nR 246, nR 272, nR 298, nR 322, nR 348, nR 374, nR 400, nR 426] (nT 55) 236 "Expr" 244
def o405 := oD "dict" [(en P "__module__" 715 (nS "pagebase.nodes" 194)), (en P "__qualname__" 717 (nS "IsNull" 716)), (en P "__firstlineno__" 719 (nI 133 718)), eR P "__init__" 728 416, eR P "row" 735 423, eR P "__static_attributes__" 738 424] 6
def o407 := oG [nJ 135, nJ 4, nR 415, nJ 139, nJ 4, nR 422]
def o408 := oZ "IsNull" 710 "IsNull" 711 712 133 0 0 0 0 406 407 713 133 714
def o409 := oP "frame" [nT 408, nT 3, nT 405, none, (some (nS "pagebase.nodes" 194)), none, nT 0]
def o412 := oQ "tuple" [nS "self" 723, nS "value" 724, nS "negated" 725] 0
def o414 := nG "__init__" "IsNull.__init__" (fB 19 0) 0 [] 0
def o415 := oY "__init__" 720 "IsNull.__init__" 721 722 135 3 0 0 3 410 411 412 413 414 726 135 727
def o416 := nF "__init__" "IsNull.__init__" (fB 19 0) 3 [] .none (nS "pagebase.nodes" 194) (nR 415) 0
def o419 := oQ "tuple" [nS "self" 732] 0
def o421 := nG "row" "IsNull.row" (fB 19 1) 0 [] 0
def o422 := oY "row" 729 "IsNull.row" 730 731 139 1 0 0 3 417 418 419 420 421 733 139 734
def o423 := nF "row" "IsNull.row" (fB 19 1) 3 [] .none (nS "pagebase.nodes" 194) (nR 422) 0
def o424 := oQ "tuple" [nS "negated" 736, nS "value" 737] 0
def o425 := oD "dict" [(en P "__module__" 715 (nS "pagebase.nodes" 194)), (en P "__firstlineno__" 719 (nI 133 718)), eR P "__init__" 728 416, eR P "row" 735 423, eR P "__static_attributes__" 738 424, (en P "__doc__" 739 .none)] 2
def o426 := oC "IsNull" [nR 64] [nR 426, nR 64, nR 50, (.type "object")] 425 [] (nT 403) 708 "IsNull" 716
def o427 := oF "super" [nR 426, nR 426, nR 426]
def o428 := oF "builtin_function_or_method" [(.builtin "object.__init_subclass__"), nR 426]
def o3v17 := oD "dict" ((en P "__name__" 165 (nS "pagebase.values" 783)) :: (l3 P).take 32) 33
def o12v17 := oG ((nJ 1) :: l12.take 65)
def o64v15 := oC "Expr" [nR 50] [nR 64, nR 50, (.type "object")] 63 [nR 90, nR 116, nR 142, nR 168, nR 194, nR 220, nR 246, nR 272, nR 298, nR 322, nR 348, nR 374, nR 400, nR 426, nR 452] (nT 55) 236 "Expr" 244
def o431 := oD "dict" [(en P "__module__" 749 (nS "pagebase.nodes" 194)), (en P "__qualname__" 751 (nS "Match" 750)), (en P "__firstlineno__" 753 (nI 141 752)), eR P "__init__" 765 442, eR P "row" 773 449, eR P "__static_attributes__" 779 450] 6
def o433 := oG [nJ 143, nJ 4, nR 441, nJ 150, nJ 4, nR 448]
def o434 := oZ "Match" 744 "Match" 745 746 141 0 0 0 0 432 433 747 141 748
def o435 := oP "frame" [nT 434, nT 3, nT 431, none, (some (nS "pagebase.nodes" 194)), none, nT 0]
def o438 := oQ "tuple" [nS "self" 757, nS "word" 758, nS "value" 759, nS "pattern" 760, nS "escape" 761, nS "negated" 762] 0
def o440 := nG "__init__" "Match.__init__" (fB 20 0) 0 [] 0
def o441 := oY "__init__" 754 "Match.__init__" 755 756 143 6 0 0 3 436 437 438 439 440 763 143 764
def o442 := nF "__init__" "Match.__init__" (fB 20 0) 3 [] .none (nS "pagebase.nodes" 194) (nR 441) 0
def o445 := oQ "tuple" [nS "self" 769, nS "told" 770] 0
def o447 := nG "row" "Match.row" (fB 20 1) 0 [] 0
def o448 := oY "row" 766 "Match.row" 767 768 150 1 0 0 3 443 444 445 446 447 771 150 772
def o449 := nF "row" "Match.row" (fB 20 1) 3 [] .none (nS "pagebase.nodes" 194) (nR 448) 0
def o450 := oQ "tuple" [nS "escape" 774, nS "negated" 775, nS "pattern" 776, nS "value" 777, nS "word" 778] 0
def o451 := oD "dict" [(en P "__module__" 749 (nS "pagebase.nodes" 194)), (en P "__firstlineno__" 753 (nI 141 752)), eR P "__init__" 765 442, eR P "row" 773 449, eR P "__static_attributes__" 779 450, (en P "__doc__" 780 .none)] 2
def o452 := oC "Match" [nR 64] [nR 452, nR 64, nR 50, (.type "object")] 451 [] (nT 429) 742 "Match" 750
def o453 := oF "super" [nR 452, nR 452, nR 452]
def o454 := oF "builtin_function_or_method" [(.builtin "object.__init_subclass__"), nR 452]
def o455 := oQ "tuple" [nS "integer" 785, nS "numeric" 786] 0
def o458 := oQ "tuple" [nS "text" 793, nS "signs" 794, nS "sign" 795] 0
def o460 := nG "fold_ascii" "fold_ascii" (fA 24) 0 [] 0
def o461 := oY "fold_ascii" 790 "fold_ascii" 791 792 156 1 0 0 3 456 457 458 459 460 796 156 797
def o462 := nF "fold_ascii" "fold_ascii" (fA 24) 3 [] .none (nS "pagebase.values" 783) (nR 461) 0
def o465 := oQ "tuple" [nS "type_name" 802, nS "name" 803, nS "part" 804] 0
def o467 := nG "affinity_of_type" "affinity_of_type" (fA 25) 0 [] 0
def o468 := oY "affinity_of_type" 799 "affinity_of_type" 800 801 164 1 0 0 3 463 464 465 466 467 805 164 806
def o469 := nF "affinity_of_type" "affinity_of_type" (fA 25) 3 [] .none (nS "pagebase.values" 783) (nR 468) 0
def o3v18 := oD "dict" ((en P "__name__" 165 (nS "pagebase.terms" 891)) :: (l3 P).take 42) 43
def o12v18 := oG ((nJ 1) :: l12.take 95)
def o472 := oQ "tuple" [nS "left" 811, nS "right" 812] 0
def o474 := nG "comparison_affinities" "comparison_affinities" (fA 26) 0 [] 0
def o475 := oY "comparison_affinities" 808 "comparison_affinities" 809 810 176 2 0 0 3 470 471 472 473 474 813 176 814
def o476 := nF "comparison_affinities" "comparison_affinities" (fA 26) 3 [] .none (nS "pagebase.values" 783) (nR 475) 0
def o479 := nG "fold" "fold" (fA 28) 0 [] 0
def o480 := oW "fold" 818 "fold" 819 820 187 1 0 0 3 477 478 479 821 187 822
def o481 := nF "fold" "fold" (fA 28) 3 [] .none (nS "pagebase.expr_tools" 816) (nR 480) 0
def o484 := oQ "tuple" [nS "expr" 827, nS "found" 828, nS "when" 829, nS "then" 830] 0
def o486 := nG "children" "children" (fA 29) 0 [] 0
def o487 := oY "children" 824 "children" 825 826 189 1 0 0 3 482 483 484 485 486 831 189 832
def o488 := nF "children" "children" (fA 29) 3 [] .none (nS "pagebase.expr_tools" 816) (nR 487) 0
def o491 := oQ "tuple" [nS "expr" 837, nS "found" 838] 0
def o493 := nG "outer_numbers" "outer_numbers" (fA 30) 0 [] 0
def o494 := oY "outer_numbers" 834 "outer_numbers" 835 836 212 1 0 0 3 489 490 491 492 493 839 212 840
def o495 := nF "outer_numbers" "outer_numbers" (fA 30) 3 [] .none (nS "pagebase.expr_tools" 816) (nR 494) 0
def o498 := oQ "tuple" [nS "expr" 845, nS "found" 846, nS "number" 847, nS "child" 848] 0
def o500 := nG "collect_numbers" "collect_numbers" (fA 31) 0 [] 0
def o501 := oY "collect_numbers" 842 "collect_numbers" 843 844 216 2 0 0 3 496 497 498 499 500 849 216 850
def o502 := nF "collect_numbers" "collect_numbers" (fA 31) 3 [] .none (nS "pagebase.expr_tools" 816) (nR 501) 0
def o503 := oQ "tuple" [.none] 0
def o506 := oQ "tuple" [nS "expr" 855, nS "sources" 856] 0
def o508 := nG "affinity_of" "affinity_of" (fA 32) 0 [] 0
def o509 := oY "affinity_of" 852 "affinity_of" 853 854 224 2 0 0 3 504 505 506 507 508 857 224 858
def o510 := nF "affinity_of" "affinity_of" (fA 32) 3 [] (nR 503) (nS "pagebase.expr_tools" 816) (nR 509) 0
def o513 := oQ "tuple" [nS "expr" 863] 0
def o515 := nG "explicit_collation" "explicit_collation" (fA 33) 0 [] 0
def o516 := oY "explicit_collation" 860 "explicit_collation" 861 862 234 1 0 0 3 511 512 513 514 515 864 234 865
def o517 := nF "explicit_collation" "explicit_collation" (fA 33) 3 [] .none (nS "pagebase.expr_tools" 816) (nR 516) 0
def o520 := oQ "tuple" [nS "expr" 870] 0
def o522 := nG "column_collation" "column_collation" (fA 34) 0 [] 0
def o523 := oY "column_collation" 867 "column_collation" 868 869 244 1 0 0 3 518 519 520 521 522 871 244 872
def o524 := nF "column_collation" "column_collation" (fA 34) 3 [] .none (nS "pagebase.expr_tools" 816) (nR 523) 0
def o528 := oQ "tuple" [nS "expr" 877, nS "sources" 878] 0
def o530 := nG "collation_of" "collation_of" (fA 35) 0 [] 0
def o531 := oY "collation_of" 874 "collation_of" 875 876 252 2 0 0 3 526 527 528 529 530 879 252 880
def o532 := nF "collation_of" "collation_of" (fA 35) 3 [] (nR 525) (nS "pagebase.expr_tools" 816) (nR 531) 0
def o535 := oQ "tuple" [nS "left" 885, nS "right" 886, nS "found" 887] 0
def o537 := nG "comparison_collation" "comparison_collation" (fA 36) 0 [] 0
def o538 := oY "comparison_collation" 882 "comparison_collation" 883 884 254 2 0 0 3 533 534 535 536 537 888 254 889
def o539 := nF "comparison_collation" "comparison_collation" (fA 36) 3 [] .none (nS "pagebase.expr_tools" 816) (nR 538) 0
def o3v19 := oD "dict" ((en P "__name__" 165 (nS "pagebase.terms" 891)) :: (l3 P).take 49) 50
def o12v19 := oG ((nJ 1) :: l12.take 104)
def o540 := oD "dict" [(en P "=" 893 (nS "=" 894)), (en P "<" 895 (nS ">" 896)), (en P "<=" 897 (nS ">=" 898)), (en P ">" 899 (nS "<" 900)), (en P ">=" 901 (nS "<=" 902))] 5
def o541 := oQ "tuple" [nS "or" 909, nS "and" 910, nS "=" 911, nS "<>" 912, nS "<" 913, nS "<=" 914, nS ">" 915, nS ">=" 916, nS "is" 917, nS "is not" 918] 0
def o542 := oQ "tuple" [nS "+" 920, nS "-" 921, nS "*" 922, nS "/" 923, nS "%" 924, nS "&" 925, nS "|" 926, nS "<<" 927, nS ">>" 928] 0
def o543 := oQ "tuple" [nS "length" 930, nS "instr" 931] 0
def o546 := oQ "tuple" [nS "expr" 936, nS "left" 937, nS "found" 938, nS "node" 939] 0
def o548 := nG "split_and" "split_and" (fA 42) 0 [] 0
def o549 := oY "split_and" 933 "split_and" 934 935 264 1 0 0 3 544 545 546 547 548 940 264 941
def o550 := nF "split_and" "split_and" (fA 42) 3 [] .none (nS "pagebase.terms" 891) (nR 549) 0
def o553 := oQ "tuple" [nS "expr" 946, nS "number" 947] 0
def o555 := nG "is_column_of" "is_column_of" (fA 43) 0 [] 0
def o556 := oY "is_column_of" 943 "is_column_of" 944 945 275 2 0 0 3 551 552 553 554 555 948 275 949
def o557 := nF "is_column_of" "is_column_of" (fA 43) 3 [] .none (nS "pagebase.terms" 891) (nR 556) 0
def o560 := oQ "tuple" [nS "expr" 954, nS "number" 955] 0
def o562 := nG "is_free_of" "is_free_of" (fA 44) 0 [] 0
def o563 := oY "is_free_of" 951 "is_free_of" 952 953 277 2 0 0 3 558 559 560 561 562 956 277 957
def o564 := nF "is_free_of" "is_free_of" (fA 44) 3 [] .none (nS "pagebase.terms" 891) (nR 563) 0
def o3v20 := oD "dict" ((en P "__name__" 165 (nS "pagebase.terms" 891)) :: (l3 P).take 50) 51
def o12v20 := oG ((nJ 1) :: l12.take 107)
def o567 := oD "dict" [(en P "__module__" 966 (nS "pagebase.terms" 891)), (en P "__qualname__" 968 (nS "Bound" 967)), (en P "__firstlineno__" 970 (nI 279 969)), eR P "__init__" 982 578, eR P "__static_attributes__" 988 579] 5
def o569 := oG [nJ 281, nJ 4, nR 577]
def o570 := oZ "Bound" 961 "Bound" 962 963 279 0 0 0 0 568 569 964 279 965
def o571 := oP "frame" [nT 570, nT 3, nT 567, none, (some (nS "pagebase.terms" 891)), none, nT 0]
def o574 := oQ "tuple" [nS "self" 974, nS "place" 975, nS "op" 976, nS "value" 977, nS "affinity" 978, nS "collation" 979] 0
def o576 := nG "__init__" "Bound.__init__" (fB 45 0) 0 [] 0
def o577 := oY "__init__" 971 "Bound.__init__" 972 973 281 6 0 0 3 572 573 574 575 576 980 281 981
def o578 := nF "__init__" "Bound.__init__" (fB 45 0) 3 [] .none (nS "pagebase.terms" 891) (nR 577) 0
def o579 := oQ "tuple" [nS "affinity" 983, nS "collation" 984, nS "op" 985, nS "place" 986, nS "value" 987] 0
def o580 := oD "dict" [(en P "__module__" 966 (nS "pagebase.terms" 891)), (en P "__firstlineno__" 970 (nI 279 969)), eR P "__init__" 982 578, eR P "__static_attributes__" 988 579, eR P "__dict__" 990 582, eR P "__weakref__" 992 583, (en P "__doc__" 993 .none)] 4
def o581 := oC "Bound" [(.type "object")] [nR 581, (.type "object")] 580 [] none 959 "Bound" 967
def o582 := oF "getset_descriptor" [nS "__dict__" 989, nR 581, (.builtin "function.__dict__"), (.builtin "function.__dict__#set")]
def o583 := oF "getset_descriptor" [nS "__weakref__" 991, nR 581, (.builtin "ExceptionGroup.__weakref__"), .none]
def o584 := oF "super" [nR 581, nR 581, nR 581]
def o585 := oF "builtin_function_or_method" [(.builtin "object.__init_subclass__"), nR 581]
def o3v21 := oD "dict" ((en P "__name__" 165 (nS "pagebase.terms" 891)) :: (l3 P).take 52) 53
def o12v21 := oG ((nJ 1) :: l12.take 113)
def o588 := oD "dict" [(en P "__module__" 1003 (nS "pagebase.terms" 891)), (en P "__qualname__" 1005 (nS "Term" 1004)), (en P "__firstlineno__" 1007 (nI 287 1006)), eR P "__init__" 1013 597, eR P "take_form" 1021 604, eR P "is_constant" 1028 611, eR P "is_known" 1036 618, eR P "is_ready" 1042 623, eR P "__static_attributes__" 1048 624] 9
def o590 := oG [nJ 289, nJ 4, nR 596, nJ 297, nJ 4, nR 603, nJ 306, nJ 4, nR 610, nJ 309, nJ 4, nR 617, nJ 312, nJ 4, nR 622]
def o591 := oZ "Term" 998 "Term" 999 1000 287 0 0 0 0 589 590 1001 287 1002
def o592 := oP "frame" [nT 591, nT 3, nT 588, none, (some (nS "pagebase.terms" 891)), none, nT 0]
def o595 := nG "__init__" "Term.__init__" (fB 46 0) 0 [] 0
def o596 := oW "__init__" 1008 "Term.__init__" 1009 1010 289 3 0 0 3 593 594 595 1011 289 1012
def o597 := nF "__init__" "Term.__init__" (fB 46 0) 3 [] .none (nS "pagebase.terms" 891) (nR 596) 0
def o600 := oQ "tuple" [nS "self" 1017, nS "expr" 1018] 0
def o602 := nG "take_form" "Term.take_form" (fB 46 1) 0 [] 0
def o603 := oY "take_form" 1014 "Term.take_form" 1015 1016 297 1 0 0 3 598 599 600 601 602 1019 297 1020
def o604 := nF "take_form" "Term.take_form" (fB 46 1) 3 [] .none (nS "pagebase.terms" 891) (nR 603) 0
def o607 := oQ "tuple" [nS "self" 1025] 0
def o609 := nG "is_constant" "Term.is_constant" (fB 46 2) 0 [] 0
def o610 := oY "is_constant" 1022 "Term.is_constant" 1023 1024 306 1 0 0 3 605 606 607 608 609 1026 306 1027
def o611 := nF "is_constant" "Term.is_constant" (fB 46 2) 3 [] .none (nS "pagebase.terms" 891) (nR 610) 0
def o614 := oQ "tuple" [nS "self" 1032, nS "placed" 1033] 0
def o616 := nG "is_known" "Term.is_known" (fB 46 3) 0 [] 0
def o617 := oY "is_known" 1029 "Term.is_known" 1030 1031 309 2 0 0 3 612 613 614 615 616 1034 309 1035
def o618 := nF "is_known" "Term.is_known" (fB 46 3) 3 [] .none (nS "pagebase.terms" 891) (nR 617) 0
def o621 := nG "is_ready" "Term.is_ready" (fB 46 4) 0 [] 0
def o622 := oW "is_ready" 1037 "Term.is_ready" 1038 1039 312 3 0 0 3 619 620 621 1040 312 1041
def o623 := nF "is_ready" "Term.is_ready" (fB 46 4) 3 [] .none (nS "pagebase.terms" 891) (nR 622) 0
def o624 := oQ "tuple" [nS "expr" 1043, nS "left_name" 1044, nS "needs" 1045, nS "op" 1046, nS "right" 1047] 0
def o625 := oD "dict" [(en P "__module__" 1003 (nS "pagebase.terms" 891)), (en P "__firstlineno__" 1007 (nI 287 1006)), eR P "__init__" 1013 597, eR P "take_form" 1021 604, eR P "is_constant" 1028 611, eR P "is_known" 1036 618, eR P "is_ready" 1042 623, eR P "__static_attributes__" 1048 624, eR P "__dict__" 1050 627, eR P "__weakref__" 1052 628, (en P "__doc__" 1053 .none)] 4
def o626 := oC "Term" [(.type "object")] [nR 626, (.type "object")] 625 [] none 996 "Term" 1004
def o627 := oF "getset_descriptor" [nS "__dict__" 1049, nR 626, (.builtin "function.__dict__"), (.builtin "function.__dict__#set")]
def o628 := oF "getset_descriptor" [nS "__weakref__" 1051, nR 626, (.builtin "ExceptionGroup.__weakref__"), .none]
def o629 := oF "super" [nR 626, nR 626, nR 626]
def o630 := oF "builtin_function_or_method" [(.builtin "object.__init_subclass__"), nR 626]
def o633 := oQ "tuple" [nS "name" 1059, nS "op" 1060, nS "value" 1061, nS "left" 1062, nS "right" 1063, nS "kept" 1064, nS "led" 1065] 0
def o635 := nG "compared_bound" "compared_bound" (fA 47) 0 [] 0
def o636 := oY "compared_bound" 1056 "compared_bound" 1057 1058 316 5 0 0 3 631 632 633 634 635 1066 316 1067
def o637 := nF "compared_bound" "compared_bound" (fA 47) 3 [] .none (nS "pagebase.terms" 891) (nR 636) 0
def o3v22 := oD "dict" ((en P "__name__" 165 (nS "pagebase.paths" 1116)) :: (l3 P).take 63) 64
def o12v22 := oG ((nJ 1) :: l12.take 131)
def o640 := nG "comparison_bounds" "comparison_bounds" (fA 48) 0 [] 0
def o641 := oW "comparison_bounds" 1069 "comparison_bounds" 1070 1071 321 2 0 0 3 638 639 640 1072 321 1073
def o642 := nF "comparison_bounds" "comparison_bounds" (fA 48) 3 [] .none (nS "pagebase.terms" 891) (nR 641) 0
def o645 := nG "between_bounds" "between_bounds" (fA 49) 0 [] 0
def o646 := oW "between_bounds" 1075 "between_bounds" 1076 1077 328 2 0 0 3 643 644 645 1078 328 1079
def o647 := nF "between_bounds" "between_bounds" (fA 49) 3 [] .none (nS "pagebase.terms" 891) (nR 646) 0
def o650 := oQ "tuple" [nS "expr" 1084, nS "number" 1085, nS "item" 1086, nS "kept" 1087, nS "led" 1088] 0
def o652 := nG "list_bounds" "list_bounds" (fA 50) 0 [] 0
def o653 := oY "list_bounds" 1081 "list_bounds" 1082 1083 336 2 0 0 3 648 649 650 651 652 1089 336 1090
def o654 := nF "list_bounds" "list_bounds" (fA 50) 3 [] .none (nS "pagebase.terms" 891) (nR 653) 0
def o657 := oQ "tuple" [nS "term" 1095, nS "number" 1096, nS "expr" 1097] 0
def o659 := nG "bounds_of" "bounds_of" (fA 51) 0 [] 0
def o660 := oY "bounds_of" 1092 "bounds_of" 1093 1094 344 2 0 0 3 655 656 657 658 659 1098 344 1099
def o661 := nF "bounds_of" "bounds_of" (fA 51) 3 [] .none (nS "pagebase.terms" 891) (nR 660) 0
def o664 := oQ "tuple" [nS "place" 1104, nS "table" 1105] 0
def o666 := nG "is_rowid_place" "is_rowid_place" (fA 52) 0 [] 0
def o667 := oY "is_rowid_place" 1101 "is_rowid_place" 1102 1103 353 2 0 0 3 662 663 664 665 666 1106 353 1107
def o668 := nF "is_rowid_place" "is_rowid_place" (fA 52) 3 [] .none (nS "pagebase.terms" 891) (nR 667) 0
def o671 := oQ "tuple" [nS "expr" 1112] 0
def o673 := nG "surely_integer" "surely_integer" (fA 53) 0 [] 0
def o674 := oY "surely_integer" 1109 "surely_integer" 1110 1111 355 1 0 0 3 669 670 671 672 673 1113 355 1114
def o675 := nF "surely_integer" "surely_integer" (fA 53) 3 [] .none (nS "pagebase.terms" 891) (nR 674) 0
def o3v23 := oD "dict" ((en P "__name__" 165 (nS "pagebase.paths" 1116)) :: (l3 P).take 65) 66
def o12v23 := oG ((nJ 1) :: l12.take 137)
def o678 := oD "dict" [(en P "__module__" 1135 (nS "pagebase.paths" 1116)), (en P "__qualname__" 1137 (nS "Path" 1136)), (en P "__firstlineno__" 1139 (nI 375 1138)), eR P "__init__" 1148 690, eR P "is_led" 1155 697, eR P "turned" 1164 704, eR P "told" 1172 711, eR P "__static_attributes__" 1188 712] 8
def o680 := oG [nJ 377, nJ 4, nR 689, nJ 394, nJ 4, nR 696, nJ 397, nJ 4, nR 703, nJ 408, nJ 4, nR 710]
def o681 := oZ "Path" 1130 "Path" 1131 1132 375 0 0 0 0 679 680 1133 375 1134
def o682 := oP "frame" [nT 681, nT 3, nT 678, none, (some (nS "pagebase.paths" 1116)), none, nT 0]
def o686 := oQ "tuple" [nS "self" 1143, nS "kind" 1144, nS "index" 1145] 0
def o688 := nG "__init__" "Path.__init__" (fB 60 0) 0 [] 0
def o689 := oY "__init__" 1140 "Path.__init__" 1141 1142 377 3 0 0 3 684 685 686 687 688 1146 377 1147
def o690 := nF "__init__" "Path.__init__" (fB 60 0) 3 [] (nR 683) (nS "pagebase.paths" 1116) (nR 689) 0
def o693 := oQ "tuple" [nS "self" 1152] 0
def o695 := nG "is_led" "Path.is_led" (fB 60 1) 0 [] 0
def o696 := oY "is_led" 1149 "Path.is_led" 1150 1151 394 1 0 0 3 691 692 693 694 695 1153 394 1154
def o697 := nF "is_led" "Path.is_led" (fB 60 1) 3 [] .none (nS "pagebase.paths" 1116) (nR 696) 0
def o700 := oQ "tuple" [nS "self" 1159, nS "descending" 1160, nS "found" 1161] 0
def o702 := nG "turned" "Path.turned" (fB 60 2) 0 [] 0
def o703 := oY "turned" 1156 "Path.turned" 1157 1158 397 2 0 0 3 698 699 700 701 702 1162 397 1163
def o704 := nF "turned" "Path.turned" (fB 60 2) 3 [] .none (nS "pagebase.paths" 1116) (nR 703) 0
def o707 := oQ "tuple" [nS "self" 1168, nS "text" 1169] 0
def o709 := nG "told" "Path.told" (fB 60 3) 0 [] 0
def o710 := oY "told" 1165 "Path.told" 1166 1167 408 1 0 0 3 705 706 707 708 709 1170 408 1171
def o711 := nF "told" "Path.told" (fB 60 3) 3 [] .none (nS "pagebase.paths" 1116) (nR 710) 0
def o712 := oQ "tuple" [nS "cost" 1173, nS "covering" 1174, nS "descending" 1175, nS "equal_affinities" 1176, nS "equals" 1177, nS "high" 1178, nS "high_affinity" 1179, nS "in_affinity" 1180, nS "in_list" 1181, nS "index" 1182, nS "is_single" 1183, nS "kind" 1184, nS "low" 1185, nS "low_affinity" 1186, nS "rows" 1187] 0
def o713 := oD "dict" [(en P "__module__" 1135 (nS "pagebase.paths" 1116)), (en P "__firstlineno__" 1139 (nI 375 1138)), eR P "__init__" 1148 690, eR P "is_led" 1155 697, eR P "turned" 1164 704, eR P "told" 1172 711, eR P "__static_attributes__" 1188 712, eR P "__dict__" 1190 715, eR P "__weakref__" 1192 716, (en P "__doc__" 1193 .none)] 4
def o714 := oC "Path" [(.type "object")] [nR 714, (.type "object")] 713 [] none 1128 "Path" 1136
def o715 := oF "getset_descriptor" [nS "__dict__" 1189, nR 714, (.builtin "function.__dict__"), (.builtin "function.__dict__#set")]
def o716 := oF "getset_descriptor" [nS "__weakref__" 1191, nR 714, (.builtin "ExceptionGroup.__weakref__"), .none]
def o717 := oF "super" [nR 714, nR 714, nR 714]
def o718 := oF "builtin_function_or_method" [(.builtin "object.__init_subclass__"), nR 714]
def o721 := oQ "tuple" [nS "bounds" 1199, nS "fits" 1200, nS "ops" 1201, nS "place" 1202, nS "is_rowid" 1203, nS "collation" 1204, nS "table" 1205, nS "bound" 1206, nS "is_here" 1207] 0
def o723 := nG "first_bound" "first_bound" (fA 61) 0 [] 0
def o724 := oY "first_bound" 1196 "first_bound" 1197 1198 421 3 0 0 3 719 720 721 722 723 1208 421 1209
def o725 := nF "first_bound" "first_bound" (fA 61) 3 [] .none (nS "pagebase.paths" 1116) (nR 724) 0
def o3v24 := oD "dict" ((en P "__name__" 165 (nS "pagebase.plans" 1297)) :: (l3 P).take 73) 74
def o12v24 := oG ((nJ 1) :: l12.take 161)
def o728 := oQ "tuple" [nS "path" 1214, nS "bound" 1215] 0
def o730 := nG "put_equal" "put_equal" (fA 62) 0 [] 0
def o731 := oY "put_equal" 1211 "put_equal" 1212 1213 428 2 0 0 3 726 727 728 729 730 1216 428 1217
def o732 := nF "put_equal" "put_equal" (fA 62) 3 [] .none (nS "pagebase.paths" 1116) (nR 731) 0
def o735 := oQ "tuple" [nS "path" 1222, nS "bound" 1223] 0
def o737 := nG "put_list" "put_list" (fA 63) 0 [] 0
def o738 := oY "put_list" 1219 "put_list" 1220 1221 431 2 0 0 3 733 734 735 736 737 1224 431 1225
def o739 := nF "put_list" "put_list" (fA 63) 3 [] .none (nS "pagebase.paths" 1116) (nR 738) 0
def o742 := oQ "tuple" [nS "path" 1230, nS "low" 1231, nS "high" 1232] 0
def o744 := nG "put_range" "put_range" (fA 64) 0 [] 0
def o745 := oY "put_range" 1227 "put_range" 1228 1229 433 3 0 0 3 740 741 742 743 744 1233 433 1234
def o746 := nF "put_range" "put_range" (fA 64) 3 [] .none (nS "pagebase.paths" 1116) (nR 745) 0
def o749 := oQ "tuple" [nS "path" 1239, nS "per_row" 1240, nS "is_single" 1241, nS "rows" 1242, nS "expr" 1243, nS "many" 1244] 0
def o751 := nG "guess" "guess" (fA 65) 0 [] 0
def o752 := oY "guess" 1236 "guess" 1237 1238 438 3 0 0 3 747 748 749 750 751 1245 438 1246
def o753 := nF "guess" "guess" (fA 65) 3 [] .none (nS "pagebase.paths" 1116) (nR 752) 0
def o756 := nG "rowid_paths" "rowid_paths" (fA 66) 0 [] 0
def o757 := oW "rowid_paths" 1248 "rowid_paths" 1249 1250 454 2 0 0 3 754 755 756 1251 454 1252
def o758 := nF "rowid_paths" "rowid_paths" (fA 66) 3 [] .none (nS "pagebase.paths" 1116) (nR 757) 0
def o761 := oQ "tuple" [nS "column" 1257, nS "table" 1258, nS "place" 1259, nS "collation" 1260, nS "descending" 1261] 0
def o763 := nG "fits_column" "fits_column" (fA 67) 0 [] 0
def o764 := oY "fits_column" 1254 "fits_column" 1255 1256 476 2 0 0 3 759 760 761 762 763 1262 476 1263
def o765 := nF "fits_column" "fits_column" (fA 67) 3 [] .none (nS "pagebase.paths" 1116) (nR 764) 0
def o768 := oQ "tuple" [nS "index" 1268, nS "table" 1269, nS "bounds" 1270, nS "is_covering" 1271, nS "head" 1272, nS "column" 1273, nS "equal" 1274, nS "found" 1275, nS "fits" 1276, nS "low" 1277, nS "high" 1278, nS "many" 1279, nS "path" 1280, nS "told" 1281, nS "is_single" 1282] 0
def o770 := nG "index_paths" "index_paths" (fA 68) 0 [] 0
def o771 := oY "index_paths" 1265 "index_paths" 1266 1267 479 4 0 0 3 766 767 768 769 770 1283 479 1284
def o772 := nF "index_paths" "index_paths" (fA 68) 3 [] .none (nS "pagebase.paths" 1116) (nR 771) 0
def o775 := oQ "tuple" [nS "index" 1289, nS "head" 1290, nS "is_covering" 1291, nS "path" 1292, nS "bound" 1293] 0
def o777 := nG "new_index_path" "new_index_path" (fA 69) 0 [] 0
def o778 := oY "new_index_path" 1286 "new_index_path" 1287 1288 504 3 0 0 3 773 774 775 776 777 1294 504 1295
def o779 := nF "new_index_path" "new_index_path" (fA 69) 3 [] .none (nS "pagebase.paths" 1116) (nR 778) 0
def o3v25 := oD "dict" ((en P "__name__" 165 (nS "pagebase.sources" 1354)) :: (l3 P).take 74) 75
def o12v25 := oG ((nJ 1) :: l12.take 164)
def o782 := oD "dict" [(en P "__module__" 1306 (nS "pagebase.plans" 1297)), (en P "__qualname__" 1308 (nS "Conditions" 1307)), (en P "__firstlineno__" 1310 (nI 511 1309)), eR P "__init__" 1316 791, eR P "ready_bounds" 1328 798, eR P "before" 1335 805, eR P "by_level" 1343 812, eR P "__static_attributes__" 1346 813] 8
def o784 := oG [nJ 513, nJ 4, nR 790, nJ 526, nJ 4, nR 797, nJ 534, nJ 4, nR 804, nJ 537, nJ 4, nR 811]
def o785 := oZ "Conditions" 1301 "Conditions" 1302 1303 511 0 0 0 0 783 784 1304 511 1305
def o786 := oP "frame" [nT 785, nT 3, nT 782, none, (some (nS "pagebase.plans" 1297)), none, nT 0]
def o789 := nG "__init__" "Conditions.__init__" (fB 71 0) 0 [] 0
def o790 := oW "__init__" 1311 "Conditions.__init__" 1312 1313 513 3 0 0 3 787 788 789 1314 513 1315
def o791 := nF "__init__" "Conditions.__init__" (fB 71 0) 3 [] .none (nS "pagebase.plans" 1297) (nR 790) 0
def o794 := oQ "tuple" [nS "self" 1320, nS "number" 1321, nS "placed" 1322, nS "terms" 1323, nS "found" 1324, nS "term" 1325] 0
def o796 := nG "ready_bounds" "Conditions.ready_bounds" (fB 71 1) 0 [] 0
def o797 := oY "ready_bounds" 1317 "Conditions.ready_bounds" 1318 1319 526 3 0 0 3 792 793 794 795 796 1326 526 1327
def o798 := nF "ready_bounds" "Conditions.ready_bounds" (fB 71 1) 3 [] .none (nS "pagebase.plans" 1297) (nR 797) 0
def o801 := oQ "tuple" [nS "self" 1332] 0
def o803 := nG "before" "Conditions.before" (fB 71 2) 0 [] 0
def o804 := oY "before" 1329 "Conditions.before" 1330 1331 534 1 0 0 3 799 800 801 802 803 1333 534 1334
def o805 := nF "before" "Conditions.before" (fB 71 2) 3 [] .none (nS "pagebase.plans" 1297) (nR 804) 0
def o808 := oQ "tuple" [nS "self" 1339, nS "order" 1340] 0
def o810 := nG "by_level" "Conditions.by_level" (fB 71 3) 0 [] 0
def o811 := oY "by_level" 1336 "Conditions.by_level" 1337 1338 537 2 0 0 3 806 807 808 809 810 1341 537 1342
def o812 := nF "by_level" "Conditions.by_level" (fB 71 3) 3 [] .none (nS "pagebase.plans" 1297) (nR 811) 0
def o813 := oQ "tuple" [nS "on" 1344, nS "terms" 1345] 0
def o814 := oD "dict" [(en P "__module__" 1306 (nS "pagebase.plans" 1297)), (en P "__firstlineno__" 1310 (nI 511 1309)), eR P "__init__" 1316 791, eR P "ready_bounds" 1328 798, eR P "before" 1335 805, eR P "by_level" 1343 812, eR P "__static_attributes__" 1346 813, eR P "__dict__" 1348 816, eR P "__weakref__" 1350 817, (en P "__doc__" 1351 .none)] 4
def o815 := oC "Conditions" [(.type "object")] [nR 815, (.type "object")] 814 [] none 1299 "Conditions" 1307
def o816 := oF "getset_descriptor" [nS "__dict__" 1347, nR 815, (.builtin "function.__dict__"), (.builtin "function.__dict__#set")]
def o817 := oF "getset_descriptor" [nS "__weakref__" 1349, nR 815, (.builtin "ExceptionGroup.__weakref__"), .none]
def o818 := oF "super" [nR 815, nR 815, nR 815]
def o819 := oF "builtin_function_or_method" [(.builtin "object.__init_subclass__"), nR 815]
def o3v26 := oD "dict" ((en P "__name__" 165 (nS "pagebase.tables" 1433)) :: (l3 P).take 77) 78
def o12v26 := oG ((nJ 1) :: l12.take 173)
def o822 := oD "dict" [(en P "__module__" 1363 (nS "pagebase.sources" 1354)), (en P "__qualname__" 1365 (nS "Source" 1364)), (en P "__firstlineno__" 1367 (nI 540 1366)), eR P "__init__" 1381 833, eR P "place_of" 1389 840, eR P "is_named" 1397 847, eR P "__static_attributes__" 1407 848] 7
def o824 := oG [nJ 542, nJ 4, nR 832, nJ 553, nJ 4, nR 839, nJ 556, nJ 4, nR 846]
def o825 := oZ "Source" 1358 "Source" 1359 1360 540 0 0 0 0 823 824 1361 540 1362
def o826 := oP "frame" [nT 825, nT 3, nT 822, none, (some (nS "pagebase.sources" 1354)), none, nT 0]
def o829 := oQ "tuple" [nS "self" 1371, nS "number" 1372, nS "alias" 1373, nS "table" 1374, nS "columns" 1375, nS "select" 1376, nS "kind" 1377, nS "hint" 1378] 0
def o831 := nG "__init__" "Source.__init__" (fB 73 0) 0 [] 0
def o832 := oY "__init__" 1368 "Source.__init__" 1369 1370 542 8 0 0 3 827 828 829 830 831 1379 542 1380
def o833 := nF "__init__" "Source.__init__" (fB 73 0) 3 [] .none (nS "pagebase.sources" 1354) (nR 832) 0
def o836 := oQ "tuple" [nS "self" 1385, nS "name" 1386] 0
def o838 := nG "place_of" "Source.place_of" (fB 73 1) 0 [] 0
def o839 := oY "place_of" 1382 "Source.place_of" 1383 1384 553 2 0 0 3 834 835 836 837 838 1387 553 1388
def o840 := nF "place_of" "Source.place_of" (fB 73 1) 3 [] .none (nS "pagebase.sources" 1354) (nR 839) 0
def o843 := oQ "tuple" [nS "self" 1393, nS "name" 1394] 0
def o845 := nG "is_named" "Source.is_named" (fB 73 2) 0 [] 0
def o846 := oY "is_named" 1390 "Source.is_named" 1391 1392 556 2 0 0 3 841 842 843 844 845 1395 556 1396
def o847 := nF "is_named" "Source.is_named" (fB 73 2) 3 [] .none (nS "pagebase.sources" 1354) (nR 846) 0
def o848 := oQ "tuple" [nS "alias" 1398, nS "columns" 1399, nS "hint" 1400, nS "kind" 1401, nS "number" 1402, nS "on" 1403, nS "select" 1404, nS "table" 1405, nS "using" 1406] 0
def o849 := oD "dict" [(en P "__module__" 1363 (nS "pagebase.sources" 1354)), (en P "__firstlineno__" 1367 (nI 540 1366)), eR P "__init__" 1381 833, eR P "place_of" 1389 840, eR P "is_named" 1397 847, eR P "__static_attributes__" 1407 848, eR P "__dict__" 1409 851, eR P "__weakref__" 1411 852, (en P "__doc__" 1412 .none)] 4
def o850 := oC "Source" [(.type "object")] [nR 850, (.type "object")] 849 [] none 1356 "Source" 1364
def o851 := oF "getset_descriptor" [nS "__dict__" 1408, nR 850, (.builtin "function.__dict__"), (.builtin "function.__dict__#set")]
def o852 := oF "getset_descriptor" [nS "__weakref__" 1410, nR 850, (.builtin "ExceptionGroup.__weakref__"), .none]
def o853 := oF "super" [nR 850, nR 850, nR 850]
def o854 := oF "builtin_function_or_method" [(.builtin "object.__init_subclass__"), nR 850]
def o857 := oQ "tuple" [nS "node" 1418, nS "source" 1419, nS "place" 1420, nS "depth" 1421, nS "found" 1422] 0
def o859 := nG "bound_name" "bound_name" (fA 74) 0 [] 0
def o860 := oY "bound_name" 1415 "bound_name" 1416 1417 558 4 0 0 3 855 856 857 858 859 1423 558 1424
def o861 := nF "bound_name" "bound_name" (fA 74) 3 [] .none (nS "pagebase.sources" 1354) (nR 860) 0
def o862 := oQ "tuple" [nS "inner" 1426, .none] 0
def o865 := nG "table_source" "table_source" (fA 75) 0 [] 0
def o866 := oW "table_source" 1427 "table_source" 1428 1429 566 5 0 0 3 863 864 865 1430 566 1431
def o867 := nF "table_source" "table_source" (fA 75) 3 [] (nR 862) (nS "pagebase.sources" 1354) (nR 866) 0
def o3v27 := oD "dict" ((en P "__name__" 165 (nS "pagebase.tables" 1433)) :: (l3 P).take 78) 79
def o12v27 := oG ((nJ 1) :: l12.take 176)
def o870 := oD "dict" [(en P "__module__" 1442 (nS "pagebase.tables" 1433)), (en P "__qualname__" 1444 (nS "Column" 1443)), (en P "__firstlineno__" 1446 (nI 570 1445)), eR P "__init__" 1455 882, eR P "__static_attributes__" 1462 883] 5
def o872 := oG [nJ 572, nJ 4, nR 881]
def o873 := oZ "Column" 1437 "Column" 1438 1439 570 0 0 0 0 871 872 1440 570 1441
def o874 := oP "frame" [nT 873, nT 3, nT 870, none, (some (nS "pagebase.tables" 1433)), none, nT 0]
def o878 := oQ "tuple" [nS "self" 1450, nS "name" 1451, nS "type_name" 1452] 0
def o880 := nG "__init__" "Column.__init__" (fB 77 0) 0 [] 0
def o881 := oY "__init__" 1447 "Column.__init__" 1448 1449 572 3 0 0 3 876 877 878 879 880 1453 572 1454
def o882 := nF "__init__" "Column.__init__" (fB 77 0) 3 [] (nR 875) (nS "pagebase.tables" 1433) (nR 881) 0
def o883 := oQ "tuple" [nS "affinity" 1456, nS "collation" 1457, nS "default" 1458, nS "name" 1459, nS "not_null" 1460, nS "type_name" 1461] 0
def o884 := oD "dict" [(en P "__module__" 1442 (nS "pagebase.tables" 1433)), (en P "__firstlineno__" 1446 (nI 570 1445)), eR P "__init__" 1455 882, eR P "__static_attributes__" 1462 883, eR P "__dict__" 1464 886, eR P "__weakref__" 1466 887, (en P "__doc__" 1467 .none)] 4
def o885 := oC "Column" [(.type "object")] [nR 885, (.type "object")] 884 [] none 1435 "Column" 1443
def o886 := oF "getset_descriptor" [nS "__dict__" 1463, nR 885, (.builtin "function.__dict__"), (.builtin "function.__dict__#set")]
def o887 := oF "getset_descriptor" [nS "__weakref__" 1465, nR 885, (.builtin "ExceptionGroup.__weakref__"), .none]
def o888 := oF "super" [nR 885, nR 885, nR 885]
def o889 := oF "builtin_function_or_method" [(.builtin "object.__init_subclass__"), nR 885]
def o3v28 := oD "dict" ((en P "__name__" 165 (nS "pagebase.tables" 1433)) :: (l3 P).take 79) 80
def o12v28 := oG ((nJ 1) :: l12.take 179)
def o892 := oD "dict" [(en P "__module__" 1477 (nS "pagebase.tables" 1433)), (en P "__qualname__" 1479 (nS "Index" 1478)), (en P "__firstlineno__" 1481 (nI 579 1480)), eR P "__init__" 1495 903, eR P "info" 1502 910, eR P "places" 1508 915, eR P "__static_attributes__" 1516 916] 7
def o894 := oG [nJ 581, nJ 4, nR 902, nJ 590, nJ 4, nR 909, nJ 593, nJ 4, nR 914]
def o895 := oZ "Index" 1472 "Index" 1473 1474 579 0 0 0 0 893 894 1475 579 1476
def o896 := oP "frame" [nT 895, nT 3, nT 892, none, (some (nS "pagebase.tables" 1433)), none, nT 0]
def o899 := oQ "tuple" [nS "self" 1485, nS "name" 1486, nS "table" 1487, nS "root" 1488, nS "columns" 1489, nS "unique" 1490, nS "origin" 1491, nS "sql" 1492] 0
def o901 := nG "__init__" "Index.__init__" (fB 78 0) 0 [] 0
def o902 := oY "__init__" 1482 "Index.__init__" 1483 1484 581 8 0 0 3 897 898 899 900 901 1493 581 1494
def o903 := nF "__init__" "Index.__init__" (fB 78 0) 3 [] .none (nS "pagebase.tables" 1433) (nR 902) 0
def o906 := oQ "tuple" [nS "self" 1499] 0
def o908 := nG "info" "Index.info" (fB 78 1) 0 [] 0
def o909 := oY "info" 1496 "Index.info" 1497 1498 590 1 0 0 3 904 905 906 907 908 1500 590 1501
def o910 := nF "info" "Index.info" (fB 78 1) 3 [] .none (nS "pagebase.tables" 1433) (nR 909) 0
def o913 := nG "places" "Index.places" (fB 78 2) 0 [] 0
def o914 := oW "places" 1503 "Index.places" 1504 1505 593 1 0 0 3 911 912 913 1506 593 1507
def o915 := nF "places" "Index.places" (fB 78 2) 3 [] .none (nS "pagebase.tables" 1433) (nR 914) 0
def o916 := oQ "tuple" [nS "columns" 1509, nS "name" 1510, nS "origin" 1511, nS "root" 1512, nS "sql" 1513, nS "table" 1514, nS "unique" 1515] 0
def o917 := oD "dict" [(en P "__module__" 1477 (nS "pagebase.tables" 1433)), (en P "__firstlineno__" 1481 (nI 579 1480)), eR P "__init__" 1495 903, eR P "info" 1502 910, eR P "places" 1508 915, eR P "__static_attributes__" 1516 916, eR P "__dict__" 1518 919, eR P "__weakref__" 1520 920, (en P "__doc__" 1521 .none)] 4
def o918 := oC "Index" [(.type "object")] [nR 918, (.type "object")] 917 [] none 1470 "Index" 1478
def o919 := oF "getset_descriptor" [nS "__dict__" 1517, nR 918, (.builtin "function.__dict__"), (.builtin "function.__dict__#set")]
def o920 := oF "getset_descriptor" [nS "__weakref__" 1519, nR 918, (.builtin "ExceptionGroup.__weakref__"), .none]
def o921 := oF "super" [nR 918, nR 918, nR 918]
def o922 := oF "builtin_function_or_method" [(.builtin "object.__init_subclass__"), nR 918]
def o3v29 := oD "dict" ((en P "__name__" 165 (nS "law_nt0130_01" 1584)) :: (l3 P).take 82) 83
def o12v29 := oG ((nJ 1) :: l12.take 188)
def o925 := oD "dict" [(en P "__module__" 1531 (nS "pagebase.tables" 1433)), (en P "__qualname__" 1533 (nS "Table" 1532)), (en P "__firstlineno__" 1535 (nI 595 1534)), eR P "__init__" 1546 936, eR P "place_of" 1554 943, eR P "affinities" 1560 948, eR P "column_names" 1567 955, eR P "__static_attributes__" 1576 956] 8
def o927 := oG [nJ 597, nJ 4, nR 935, nJ 607, nJ 4, nR 942, nJ 610, nJ 4, nR 947, nJ 613, nJ 4, nR 954]
def o928 := oZ "Table" 1526 "Table" 1527 1528 595 0 0 0 0 926 927 1529 595 1530
def o929 := oP "frame" [nT 928, nT 3, nT 925, none, (some (nS "pagebase.tables" 1433)), none, nT 0]
def o932 := oQ "tuple" [nS "self" 1539, nS "name" 1540, nS "root" 1541, nS "columns" 1542, nS "sql" 1543] 0
def o934 := nG "__init__" "Table.__init__" (fB 79 0) 0 [] 0
def o935 := oY "__init__" 1536 "Table.__init__" 1537 1538 597 5 0 0 3 930 931 932 933 934 1544 597 1545
def o936 := nF "__init__" "Table.__init__" (fB 79 0) 3 [] .none (nS "pagebase.tables" 1433) (nR 935) 0
def o939 := oQ "tuple" [nS "self" 1550, nS "name" 1551] 0
def o941 := nG "place_of" "Table.place_of" (fB 79 1) 0 [] 0
def o942 := oY "place_of" 1547 "Table.place_of" 1548 1549 607 2 0 0 3 937 938 939 940 941 1552 607 1553
def o943 := nF "place_of" "Table.place_of" (fB 79 1) 3 [] .none (nS "pagebase.tables" 1433) (nR 942) 0
def o946 := nG "affinities" "Table.affinities" (fB 79 2) 0 [] 0
def o947 := oW "affinities" 1555 "Table.affinities" 1556 1557 610 1 0 0 3 944 945 946 1558 610 1559
def o948 := nF "affinities" "Table.affinities" (fB 79 2) 3 [] .none (nS "pagebase.tables" 1433) (nR 947) 0
def o951 := oQ "tuple" [nS "self" 1564] 0
def o953 := nG "column_names" "Table.column_names" (fB 79 3) 0 [] 0
def o954 := oY "column_names" 1561 "Table.column_names" 1562 1563 613 1 0 0 3 949 950 951 952 953 1565 613 1566
def o955 := nF "column_names" "Table.column_names" (fB 79 3) 3 [] .none (nS "pagebase.tables" 1433) (nR 954) 0
def o956 := oQ "tuple" [nS "checks" 1568, nS "columns" 1569, nS "indexes" 1570, nS "name" 1571, nS "primary" 1572, nS "root" 1573, nS "rowid_place" 1574, nS "sql" 1575] 0
def o957 := oD "dict" [(en P "__module__" 1531 (nS "pagebase.tables" 1433)), (en P "__firstlineno__" 1535 (nI 595 1534)), eR P "__init__" 1546 936, eR P "place_of" 1554 943, eR P "affinities" 1560 948, eR P "column_names" 1567 955, eR P "__static_attributes__" 1576 956, eR P "__dict__" 1578 959, eR P "__weakref__" 1580 960, (en P "__doc__" 1581 .none)] 4
def o958 := oC "Table" [(.type "object")] [nR 958, (.type "object")] 957 [] none 1524 "Table" 1532
def o959 := oF "getset_descriptor" [nS "__dict__" 1577, nR 958, (.builtin "function.__dict__"), (.builtin "function.__dict__#set")]
def o960 := oF "getset_descriptor" [nS "__weakref__" 1579, nR 958, (.builtin "ExceptionGroup.__weakref__"), .none]
def o961 := oF "super" [nR 958, nR 958, nR 958]
def o962 := oF "builtin_function_or_method" [(.builtin "object.__init_subclass__"), nR 958]
def o965 := oQ "tuple" [nS "script" 1589, nS "k" 1590, nS "cell" 1591, nS "big" 1592, nS "mixed" 1593] 0
def o967 := nG "_law_pool" "_law_pool" (fA 81) 0 [] 0
def o968 := oY "_law_pool" 1586 "_law_pool" 1587 1588 616 2 0 0 3 963 964 965 966 967 1594 616 1595
def o969 := nF "_law_pool" "_law_pool" (fA 81) 3 [] .none (nS "law_nt0130_01" 1584) (nR 968) 0
def o972 := oQ "tuple" [nS "source" 1600, nS "top" 1601, nS "drawn" 1602] 0
def o974 := nG "_law_take" "_law_take" (fA 82) 0 [] 0
def o975 := oY "_law_take" 1597 "_law_take" 1598 1599 623 2 0 0 3 970 971 972 973 974 1603 623 1604
def o976 := nF "_law_take" "_law_take" (fA 82) 3 [] .none (nS "law_nt0130_01" 1584) (nR 975) 0
def o3v30 := oD "dict" ((en P "__name__" 165 (nS "law_nt0130_01" 1584)) :: (l3 P).take 96) 97
def o12v30 := oG ((nJ 1) :: l12.take 230)
def o979 := oQ "tuple" [nS "source" 1609, nS "things" 1610] 0
def o981 := nG "_law_one" "_law_one" (fA 83) 0 [] 0
def o982 := oY "_law_one" 1606 "_law_one" 1607 1608 630 2 0 0 3 977 978 979 980 981 1611 630 1612
def o983 := nF "_law_one" "_law_one" (fA 83) 3 [] .none (nS "law_nt0130_01" 1584) (nR 982) 0
def o986 := oQ "tuple" [nS "one" 1617, nS "place" 1618] 0
def o988 := nG "_law_column" "_law_column" (fA 84) 0 [] 0
def o989 := oY "_law_column" 1614 "_law_column" 1615 1616 632 2 0 0 3 984 985 986 987 988 1619 632 1620
def o990 := nF "_law_column" "_law_column" (fA 84) 3 [] .none (nS "law_nt0130_01" 1584) (nR 989) 0
def o993 := oQ "tuple" [nS "source" 1625, nS "sources" 1626] 0
def o995 := nG "_law_side" "_law_side" (fA 85) 0 [] 0
def o996 := oY "_law_side" 1622 "_law_side" 1623 1624 634 2 0 0 3 991 992 993 994 995 1627 634 1628
def o997 := nF "_law_side" "_law_side" (fA 85) 3 [] .none (nS "law_nt0130_01" 1584) (nR 996) 0
def o1000 := nG "_law_condition" "_law_condition" (fA 86) 0 [] 0
def o1001 := oW "_law_condition" 1630 "_law_condition" 1631 1632 638 2 0 0 3 998 999 1000 1633 638 1634
def o1002 := nF "_law_condition" "_law_condition" (fA 86) 3 [] .none (nS "law_nt0130_01" 1584) (nR 1001) 0
def o1005 := oQ "tuple" [nS "expr" 1639] 0
def o1007 := nG "_law_affinity" "_law_affinity" (fA 87) 0 [] 0
def o1008 := oY "_law_affinity" 1636 "_law_affinity" 1637 1638 652 1 0 0 3 1003 1004 1005 1006 1007 1640 652 1641
def o1009 := nF "_law_affinity" "_law_affinity" (fA 87) 3 [] .none (nS "law_nt0130_01" 1584) (nR 1008) 0
def o1012 := oQ "tuple" [nS "column" 1646, nS "op" 1647, nS "value" 1648, nS "number" 1649, nS "here" 1650, nS "there" 1651, nS "led" 1652] 0
def o1014 := nG "_law_bound" "_law_bound" (fA 88) 0 [] 0
def o1015 := oY "_law_bound" 1643 "_law_bound" 1644 1645 654 4 0 0 3 1010 1011 1012 1013 1014 1653 654 1654
def o1016 := nF "_law_bound" "_law_bound" (fA 88) 3 [] .none (nS "law_nt0130_01" 1584) (nR 1015) 0
def o1019 := nG "_law_names" "_law_names" (fA 89) 0 [] 0
def o1020 := oW "_law_names" 1656 "_law_names" 1657 1658 664 1 0 0 3 1017 1018 1019 1659 664 1660
def o1021 := nF "_law_names" "_law_names" (fA 89) 3 [] .none (nS "law_nt0130_01" 1584) (nR 1020) 0
def o1024 := nG "_law_due" "_law_due" (fA 90) 0 [] 0
def o1025 := oW "_law_due" 1662 "_law_due" 1663 1664 675 3 0 0 3 1022 1023 1024 1665 675 1666
def o1026 := nF "_law_due" "_law_due" (fA 90) 3 [] .none (nS "law_nt0130_01" 1584) (nR 1025) 0
def o1029 := nG "_law_shown" "_law_shown" (fA 91) 0 [] 0
def o1030 := oW "_law_shown" 1668 "_law_shown" 1669 1670 693 1 0 0 3 1027 1028 1029 1671 693 1672
def o1031 := nF "_law_shown" "_law_shown" (fA 91) 3 [] .none (nS "law_nt0130_01" 1584) (nR 1030) 0
def o1034 := nG "_law_first" "_law_first" (fA 92) 0 [] 0
def o1035 := oW "_law_first" 1674 "_law_first" 1675 1676 697 3 0 0 3 1032 1033 1034 1677 697 1678
def o1036 := nF "_law_first" "_law_first" (fA 92) 3 [] .none (nS "law_nt0130_01" 1584) (nR 1035) 0
def o1039 := oQ "tuple" [nS "row" 1683] 0
def o1041 := nG "_law_is_whole" "_law_is_whole" (fA 93) 0 [] 0
def o1042 := oY "_law_is_whole" 1680 "_law_is_whole" 1681 1682 700 1 0 0 3 1037 1038 1039 1040 1041 1684 700 1685
def o1043 := nF "_law_is_whole" "_law_is_whole" (fA 93) 3 [] .none (nS "law_nt0130_01" 1584) (nR 1042) 0
def o1046 := oQ "tuple" [nS "due" 1690, nS "place" 1691, nS "low" 1692, nS "high" 1693] 0
def o1048 := nG "_law_ends" "_law_ends" (fA 94) 0 [] 0
def o1049 := oY "_law_ends" 1687 "_law_ends" 1688 1689 702 2 0 0 3 1044 1045 1046 1047 1048 1694 702 1695
def o1050 := nF "_law_ends" "_law_ends" (fA 94) 3 [] .none (nS "law_nt0130_01" 1584) (nR 1049) 0
def o1053 := nG "_law_texts" "_law_texts" (fA 95) 0 [] 0
def o1054 := oW "_law_texts" 1697 "_law_texts" 1698 1699 705 3 0 0 3 1051 1052 1053 1700 705 1701
def o1055 := nF "_law_texts" "_law_texts" (fA 95) 3 [] .none (nS "law_nt0130_01" 1584) (nR 1054) 0
def o1058 := nG "law" "law" (fA 96) 0 [] 0
def o1059 := oW "law" 1703 "law" 1704 1705 727 1 0 0 3 1056 1057 1058 1706 727 1707
def o1060 := nF "law" "law" (fA 96) 3 [] .none (nS "law_nt0130_01" 1584) (nR 1059) 0
def base0 : List Obj := [(o0 P), (o1 P), o2, (o3v30 P), o4, o5, o6, o7, o8, o9, o10, o7, o12v30, o13, o14, o7, o8, o17, o7, o19, o20, o21, o7, o8, o24, o7, o26, o27, o28, o7, o8, o31, o32, o33, o7, o35, (o36 P), o7, o38, o39, o40, o7, o8, o43, o7, o45, o46, o47, o7, (o49 P), o50v1, o51, o52, o53, o54, o55, o35, (o57 P), o7, o8, o60, o61, o7, (o63 P), o64v15, o65, o66, o67, o35, (o69 P), o7, o71, o72, o73, o7, o8, o76, o7, o78, o79, o80, o7, o8, o83, o7, o85, o86, o87, o88, (o89 P), o90, o91, o92, o67, o35, (o95 P), o7, o97, o98, o99]
def base1 : List Obj := [o7, o8, o102, o7, o104, o105, o106, o7, o8, o109, o7, o111, o112, o113, o114, (o115 P), o116, o117, o118, o67, o35, (o121 P), o7, o123, o124, o125, o7, o8, o128, o7, o130, o131, o132, o7, o8, o135, o7, o137, o138, o139, o140, (o141 P), o142, o143, o144, o67, o35, (o147 P), o7, o149, o150, o151, o7, o8, o154, o7, o156, o157, o158, o7, o8, o161, o7, o163, o164, o165, o166, (o167 P), o168, o169, o170, o67, o35, (o173 P), o7, o175, o176, o177, o7, o8, o180, o7, o182, o183, o184, o7, o8, o187, o7, o189, o190, o191, o192, (o193 P), o194, o195, o196, o67, o35, (o199 P)]
def base2 : List Obj := [o7, o201, o202, o203, o7, o8, o206, o7, o208, o209, o210, o7, o8, o213, o7, o215, o216, o217, o218, (o219 P), o220, o221, o222, o67, o35, (o225 P), o7, o227, o228, o229, o7, o8, o232, o7, o234, o235, o236, o7, o8, o239, o7, o241, o242, o243, o244, (o245 P), o246, o247, o248, o67, o35, (o251 P), o7, o253, o254, o255, o7, o8, o258, o7, o260, o261, o262, o7, o8, o265, o7, o267, o268, o269, o270, (o271 P), o272, o273, o274, o67, o35, (o277 P), o7, o279, o280, o281, o7, o8, o284, o7, o286, o287, o288, o7, o8, o291, o7, o293, o294, o295, o296, (o297 P), o298, o299]
def base3 : List Obj := [o300, o67, o35, (o303 P), o7, o305, o306, o307, o7, o8, o310, o7, o312, o313, o314, o7, o8, o317, o318, o319, o320, (o321 P), o322, o323, o324, o67, o35, (o327 P), o7, o329, o330, o331, o7, o8, o334, o7, o336, o337, o338, o7, o8, o341, o7, o343, o344, o345, o346, (o347 P), o348, o349, o350, o67, o35, (o353 P), o7, o355, o356, o357, o7, o8, o360, o7, o362, o363, o364, o7, o8, o367, o7, o369, o370, o371, o372, (o373 P), o374, o375, o376, o67, o35, (o379 P), o7, o381, o382, o383, o7, o8, o386, o7, o388, o389, o390, o7, o8, o393, o7, o395, o396, o397, o398, (o399 P)]
def base4 : List Obj := [o400, o401, o402, o67, o35, (o405 P), o7, o407, o408, o409, o7, o8, o412, o7, o414, o415, o416, o7, o8, o419, o7, o421, o422, o423, o424, (o425 P), o426, o427, o428, o67, o35, (o431 P), o7, o433, o434, o435, o7, o8, o438, o7, o440, o441, o442, o7, o8, o445, o7, o447, o448, o449, o450, (o451 P), o452, o453, o454, o455, o7, o8, o458, o7, o460, o461, o462, o7, o8, o465, o7, o467, o468, o469, o7, o8, o472, o7, o474, o475, o476, o7, o8, o479, o480, o481, o7, o8, o484, o7, o486, o487, o488, o7, o8, o491, o7, o493, o494, o495, o7, o8, o498, o7]
def base5 : List Obj := [o500, o501, o502, o503, o7, o8, o506, o7, o508, o509, o510, o7, o8, o513, o7, o515, o516, o517, o7, o8, o520, o7, o522, o523, o524, o503, o7, o8, o528, o7, o530, o531, o532, o7, o8, o535, o7, o537, o538, o539, (o540 P), o541, o542, o543, o7, o8, o546, o7, o548, o549, o550, o7, o8, o553, o7, o555, o556, o557, o7, o8, o560, o7, o562, o563, o564, o7, o35, (o567 P), o7, o569, o570, o571, o7, o8, o574, o7, o576, o577, o578, o579, (o580 P), o581, o582, o583, o584, o585, o7, o35, (o588 P), o7, o590, o591, o592, o7, o8, o595, o596, o597, o7, o8]
def base6 : List Obj := [o600, o7, o602, o603, o604, o7, o8, o607, o7, o609, o610, o611, o7, o8, o614, o7, o616, o617, o618, o7, o8, o621, o622, o623, o624, (o625 P), o626, o627, o628, o629, o630, o7, o8, o633, o7, o635, o636, o637, o7, o8, o640, o641, o642, o7, o8, o645, o646, o647, o7, o8, o650, o7, o652, o653, o654, o7, o8, o657, o7, o659, o660, o661, o7, o8, o664, o7, o666, o667, o668, o7, o8, o671, o7, o673, o674, o675, o7, o35, (o678 P), o7, o680, o681, o682, o503, o7, o8, o686, o7, o688, o689, o690, o7, o8, o693, o7, o695, o696, o697, o7, o8]
def base7 : List Obj := [o700, o7, o702, o703, o704, o7, o8, o707, o7, o709, o710, o711, o712, (o713 P), o714, o715, o716, o717, o718, o7, o8, o721, o7, o723, o724, o725, o7, o8, o728, o7, o730, o731, o732, o7, o8, o735, o7, o737, o738, o739, o7, o8, o742, o7, o744, o745, o746, o7, o8, o749, o7, o751, o752, o753, o7, o8, o756, o757, o758, o7, o8, o761, o7, o763, o764, o765, o7, o8, o768, o7, o770, o771, o772, o7, o8, o775, o7, o777, o778, o779, o7, o35, (o782 P), o7, o784, o785, o786, o7, o8, o789, o790, o791, o7, o8, o794, o7, o796, o797, o798, o7]
def base8 : List Obj := [o8, o801, o7, o803, o804, o805, o7, o8, o808, o7, o810, o811, o812, o813, (o814 P), o815, o816, o817, o818, o819, o7, o35, (o822 P), o7, o824, o825, o826, o7, o8, o829, o7, o831, o832, o833, o7, o8, o836, o7, o838, o839, o840, o7, o8, o843, o7, o845, o846, o847, o848, (o849 P), o850, o851, o852, o853, o854, o7, o8, o857, o7, o859, o860, o861, o862, o7, o8, o865, o866, o867, o7, o35, (o870 P), o7, o872, o873, o874, o503, o7, o8, o878, o7, o880, o881, o882, o883, (o884 P), o885, o886, o887, o888, o889, o7, o35, (o892 P), o7, o894, o895, o896, o7, o8, o899]
def base9 : List Obj := [o7, o901, o902, o903, o7, o8, o906, o7, o908, o909, o910, o7, o8, o913, o914, o915, o916, (o917 P), o918, o919, o920, o921, o922, o7, o35, (o925 P), o7, o927, o928, o929, o7, o8, o932, o7, o934, o935, o936, o7, o8, o939, o7, o941, o942, o943, o7, o8, o946, o947, o948, o7, o8, o951, o7, o953, o954, o955, o956, (o957 P), o958, o959, o960, o961, o962, o7, o8, o965, o7, o967, o968, o969, o7, o8, o972, o7, o974, o975, o976, o7, o8, o979, o7, o981, o982, o983, o7, o8, o986, o7, o988, o989, o990, o7, o8, o993, o7, o995, o996, o997, o7, o8]
def base10 : List Obj := [o1000, o1001, o1002, o7, o8, o1005, o7, o1007, o1008, o1009, o7, o8, o1012, o7, o1014, o1015, o1016, o7, o8, o1019, o1020, o1021, o7, o8, o1024, o1025, o1026, o7, o8, o1029, o1030, o1031, o7, o8, o1034, o1035, o1036, o7, o8, o1039, o7, o1041, o1042, o1043, o7, o8, o1046, o7, o1048, o1049, o1050, o7, o8, o1053, o1054, o1055, o7, o8, o1058, o1059, o1060]
def base : List Obj := (base0 P) ++ ((base1 P) ++ ((base2 P) ++ ((base3 P) ++ ((base4 P) ++ ((base5 P) ++ ((base6 P) ++ ((base7 P) ++ ((base8 P) ++ ((base9 P) ++ base10)))))))))
def st1 : List Obj := (putL (putL (base P) 12 o12) 3 (o3 P)).take 15
def st2 : List Obj := (putL (putL (base P) 12 o12) 3 (o3 P)).take 15
def st3 : List Obj := (putL (putL (putL (base P) 50 o50) 12 o12v1) 3 (o3v1 P)).take 55
def st4 : List Obj := (putL (putL (putL (base P) 64 o64) 12 o12v2) 3 (o3v2 P)).take 67
def st5 : List Obj := (putL (putL (putL (base P) 64 o64v1) 12 o12v3) 3 (o3v3 P)).take 93
def st6 : List Obj := (putL (putL (putL (base P) 64 o64v2) 12 o12v4) 3 (o3v4 P)).take 119
def st7 : List Obj := (putL (putL (putL (base P) 64 o64v3) 12 o12v5) 3 (o3v5 P)).take 145
def st8 : List Obj := (putL (putL (putL (base P) 64 o64v4) 12 o12v6) 3 (o3v6 P)).take 171
def st9 : List Obj := (putL (putL (putL (base P) 64 o64v5) 12 o12v7) 3 (o3v7 P)).take 197
def st10 : List Obj := (putL (putL (putL (base P) 64 o64v6) 12 o12v8) 3 (o3v8 P)).take 223
def st11 : List Obj := (putL (putL (putL (base P) 64 o64v7) 12 o12v9) 3 (o3v9 P)).take 249
def st12 : List Obj := (putL (putL (putL (base P) 64 o64v8) 12 o12v10) 3 (o3v10 P)).take 275
def st13 : List Obj := (putL (putL (putL (base P) 64 o64v9) 12 o12v11) 3 (o3v11 P)).take 301
def st14 : List Obj := (putL (putL (putL (base P) 64 o64v10) 12 o12v12) 3 (o3v12 P)).take 325
def st15 : List Obj := (putL (putL (putL (base P) 64 o64v11) 12 o12v13) 3 (o3v13 P)).take 351
def st16 : List Obj := (putL (putL (putL (base P) 64 o64v12) 12 o12v14) 3 (o3v14 P)).take 377
def st17 : List Obj := (putL (putL (putL (base P) 64 o64v13) 12 o12v15) 3 (o3v15 P)).take 403
def st18 : List Obj := (putL (putL (putL (base P) 64 o64v14) 12 o12v16) 3 (o3v16 P)).take 429
def st19 : List Obj := (putL (putL (base P) 12 o12v17) 3 (o3v17 P)).take 470
def st20 : List Obj := (putL (putL (base P) 12 o12v18) 3 (o3v18 P)).take 540
def st21 : List Obj := (putL (putL (base P) 12 o12v19) 3 (o3v19 P)).take 565
def st22 : List Obj := (putL (putL (base P) 12 o12v20) 3 (o3v20 P)).take 586
def st23 : List Obj := (putL (putL (base P) 12 o12v21) 3 (o3v21 P)).take 638
def st24 : List Obj := (putL (putL (base P) 12 o12v22) 3 (o3v22 P)).take 676
def st25 : List Obj := (putL (putL (base P) 12 o12v23) 3 (o3v23 P)).take 726
def st26 : List Obj := (putL (putL (base P) 12 o12v24) 3 (o3v24 P)).take 780
def st27 : List Obj := (putL (putL (base P) 12 o12v25) 3 (o3v25 P)).take 820
def st28 : List Obj := (putL (putL (base P) 12 o12v26) 3 (o3v26 P)).take 868
def st29 : List Obj := (putL (putL (base P) 12 o12v27) 3 (o3v27 P)).take 890
def st30 : List Obj := (putL (putL (base P) 12 o12v28) 3 (o3v28 P)).take 923
def st31 : List Obj := (putL (putL (base P) 12 o12v29) 3 (o3v29 P)).take 977
def st32 : List Obj := (base P).take 1061
end
def bE : List Stmt := behindTheImports pw
def aO : Env := { scope := pw.main.scope, locals := mainNs, globals := mainNs, cells := [], code := .ref 13, frame := some 14 }
def cE : Code := .body bE aO
def sts (i c : Nat) : List Stmt := (bE.drop i).take c
abbrev p0 : Pos := ⟨0, 0, 0, 0⟩
abbrev sg := @PySem.W.Fast.tw10110043849684766642
abbrev tt := @PySem.W.Fast.tw14364793385576792824
abbrev sh (L : List Obj) (n t : Nat) (os : OsState) : SharedT := ⟨GA 12 L, n, {}, Array.mk [], {}, t, os⟩
theorem q2 (w : World) : (λ os => sg tt pw w 11 (some (.ref 6)) 1 314 (sh (st2 w.params) 15 187 os) (piecesOf (sts 0 5) aO cE ⟨0, 0, 0, 0⟩ [topFrame p0])) = λ os => some (Flow.next, sh (st3 w.params) 55 236 os, cE, ⟨9, 0, 12, 24⟩) := by kernel_rfl
theorem q3 (w : World) : (λ os => sg tt pw w 11 (some (.ref 6)) 1 214 (sh (st3 w.params) 55 236 os) (piecesOf (sts 5 1) aO cE ⟨9, 0, 12, 24⟩ [topFrame p0])) = λ os => some (Flow.next, sh (st4 w.params) 67 252 os, cE, ⟨13, 0, 14, 8⟩) := by kernel_rfl
theorem q4 (w : World) : (λ os => sg tt pw w 11 (some (.ref 6)) 1 291 (sh (st4 w.params) 67 252 os) (piecesOf (sts 6 1) aO cE ⟨13, 0, 14, 8⟩ [topFrame p0])) = λ os => some (Flow.next, sh (st5 w.params) 93 284 os, cE, ⟨15, 0, 25, 89⟩) := by kernel_rfl
theorem q5 (w : World) : (λ os => sg tt pw w 11 (some (.ref 6)) 1 296 (sh (st5 w.params) 93 284 os) (piecesOf (sts 7 1) aO cE ⟨15, 0, 25, 89⟩ [topFrame p0])) = λ os => some (Flow.next, sh (st6 w.params) 119 321 os, cE, ⟨26, 0, 36, 48⟩) := by kernel_rfl
theorem q6 (w : World) : (λ os => sg tt pw w 11 (some (.ref 6)) 1 293 (sh (st6 w.params) 119 321 os) (piecesOf (sts 8 1) aO cE ⟨26, 0, 36, 48⟩ [topFrame p0])) = λ os => some (Flow.next, sh (st7 w.params) 145 355 os, cE, ⟨37, 0, 44, 53⟩) := by kernel_rfl
theorem q7 (w : World) : (λ os => sg tt pw w 11 (some (.ref 6)) 1 295 (sh (st7 w.params) 145 355 os) (piecesOf (sts 9 1) aO cE ⟨37, 0, 44, 53⟩ [topFrame p0])) = λ os => some (Flow.next, sh (st8 w.params) 171 391 os, cE, ⟨45, 0, 53, 69⟩) := by kernel_rfl
theorem q8 (w : World) : (λ os => sg tt pw w 11 (some (.ref 6)) 1 297 (sh (st8 w.params) 171 391 os) (piecesOf (sts 10 1) aO cE ⟨45, 0, 53, 69⟩ [topFrame p0])) = λ os => some (Flow.next, sh (st9 w.params) 197 429 os, cE, ⟨54, 0, 63, 91⟩) := by kernel_rfl
theorem q9 (w : World) : (λ os => sg tt pw w 11 (some (.ref 6)) 1 295 (sh (st9 w.params) 197 429 os) (piecesOf (sts 11 1) aO cE ⟨54, 0, 63, 91⟩ [topFrame p0])) = λ os => some (Flow.next, sh (st10 w.params) 223 465 os, cE, ⟨64, 0, 72, 74⟩) := by kernel_rfl
theorem q10 (w : World) : (λ os => sg tt pw w 11 (some (.ref 6)) 1 295 (sh (st10 w.params) 223 465 os) (piecesOf (sts 12 1) aO cE ⟨64, 0, 72, 74⟩ [topFrame p0])) = λ os => some (Flow.next, sh (st11 w.params) 249 501 os, cE, ⟨73, 0, 81, 78⟩) := by kernel_rfl
theorem q11 (w : World) : (λ os => sg tt pw w 11 (some (.ref 6)) 1 293 (sh (st11 w.params) 249 501 os) (piecesOf (sts 13 1) aO cE ⟨73, 0, 81, 78⟩ [topFrame p0])) = λ os => some (Flow.next, sh (st12 w.params) 275 535 os, cE, ⟨82, 0, 89, 58⟩) := by kernel_rfl
theorem q12 (w : World) : (λ os => sg tt pw w 11 (some (.ref 6)) 1 291 (sh (st12 w.params) 275 535 os) (piecesOf (sts 14 1) aO cE ⟨82, 0, 89, 58⟩ [topFrame p0])) = λ os => some (Flow.next, sh (st13 w.params) 301 567 os, cE, ⟨90, 0, 96, 44⟩) := by kernel_rfl
theorem q13 (w : World) : (λ os => sg tt pw w 11 (some (.ref 6)) 1 292 (sh (st13 w.params) 301 567 os) (piecesOf (sts 15 1) aO cE ⟨90, 0, 96, 44⟩ [topFrame p0])) = λ os => some (Flow.next, sh (st14 w.params) 325 602 os, cE, ⟨97, 0, 106, 69⟩) := by kernel_rfl
theorem q14 (w : World) : (λ os => sg tt pw w 11 (some (.ref 6)) 1 297 (sh (st14 w.params) 325 602 os) (piecesOf (sts 16 1) aO cE ⟨97, 0, 106, 69⟩ [topFrame p0])) = λ os => some (Flow.next, sh (st15 w.params) 351 640 os, cE, ⟨107, 0, 116, 85⟩) := by kernel_rfl
theorem q15 (w : World) : (λ os => sg tt pw w 11 (some (.ref 6)) 1 293 (sh (st15 w.params) 351 640 os) (piecesOf (sts 17 1) aO cE ⟨107, 0, 116, 85⟩ [topFrame p0])) = λ os => some (Flow.next, sh (st16 w.params) 377 674 os, cE, ⟨117, 0, 124, 57⟩) := by kernel_rfl
theorem q16 (w : World) : (λ os => sg tt pw w 11 (some (.ref 6)) 1 293 (sh (st16 w.params) 377 674 os) (piecesOf (sts 18 1) aO cE ⟨117, 0, 124, 57⟩ [topFrame p0])) = λ os => some (Flow.next, sh (st17 w.params) 403 708 os, cE, ⟨125, 0, 132, 60⟩) := by kernel_rfl
theorem q17 (w : World) : (λ os => sg tt pw w 11 (some (.ref 6)) 1 293 (sh (st17 w.params) 403 708 os) (piecesOf (sts 19 1) aO cE ⟨125, 0, 132, 60⟩ [topFrame p0])) = λ os => some (Flow.next, sh (st18 w.params) 429 742 os, cE, ⟨133, 0, 140, 57⟩) := by kernel_rfl
theorem q18 (w : World) : (λ os => sg tt pw w 11 (some (.ref 6)) 1 392 (sh (st18 w.params) 429 742 os) (piecesOf (sts 20 6) aO cE ⟨133, 0, 140, 57⟩ [topFrame p0])) = λ os => some (Flow.next, sh (st19 w.params) 470 808 os, cE, ⟨164, 0, 175, 20⟩) := by kernel_rfl
theorem q19 (w : World) : (λ os => sg tt pw w 11 (some (.ref 6)) 1 320 (sh (st19 w.params) 470 808 os) (piecesOf (sts 26 12) aO cE ⟨164, 0, 175, 20⟩ [topFrame p0])) = λ os => some (Flow.next, sh (st20 w.params) 540 893 os, cE, ⟨259, 0, 259, 8⟩) := by kernel_rfl
theorem q20 (w : World) : (λ os => sg tt pw w 11 (some (.ref 6)) 1 229 (sh (st20 w.params) 540 893 os) (piecesOf (sts 38 7) aO cE ⟨259, 0, 259, 8⟩ [topFrame p0])) = λ os => some (Flow.next, sh (st21 w.params) 565 959 os, cE, ⟨277, 0, 278, 44⟩) := byRow2 "special-get-raises" (P := λ w => (λ os => sg tt pw w 11 (some (.ref 6)) 1 229 (sh (st20 w.params) 540 893 os) (piecesOf (sts 38 7) aO cE ⟨259, 0, 259, 8⟩ [topFrame p0])) = λ os => some (Flow.next, sh (st21 w.params) 565 959 os, cE, ⟨277, 0, 278, 44⟩)) (λ w => by kernel_rfl) (λ w => by kernel_rfl) w
theorem q21 (w : World) : (λ os => sg tt pw w 11 (some (.ref 6)) 1 231 (sh (st21 w.params) 565 959 os) (piecesOf (sts 45 1) aO cE ⟨277, 0, 278, 44⟩ [topFrame p0])) = λ os => some (Flow.next, sh (st22 w.params) 586 996 os, cE, ⟨279, 0, 286, 34⟩) := by kernel_rfl
theorem q22 (w : World) : (λ os => sg tt pw w 11 (some (.ref 6)) 1 381 (sh (st22 w.params) 586 996 os) (piecesOf (sts 46 2) aO cE ⟨279, 0, 286, 34⟩ [topFrame p0])) = λ os => some (Flow.next, sh (st23 w.params) 638 1069 os, cE, ⟨316, 0, 320, 79⟩) := by kernel_rfl
theorem q23 (w : World) : (λ os => sg tt pw w 11 (some (.ref 6)) 1 230 (sh (st23 w.params) 638 1069 os) (piecesOf (sts 48 12) aO cE ⟨316, 0, 320, 79⟩ [topFrame p0])) = λ os => some (Flow.next, sh (st24 w.params) 676 1128 os, cE, ⟨374, 0, 374, 7⟩) := by kernel_rfl
theorem q24 (w : World) : (λ os => sg tt pw w 11 (some (.ref 6)) 1 372 (sh (st24 w.params) 676 1128 os) (piecesOf (sts 60 2) aO cE ⟨374, 0, 374, 7⟩ [topFrame p0])) = λ os => some (Flow.next, sh (st25 w.params) 726 1211 os, cE, ⟨421, 0, 427, 15⟩) := by kernel_rfl
theorem q25 (w : World) : (λ os => sg tt pw w 11 (some (.ref 6)) 1 270 (sh (st25 w.params) 726 1211 os) (piecesOf (sts 62 9) aO cE ⟨421, 0, 427, 15⟩ [topFrame p0])) = λ os => some (Flow.next, sh (st26 w.params) 780 1299 os, cE, ⟨510, 0, 510, 8⟩) := by kernel_rfl
theorem q26 (w : World) : (λ os => sg tt pw w 11 (some (.ref 6)) 1 328 (sh (st26 w.params) 780 1299 os) (piecesOf (sts 71 2) aO cE ⟨510, 0, 510, 8⟩ [topFrame p0])) = λ os => some (Flow.next, sh (st27 w.params) 820 1356 os, cE, ⟨539, 0, 539, 8⟩) := by kernel_rfl
theorem q27 (w : World) : (λ os => sg tt pw w 11 (some (.ref 6)) 1 371 (sh (st27 w.params) 820 1356 os) (piecesOf (sts 73 4) aO cE ⟨539, 0, 539, 8⟩ [topFrame p0])) = λ os => some (Flow.next, sh (st28 w.params) 868 1435 os, cE, ⟨569, 0, 569, 8⟩) := by kernel_rfl
theorem q28 (w : World) : (λ os => sg tt pw w 11 (some (.ref 6)) 1 230 (sh (st28 w.params) 868 1435 os) (piecesOf (sts 77 1) aO cE ⟨569, 0, 569, 8⟩ [topFrame p0])) = λ os => some (Flow.next, sh (st29 w.params) 890 1470 os, cE, ⟨570, 0, 578, 27⟩) := by kernel_rfl
theorem q29 (w : World) : (λ os => sg tt pw w 11 (some (.ref 6)) 1 294 (sh (st29 w.params) 890 1470 os) (piecesOf (sts 78 1) aO cE ⟨570, 0, 578, 27⟩ [topFrame p0])) = λ os => some (Flow.next, sh (st30 w.params) 923 1524 os, cE, ⟨579, 0, 594, 71⟩) := by kernel_rfl
theorem q30 (w : World) : (λ os => sg tt pw w 11 (some (.ref 6)) 1 397 (sh (st30 w.params) 923 1524 os) (piecesOf (sts 79 4) aO cE ⟨579, 0, 594, 71⟩ [topFrame p0])) = λ os => some (Flow.next, sh (st31 w.params) 977 1606 os, cE, ⟨623, 0, 629, 67⟩) := by kernel_rfl
theorem q31 (w : World) : (λ os => sg tt pw w 11 (some (.ref 6)) 1 398 (sh (st31 w.params) 977 1606 os) (piecesOf (sts 83 14) aO cE ⟨623, 0, 629, 67⟩ [topFrame p0])) = λ os => some (Flow.next, sh (st32 w.params) 1061 1709 os, cE, ⟨727, 0, 747, 15⟩) := by kernel_rfl
section
variable {w : World} {n N a c : Nat} {p p' : Pos} {s s' r : Shared}
abbrev ann : Option Value := some (.ref 6)
theorem cZ {A B : OsState -> SharedT} {t : Thread} (h : (λ os => sg tt pw w 11 ann 1 n (A os) t) = λ os => some (Flow.next, B os, cE, p')) (os : OsState) :
  segRun treeTable pw w 11 ann 1 n (A os).abs t = some (.next, (B os).abs, cE, p') := by
 have := congrFun h os
 unfold sg tt at this
 rw [← PySem.W.Fast.te10110043849684766642, ← PySem.W.Fast.te14364793385576792824] at this
 exact segRun_of this
theorem bG (h : segRun treeTable pw w 11 ann 1 n s (piecesOf (sts a c) aO cE p [topFrame p0]) = some (.next, s', cE, p'))
  (k : topRun treeTable pw w 11 ann N s' (restOf (bE.drop (a + c)) aO cE p' [topFrame p0]) = some r) : topRun treeTable pw w 11 ann (n + N) s (restOf (bE.drop a) aO cE p [topFrame p0]) = some r := by
 have e : bE.drop a = sts a c ++ bE.drop (a + c) := by
  unfold sts
  rw [← List.drop_drop, List.take_append_drop]
 rw [e]
 exact piece_app h k
theorem II : topRun treeTable pw w 11 ann 2 s ⟨doneF .next, cE, p, [topFrame p0]⟩ = some s := by
 cases s
 rfl
end
theorem r32 (w : World) (os : OsState) : topRun treeTable pw w 11 ann 2 (sh (st32 w.params) 1061 1709 os).abs (restOf (bE.drop 97) aO cE ⟨727, 0, 747, 15⟩ [topFrame p0]) = some (sh (st32 w.params) 1061 1709 os).abs := by
 have e : bE.drop 97 = [] := by kernel_rfl
 rw [e]
 exact piece_nil II
theorem r31 (w : World) (os : OsState) : topRun treeTable pw w 11 ann 400 (sh (st31 w.params) 977 1606 os).abs (restOf (bE.drop 83) aO cE ⟨623, 0, 629, 67⟩ [topFrame p0]) = some (sh (st32 w.params) 1061 1709 os).abs :=
 bG (N := 2) (cZ (q31 w) os) (r32 w os)
theorem r30 (w : World) (os : OsState) : topRun treeTable pw w 11 ann 797 (sh (st30 w.params) 923 1524 os).abs (restOf (bE.drop 79) aO cE ⟨579, 0, 594, 71⟩ [topFrame p0]) = some (sh (st32 w.params) 1061 1709 os).abs :=
 bG (N := 400) (cZ (q30 w) os) (r31 w os)
theorem r29 (w : World) (os : OsState) : topRun treeTable pw w 11 ann 1091 (sh (st29 w.params) 890 1470 os).abs (restOf (bE.drop 78) aO cE ⟨570, 0, 578, 27⟩ [topFrame p0]) = some (sh (st32 w.params) 1061 1709 os).abs :=
 bG (N := 797) (cZ (q29 w) os) (r30 w os)
theorem r28 (w : World) (os : OsState) : topRun treeTable pw w 11 ann 1321 (sh (st28 w.params) 868 1435 os).abs (restOf (bE.drop 77) aO cE ⟨569, 0, 569, 8⟩ [topFrame p0]) = some (sh (st32 w.params) 1061 1709 os).abs :=
 bG (N := 1091) (cZ (q28 w) os) (r29 w os)
theorem r27 (w : World) (os : OsState) : topRun treeTable pw w 11 ann 1692 (sh (st27 w.params) 820 1356 os).abs (restOf (bE.drop 73) aO cE ⟨539, 0, 539, 8⟩ [topFrame p0]) = some (sh (st32 w.params) 1061 1709 os).abs :=
 bG (N := 1321) (cZ (q27 w) os) (r28 w os)
theorem r26 (w : World) (os : OsState) : topRun treeTable pw w 11 ann 2020 (sh (st26 w.params) 780 1299 os).abs (restOf (bE.drop 71) aO cE ⟨510, 0, 510, 8⟩ [topFrame p0]) = some (sh (st32 w.params) 1061 1709 os).abs :=
 bG (N := 1692) (cZ (q26 w) os) (r27 w os)
theorem r25 (w : World) (os : OsState) : topRun treeTable pw w 11 ann 2290 (sh (st25 w.params) 726 1211 os).abs (restOf (bE.drop 62) aO cE ⟨421, 0, 427, 15⟩ [topFrame p0]) = some (sh (st32 w.params) 1061 1709 os).abs :=
 bG (N := 2020) (cZ (q25 w) os) (r26 w os)
theorem r24 (w : World) (os : OsState) : topRun treeTable pw w 11 ann 2662 (sh (st24 w.params) 676 1128 os).abs (restOf (bE.drop 60) aO cE ⟨374, 0, 374, 7⟩ [topFrame p0]) = some (sh (st32 w.params) 1061 1709 os).abs :=
 bG (N := 2290) (cZ (q24 w) os) (r25 w os)
theorem r23 (w : World) (os : OsState) : topRun treeTable pw w 11 ann 2892 (sh (st23 w.params) 638 1069 os).abs (restOf (bE.drop 48) aO cE ⟨316, 0, 320, 79⟩ [topFrame p0]) = some (sh (st32 w.params) 1061 1709 os).abs :=
 bG (N := 2662) (cZ (q23 w) os) (r24 w os)
theorem r22 (w : World) (os : OsState) : topRun treeTable pw w 11 ann 3273 (sh (st22 w.params) 586 996 os).abs (restOf (bE.drop 46) aO cE ⟨279, 0, 286, 34⟩ [topFrame p0]) = some (sh (st32 w.params) 1061 1709 os).abs :=
 bG (N := 2892) (cZ (q22 w) os) (r23 w os)
theorem r21 (w : World) (os : OsState) : topRun treeTable pw w 11 ann 3504 (sh (st21 w.params) 565 959 os).abs (restOf (bE.drop 45) aO cE ⟨277, 0, 278, 44⟩ [topFrame p0]) = some (sh (st32 w.params) 1061 1709 os).abs :=
 bG (N := 3273) (cZ (q21 w) os) (r22 w os)
theorem r20 (w : World) (os : OsState) : topRun treeTable pw w 11 ann 3733 (sh (st20 w.params) 540 893 os).abs (restOf (bE.drop 38) aO cE ⟨259, 0, 259, 8⟩ [topFrame p0]) = some (sh (st32 w.params) 1061 1709 os).abs :=
 bG (N := 3504) (cZ (q20 w) os) (r21 w os)
theorem r19 (w : World) (os : OsState) : topRun treeTable pw w 11 ann 4053 (sh (st19 w.params) 470 808 os).abs (restOf (bE.drop 26) aO cE ⟨164, 0, 175, 20⟩ [topFrame p0]) = some (sh (st32 w.params) 1061 1709 os).abs :=
 bG (N := 3733) (cZ (q19 w) os) (r20 w os)
theorem r18 (w : World) (os : OsState) : topRun treeTable pw w 11 ann 4445 (sh (st18 w.params) 429 742 os).abs (restOf (bE.drop 20) aO cE ⟨133, 0, 140, 57⟩ [topFrame p0]) = some (sh (st32 w.params) 1061 1709 os).abs :=
 bG (N := 4053) (cZ (q18 w) os) (r19 w os)
theorem r17 (w : World) (os : OsState) : topRun treeTable pw w 11 ann 4738 (sh (st17 w.params) 403 708 os).abs (restOf (bE.drop 19) aO cE ⟨125, 0, 132, 60⟩ [topFrame p0]) = some (sh (st32 w.params) 1061 1709 os).abs :=
 bG (N := 4445) (cZ (q17 w) os) (r18 w os)
theorem r16 (w : World) (os : OsState) : topRun treeTable pw w 11 ann 5031 (sh (st16 w.params) 377 674 os).abs (restOf (bE.drop 18) aO cE ⟨117, 0, 124, 57⟩ [topFrame p0]) = some (sh (st32 w.params) 1061 1709 os).abs :=
 bG (N := 4738) (cZ (q16 w) os) (r17 w os)
theorem r15 (w : World) (os : OsState) : topRun treeTable pw w 11 ann 5324 (sh (st15 w.params) 351 640 os).abs (restOf (bE.drop 17) aO cE ⟨107, 0, 116, 85⟩ [topFrame p0]) = some (sh (st32 w.params) 1061 1709 os).abs :=
 bG (N := 5031) (cZ (q15 w) os) (r16 w os)
theorem r14 (w : World) (os : OsState) : topRun treeTable pw w 11 ann 5621 (sh (st14 w.params) 325 602 os).abs (restOf (bE.drop 16) aO cE ⟨97, 0, 106, 69⟩ [topFrame p0]) = some (sh (st32 w.params) 1061 1709 os).abs :=
 bG (N := 5324) (cZ (q14 w) os) (r15 w os)
theorem r13 (w : World) (os : OsState) : topRun treeTable pw w 11 ann 5913 (sh (st13 w.params) 301 567 os).abs (restOf (bE.drop 15) aO cE ⟨90, 0, 96, 44⟩ [topFrame p0]) = some (sh (st32 w.params) 1061 1709 os).abs :=
 bG (N := 5621) (cZ (q13 w) os) (r14 w os)
theorem r12 (w : World) (os : OsState) : topRun treeTable pw w 11 ann 6204 (sh (st12 w.params) 275 535 os).abs (restOf (bE.drop 14) aO cE ⟨82, 0, 89, 58⟩ [topFrame p0]) = some (sh (st32 w.params) 1061 1709 os).abs :=
 bG (N := 5913) (cZ (q12 w) os) (r13 w os)
theorem r11 (w : World) (os : OsState) : topRun treeTable pw w 11 ann 6497 (sh (st11 w.params) 249 501 os).abs (restOf (bE.drop 13) aO cE ⟨73, 0, 81, 78⟩ [topFrame p0]) = some (sh (st32 w.params) 1061 1709 os).abs :=
 bG (N := 6204) (cZ (q11 w) os) (r12 w os)
theorem r10 (w : World) (os : OsState) : topRun treeTable pw w 11 ann 6792 (sh (st10 w.params) 223 465 os).abs (restOf (bE.drop 12) aO cE ⟨64, 0, 72, 74⟩ [topFrame p0]) = some (sh (st32 w.params) 1061 1709 os).abs :=
 bG (N := 6497) (cZ (q10 w) os) (r11 w os)
theorem r9 (w : World) (os : OsState) : topRun treeTable pw w 11 ann 7087 (sh (st9 w.params) 197 429 os).abs (restOf (bE.drop 11) aO cE ⟨54, 0, 63, 91⟩ [topFrame p0]) = some (sh (st32 w.params) 1061 1709 os).abs :=
 bG (N := 6792) (cZ (q9 w) os) (r10 w os)
theorem r8 (w : World) (os : OsState) : topRun treeTable pw w 11 ann 7384 (sh (st8 w.params) 171 391 os).abs (restOf (bE.drop 10) aO cE ⟨45, 0, 53, 69⟩ [topFrame p0]) = some (sh (st32 w.params) 1061 1709 os).abs :=
 bG (N := 7087) (cZ (q8 w) os) (r9 w os)
theorem r7 (w : World) (os : OsState) : topRun treeTable pw w 11 ann 7679 (sh (st7 w.params) 145 355 os).abs (restOf (bE.drop 9) aO cE ⟨37, 0, 44, 53⟩ [topFrame p0]) = some (sh (st32 w.params) 1061 1709 os).abs :=
 bG (N := 7384) (cZ (q7 w) os) (r8 w os)
theorem r6 (w : World) (os : OsState) : topRun treeTable pw w 11 ann 7972 (sh (st6 w.params) 119 321 os).abs (restOf (bE.drop 8) aO cE ⟨26, 0, 36, 48⟩ [topFrame p0]) = some (sh (st32 w.params) 1061 1709 os).abs :=
 bG (N := 7679) (cZ (q6 w) os) (r7 w os)
theorem r5 (w : World) (os : OsState) : topRun treeTable pw w 11 ann 8268 (sh (st5 w.params) 93 284 os).abs (restOf (bE.drop 7) aO cE ⟨15, 0, 25, 89⟩ [topFrame p0]) = some (sh (st32 w.params) 1061 1709 os).abs :=
 bG (N := 7972) (cZ (q5 w) os) (r6 w os)
theorem r4 (w : World) (os : OsState) : topRun treeTable pw w 11 ann 8559 (sh (st4 w.params) 67 252 os).abs (restOf (bE.drop 6) aO cE ⟨13, 0, 14, 8⟩ [topFrame p0]) = some (sh (st32 w.params) 1061 1709 os).abs :=
 bG (N := 8268) (cZ (q4 w) os) (r5 w os)
theorem r3 (w : World) (os : OsState) : topRun treeTable pw w 11 ann 8773 (sh (st3 w.params) 55 236 os).abs (restOf (bE.drop 5) aO cE ⟨9, 0, 12, 24⟩ [topFrame p0]) = some (sh (st32 w.params) 1061 1709 os).abs :=
 bG (N := 8559) (cZ (q3 w) os) (r4 w os)
theorem r2 (w : World) (os : OsState) : topRun treeTable pw w 11 ann 9087 (sh (st2 w.params) 15 187 os).abs (restOf (bE.drop 0) aO cE ⟨0, 0, 0, 0⟩ [topFrame p0]) = some (sh (st32 w.params) 1061 1709 os).abs :=
 bG (N := 8773) (cZ (q2 w) os) (r3 w os)
abbrev tg := @PySem.W.Fast.tw15667345088766844465
abbrev td := @PySem.W.Fast.tw11892475500146522536
theorem V6 (P : Params) : absHeap (GA 12 (st2 P)) 15 {} = ⟨Array.mk (st1 P), {}⟩ := by kernel_rfl
theorem V5 (P : Params) : absHeap (GA 12 (st32 P)) 1061 {} = ⟨Array.mk (base P), {}⟩ := by kernel_rfl
theorem q0 (w : World) : (λ os => tg tt pw w 11 ann 12 ⟨boot_heap w.params, Array.mk [], boot_drawn, boot_toks, os⟩ (topStub pw)) = λ os => some (⟨⟨Array.mk (st1 w.params), {}⟩, Array.mk [], {}, 187, os⟩, ⟨td tt cE, cE, p0, [topFrame p0]⟩) := by kernel_rfl
theorem UA (w : World) (s : Shared) : segRun treeTable pw w 11 ann 1 1 s (blockOf bE aO cE p0 [topFrame p0]) = some (.next, s, cE, p0) := by
 cases s
 kernel_rfl
theorem NS (w : World) (os : OsState) : topRun treeTable pw w 11 ann 9100 ⟨boot_heap w.params, Array.mk [], boot_drawn, boot_toks, os⟩ (topStub pw) = some ⟨⟨Array.mk (base w.params), {}⟩, Array.mk [], {}, 1709, os⟩ := by
 have h0 := congrFun (q0 w) os
 unfold tg td tt at h0
 rw [← PySem.W.Fast.te15667345088766844465, ← PySem.W.Fast.te11892475500146522536, ← PySem.W.Fast.te14364793385576792824] at h0
 have h2 := r2 w os
 simp only [SharedT.abs, V6, V5] at h2
 exact go_top (n := 12) (N := 9088) h0 (piece_block (n := 1) (N := 9087) (UA w _) h2)
theorem QW (w : World) : ((boot_heap w.params).isNs mainGlobals && (Array.mk [] : Array GenState).size == 0, (boot_heap w.params).objs.size, (boot_heap w.params).nsMap mainGlobals "__annotations__") = (true, 11, ann) := by kernel_rfl
theorem RO : opening pw = plainProg pw.main.scope.names := by kernel_rfl
theorem O5 (s : Shared) : fenceModules? pw s = some s := by kernel_rfl
end
section
open PySem PySem.W PySem.Calls PyProof.Rows
open PySem.W.Fast
section
theorem VV : tw11788848310118352699 PySem.Challenge.rw_nt0130_01.row.prog.main = true := by kernel_rfl
theorem VU : ((tw9807087744658564304 PySem.Challenge.rw_nt0130_01.row.prog.main.body).isEmpty || tw12862048085361865435 (tw9807087744658564304 PySem.Challenge.rw_nt0130_01.row.prog.main.body) PySem.Challenge.rw_nt0130_01.row.prog.main.body) = true := by kernel_rfl
theorem VT : tw8377067652309620493 PySem.Challenge.rw_nt0130_01.row.prog = true := by kernel_rfl
theorem VS : ((tw18344453789297297638 PySem.Challenge.rw_nt0130_01.row.prog).all λ n => !tw14412699480532031325.contains n) = true := by kernel_rfl
theorem VR : tw8326940854005059898 { strict := !(tw5923862056798008813 PySem.Challenge.rw_nt0130_01.row.prog.main.body).all tw17691160309236699985.contains, foot := none, bare := List.filter (tw13343964577679436407 PySem.Challenge.rw_nt0130_01.row.prog PySem.Challenge.rw_nt0130_01.row.prog.main.body) [Str.ofString "vars", Str.ofString "dir", Str.ofString "locals"] } PySem.Challenge.rw_nt0130_01.row.prog.main.body = true := by kernel_rfl
theorem VQ : (tw17119622794617984870 PySem.Challenge.rw_nt0130_01.row.prog PySem.Challenge.rw_nt0130_01.row.prog.main.body λ x n => tw17868728402115742887 n) = true := by kernel_rfl
theorem S2 : (List.all PySem.Challenge.rw_nt0130_01.row.records λ x => !x.fst.opensWith (Str.ofString "__") && !builtinNamed x.fst && (tw18344453789297297638 PySem.Challenge.rw_nt0130_01.row.prog).contains x.fst && x.snd.all λ f => !f.fst.opensWith (Str.ofString "__")) = true := by kernel_rfl
theorem S0 : (tw18344453789297297638 PySem.Challenge.rw_nt0130_01.row.prog).contains PySem.Challenge.rw_nt0130_01.row.name = true := by kernel_rfl
theorem SZ : (!tw12749700546528644094.contains PySem.Challenge.rw_nt0130_01.row.name) = true := by kernel_rfl
theorem SY : PySem.Challenge.rw_nt0130_01.footing.all tw10501279942588096481 = true := by kernel_rfl
theorem SX : tw8179353310426384613 PySem.Challenge.rw_nt0130_01.prog PySem.Challenge.rw_nt0130_01.footing = true := by kernel_rfl
theorem SW : tw8326940854005059898 { strict := true, foot := some (tw797321630700447069 PySem.Challenge.rw_nt0130_01), writes := PySem.Challenge.rw_nt0130_01.writes, may := tw9572597257264208301 PySem.Challenge.rw_nt0130_01 } PySem.Challenge.rw_nt0130_01.footing = true := by kernel_rfl
theorem SV : tw9558739934217749035 PySem.Challenge.rw_nt0130_01.about PySem.Challenge.rw_nt0130_01.above = true := by kernel_rfl
theorem SU : tw16286561074155671207 PySem.Challenge.rw_nt0130_01 = true := by kernel_rfl
theorem SR : ((tw797321630700447069 PySem.Challenge.rw_nt0130_01).all λ n => !builtinNamed n || PySem.Challenge.rw_nt0130_01.about == [n] || !tw6984425678791042302 PySem.Challenge.rw_nt0130_01 n) = true := by kernel_rfl
theorem SQ : (!PySem.Challenge.rw_nt0130_01.writes || (List.flatMap tw12879404354523853263 PySem.Challenge.rw_nt0130_01.prog.main.body).all λ n => !tw6984425678791042302 PySem.Challenge.rw_nt0130_01 n) = true := by kernel_rfl
theorem SP : ((List.flatMap tw12879404354523853263 PySem.Challenge.rw_nt0130_01.prog.main.body).all λ n => !tw6984425678791042302 PySem.Challenge.rw_nt0130_01 n || (tw482687673346738481 n PySem.Challenge.rw_nt0130_01.prog.main.body).all λ mn => mn.snd != Str.ofString "attrgetter" && mn.snd != Str.ofString "methodcaller") = true := by kernel_rfl
theorem SO : (tw17119622794617984870 PySem.Challenge.rw_nt0130_01.prog PySem.Challenge.rw_nt0130_01.footing λ sc n => (![Str.ofString "type", Str.ofString "isinstance", Str.ofString "issubclass", Str.ofString "getattr", Str.ofString "hasattr"].contains n || List.lookup n sc.names == some NameKind.globalImplicit) && (tw9572597257264208301 PySem.Challenge.rw_nt0130_01 != some n || sc.kind == ScopeKind.module || List.lookup n sc.names == some NameKind.globalImplicit)) = true := by kernel_rfl
theorem SN : (tw10792542408131684335 PySem.Challenge.rw_nt0130_01).contains PySem.Challenge.rw_nt0130_01.name = true := by kernel_rfl
theorem SM : ((tw10792542408131684335 PySem.Challenge.rw_nt0130_01).eraseDups.length == (tw10792542408131684335 PySem.Challenge.rw_nt0130_01).length) = true := by kernel_rfl
theorem SL : ((tw10792542408131684335 PySem.Challenge.rw_nt0130_01).all λ n => !builtinNamed n) = true := by kernel_rfl
theorem SK : (tw17119622794617984870 PySem.Challenge.rw_nt0130_01.prog PySem.Challenge.rw_nt0130_01.above λ x n => !(tw10792542408131684335 PySem.Challenge.rw_nt0130_01).contains n) = true := by kernel_rfl
theorem SJ : (tw17119622794617984870 PySem.Challenge.rw_nt0130_01.prog PySem.Challenge.rw_nt0130_01.footing λ sc n => sc.kind == ScopeKind.module || List.lookup n sc.names != some NameKind.globalExplicit) = true := by kernel_rfl
theorem SI : PySem.Challenge.rw_nt0130_01.wellSaid = true := by
 unfold OpenLaw.wellSaid OpenRow.wellSaid OpenRow.partSaid looksOpen
 repeat' (with_reducible refine look_both ?_ ?_)
 all_goals try simp only [te11788848310118352699, te12862048085361865435, te9807087744658564304, te8377067652309620493, te14412699480532031325, te18344453789297297638, te13343964577679436407, te17691160309236699985, te5923862056798008813, te8326940854005059898, te17868728402115742887, te17119622794617984870, te12749700546528644094, te10501279942588096481, te8179353310426384613, te9572597257264208301, te797321630700447069, te9558739934217749035, te16286561074155671207, te6984425678791042302, te12879404354523853263, te482687673346738481, te10792542408131684335]
 all_goals first | with_reducible exact VV | with_reducible exact VU | with_reducible exact VT | with_reducible exact VS | with_reducible exact VR | with_reducible exact VQ | with_reducible exact S2 | with_reducible exact S0 | with_reducible exact SZ | with_reducible exact SY | with_reducible exact SX | with_reducible exact SW | with_reducible exact SV | with_reducible exact SU | with_reducible exact SR | with_reducible exact SQ | with_reducible exact SP | with_reducible exact SO | with_reducible exact SN | with_reducible exact SM | with_reducible exact SL | with_reducible exact SK | with_reducible exact SJ | kernel_rfl
end
end
section
open PySem PySem.W PySem.Calls PyProof.Rows
abbrev H0 (P : Params) : Heap := boot_heap P
abbrev H1 (P : Params) : Heap := ⟨Array.mk (base P), {}⟩
abbrev S1 (P : Params) (os : OsState) : Shared := ⟨H1 P, Array.mk [], {}, 1709, os⟩
def qv : Program := { pw with main := { pw.main with body := bE.drop 96 } }
noncomputable def loose : List Str := [S "_wall", S "row_of", S "rows_of", S "Node", S "Expr", S "Literal", S "Name", S "Unary", S "Binary", S "Between", S "InList", S "InSelect", S "Exists", S "Scalar", S "Case", S "Call", S "Cast", S "Collate", S "IsNull", S "Match", S "NUMERIC_AFFINITIES", S "SPACES", S "fold_ascii", S "affinity_of_type", S "comparison_affinities", S "fold", S "children", S "outer_numbers", S "collect_numbers", S "affinity_of", S "explicit_collation", S "column_collation", S "collation_of", S "comparison_collation", S "TURNED", S "TRUTH_OPS", S "NUMBER_OPS", S "NUMBER_CALLS", S "split_and", S "is_column_of", S "is_free_of", S "Bound", S "Term", S "compared_bound", S "comparison_bounds", S "between_bounds", S "list_bounds", S "bounds_of", S "is_rowid_place", S "surely_integer", S "ROWS_OF_TABLE", S "ROW_BY_TABLE", S "ROW_BY_INDEX", S "ROW_BY_BOTH", S "DESCENT", S "Path", S "first_bound", S "put_equal", S "put_list", S "put_range", S "guess", S "rowid_paths", S "fits_column", S "index_paths", S "new_index_path", S "Conditions", S "Source", S "bound_name", S "table_source", S "Column", S "Index", S "Table", S "_law_pool", S "_law_take", S "_law_one", S "_law_column", S "_law_side", S "_law_condition", S "_law_affinity", S "_law_bound", S "_law_names", S "_law_due", S "_law_shown", S "_law_first", S "_law_is_whole", S "_law_ends", S "_law_texts"]
theorem R5 : importedModules pw.main.body = [] := by kernel_rfl
theorem AY (P : Params) : staticsOk (importedModules pw.main.body) (H0 P) (H1 P) = true := by kernel_rfl
theorem H4 (P : Params) : namesBound pw (H1 P) = true := by kernel_rfl
theorem OJ (P : Params) (os : OsState) : gensDone (S1 P os) = true := by kernel_rfl
theorem OI (P : Params) : laidKept (H0 P) (H1 P) = true := by kernel_rfl
theorem OG (P : Params) (os : OsState) : @PySem.W.Fast.tw4187177175401517315 qv loose [] (λ _ => true) true (S1 P os) = openGood qv loose := by kernel_rfl
theorem DZ : chainsOk qv = true := by kernel_rfl
theorem H3 : opensWell pw = true := by kernel_rfl
theorem H5 : (frees PySem.Challenge.rw_nt0130_01.row.toRowW && PySem.Challenge.rw_nt0130_01.row.toRowW.within.isEmpty) = true := by kernel_rfl
def live (o : Obj) : Bool := match o with | ⟨_, _, .freed, _⟩ => false | _ => true
noncomputable def DH : Nat -> List Obj -> Frag
 | _, [] => []
 | i, o :: r => match live o with
  | true => (i, o) :: DH (i + 1) r
  | false => DH (i + 1) r
theorem m5 : ∀ {l : List Obj} {i a : Nat} {o : Obj}, (DH i l).lookup a = some o -> ∃ j, a = i + j /\ l[j]? = some o /\ live o = true
 | [], _, _, _, h => by cases h
 | x :: r, i, a, o, h => by
  unfold DH at h
  cases q : live x with
  | true =>
   rw [q] at h
   cases z : a == i with
   | true =>
    simp only [List.lookup, z] at h
    cases h
    exact ⟨0, beq_iff_eq.mp z, rfl, q⟩
   | false =>
    simp only [List.lookup, z] at h
    obtain ⟨j, h1, h2, h3⟩ := m5 h
    exact ⟨j + 1, by omega, h2, h3⟩
  | false =>
   rw [q] at h
   obtain ⟨j, h1, h2, h3⟩ := m5 h
   exact ⟨j + 1, by omega, h2, h3⟩
theorem EE {h : Heap} {a : Addr} {o : Obj} (e : h.objs.toList[a]? = some o) (l : live o = true) : h.get? a = some o := by
 unfold Heap.get?
 rw [← Array.getElem?_toList, e]
 obtain ⟨c, d, t, s⟩ := o
 cases t <;> first | rfl | cases l
def KN (P : Params) : Frag := DH 0 (base P)
theorem UO {P : Params} {h : Heap} (e : h.objs.toList = base P) : (KN P).In h := λ a o q => by
 obtain ⟨j, h1, h2, h3⟩ := m5 q
 obtain rfl : j = a := by omega
 exact EE (by rw [e]; exact h2) h3
theorem N3 (w : World) : (λ os => ((staticsOk (importedModules pw.main.body) (H0 w.params) (H1 w.params) && namesBound pw (H1 w.params) && gensDone (S1 w.params os) && laidKept (H0 w.params) (H1 w.params)),
  openSeen qv loose (importedModules pw.main.body) (λ _ => true) true (S1 w.params os), (S1 w.params os).heap.objs.toList)) = λ _ => (true, openGood qv loose, base w.params) := by
 funext os
 rw [AY, H4, OJ, OI, R5, PySem.W.Fast.te4187177175401517315, OG]
 rfl
theorem R7 : LeftO pw qv loose (λ _ => true) (λ s => s.heap.objs.toList) (λ w => base w.params) 9200 :=
 LeftO.of_pieces (H₀ := H0) (H₁ := H1) (boot_open RO (by decide) O5) QW (λ w os => NS w os) (by decide) N3
def Bs (w : World) (h : Heap) : Prop := (KN w.params).In h
theorem S5 : (defOf qv (S "law")).isSome = true := by kernel_rfl
def nN : DefRec × List (Str × Expr) := (defOf qv (S "law")).get S5
theorem ON : defOf qv (S "law") = some (nN.1, nN.2) := by kernel_rfl
theorem OM : pw.theDef (S "law") = some (nN.1.params, nN.1.body, nN.1.scope) := by kernel_rfl
theorem OL : kwWritten? nN.1.params.kwonlyargs nN.1.params.kw_defaults = some nN.2 := by kernel_rfl
theorem VP : (chainsOk qv && opensWell PySem.Challenge.rw_nt0130_01.row.prog && (frees PySem.Challenge.rw_nt0130_01.row.toRowW && PySem.Challenge.rw_nt0130_01.row.within.isEmpty)) = true :=
 look_both (look_both DZ H3) H5
theorem OP : PySem.Challenge.rw_nt0130_01.row.prog.bare := ⟨rfl, rfl, rfl, rfl, rfl, by decide +kernel⟩
theorem SG : PySem.Challenge.rw_nt0130_01.row.toRowW.promised := by w_witness2
theorem EA (call : WalkO qv loose (λ _ _ => True) Bs PySem.Challenge.rw_nt0130_01.row.toRowW nN.1 nN.2 λ f vs => PySem.call f vs) : PySem.Challenge.rw_nt0130_01.Holds := by
 refine holds_law SI λ lW => holds_open (q := qv) (loose := loose) (Xt := λ _ => true) (XP := λ _ _ => True) (Yf := λ s => s.heap.objs.toList) (Ya := λ w => base w.params) (YP := Bs) (N := 9200) R7
  (λ w s e => UO e) (λ w h h' x k => x.keeps k) (λ _ _ => trivial) (λ _ _ _ _ _ => trivial) ON OM OL (λ _ _ => recFacts_nil rfl) rfl lW VP OP SG call
end
section
open PySem PySem.W PyProof.Rows
noncomputable def zL : List (Nat × Nat) := [(29, 502), (38, 488), (40, 469), (42, 510), (45, 481), (47, 517), (48, 524), (51, 495), (54, 476), (58, 539), (59, 557), (60, 564), (61, 637), (66, 532), (68, 642), (69, 647), (70, 654), (75, 675), (84, 668), (100, 725), (103, 732), (104, 753), (106, 739), (108, 746), (112, 765), (115, 779), (128, 976), (129, 861), (131, 990), (132, 983), (133, 997), (135, 1009), (145, 1021), (146, 1016), (149, 1036), (151, 1050), (152, 1043), (156, 969), (161, 867), (163, 1002), (165, 1026), (167, 1031), (168, 758), (169, 772), (170, 1055), (180, 550), (183, 661), (199, 462)]
def zR : List (Nat × Nat) := [(6, 168), (7, 194), (11, 220), (30, 116), (56, 581), (73, 90), (102, 714), (123, 850), (158, 958), (159, 885), (160, 918), (164, 815), (181, 626)]
noncomputable def jR : List (Nat × Nat) := [(4, 142), (6, 168), (7, 194), (11, 220), (13, 322), (20, 348), (22, 452), (25, 246), (26, 374), (27, 400), (28, 426), (30, 116), (32, 272), (33, 298), (73, 90), (74, 1), (172, 2)]
def dfl : List Nat := [510, 532, 867, 690, 882]
def nmS (i : Nat) : Str := Str.ofString (match nth RW i with | some s => s | none => ".0")
noncomputable def nO (l : List (Nat × Nat)) (a b : Nat) : Bool := match l with
 | [] => false
 | p :: r => match Nat.beq p.1 a with
  | true => match Nat.beq p.2 b with
   | true => true
   | false => nO r a b
  | false => nO r a b
def bls : List String := ["len", "isinstance", "sorted", "all", "max", "min", "set", "list", "tuple", "str", "range", "int"]
def tcS : Tc := ⟨nmS, 204, nO zL, nO zR, nO jR, λ s => bls.contains s⟩
def zH (f : Nat) : Bool := nP dfl f
theorem MF (P : Params) : ((rC.take 32).all λ p => zH p.1 || fnGood (KN P) tcS p.1 p.2) = true := by kernel_rfl
theorem ME (P : Params) : ((rC.drop 32).all λ p => zH p.1 || fnGood (KN P) tcS p.1 p.2) = true := by kernel_rfl
theorem QN (P : Params) : (rC.all λ p => zH p.1 || fnGood (KN P) tcS p.1 p.2) = true := by
 rw [← List.take_append_drop 32 rC, List.all_append, MF, ME]; rfl
theorem UX (P : Params) : (zL.all λ p => (nsIn (KN P) mainGlobals (nmS p.1) == some (some (.ref p.2))) && keepIn (KN P) (.ref p.2)) = true := by kernel_rfl
theorem UY (P : Params) : (zR.all λ p => (nsIn (KN P) mainGlobals (nmS p.1) == some (some (.ref p.2))) && keepIn (KN P) (.ref p.2)) = true := by kernel_rfl
theorem MC (P : Params) : wZ (KN P) tcS 976 [31, 194] (tL tcS) = true := by kernel_rfl
theorem MD (P : Params) : wZ (KN P) tcS 969 [157, 193] (tO tcS) = true := by kernel_rfl
def T9 (l : List Nat) : Nat := l.foldl (λ a c => a * 1114112 + c + 1) 0
def E6 (s : Str) : Nat := T9 s.cps.toList
def jZ : List Nat := (List.range 204).map λ i => E6 (nmS i)
theorem y1 : xE (E6 ".0" :: jZ) = true := by kernel_rfl
noncomputable def tK (K : Frag) (C : Nat) (ci : ClsI) : Bool :=
 Nat.ble 3 C && plainGet K C "__class__" && hasDictIn K C && (findIn K (.ref C) "__class__" == some (some (.builtin "object.__class__"))) && (mroIn K C (.type "object") == some true) &&
 (findIn K (.ref C) "__setattr__" == some (some (.builtin "object.__setattr__"))) && plainOver K C && (ci.fields.all λ a => Nat.blt a 204 && tE K C (nmS a) && (takerIn K C (nmS a) == some none)) &&
 (ci.meths.all λ m => (findIn K (.ref C) (nmS m.1) == some (some (.ref m.2))) && (typeIn K (.ref m.2) == some (.type "function")) && keepIn K (.ref m.2)) && makesIn K C &&
 (findIn K (.ref C) "__init__" == some (some (.ref ci.init))) && (typeIn K (.ref ci.init) == some (.type "function"))
theorem QL (P : Params) : (specialIn (KN P) (.builtin "object.__class__") "__get__" == some (some (.builtin "getset_descriptor.__get__")) && (takesIn (KN P) (.builtin "object.__class__") == some true)) = true := by kernel_rfl
theorem QP (P : Params) : (n5.all λ p => tK (KN P) p.1 p.2) = true := by kernel_rfl
def isV (a : Option Value) (b : Value) : Bool := a == some b
theorem UZ (P : Params) : (bls.all λ s => (nsIn (KN P) mainGlobals (Str.ofString s) == some none) && (match bootBuiltins (Str.ofString s) with | some v => isV (blV s) v | none => false) && Str.ofString s != "__name__") = true := by kernel_rfl
noncomputable def CG (K : Frag) (p : Nat × Nat) : Bool := (nsIn K mainGlobals (nmS p.1) == some (some (tyV p.2))) || ((nsIn K mainGlobals (nmS p.1) == some none) && isV (bootBuiltins (nmS p.1)) (tyV p.2) && nmS p.1 != "__name__")
theorem UW (P : Params) : (jR.all λ p => CG (KN P) p) = true := by kernel_rfl
theorem QM (P : Params) : ((0 :: 1 :: 2 :: n5.map (·.1)).all λ t => jR.all λ p => kitOne (KN P) (tyV t) (tyV p.2) == some (Nat.beq t p.2)) = true := by kernel_rfl
def IN (K : Frag) (d : FuncData) : List Value := match d.defaults with
 | .ref T => match K.lookup T with
  | some ⟨_, _, .seq items _, _⟩ => items.toList
  | _ => []
 | _ => []
def EQ (x : FV) (v : Value) : Bool := match x with
 | .non => isN v
 | .str cs => match v with
  | .str s _ => s == aC cs && okS cs
  | _ => false
 | _ => false
noncomputable def fdD : FuncData := { name := ⟨#[]⟩, qualname := ⟨#[]⟩, params := ⟨[], [], none, [], [], none, []⟩, body := .stmts [], scope := ⟨.function, [], false, false, []⟩, globals := 0, closure := [], defaults := .none, kwdefaults := .none }
def fdX (P : Params) (f : Nat) : FuncData := match fdOf ((KN P).lookup f) with
 | some p => p.1
 | none => fdD
noncomputable def ET (K : Frag) (f : Nat) (fi : FnI) : Bool := HH (fdOf (K.lookup f)) λ p => HI K tcS fi.ps (λ kd body => gJ (jF tcS 60 kd) fi.body body) p.1 p.2 && sY tcS fi.ps p.1 && all2 EQ fi.dn (IN K p.1)
theorem EP {c : Cx} {G : Gh} {x : FV} {v : Value} (h : EQ x v = true) : RF c G x v := by cases x with
 | non => rw [s8 h]; exact .non
 | str cs => cases v with
  | str s t => rw [beq_iff_eq.mp (bl (show (s == aC cs && okS cs) = true from h))]; exact .str _ _ (br (show (s == aC cs && okS cs) = true from h))
  | _ => exact ff h
 | _ => exact ff h
theorem T1 {c : Cx} {G : Gh} {xs : List FV} : ∀ {vs : List Value}, all2 EQ xs vs = true -> RL c G xs vs := by induction xs with
 | nil => intro vs h; cases vs with
  | nil => exact .nil
  | cons _ _ => exact ff h
 | cons x r ih => intro vs h; cases vs with
  | nil => exact ff h
  | cons v vs => exact .cons (EP (bl h)) (ih (br h))
noncomputable abbrev bound (P : Params) (f : Nat) (ps : List Nat) (vals : List Value) : List (Str × Value) := (ps.map nmS).zip (vals ++ (IN (KN P) (fdX P f)).drop (vals.length + (IN (KN P) (fdX P f)).length - ps.length))
abbrev Bd (P : Params) (f : Nat) (ps : List Nat) (vals : List Value) : Prop := ∀ S, peek (KN P) S (bindArgs (fdX P f) ⟨vals, []⟩) = some (bound P f ps vals)
theorem JD (P : Params) (a : Value) : Bd P 510 dU.ps [a] := λ S => by kernel_rfl
theorem JC (P : Params) (a b : Value) : Bd P 510 dU.ps [a, b] := λ S => by kernel_rfl
theorem JB (P : Params) (a : Value) : Bd P 532 dA.ps [a] := λ S => by kernel_rfl
theorem JA (P : Params) (a b : Value) : Bd P 532 dA.ps [a, b] := λ S => by kernel_rfl
theorem I7 (P : Params) (a b d : Value) : Bd P 867 cH.ps [a, b, d] := λ S => by kernel_rfl
theorem I6 (P : Params) (a b d e : Value) : Bd P 867 cH.ps [a, b, d, e] := λ S => by kernel_rfl
theorem IZ (P : Params) (a b d e f : Value) : Bd P 867 cH.ps [a, b, d, e, f] := λ S => by kernel_rfl
theorem I9 (P : Params) (a b : Value) : Bd P 690 eC.ps [a, b] := λ S => by kernel_rfl
theorem I8 (P : Params) (a b d : Value) : Bd P 690 eC.ps [a, b, d] := λ S => by kernel_rfl
theorem IY (P : Params) (a b : Value) : Bd P 882 dE.ps [a, b] := λ S => by kernel_rfl
theorem IX (P : Params) (a b d : Value) : Bd P 882 dE.ps [a, b, d] := λ S => by kernel_rfl
def T3 : List (Nat × FnI) := [(510, dU), (532, dA), (867, cH), (690, eC), (882, dE)]
theorem QO (P : Params) : (T3.all λ p => ET (KN P) p.1 p.2) = true := by kernel_rfl
def cxS (σ : Nat -> FV) (w : World) (h₀ : Heap) (mg mb : Str -> Option Value) : Cx := ⟨pw, w, KN w.params, h₀, mg, mb, nmS, 204, tb σ⟩
theorem g6 : ∀ {l : List (Nat × Nat)} {a b : Nat}, nO l a b = true -> (a, b) ∈ l
 | [], _, _, h => by cases h
 | p :: r, a, b, h => by
  have h' : (match Nat.beq p.1 a with | true => (match Nat.beq p.2 b with | true => true | false => nO r a b) | false => nO r a b) = true := h
  split at h'
  ·rename_i q1
   split at h'
   ·rename_i q2
    rw [← Nat.eq_of_beq_eq_true q1, ← Nat.eq_of_beq_eq_true q2]
    exact .head _
   ·exact .tail _ (g6 h')
  ·exact .tail _ (g6 h')
theorem iL {i j : Nat} (hi : i < 204) (hj : j < 204) (h : nmS i = nmS j) : i = j := by
 have nd := i8 y1
 obtain ⟨_, nd⟩ := List.nodup_cons.mp nd
 have hl : jZ.length = 204 := by unfold jZ; rw [List.length_map, List.length_range]
 have e : ∀ {k : Nat} (hk : k < 204), jZ[k]'(by rw [hl]; exact hk) = E6 (nmS k) := λ {k} hk => by simp [jZ]
 rcases Nat.lt_trichotomy i j with q | q | q
 ·exact absurd (by rw [e hi, e hj, h]) (List.pairwise_iff_getElem.mp nd i j (by rw [hl]; exact hi) (by rw [hl]; exact hj) q)
 ·exact q
 ·exact absurd (by rw [e hi, e hj, h]) (List.pairwise_iff_getElem.mp nd j i (by rw [hl]; exact hj) (by rw [hl]; exact hi) q)
theorem BG {i : Nat} (hi : i < 204) : nmS i ≠ (".0" : Str) := λ h => by
 have nd := i8 y1
 obtain ⟨n1, _⟩ := List.nodup_cons.mp nd
 refine n1 (List.mem_map.mpr ⟨i, List.mem_range.mpr hi, ?_⟩)
 rw [h]
theorem fnIn {P : Params} {l : List (Nat × Nat)} (t : (l.all λ p => (nsIn (KN P) mainGlobals (nmS p.1) == some (some (.ref p.2))) && keepIn (KN P) (.ref p.2)) = true) {x f : Nat} (h : nO l x f = true) : nsIn (KN P) mainGlobals (nmS x) = some (some (.ref f)) /\ keepIn (KN P) (.ref f) = true := by
 have := List.all_eq_true.mp t _ (g6 h)
 obtain ⟨h1, h2⟩ := Bool.and_eq_true_iff.mp this
 exact ⟨beq_iff_eq.mp h1, h2⟩
section
variable {σ : Nat -> FV} {w : World} {h₀ : Heap} {mg mb : Str -> Option Value}
theorem PS {C : Nat} {ci : ClsI} (h : tK (KN w.params) C ci = true) : ClsOk (cxS σ w h₀ mg mb) C ci := by
 unfold tK at h
 simp only [Bool.and_eq_true, beq_iff_eq, List.all_eq_true] at h
 obtain ⟨⟨⟨⟨⟨⟨⟨⟨⟨⟨⟨h1, h2⟩, h3⟩, h4⟩, h5⟩, h6⟩, h7⟩, h8⟩, h9⟩, h10⟩, h11⟩, h12⟩ := h
 have o := QL w.params
 simp only [Bool.and_eq_true, beq_iff_eq] at o
 refine ⟨Nat.le_of_ble_eq_true h1, h2, h3, h4, o.1, o.2, h5, h6, h7, λ a ha => ?_, λ a f hf => ?_, h10, h11, h12⟩
 ·obtain ⟨⟨g1, g2⟩, g3⟩ := h8 a (j6.mp ha)
  exact ⟨Nat.blt_eq.mp g1, g2, g3⟩
 ·obtain ⟨⟨g1, g2⟩, g3⟩ := h9 (a, f) (b7 hf)
  exact ⟨g1, g2, g3⟩
theorem zG {a : Option Value} {b : Value} (h : isV a b = true) : a = some b := beq_iff_eq.mp h
theorem UB {s : String} (h : bls.contains s = true) : nsIn (KN w.params) mainGlobals (Str.ofString s) = some none /\ ∃ v, bootBuiltins (Str.ofString s) = some v /\ blV s = some v /\ Str.ofString s ≠ "__name__" := by
 have := List.all_eq_true.mp (UZ w.params) s (List.contains_iff_mem.mp h)
 simp only [Bool.and_eq_true, beq_iff_eq, bne_iff_ne] at this
 obtain ⟨⟨h1, h2⟩, h3⟩ := this
 refine ⟨h1, ?_⟩
 split at h2
 ·rename_i v hv
  exact ⟨v, hv, zG h2, h3⟩
 ·cases h2
theorem QH {x t : Nat} (h : nO jR x t = true) : nsIn (KN w.params) mainGlobals (nmS x) = some (some (tyV t)) \/ (nsIn (KN w.params) mainGlobals (nmS x) = some none /\ bootBuiltins (nmS x) = some (tyV t) /\ nmS x ≠ "__name__") := by
 have := List.all_eq_true.mp (UW w.params) _ (g6 h)
 unfold CG at this
 simp only [Bool.or_eq_true, Bool.and_eq_true, beq_iff_eq, bne_iff_ne] at this
 rcases this with h1 | ⟨⟨h1, h2⟩, h3⟩
 ·exact .inl h1
 ·exact .inr ⟨h1, zG h2, h3⟩
theorem OE {t x k : Nat} (ht : t < 3 \/ ((tb σ).cls t).isSome = true) (h : nO jR x k = true) : kitOne (KN w.params) (tyV t) (tyV k) = some (Nat.beq t k) := by
 have hm : t ∈ 0 :: 1 :: 2 :: n5.map (·.1) := by
  rcases ht with ht | ht
  ·match t, ht with
   | 0, _ => exact .head _
   | 1, _ => exact .tail _ (.head _)
   | 2, _ => exact .tail _ (.tail _ (.head _))
  ·obtain ⟨ci, hc⟩ := Option.isSome_iff_exists.mp ht
   exact .tail _ (.tail _ (.tail _ (List.mem_map.mpr ⟨_, b7 (l := n5) hc, rfl⟩)))
 have := List.all_eq_true.mp (List.all_eq_true.mp (QM w.params) t hm) _ (g6 h)
 exact beq_iff_eq.mp this
theorem nY {f : Nat} {fi : FnI} (hd : ET (KN w.params) f fi = true)
  (hb : ∀ vals : List Value, vals.length <= fi.ps.length -> fi.ps.length <= vals.length + fi.dn.length -> Bd w.params f fi.ps vals) (hK : (KN w.params).In h₀) : FnOk (cxS σ w h₀ mg mb) tcS f fi := by
 obtain ⟨⟨d, b⟩, h1, h2⟩ := mZ hd
 obtain ⟨oc, od, osl, h3, hbd⟩ := nV h1
 have X : FdFacts (cxS σ w h₀ mg mb) fi.ps _ d b := m2 (c := cxS σ w h₀ mg mb) rfl rfl hbd (bl (bl h2))
 have ex : fdX w.params f = d := by unfold fdX; rw [h1]
 have l := jC (c := cxS σ w h₀ mg mb) rfl (br (bl h2))
 refine .plain oc od osl _ _ _ _ _ _ _ _ _ _ _ _ 60 (h3.trans (by rw [← X.eq])) X.code X.co X.gen X.kind X.chk X.nd X.lt (λ s vals hin k1 k2 => ⟨IN (KN w.params) d, T1 (br h2), ?_⟩) l.1 l.2
 have := hb vals k1 k2
 unfold Bd bound at this
 rw [ex] at this
 rw [← X.eq]
 exact kp_binds hin this
end
section
variable {c : Cx} {G : Gh}
theorem i6 {s : String} {cs : List Nat} {t : Tok} (h : Str.ofString s = aC cs) (ok : okS cs = true) : RF c G (.str cs) (.str (Str.ofString s) t) := h ▸ .str cs t ok
end
theorem AL : Str.ofString "integer" = aC cO := by kernel_rfl
theorem AK : Str.ofString "numeric" = aC mQ := by kernel_rfl
theorem NL : Str.ofString "=" = aC [61] := by kernel_rfl
theorem NH : Str.ofString "<" = aC [60] := by kernel_rfl
theorem NI : Str.ofString "<=" = aC [60, 61] := by kernel_rfl
theorem NJ : Str.ofString ">" = aC [62] := by kernel_rfl
theorem NK : Str.ofString ">=" = aC [62, 61] := by kernel_rfl
theorem SA (P : Params) : (KN P).lookup 455 = some o455 := by kernel_rfl
theorem R9 (P : Params) : (KN P).lookup 540 = some (o540 P) := by kernel_rfl
theorem TR (P : Params) : nsIn (KN P) mainGlobals (nmS 203) = some (some (.str (aC [32, 9, 10, 11, 12, 13]) 788)) := by kernel_rfl
theorem g_1 (P : Params) : nsIn (KN P) mainGlobals (nmS 1) = some (some (.ref 455)) := by kernel_rfl
theorem V2 (P : Params) : nsIn (KN P) mainGlobals (nmS 62) = some (some (.ref 540)) := by kernel_rfl
theorem V1 (P : Params) : nsIn (KN P) mainGlobals (nmS 93) = some (some (.int 1000 1118)) := by kernel_rfl
theorem TU (P : Params) : nsIn (KN P) mainGlobals (nmS 105) = some (some (.int 2 1120)) := by kernel_rfl
theorem TT (P : Params) : nsIn (KN P) mainGlobals (nmS 119) = some (some (.int 2 1122)) := by kernel_rfl
theorem TS (P : Params) : nsIn (KN P) mainGlobals (nmS 120) = some (some (.int 3 1124)) := by kernel_rfl
theorem V0 (P : Params) : nsIn (KN P) mainGlobals (nmS 99) = some (some (.int 4 1126)) := by kernel_rfl
section
variable {σ : Nat -> FV} {w : World} {h₀ : Heap} {mg mb : Str -> Option Value}
theorem AB (hK : (KN w.params).In h₀) : RF (cxS σ w h₀ mg mb) h₀.get? (.sdct [([61], .str [61]), ([60], .str [62]), ([60, 61], .str [62, 61]), ([62], .str [60]), ([62, 61], .str [60, 61])]) (.ref 540) := by
 refine .sdct (kvs := [(aC [61], .str (Str.ofString "=") 894), (aC [60], .str (Str.ofString ">") 896), (aC [60, 61], .str (Str.ofString ">=") 898), (aC [62], .str (Str.ofString "<") 900), (aC [62, 61], .str (Str.ofString "<=") 902)]) (hK _ _ (R9 _)) ⟨_, _, ⟨rfl, rfl, rfl⟩, rfl, ?_, ?_, ?_⟩ ?_ (by decide)
 ·have one : ∀ {s : String} {cs : List Nat} {t : Tok} {v : Value}, Str.ofString s = aC cs -> ∃ k, (PySem.strKind pw w).is k (en w.params s t v).key = true /\ (en w.params s t v).hash = (PySem.strKind pw w).hash k := λ {s cs t v} h => ⟨Str.ofString s, beq_self_eq_true _, rfl⟩
  intro e he
  rcases List.mem_cons.mp (Array.mem_toList_iff.mpr he) with rfl | he
  ·exact one NL
  rcases List.mem_cons.mp he with rfl | he
  ·exact one NH
  rcases List.mem_cons.mp he with rfl | he
  ·exact one NI
  rcases List.mem_cons.mp he with rfl | he
  ·exact one NJ
  rcases List.mem_cons.mp he with rfl | he
  ·exact one NK
  cases he
 ·have one : ∀ {s : String} {cs : List Nat} {t : Tok} {v : Value}, Str.ofString s = aC cs -> (PySem.strKind pw w).is (aC cs) (en w.params s t v).key = true := λ {s cs t v} h => by
   show (PySem.strKind pw w).is (aC cs) (.str (Str.ofString s) t) = true
   rw [h]; exact beq_self_eq_true _
  exact .cons (one NL) rfl (.cons (one NH) rfl (.cons (one NI) rfl (.cons (one NJ) rfl (.cons (one NK) rfl .nil))))
 ·show [aC [61], aC [60], aC [60, 61], aC [62], aC [62, 61]].Nodup
  decide +kernel
 ·exact .cons (i6 NL rfl) (.cons (i6 NJ rfl) (.cons (i6 NK rfl) (.cons (i6 NH rfl) (.cons (i6 NI rfl) .nil))))
theorem O2 (hK : (KN w.params).In h₀) {x : Nat} {v : FV} (h : (tb σ).glb x = some v) : ∃ u, nsIn (KN w.params) mainGlobals (nmS x) = some (some u) /\ RF (cxS σ w h₀ mg mb) h₀.get? v u := by
 have hm := b7 (l := TQ) h
 rcases List.mem_cons.mp hm with e | hm
 ·cases e; exact ⟨_, TR _, .str _ _ rfl⟩
 rcases List.mem_cons.mp hm with e | hm
 ·cases e
  exact ⟨_, g_1 _, .tup (vs := [.str (Str.ofString "integer") 785, .str (Str.ofString "numeric") 786]) (hK _ _ (SA _)) ⟨0, rfl⟩ (by decide) (.cons (i6 AL rfl) (.cons (i6 AK rfl) .nil))⟩
 rcases List.mem_cons.mp hm with e | hm
 ·cases e; exact ⟨_, V2 _, AB hK⟩
 rcases List.mem_cons.mp hm with e | hm
 ·cases e; exact ⟨_, V1 _, .int _ _⟩
 rcases List.mem_cons.mp hm with e | hm
 ·cases e; exact ⟨_, TU _, .int _ _⟩
 rcases List.mem_cons.mp hm with e | hm
 ·cases e; exact ⟨_, TT _, .int _ _⟩
 rcases List.mem_cons.mp hm with e | hm
 ·cases e; exact ⟨_, TS _, .int _ _⟩
 rcases List.mem_cons.mp hm with e | hm
 ·cases e; exact ⟨_, V0 _, .int _ _⟩
 cases hm
end
theorem mA {σ : Nat -> FV} (s : Side) : ∃ p, Dat (tb σ) (.dom (.row s)) p /\ p.depth <= 1 := by
 cases s with
 | lit l =>
  cases l with
  | nul => exact ⟨_, .dom (.tup (.cons (.str _) (.cons (.str _) (.cons .non .nil)))), by simp [PyData.depth, PyData.depthAll]⟩
  | t => exact ⟨_, .dom (.tup (.cons (.str _) (.cons (.str _) (.cons (.str _) .nil)))), by simp [PyData.depth, PyData.depthAll]⟩
  | _ => exact ⟨_, .dom (.tup (.cons (.str _) (.cons (.str _) (.cons (.int _) .nil)))), by simp [PyData.depth, PyData.depthAll]⟩
 | col s p => exact ⟨_, .dom (.tup (.cons (.str _) (.cons (.str _) (.cons (.str _) .nil)))), by simp [PyData.depth, PyData.depthAll]⟩
theorem sZ {σ : Nat -> FV} (l : Led) : ∃ p, Dat (tb σ) (s6 l) p /\ p.depth = 0 := by
 cases l with
 | no => exact ⟨_, .non, by simp [PyData.depth]⟩
 | _ => exact ⟨_, .str _, by simp [PyData.depth]⟩
theorem IR {σ : Nat -> FV} (b : Bnd) : ∃ p, Dat (tb σ) (.dom (.due b)) p /\ p.depth <= 5 := by
 cases b with
 | cmp p op v led =>
  obtain ⟨r, r1, r2⟩ := mA (σ := σ) v
  obtain ⟨l, l1, l2⟩ := sZ (σ := σ) led
  exact ⟨_, .dom (.tup (.cons (.int _) (.cons (.str _) (.cons r1 (.cons l1 .nil))))), by simp [PyData.depth, PyData.depthAll, l2]; omega⟩
 | inb1 p x led =>
  obtain ⟨r, r1, r2⟩ := mA (σ := σ) x
  obtain ⟨l, l1, l2⟩ := sZ (σ := σ) led
  exact ⟨_, .dom (.tup (.cons (.int _) (.cons (.str _) (.cons (.tup (.cons r1 .nil)) (.cons l1 .nil))))), by simp [PyData.depth, PyData.depthAll, l2]; omega⟩
 | inb2 p x y led =>
  obtain ⟨r, r1, r2⟩ := mA (σ := σ) x
  obtain ⟨q, q1, q2⟩ := mA (σ := σ) y
  obtain ⟨l, l1, l2⟩ := sZ (σ := σ) led
  exact ⟨_, .dom (.tup (.cons (.int _) (.cons (.str _) (.cons (.tup (.cons r1 (.cons q1 .nil))) (.cons l1 .nil))))), by simp [PyData.depth, PyData.depthAll, l2]; omega⟩
def z5 (σ : Nat -> FV) : Prop := ∀ i, (∃ C fs, σ i = .node C fs) \/ (∃ xs, σ i = .tup xs) \/ ∃ xs, σ i = .lst xs
theorem z8 {σ : Nat -> FV} (hs : z5 σ) (d : Dom) : (∃ C fs, (tb σ).view d = .node C fs) \/ (∃ xs, (tb σ).view d = .tup xs) \/ ∃ xs, (tb σ).view d = .lst xs := by
 cases d with
 | side s => cases s <;> exact .inl ⟨_, _, rfl⟩
 | cond s => cases s <;> exact .inl ⟨_, _, rfl⟩
 | bnd s => cases s <;> exact .inl ⟨_, _, rfl⟩
 | due s => cases s <;> exact .inr (.inl ⟨_, rfl⟩)
 | row s =>
  cases s with
  | lit l => cases l <;> exact .inr (.inl ⟨_, rfl⟩)
  | col _ _ => exact .inr (.inl ⟨_, rfl⟩)
 | term s L => exact .inl ⟨_, _, rfl⟩
 | hole i => exact hs i
theorem IW {f : Nat} (h : zH f = true) : f = 510 \/ f = 532 \/ f = 867 \/ f = 690 \/ f = 882 := by
 have := j6.mp h
 simpa [dfl] using this
section
variable {σ : Nat -> FV} {w : World} {h₀ : Heap} {mg mb : Str -> Option Value}
theorem ES {f : Nat} {fi : FnI} (h : (f, fi) ∈ T3) : ET (KN w.params) f fi = true := by
 have z := List.all_eq_true.mp (QO w.params) (f, fi) h
 exact z
theorem sC {P : List Value -> Prop} {vals : List Value} (h2 : vals.length <= 2) (h1 : 2 <= vals.length + 1) (p1 : ∀ a, P [a]) (p2 : ∀ a b, P [a, b]) : P vals := by
 rcases vals with _ | ⟨a, _ | ⟨b, _ | ⟨d, r⟩⟩⟩
 ·exact absurd h1 (by decide)
 ·exact p1 a
 ·exact p2 a b
 ·simp at h2
theorem vals1 {P : List Value -> Prop} {vals : List Value} {n k : Nat} (h2 : vals.length <= n + 1) (h1 : n + 1 <= vals.length + k) (hk : k <= n) (p : ∀ a r, r.length <= n -> n <= r.length + k -> P (a :: r)) : P vals := by
 cases vals with
 | nil => rw [List.length_nil] at h1; omega
 | cons a r => rw [List.length_cons] at h1 h2; exact p a r (by omega) (by omega)
theorem O3 (hK : (KN w.params).In h₀) {f : Nat} {fi : FnI} (h : (tb σ).fns f = some fi) : FnOk (cxS σ w h₀ mg mb) tcS f fi := by
 have hm := b7 (l := rC) h
 have ht := List.all_eq_true.mp (QN w.params) _ hm
 rcases Bool.or_eq_true_iff.mp ht with hd | hg
 ·rcases IW hd with e | e | e | e | e <;> (dsimp only at e; subst e; cases h)
  ·exact nY (ES (.head _)) (λ vals k1 k2 => sC k1 k2 (JD _) (JC _)) hK
  ·exact nY (ES (.tail _ (.head _))) (λ vals k1 k2 => sC k1 k2 (JB _) (JA _)) hK
  ·exact nY (ES (.tail _ (.tail _ (.head _)))) (λ vals k1 k2 => vals1 (n := 4) (k := 2) k1 k2 (by decide) λ a r k1 k2 => vals1 (P := λ r => Bd _ _ _ (a :: r)) (n := 3) (k := 2) k1 k2 (by decide) λ b r k1 k2 => vals1 (P := λ r => Bd _ _ _ (a :: b :: r)) (n := 2) (k := 2) k1 k2 (by decide) λ d r k1 k2 => by
    rcases r with _ | ⟨e, _ | ⟨g, _ | ⟨_, _⟩⟩⟩
    ·exact I7 _ a b d
    ·exact I6 _ a b d e
    ·exact IZ _ a b d e g
    ·simp at k1) hK
  ·exact nY (ES (.tail _ (.tail _ (.tail _ (.head _))))) (λ vals k1 k2 => vals1 (n := 2) (k := 1) k1 k2 (by decide) λ a r k1 k2 => sC (P := λ r => Bd _ _ _ (a :: r)) k1 k2 (I9 _ a) (I8 _ a)) hK
  ·exact nY (ES (.tail _ (.tail _ (.tail _ (.tail _ (.head _)))))) (λ vals k1 k2 => vals1 (n := 2) (k := 1) k1 k2 (by decide) λ a r k1 k2 => sC (P := λ r => Bd _ _ _ (a :: r)) k1 k2 (IY _ a) (IX _ a)) hK
 ·exact A6 (c := cxS σ w h₀ mg mb) rfl rfl (λ i j => iL) hg
theorem PT {C : Nat} {ci : ClsI} (h : (tb σ).cls C = some ci) : ClsOk (cxS σ w h₀ mg mb) C ci := by
 have hm : (C, ci) ∈ n5 := b7 (l := n5) h
 have := List.all_eq_true.mp (QP w.params) (C, ci) hm
 exact PS this
theorem MG (P : Params) : ((KN P).lookup sysModules).isSome = true := by kernel_rfl
theorem CO (hs : z5 σ) {q : Program} {loose' : List Str} {mean : ExcName -> Option Value} (hK : (KN w.params).In h₀) (T : Top q loose' mean mg mb h₀) : TabOk (cxS σ w h₀ mg mb) tcS where
 nm := rfl
 N := rfl
 base := ⟨hK, T.g, T.b, T.builtins, T.nolimit, λ i hi => BG hi, by
  obtain ⟨o, ho⟩ := Option.isSome_iff_exists.mp (MG w.params)
  exact ⟨o, hK _ _ ho⟩, λ i j => iL⟩
 fn := λ x f h => fnIn (UX w.params) h
 cl := λ x f h => fnIn (UY w.params) h
 bl := λ s h => UB h
 ty := λ x t h => QH h
 cls := λ C ci h => PT h
 kit := λ t x k ht h => OE ht h
 due := IR
 viewN := z8 hs
 fns := λ f fi h => O3 hK h
 glb := λ x v h => O2 hK h
theorem T4 (hs : z5 σ) {q : Program} {loose' : List Str} {mean : ExcName -> Option Value} (hK : (KN w.params).In h₀) (T : Top q loose' mean mg mb h₀) : d9 (cxS σ w h₀ mg mb) ct0 1 :=
 PQ (CO hs hK T) (qF (c := cxS σ w h₀ mg mb) rfl rfl (λ i j => iL) (MC w.params)) (qF (c := cxS σ w h₀ mg mb) rfl rfl (λ i j => iL) (MD w.params))
end
noncomputable def L7 (tb : Tb) (u : FV -> FV) (v : FV) : FV := FV.casesOn (motive_1 := λ _ => FV) v .non .bool .int .str .fix (λ xs => .tup (xs.map u)) (λ xs => .lst (xs.map u)) .rng (λ C fs => .node C (fs.map λ p => (p.1, u p.2))) .idct .sdct .iset (λ d => u (tb.view d))
def unf (tb : Tb) (n : Nat) : FV -> FV := Nat.rec (λ v => v) (λ _ u => L7 tb u) n
section
variable {c : Cx} {G : Gh}
theorem RL.re {α : Type} {f g : α -> FV} (h : ∀ a v, RF c G (f a) v -> RF c G (g a) v) {l : List α} : ∀ {vs : List Value}, RL c G (l.map f) vs -> RL c G (l.map g) vs := by induction l with
 | nil => intro vs r; cases (show vs = [] from r.inv); exact .nil
 | cons a l ih => intro vs r; obtain ⟨v, us, rfl, a1, r⟩ := r.inv; exact .cons (h _ _ a1) (ih r)
theorem RFs.re {f g : FV -> FV} (h : ∀ a v, RF c G (f a) v -> RF c G (g a) v) {C : Addr} {l l' : List (Nat × FV)} {vs : List DictEntry} (r : RFs c G C l' vs) (e : l' = l.map λ p => (p.1, f p.2)) : RFs c G C (l.map λ p => (p.1, g p.2)) vs := by
 induction l generalizing l' vs with
 | nil => cases e; cases r; exact .nil
 | cons p l ih =>
  cases e
  cases r with
  | cons k1 k2 a r => exact .cons k1 k2 (h _ _ a) (ih r rfl)
theorem RF.reO {u : FV -> FV} (h : ∀ a v, RF c G (u a) v -> RF c G a v) {x : FV} {v : Value} (r : RF c G (L7 c.tb u x) v) : RF c G x v := by
 cases x with
 | dom d => exact .dom (h _ _ r)
 | tup xs =>
  refine RF.tupE r λ a us m g e l r => ?_
  rw [List.length_map] at l
  have z := RL.re (f := u) (g := id) h r
  rw [List.map_id] at z
  exact .tup g ⟨m, rfl⟩ l z
 | lst xs =>
  refine RF.lstE r λ a us m g e l r => ?_
  rw [List.length_map] at l
  have z := RL.re (f := u) (g := id) h r
  rw [List.map_id] at z
  exact .lst g ⟨m, rfl⟩ l z
 | node C fs =>
  refine RF.nodeE r λ x dx es n a b r => ?_
  have z := RFs.re (f := u) (g := id) h r rfl
  rw [show (fs.map λ p => (p.1, id p.2)) = fs from List.map_id' fs] at z
  exact .node a b z
 | _ => exact r
theorem RF.ofO {u : FV -> FV} (h : ∀ a v, RF c G a v -> RF c G (u a) v) {x : FV} {v : Value} (r : RF c G x v) : RF c G (L7 c.tb u x) v := by
 cases x with
 | dom d => exact h _ _ r.inv
 | tup xs =>
  refine RF.tupE r λ a us m g e l r => ?_
  exact .tup g ⟨m, rfl⟩ (by rw [List.length_map]; exact l) (RL.re (f := id) (g := u) h (by rw [List.map_id]; exact r))
 | lst xs =>
  refine RF.lstE r λ a us m g e l r => ?_
  exact .lst g ⟨m, rfl⟩ (by rw [List.length_map]; exact l) (RL.re (f := id) (g := u) h (by rw [List.map_id]; exact r))
 | node C fs =>
  refine RF.nodeE r λ x dx es n a b r => ?_
  exact .node a b (RFs.re (f := id) (g := u) h r (show fs = fs.map λ p => (p.1, id p.2) from (List.map_id' fs).symm))
 | _ => exact r
theorem P7 (n : Nat) : ∀ (x : FV) (v : Value), RF c G (unf c.tb n x) v -> RF c G x v := by induction n with
 | zero => exact λ _ _ h => h
 | succ n ih => exact λ x v h => RF.reO ih h
theorem KJ (n : Nat) : ∀ (x : FV) (v : Value), RF c G x v -> RF c G (unf c.tb n x) v := by induction n with
 | zero => exact λ _ _ h => h
 | succ n ih => exact λ x v h => RF.ofO ih h
theorem RF.same {x y : FV} {v : Value} {n m : Nat} (h : unf c.tb n x = unf c.tb m y) (r : RF c G x v) : RF c G y v := by
 have := KJ n _ _ r
 rw [h] at this
 exact P7 m _ _ this
end
def lX (t : T (PV × Hp)) : T FV := t.bind λ r => oB (asF r.1) .ret
abbrev Spec := Nat -> List FV -> Option (T FV)
noncomputable def eV (ct : Ctr) (sp : Spec) : Ctr := λ f as H => Option.casesOn (motive := λ _ => Option (T (PV × Hp))) (ct f as H) (oO (C8 H as) λ xs => oO (sp f xs) λ t => some (t.bind λ v => .ret (.f v, H))) some
noncomputable def RX (tb : Tb) (ev : Ev) (C : Nat) (as : List PV) (H : Hp) : T (PV × Hp) := oB (tb.cls C) λ ci => (ev.c ci.init (.ref H.length :: as) (H ++ [.inst C []])).bind λ y => gB (uV y.1) <| oB (frz (.ref H.length) y.2) λ r => .ret (.f r.1, r.2)
section
variable {c : Cx} {tc : Tc} {ev : Ev} {n : Nat} {ct : Ctr}
theorem E5 (B : TabOk c tc) (S : Sound c tc ev n) {A : Around} {W : Wd} {x : Sx} {t C : Nat} {as : List PV} {vals : List Value} {R : Result -> Shared -> Prop} (hA : AOk (n + 1) A) (ra : RPs c W.G W.ρ as vals) (I : Inv c W)
  (h : (RX c.tb ev C as W.H).AllP λ r => Gd c No W.ρ.length W x (RE c r) λ v s' => R (.ok (.ret v)) s') : codeAny (model c.prog c.w) A (.call (.ref C) ⟨vals, []⟩) R (mkS x W.h t) := by
 refine oBE h λ ci hci h => ?_
 have D := B.cls C ci hci
 have X := B.inK I
 let s1 := W.h.objs.size
 have fr1 : ∀ b o, W.h.get? b = some o -> ((W.h.push emptyDict).push (instObj C s1)).get? b = some o := λ b o ho => Heap.get?_push_of_some _ (Heap.get?_push_of_some _ ho)
 have q1 : ((W.h.push emptyDict).push (instObj C s1)).get? s1 = some (dictOf [] 0) := Heap.get?_push_of_some _ (Heap.get?_push_size _ rfl)
 have q2 : ((W.h.push emptyDict).push (instObj C s1)).get? (s1 + 1) = some (instObj C s1) := by
  have := Heap.get?_push_size (W.h.push emptyDict) (o := instObj C s1) rfl
  rw [Heap.size_push] at this
  exact this
 have I2 := Inv.addH (p := (s1 + 1, s1)) (ao := .inst C []) I fr1 (λ b hb => by
  rcases List.mem_cons.mp hb with e | hb
  ·rw [e]; exact Nat.le_succ _
  ·rw [List.mem_singleton.mp hb]; exact Nat.le_refl _) (λ _ _ _ => Nat.succ_ne_self _) (.inst q2 q1 .nil (Nat.zero_le _))
 have e2 := Ext.addH (X := No) (n := W.ρ.length) (p := (s1 + 1, s1)) (ao := .inst C []) I fr1 (λ b hb => by
  rcases List.mem_cons.mp hb with e | hb
  ·rw [e]; exact Nat.le_succ _
  ·rw [List.mem_singleton.mp hb]; exact Nat.le_refl _)
 refine make_core (makes_of X D.makes) (looks_findIn X D.init.1) (λ self => bind_fn X self D.init.2) (.inl rfl) ?_
 have hl : W.H.length = W.ρ.length := I.len.symm
 have hn : nth (W.ρ ++ [(s1 + 1, s1)]) W.H.length = some (s1 + 1, s1) := by rw [hl]; exact aZ
 refine S.useCode (W := { W with ρ := W.ρ ++ [(s1 + 1, s1)], H := W.H ++ [.inst C []], h := (W.h.push emptyDict).push (instObj C s1) }) hA.make (.cons (.ref (p := (s1 + 1, s1)) hn) (ra.mono (λ _ _ z => z) λ _ _ z => dY z)) I2 (by show _ <= (W.ρ ++ [_]).length; rw [List.length_append]; omega) (cY h e2 I2) ?_
 intro W₃ p v tk3 e3 I3 rd hk3 h3
 have g := gBE h3
 refine oBE g.2 λ r hr h3 => ?_
 rw [show p = .f .non from jY g.1] at rd
 refine RF.nonE rd.fE ⟨rfl, ?_⟩
 obtain ⟨W', e', I', g1, g2, g3, g4⟩ := kO (X := No) (k := W₃.ρ.length) I3 (.ref (p := (s1 + 1, s1)) (e3.rho _ _ (bQ hn) hn)) hr
 exact g2 ▸ h3 W' _ tk3 (e'.weaken hk3 λ _ z => z) I' ⟨g1, .f g4⟩
noncomputable def Con (c : Cx) (n : Nat) (f : Nat) (xs : List FV) (t : T FV) : Prop := ∀ (A : Around) (W : Wd) (x : Sx) (tk : Nat) (vals : List Value) (R : Result -> Shared -> Prop), AOk n A -> RL c W.G xs vals -> Inv c W ->
 bC c No W.ρ.length W x (RE c) (λ v s' => R (.ok (.ret v)) s') (t.bind λ v => .ret (.f v, W.H)) -> codeAny (model c.prog c.w) A (.call (.ref f) ⟨vals, []⟩) R (mkS x W.h tk)
theorem fF {r r' : Nat} {sp : Spec} (hr : r <= r') (K : d9 c ct r) (hs : ∀ f xs t, sp f xs = some t -> Con c r' f xs t) : d9 c (eV ct sp) r' := by
 intro A W x t f as vals R tr hA ra I htr h
 unfold eV at htr
 cases ht' : ct f as W.H with
 | some t' =>
  rw [ht'] at htr
  cases htr
  exact K (hA.le hr) ra I ht' h
 | none =>
  rw [ht'] at htr
  refine oOE htr λ xs hxs htr => oOE htr λ t' ht' htr => ?_
  cases htr
  exact hs f xs t' ht' _ _ _ _ _ _ hA (i7 I ra hxs) I h
theorem A4 {run : Hp -> T (PV × Hp)} {A : Around} {W : Wd} {x : Sx} {t f : Nat} {ys : List FV} {vals : List Value} {R : Result -> Shared -> Prop}
  (code : ∀ {W : Wd} {x : Sx} {t : Nat} {vals : List Value} {R : Result -> Shared -> Prop}, RPs c W.G W.ρ (ys.map .f) vals -> Inv c W -> (run W.H).AllP (λ r => Gd c No W.ρ.length W x (RE c r) λ v s' => R (.ok (.ret v)) s') -> codeAny (model c.prog c.w) A (.call (.ref f) ⟨vals, []⟩) R (mkS x W.h t))
  (ra : RL c W.G ys vals) (I : Inv c W)
  (h : (lX (run [])).AllP λ v => Gd c No W.ρ.length W x (RE c (.f v, W.H)) λ v s' => R (.ok (.ret v)) s') : codeAny (model c.prog c.w) A (.call (.ref f) ⟨vals, []⟩) R (mkS x W.h t) := by
 have I0 : Inv c { W with ρ := [], H := [] } := ⟨rfl, I.sub, λ i ao p h1 _ => noS h1, λ b ⟨i, ao, p, h1, _⟩ => noS h1, λ i j ao ao' p p' _ h1 => noS h1, λ i C fs p h1 => noS h1, I.base⟩
 refine code (W := { W with ρ := [], H := [] }) ra.toP I0 (T.AllP_mono (λ r hr => ?_) (T.AllP_bind h))
 obtain ⟨p, H'⟩ := r
 cases p with
 | ref _ => exact hr.elim
 | f v =>
  have hr' : Gd c No W.ρ.length W x (RE c (.f v, W.H)) λ v s' => R (.ok (.ret v)) s' := hr
  intro W₁ u tk e1 I1 ⟨_, ru⟩
  have ru := ru.fE
  have kp : ∀ b o, W.h.get? b = some o -> W₁.h.get? b = some o := λ b o ho => e1.keep b o ho (λ ⟨i, ao, p, h1, _⟩ => noS h1) (λ z => z)
  have gn : ∀ b, W.fp b -> W₁.G b = none := λ b hb => by
   cases q : W₁.G b with
   | none => rfl
   | some o =>
    exfalso
    rcases e1.dom b (.inr (by rw [q]; rfl)) with w | w
    ·rcases w with w | w
     ·obtain ⟨i, ao, p, h1, _⟩ := w; exact noS h1
     ·have := I.fresh b hb
      have w' : (W.G b).isSome = true := w
      rw [this] at w'; cases w'
    ·obtain ⟨o', ho'⟩ := I.fpLt hb
     have w' : W.h.get? b = none := w
     rw [ho'] at w'; cases w'
  have I2 : Inv c { G := W₁.G, ρ := W.ρ, H := W.H, h := W₁.h } := by
   refine ⟨I.len, I1.sub, λ i ao p h1 h2 => (I.ok i ao p h1 h2).mono e1.G (λ _ _ z => z) λ b _ o ho => kp b o ho, gn, I.apart, I.two, I1.base⟩
  have E2 : Ext No W.ρ.length W { G := W₁.G, ρ := W.ρ, H := W.H, h := W₁.h } := by
   refine ⟨e1.G, λ _ _ _ z => z, λ b o ho _ _ => kp b o ho, λ b hb => ?_, λ b o ho => ⟨o, kp b o ho⟩⟩
   rcases hb with hb | hb
   ·exact .inl (.inl hb)
   ·rcases e1.dom b (.inr hb) with w | w
    ·rcases w with w | w
     ·obtain ⟨i, ao, p, h1, _⟩ := w; exact noS h1
     ·exact .inl (.inr w)
    ·exact .inr w
  exact hr' { G := W₁.G, ρ := W.ρ, H := W.H, h := W₁.h } u tk E2 I2 ⟨rfl, .f ru⟩
def runC (tb : Tb) (ct : Ctr) (n : Nat) (mk : Bool) (f : Nat) (as : List PV) (H : Hp) : T (PV × Hp) := match mk with
 | false => (lvl tb ct n).c f as H
 | true => RX tb (lvl tb ct n) f as H
theorem Con.run {r k f : Nat} {mk : Bool} {xs : List FV} {t : T FV} (B : TabOk c tc) (K : d9 c ct r) (P1 : rT c tc ct) (P2 : rU c tc ct) (hrun : ∀ P : FV -> Prop, t.AllP P -> (lX (runC c.tb ct k mk f (xs.map .f) [])).AllP P) : Con c (k + r + 1) f xs t := by
 intro A W x tk vals R hA ra I h
 have S := qC B K P1 P2 k
 refine A4 (run := λ H => runC c.tb ct k mk f (xs.map .f) H) (λ {W x t vals R} ra I h => ?_) ra I (hrun _ (T.AllP_bind h))
 cases mk with
 | false => exact S.c (hA.le (Nat.le_succ _)) ra I h
 | true => exact E5 B S hA ra I h
theorem Con.le {m f : Nat} {xs : List FV} {t : T FV} (h : Con c n f xs t) (hm : n <= m) : Con c m f xs t := λ A W x tk vals R hA => h A W x tk vals R (hA.le hm)
theorem Con.args {f : Nat} {xs ys : List FV} {t : T FV} (h : Con c n f xs t) (hr : ∀ G vs, RL c G ys vs -> RL c G xs vs) : Con c n f ys t := λ A W x tk vals R hA ra I => h A W x tk vals R hA (hr _ _ ra) I
theorem Con.ret {f : Nat} {xs : List FV} {v v' : FV} (h : Con c n f xs (.ret v)) (hv : ∀ G u, RF c G v u -> RF c G v' u) : Con c n f xs (.ret v') := λ A W x tk vals R hA ra I hr =>
 h A W x tk vals R hA ra I λ W' a tk' e I' r => hr W' a tk' e I' ⟨r.1, .f (hv _ _ r.2.fE)⟩
end
noncomputable def s0 : Nat -> FV := λ _ => .tup []
noncomputable abbrev tb0 : Tb := tb s0
theorem LB : z5 s0 := λ _ => .inr (.inl ⟨_, rfl⟩)
structure Amb (w : World) (h₀ : Heap) (mg mb : Str -> Option Value) : Prop where
 inK : (KN w.params).In h₀
 top : ∃ (q : Program) (l : List Str) (m : ExcName -> Option Value), Top q l m mg mb h₀
noncomputable abbrev cx0 (w : World) (h₀ : Heap) (mg mb : Str -> Option Value) : Cx := cxS s0 w h₀ mg mb
structure rcF (ct : Ctr) (n : Nat) (mk : Bool) (f : Nat) (ys : List FV) (P : FV -> Prop) : Prop where
 r : (lX (runC tb0 ct n mk f (ys.map .f) [])).AllP P
theorem rcF.of {ct : Ctr} {n : Nat} {mk : Bool} {f : Nat} {ys : List FV} {P : FV -> Prop} {p : Prop} (e : (lX (runC tb0 ct n mk f (ys.map .f) [])).AllP P = p) (h : p) : rcF ct n mk f ys P := ⟨e.mpr h⟩
noncomputable def dF (P : FV -> Prop) (r : PV × Hp) : Prop := match r.1 with
 | .f v => P v
 | .ref _ => False
theorem C7 {t : T (PV × Hp)} {P : FV -> Prop} (h : t.AllP (dF P)) : (lX t).AllP P := by
 refine T.AllP_of_bind (T.AllP_mono (λ r hr => ?_) h)
 obtain ⟨p, H⟩ := r
 cases p <;> exact hr
theorem rcF.ofC {ct : Ctr} {n f : Nat} {ys : List FV} {P : FV -> Prop} (h : cF tb0 ct n f (ys.map .f) [] (dF P)) : rcF ct n false f ys P := ⟨C7 h.r⟩
noncomputable def eK (ct : Ctr) (n : Nat) (mk : Bool) (f : Nat) (ys : List FV) : Option FV := match lX (runC tb0 ct n mk f (ys.map .f) []) with
 | .ret v' => some (unf tb0 8 v')
 | _ => none
section
variable {w : World} {h₀ : Heap} {mg mb : Str -> Option Value}
theorem Amb.tab (X : Amb w h₀ mg mb) : TabOk (cx0 w h₀ mg mb) tcS := let ⟨_, _, _, T⟩ := X.top; CO LB X.inK T
theorem Amb.ct0 (X : Amb w h₀ mg mb) : d9 (cx0 w h₀ mg mb) ct0 1 := let ⟨_, _, _, T⟩ := X.top; T4 LB X.inK T
theorem cM {ct : Ctr} {mk : Bool} {k r f : Nat} {xs : List FV} {v : FV} (X : Amb w h₀ mg mb) (K : d9 (cx0 w h₀ mg mb) ct r) (h : ∀ P : FV -> Prop, P v -> rcF ct k mk f xs P) : Con (cx0 w h₀ mg mb) (k + r + 1) f xs (.ret v) :=
 Con.run (c := cx0 w h₀ mg mb) X.tab K (wS X.tab) (w0 X.tab) λ P hP => (h P hP).r
theorem dJ {mk : Bool} {k m f : Nat} {xs : List FV} {v : FV} (X : Amb w h₀ mg mb) (h : eK ct0 k mk f xs = some (unf tb0 m v)) : Con (cx0 w h₀ mg mb) (k + 1 + 1) f xs (.ret v) := by
 unfold eK at h
 split at h
 ·rename_i v' e
  refine (cM (mk := mk) (v := v') X X.ct0 λ P hP => ⟨?_⟩).ret λ G u r => RF.same (c := cx0 w h₀ mg mb) (Option.some.inj h) r
  rw [e]
  exact hP
 ·cases h
end
theorem aB {α β : Type} {f g : α -> β} {l : List α} (h : l.map f = l.map g) : ∀ x ∈ l, f x = g x := List.map_inj_left.mp h
noncomputable def aQ : List Bool := [false, true]
theorem aE (b : Bool) : b ∈ aQ := by cases b <;> (unfold aQ; repeat (first | exact .head _ | apply List.Mem.tail))
noncomputable def bI : List Op := [.eq, .lt, .le, .gt, .ge, .ne]
theorem gW (o : Op) : o ∈ bI := by cases o <;> (unfold bI; repeat (first | exact .head _ | apply List.Mem.tail))
noncomputable def aU : List Plc := [.r, .a, .b, .c]
theorem cX (p : Plc) : p ∈ aU := by cases p <;> (unfold aU; repeat (first | exact .head _ | apply List.Mem.tail))
noncomputable def kC : List Lit := [.nul, .i0, .i1, .i2, .t]
theorem DT (l : Lit) : l ∈ kC := by cases l <;> (unfold kC; repeat (first | exact .head _ | apply List.Mem.tail))
noncomputable def aT : List Side := kC.map .lit ++ aQ.flatMap λ s => aU.map λ p => .col s p
theorem dN (s : Side) : s ∈ aT := by
 cases s with
 | lit l => exact List.mem_append_left _ (List.mem_map.mpr ⟨l, DT l, rfl⟩)
 | col s p => exact List.mem_append_right _ (List.mem_flatMap.mpr ⟨s, aE s, List.mem_map.mpr ⟨p, cX p, rfl⟩⟩)
noncomputable abbrev dS (s : Side) : FV := .dom (.side s)
noncomputable abbrev dC (c : Cond) : FV := .dom (.cond c)
noncomputable abbrev dT (c : Cond) : FV := .dom (.term c (fN c))
noncomputable abbrev dB (b : Bnd) : FV := .dom (.bnd b)
noncomputable abbrev bM (b : Bnd) : FV := .dom (.due b)
noncomputable def sdK (l : Lit) (q : Plc) : Option Bool -> Side
 | none => .lit l
 | some t => .col t q
noncomputable def bV : List (Option Bool) := [none, some false, some true]
theorem b8 (k : Option Bool) : k ∈ bV := by rcases k with _ | ⟨_ | _⟩ <;> (unfold bV; repeat (first | exact .head _ | apply List.Mem.tail))
theorem bA (s : Side) : ∃ l q k, s = sdK l q k := by
 cases s with
 | lit l => exact ⟨l, .a, none, rfl⟩
 | col t q => exact ⟨.nul, q, some t, rfl⟩
noncomputable def on3 {α : Type} (f : Bool -> Bool -> Bool -> α) : List (List (List α)) := aQ.map λ a => aQ.map λ b => aQ.map λ c => f a b c
theorem d8 {α : Type} {f g : Bool -> Bool -> Bool -> α} (h : on3 f = on3 g) (a b c : Bool) : f a b c = g a b c := aB (aB (aB h a (aE a)) b (aE b)) c (aE c)
noncomputable def fG (s : Side) (n : Bool) : Bool := match s with
 | .lit _ => false
 | .col t _ => t == n
noncomputable def aK (s : Side) (n : Bool) : Bool := !fG s n
inductive Aff where
 | non | int | blob | text
noncomputable def UH : Side -> Aff
 | .lit _ => .non
 | .col _ p => match p with
  | .r => .int
  | .a => .blob
  | .b => .int
  | .c => .text
noncomputable def LE (p : Plc) (v : Side) : Option Led := match UH (.col false p), UH v with
 | .int, .int => some .no
 | .int, _ => some .num
 | _, .int => none
 | .text, .non => some .txt
 | _, _ => some .no
noncomputable def bS (p : Plc) (op : Op) (v : Side) : Option Bnd := match LE p v with
 | some l => some (.cmp p op v l)
 | none => none
noncomputable def fH : Option Bnd -> FV
 | some b => dB b
 | none => .non
noncomputable def g8 : Option Bnd -> List FV
 | some b => [bM b]
 | none => []
noncomputable def IU (o : Option Bnd) : FV := .lst (g8 o)
noncomputable def j2 (c : Side) (op : Op) (v : Side) (n : Bool) : Option Bnd := match c with
 | .lit _ => none
 | .col s p => match s == n with
  | true => match fG v n with
   | true => none
   | false => bS p op v
  | false => none
noncomputable def onB {α : Type} (b : Bool) (l : List α) : List α := match b with
 | true => l
 | false => []
noncomputable def e9 {α : Type} (b : Bool) (l : List α) : List α := match b with
 | true => []
 | false => l
noncomputable def turn : Op -> Op
 | .eq => .eq
 | .lt => .gt
 | .le => .ge
 | .gt => .lt
 | .ge => .le
 | .ne => .ne
noncomputable def gG : Plc -> Led
 | .r => .num
 | .a => .no
 | .b => .num
 | .c => .txt
noncomputable def plV (n : Bool) (pl : Bool) : FV := match pl with
 | true => .lst [.int (sN (!n))]
 | false => .lst []
noncomputable def EC : List Int -> Int -> Bool
 | [], _ => false
 | x :: r, i => match decide (x = i) with
  | true => true
  | false => EC r i
noncomputable def cG (L : List Int) (n pl : Bool) : Bool := EC L (sN n) && (pl || !EC L (sN (!n)))
noncomputable def bL (l : List Bnd) : FV := .lst (l.map λ b => .dom (.bnd b))
noncomputable def ob (o : Option Bnd) : List Bnd := match o with
 | some b => [b]
 | none => []
noncomputable def J4 (l : Side) (o : Op) (r : Side) : Option Bnd := match l with
 | .col _ p => bS p o r
 | .lit _ => none
noncomputable def vT (o : Op) (l r : Side) (n : Bool) : List Bnd := match o with
 | .ne => []
 | _ => onB (fG l n) (onB (aK r n) (ob (J4 l o r))) ++ onB (fG r n) (onB (aK l n) (ob (J4 r (turn o) l)))
noncomputable def bN (c : Cond) (n : Bool) : List Bnd := match c with
 | .btw s p lo hi neg => e9 neg (onB (fG (.col s p) n) (onB (aK lo n) (ob (bS p .ge lo)) ++ onB (aK hi n) (ob (bS p .le hi))))
 | .in1 s p x neg => e9 neg (onB (fG (.col s p) n) (onB (aK x n) [.inb1 p x (gG p)]))
 | .in2 s p x y neg => e9 neg (onB (fG (.col s p) n) (onB (aK x n) (onB (aK y n) [.inb2 p x y (gG p)])))
 | .ors _ _ _ => []
 | .litl o s p => vT o (.lit .i1) (.col s p) n
 | .bin o s p v => vT o (.col s p) v n
noncomputable def rM (i : Int) : Option Bool := match i with
 | .ofNat n => match n with
  | 0 => some false
  | 1 => some true
  | _ => none
 | _ => none
noncomputable def VA : List Nat -> Op
 | [c] => match Nat.beq c 61 with
  | true => .eq
  | false => match Nat.beq c 60 with
   | true => .lt
   | false => .gt
 | [c, d] => match Nat.beq c 62 with
  | true => .ge
  | false => match Nat.beq d 61 with
   | true => .le
   | false => .ne
 | _ => .eq
noncomputable def AS (c : Cx) (m : Nat) (l : List (Nat × (List FV -> Option FV))) : Spec := λ f xs => match look l f with
 | some g => match g xs with
  | some v => some (.need (Con c m f xs (.ret v)) (.ret v))
  | none => none
 | none => none
theorem mB {c : Cx} {m : Nat} {l : List (Nat × (List FV -> Option FV))} : ∀ f xs t, AS c m l f xs = some t -> Con c m f xs t := λ f xs t h => by
 unfold AS at h
 split at h
 ·split at h
  ·cases h
   intro A W x tk vals R hA ra I hr
   exact hr.1 A W x tk vals R hA ra I hr.2
  ·cases h
 ·cases h
noncomputable def nB (key : Nat -> List FV -> Option Nat) (l : List (Nat × Nat × List FV × FV)) : Spec := λ f xs => match key f xs with
 | some k => match look l k with
  | some e => some (.need (f = e.1 /\ xs = e.2.1) (.ret e.2.2))
  | none => none
 | none => none
theorem nA {c : Cx} {n : Nat} {key : Nat -> List FV -> Option Nat} {l : List (Nat × Nat × List FV × FV)} (h : ∀ e ∈ l, Con c n e.2.1 e.2.2.1 (.ret e.2.2.2)) : ∀ f xs t, nB key l f xs = some t -> Con c n f xs t := λ f xs t e => by
 unfold nB at e
 split at e
 ·split at e
  ·rename_i e' he
   cases e
   intro A W x tk vals R hA ra I hr
   obtain ⟨⟨h1, h2⟩, h3⟩ := hr
   rw [h1]
   rw [h2] at ra
   exact h _ (b7 he) A W x tk vals R hA ra I h3
  ·cases e
 ·cases e
noncomputable abbrev Tab := List (Nat × Nat × List FV × FV)
noncomputable def lB : Tab -> Prop -> Prop
 | [], Q => Q
 | e :: r, Q => (e.2.1 = e.2.1 /\ e.2.2.1 = e.2.2.1) /\ lB r Q
theorem cV {Q : Prop} (h : Q) : ∀ t : Tab, lB t Q
 | [] => h
 | _ :: r => ⟨⟨rfl, rfl⟩, cV h r⟩
theorem OW (o : Op) : (aT.map λ c => aT.map λ v => aQ.map λ n => eK ct0 40 false 1016 [dS c, .str (opS o), dS v, .int (sN n)]) = aT.map λ c => aT.map λ v => aQ.map λ n => some (unf tb0 8 (IU (j2 c o v n))) := by kernel_rfl
noncomputable abbrev F6 (p : Plc) : Prop := ∀ o : Op, (aQ.map λ s => aT.map λ v => aQ.map λ k => eK ct0 40 false 637 [dS (.col s p), .str (opS o), dS v, dS (match k with | true => .col s p | false => v), dS (match k with | true => v | false => .col s p)]) =
  aQ.map λ s => aT.map λ v => aQ.map λ k => some (unf tb0 9 (fH (bS p o v)))
theorem OQ : F6 .r := λ o => by kernel_rfl
theorem OT : F6 .a := λ o => by kernel_rfl
theorem OS : F6 .b := λ o => by kernel_rfl
theorem OR : F6 .c := λ o => by kernel_rfl
theorem S9 (p : Plc) : F6 p := p.rec OQ OT OS OR
theorem OV (p : Plc) (led : Led) : (bI.map λ o => aT.map λ v => eK ct0 40 false 1031 [dB (.cmp p o v led)]) = bI.map λ o => aT.map λ v => some (unf tb0 9 (bM (.cmp p o v led))) := by kernel_rfl
theorem H6 (p : Plc) (led : Led) : (aT.map λ v => eK ct0 40 false 1031 [dB (.inb1 p v led)]) = aT.map λ v => some (unf tb0 9 (bM (.inb1 p v led))) := by kernel_rfl
theorem D0 (p : Plc) (led : Led) : (aT.map λ v => aT.map λ u => eK ct0 40 false 1031 [dB (.inb2 p v u led)]) = aT.map λ v => aT.map λ u => some (unf tb0 9 (bM (.inb2 p v u led))) := by kernel_rfl
def MW : IExpr := match eX.body with
 | [_, _, .whl t _, _] => t
 | _ => .wall
def wU : List IStmt := match eX.body with
 | [_, _, .whl _ b, _] => b
 | _ => []
def K3 : IStmt := match wU with
 | [a, _] => a
 | _ => .retn
def QV : IStmt := match wU with
 | [_, b] => b
 | _ => .retn
abbrev vsS (e x : FV) : Vs := [(3, .f e), (0, .ref 0), (14, .ref 1), (50, .f x)]
def tsS : Vs -> Hp -> T (Bool × Hp) := λ vs H => (lvl tb0 ct0 30).t MW vs H
def bdS : Vs -> Hp -> T (Fl × Vs × Hp) := λ vs H => (lvl tb0 ct0 30).b 0 wU vs H
noncomputable def wF (c : Cond) (f : List FV) : Prop := ∀ (e : FV) (l : List FV) (G : Hp), sF tb0 ct0 29 0 QV (vsS e (dC c)) (.flist l :: .flist f :: G) = .ret (.next, vsS e (dC c), .flist l :: .flist (f ++ [dC c]) :: G)
theorem zF (c : Cond) : wF c [] := by
 intro e l G
 cases c with
 | litl o s p => cases o <;> kernel_rfl
 | bin o s p v => cases o <;> kernel_rfl
 | _ => kernel_rfl
theorem DU (c : Cond) (a : FV) : wF c [a] := by
 intro e l G
 cases c with
 | litl o s p => cases o <;> kernel_rfl
 | bin o s p v => cases o <;> kernel_rfl
 | _ => kernel_rfl
theorem LF (c : Cond) (a b : FV) : wF c [a, b] := by
 intro e l G
 cases c with
 | litl o s p => cases o <;> kernel_rfl
 | bin o s p v => cases o <;> kernel_rfl
 | _ => kernel_rfl
theorem R8 (c : Cond) (a b d : FV) : wF c [a, b, d] := by
 intro e l G
 cases c with
 | litl o s p => cases o <;> kernel_rfl
 | bin o s p v => cases o <;> kernel_rfl
 | _ => kernel_rfl
def aD (a b : FV) : FV := .node 168 [(49, .str U3), (0, a), (2, b)]
abbrev zS : AO := .fz (.lst [])
section
variable {m : Nat} {P : Fl × Vs × Hp -> Prop}
theorem dM {vs : Vs} {e : FV} {c : Cond} {l l' f : List FV} {G G' : Hp} (hl : wF c f) (ht : tsS vs (.flist l' :: .flist f :: G) = .ret (true, .flist l' :: .flist f :: G'))
  (hp : sF tb0 ct0 29 0 K3 vs (.flist l' :: .flist f :: G') = .ret (.next, vsS e (dC c), .flist l :: .flist f :: G'))
  (h : whF tsS bdS m (vsS e (dC c)) (.flist l :: .flist (f ++ [dC c]) :: G') P) : whF tsS bdS (m + 1) vs (.flist l' :: .flist f :: G) P :=
 KO ht ⟨bF.r (show bF tb0 ct0 30 0 [K3, QV] vs (.flist l' :: .flist f :: G') _ from i3 (n := 29) _ _ hp (i3 (n := 29) _ _ (hl ..) (p7 h)))⟩
theorem kH {vs vs' : Vs} {H H₁ H₂ : Hp} (ht : tsS vs H = .ret (true, H₁)) (hb : bdS vs H₁ = .ret (.next, vs', H₂)) (h : whF tsS bdS m vs' H₂ P) : whF tsS bdS (m + 1) vs H P := KO ht (aF.ret hb h)
end
theorem l9 (e : FV) (Q : PV × Hp -> Prop) (h1 : sF tb0 ct0 30 0 (.asg 0 (.ite (.cmp .Is (.var 3) (.cst .non)) (.lst []) (.lst [.var 3]))) [(3, .f e)] [] = .ret (.next, [(3, .f e), (0, .ref 0)], [.flist [e]]))
  (h : whF tsS bdS 40 [(3, .f e), (0, .ref 0), (14, .ref 1)] [.flist [e], .flist []] (lZ (λ vs H => bF tb0 ct0 31 0 [.ret (.frz (.var 14))] vs H (e8 Q)) (e8 Q))) : cF tb0 ct0 32 550 ([e].map .f) [] Q := by
 refine gL eX [(3, .f e)] (by kernel_rfl) (by kernel_rfl) (by kernel_rfl) ?_
 refine i3 (n := 30) [(3, .f e), (0, .ref 0)] [.flist [e]] h1 ?_
 refine i3 (n := 30) [(3, .f e), (0, .ref 0), (14, .ref 1)] [.flist [e], .flist []] (by kernel_rfl) ?_
 exact QA (n := 30) h
theorem G1 (c1 : Cond) (P : FV -> Prop) (h : P (.lst [dC c1])) : cF tb0 ct0 32 550 ([(dC c1)].map .f) [] (dF P) := by
 refine l9 (dC c1) (dF P) (by kernel_rfl) ?_
 refine dM (m := 39) (vs := [(3, .f (dC c1)), (0, .ref 0), (14, .ref 1)]) (e := (dC c1)) (c := c1) (l := []) (l' := [(dC c1)]) (f := []) (G := []) (G' := [zS]) (zF c1 ) (by kernel_rfl) (by kernel_rfl) ?_
 refine yR (m := 38) (vs := (vsS (dC c1) (dC c1))) (H := (.flist [] :: .flist [dC c1] :: [zS])) (H₁ := (.flist [] :: .flist [dC c1] :: [zS, zS])) (by kernel_rfl) ?_
 exact iU (n := 30) (.f (.lst [dC c1])) (vsS (dC c1) (dC c1)) (.flist [] :: .fz (.lst [dC c1]) :: [zS, zS]) (by kernel_rfl) h
theorem G0 (c1 c2 : Cond) (P : FV -> Prop) (h : P (.lst [dC c1, dC c2])) : cF tb0 ct0 32 550 ([(aD (dC c1) (dC c2))].map .f) [] (dF P) := by
 refine l9 (aD (dC c1) (dC c2)) (dF P) (by kernel_rfl) ?_
 refine kH (m := 39) (vs := [(3, .f (aD (dC c1) (dC c2))), (0, .ref 0), (14, .ref 1)]) (vs' := (vsS (aD (dC c1) (dC c2)) (aD (dC c1) (dC c2)))) (H := (.flist [(aD (dC c1) (dC c2))] :: .flist [] :: [])) (H₁ := (.flist [(aD (dC c1) (dC c2))] :: .flist [] :: [zS])) (H₂ := (.flist [dC c2, (dC c1)] :: .flist [] :: [zS])) (by kernel_rfl) (by kernel_rfl) ?_
 refine dM (m := 38) (vs := (vsS (aD (dC c1) (dC c2)) (aD (dC c1) (dC c2)))) (e := (aD (dC c1) (dC c2))) (c := c1) (l := [dC c2]) (l' := [dC c2, (dC c1)]) (f := []) (G := [zS]) (G' := [zS, zS]) (zF c1 ) (by kernel_rfl) (by kernel_rfl) ?_
 refine dM (m := 37) (vs := (vsS (aD (dC c1) (dC c2)) (dC c1))) (e := (aD (dC c1) (dC c2))) (c := c2) (l := []) (l' := [dC c2]) (f := [dC c1]) (G := [zS, zS]) (G' := [zS, zS, zS]) (DU c2 (dC c1)) (by kernel_rfl) (by kernel_rfl) ?_
 refine yR (m := 36) (vs := (vsS (aD (dC c1) (dC c2)) (dC c2))) (H := (.flist [] :: .flist [dC c1, dC c2] :: [zS, zS, zS])) (H₁ := (.flist [] :: .flist [dC c1, dC c2] :: [zS, zS, zS, zS])) (by kernel_rfl) ?_
 exact iU (n := 30) (.f (.lst [dC c1, dC c2])) (vsS (aD (dC c1) (dC c2)) (dC c2)) (.flist [] :: .fz (.lst [dC c1, dC c2]) :: [zS, zS, zS, zS]) (by kernel_rfl) h
theorem GZ (c1 c2 c3 : Cond) (P : FV -> Prop) (h : P (.lst [dC c1, dC c2, dC c3])) : cF tb0 ct0 32 550 ([(aD (aD (dC c1) (dC c2)) (dC c3))].map .f) [] (dF P) := by
 refine l9 (aD (aD (dC c1) (dC c2)) (dC c3)) (dF P) (by kernel_rfl) ?_
 refine kH (m := 39) (vs := [(3, .f (aD (aD (dC c1) (dC c2)) (dC c3))), (0, .ref 0), (14, .ref 1)]) (vs' := (vsS (aD (aD (dC c1) (dC c2)) (dC c3)) (aD (aD (dC c1) (dC c2)) (dC c3)))) (H := (.flist [(aD (aD (dC c1) (dC c2)) (dC c3))] :: .flist [] :: [])) (H₁ := (.flist [(aD (aD (dC c1) (dC c2)) (dC c3))] :: .flist [] :: [zS])) (H₂ := (.flist [dC c3, (aD (dC c1) (dC c2))] :: .flist [] :: [zS])) (by kernel_rfl) (by kernel_rfl) ?_
 refine kH (m := 38) (vs := (vsS (aD (aD (dC c1) (dC c2)) (dC c3)) (aD (aD (dC c1) (dC c2)) (dC c3)))) (vs' := (vsS (aD (aD (dC c1) (dC c2)) (dC c3)) (aD (dC c1) (dC c2)))) (H := (.flist [dC c3, (aD (dC c1) (dC c2))] :: .flist [] :: [zS])) (H₁ := (.flist [dC c3, (aD (dC c1) (dC c2))] :: .flist [] :: [zS, zS])) (H₂ := (.flist [dC c3, dC c2, (dC c1)] :: .flist [] :: [zS, zS])) (by kernel_rfl) (by kernel_rfl) ?_
 refine dM (m := 37) (vs := (vsS (aD (aD (dC c1) (dC c2)) (dC c3)) (aD (dC c1) (dC c2)))) (e := (aD (aD (dC c1) (dC c2)) (dC c3))) (c := c1) (l := [dC c3, dC c2]) (l' := [dC c3, dC c2, (dC c1)]) (f := []) (G := [zS, zS]) (G' := [zS, zS, zS]) (zF c1 ) (by kernel_rfl) (by kernel_rfl) ?_
 refine dM (m := 36) (vs := (vsS (aD (aD (dC c1) (dC c2)) (dC c3)) (dC c1))) (e := (aD (aD (dC c1) (dC c2)) (dC c3))) (c := c2) (l := [dC c3]) (l' := [dC c3, dC c2]) (f := [dC c1]) (G := [zS, zS, zS]) (G' := [zS, zS, zS, zS]) (DU c2 (dC c1)) (by kernel_rfl) (by kernel_rfl) ?_
 refine dM (m := 35) (vs := (vsS (aD (aD (dC c1) (dC c2)) (dC c3)) (dC c2))) (e := (aD (aD (dC c1) (dC c2)) (dC c3))) (c := c3) (l := []) (l' := [dC c3]) (f := [dC c1, dC c2]) (G := [zS, zS, zS, zS]) (G' := [zS, zS, zS, zS, zS]) (LF c3 (dC c1) (dC c2)) (by kernel_rfl) (by kernel_rfl) ?_
 refine yR (m := 34) (vs := (vsS (aD (aD (dC c1) (dC c2)) (dC c3)) (dC c3))) (H := (.flist [] :: .flist [dC c1, dC c2, dC c3] :: [zS, zS, zS, zS, zS])) (H₁ := (.flist [] :: .flist [dC c1, dC c2, dC c3] :: [zS, zS, zS, zS, zS, zS])) (by kernel_rfl) ?_
 exact iU (n := 30) (.f (.lst [dC c1, dC c2, dC c3])) (vsS (aD (aD (dC c1) (dC c2)) (dC c3)) (dC c3)) (.flist [] :: .fz (.lst [dC c1, dC c2, dC c3]) :: [zS, zS, zS, zS, zS, zS]) (by kernel_rfl) h
theorem GY (c1 c2 c3 c4 : Cond) (P : FV -> Prop) (h : P (.lst [dC c1, dC c2, dC c3, dC c4])) : cF tb0 ct0 32 550 ([(aD (aD (aD (dC c1) (dC c2)) (dC c3)) (dC c4))].map .f) [] (dF P) := by
 refine l9 (aD (aD (aD (dC c1) (dC c2)) (dC c3)) (dC c4)) (dF P) (by kernel_rfl) ?_
 refine kH (m := 39) (vs := [(3, .f (aD (aD (aD (dC c1) (dC c2)) (dC c3)) (dC c4))), (0, .ref 0), (14, .ref 1)]) (vs' := (vsS (aD (aD (aD (dC c1) (dC c2)) (dC c3)) (dC c4)) (aD (aD (aD (dC c1) (dC c2)) (dC c3)) (dC c4)))) (H := (.flist [(aD (aD (aD (dC c1) (dC c2)) (dC c3)) (dC c4))] :: .flist [] :: [])) (H₁ := (.flist [(aD (aD (aD (dC c1) (dC c2)) (dC c3)) (dC c4))] :: .flist [] :: [zS])) (H₂ := (.flist [dC c4, (aD (aD (dC c1) (dC c2)) (dC c3))] :: .flist [] :: [zS])) (by kernel_rfl) (by kernel_rfl) ?_
 refine kH (m := 38) (vs := (vsS (aD (aD (aD (dC c1) (dC c2)) (dC c3)) (dC c4)) (aD (aD (aD (dC c1) (dC c2)) (dC c3)) (dC c4)))) (vs' := (vsS (aD (aD (aD (dC c1) (dC c2)) (dC c3)) (dC c4)) (aD (aD (dC c1) (dC c2)) (dC c3)))) (H := (.flist [dC c4, (aD (aD (dC c1) (dC c2)) (dC c3))] :: .flist [] :: [zS])) (H₁ := (.flist [dC c4, (aD (aD (dC c1) (dC c2)) (dC c3))] :: .flist [] :: [zS, zS])) (H₂ := (.flist [dC c4, dC c3, (aD (dC c1) (dC c2))] :: .flist [] :: [zS, zS])) (by kernel_rfl) (by kernel_rfl) ?_
 refine kH (m := 37) (vs := (vsS (aD (aD (aD (dC c1) (dC c2)) (dC c3)) (dC c4)) (aD (aD (dC c1) (dC c2)) (dC c3)))) (vs' := (vsS (aD (aD (aD (dC c1) (dC c2)) (dC c3)) (dC c4)) (aD (dC c1) (dC c2)))) (H := (.flist [dC c4, dC c3, (aD (dC c1) (dC c2))] :: .flist [] :: [zS, zS])) (H₁ := (.flist [dC c4, dC c3, (aD (dC c1) (dC c2))] :: .flist [] :: [zS, zS, zS])) (H₂ := (.flist [dC c4, dC c3, dC c2, (dC c1)] :: .flist [] :: [zS, zS, zS])) (by kernel_rfl) (by kernel_rfl) ?_
 refine dM (m := 36) (vs := (vsS (aD (aD (aD (dC c1) (dC c2)) (dC c3)) (dC c4)) (aD (dC c1) (dC c2)))) (e := (aD (aD (aD (dC c1) (dC c2)) (dC c3)) (dC c4))) (c := c1) (l := [dC c4, dC c3, dC c2]) (l' := [dC c4, dC c3, dC c2, (dC c1)]) (f := []) (G := [zS, zS, zS]) (G' := [zS, zS, zS, zS]) (zF c1 ) (by kernel_rfl) (by kernel_rfl) ?_
 refine dM (m := 35) (vs := (vsS (aD (aD (aD (dC c1) (dC c2)) (dC c3)) (dC c4)) (dC c1))) (e := (aD (aD (aD (dC c1) (dC c2)) (dC c3)) (dC c4))) (c := c2) (l := [dC c4, dC c3]) (l' := [dC c4, dC c3, dC c2]) (f := [dC c1]) (G := [zS, zS, zS, zS]) (G' := [zS, zS, zS, zS, zS]) (DU c2 (dC c1)) (by kernel_rfl) (by kernel_rfl) ?_
 refine dM (m := 34) (vs := (vsS (aD (aD (aD (dC c1) (dC c2)) (dC c3)) (dC c4)) (dC c2))) (e := (aD (aD (aD (dC c1) (dC c2)) (dC c3)) (dC c4))) (c := c3) (l := [dC c4]) (l' := [dC c4, dC c3]) (f := [dC c1, dC c2]) (G := [zS, zS, zS, zS, zS]) (G' := [zS, zS, zS, zS, zS, zS]) (LF c3 (dC c1) (dC c2)) (by kernel_rfl) (by kernel_rfl) ?_
 refine dM (m := 33) (vs := (vsS (aD (aD (aD (dC c1) (dC c2)) (dC c3)) (dC c4)) (dC c3))) (e := (aD (aD (aD (dC c1) (dC c2)) (dC c3)) (dC c4))) (c := c4) (l := []) (l' := [dC c4]) (f := [dC c1, dC c2, dC c3]) (G := [zS, zS, zS, zS, zS, zS]) (G' := [zS, zS, zS, zS, zS, zS, zS]) (R8 c4 (dC c1) (dC c2) (dC c3)) (by kernel_rfl) (by kernel_rfl) ?_
 refine yR (m := 32) (vs := (vsS (aD (aD (aD (dC c1) (dC c2)) (dC c3)) (dC c4)) (dC c4))) (H := (.flist [] :: .flist [dC c1, dC c2, dC c3, dC c4] :: [zS, zS, zS, zS, zS, zS, zS])) (H₁ := (.flist [] :: .flist [dC c1, dC c2, dC c3, dC c4] :: [zS, zS, zS, zS, zS, zS, zS, zS])) (by kernel_rfl) ?_
 exact iU (n := 30) (.f (.lst [dC c1, dC c2, dC c3, dC c4])) (vsS (aD (aD (aD (dC c1) (dC c2)) (dC c3)) (dC c4)) (dC c4)) (.flist [] :: .fz (.lst [dC c1, dC c2, dC c3, dC c4]) :: [zS, zS, zS, zS, zS, zS, zS, zS]) (by kernel_rfl) h
def PR (n : List Nat) (ty aff : FV) : FV := .node 885 [(55, .str n), (41, ty), (39, aff), (46, .str cJ), (185, .bool false), (186, .non)]
noncomputable def a8 : FV := .node 958 [(55, .str [116]), (187, .int 2), (114, .lst [PR [97] .non (.str C5), PR [98] (.str cO) (.str cO), PR [99] (.str qG) (.str qG)]), (72, .non), (190, .lst []), (191, .lst []), (189, .str []), (192, .lst [])]
noncomputable def wT (n : Bool) : FV := .node 850 [(34, .int (sN n)), (124, .str (w5 n)), (71, a8), (114, .lst [.tup [.str [97], .str C5, .str cJ], .tup [.str [98], .str cO, .str cJ], .tup [.str [99], .str qG, .str cJ]]), (35, .non), (125, .str [105, 110, 110, 101, 114]), (126, .non), (178, .non), (184, .lst [])]
def dG : FV := .lst [wT false, wT true]
noncomputable def cK (ps : List Plc) : FV := .node 918 [(55, .str [105]), (71, .str [116]), (187, .int 3), (114, .lst (ps.map λ p => .tup [.int (pN p), .str cJ, .bool false])), (118, .bool false), (188, .str [99]), (189, .str [])]
noncomputable def fT : List Cond -> FV
 | [] => .non
 | c :: r => r.foldl (λ a d => aD a (dC d)) (dC c)
section
variable {w : World} {h₀ : Heap} {mg mb : Str -> Option Value}
theorem J3 (X : Amb w h₀ mg mb) (cs : List Cond) (hl : cs.length <= 4) (h0 : cs ≠ []) : Con (cx0 w h₀ mg mb) 34 550 [fT cs] (.ret (.lst (cs.map dC))) := by
 rcases cs with _ | ⟨c1, _ | ⟨c2, _ | ⟨c3, _ | ⟨c4, _ | ⟨c5, r⟩⟩⟩⟩⟩
 ·exact absurd rfl h0
 ·exact cM (mk := false) (k := 32) X X.ct0 λ P hP => .ofC (G1 c1 P hP)
 ·exact cM (mk := false) (k := 32) X X.ct0 λ P hP => .ofC (G0 c1 c2 P hP)
 ·exact cM (mk := false) (k := 32) X X.ct0 λ P hP => .ofC (GZ c1 c2 c3 P hP)
 ·exact cM (mk := false) (k := 32) X X.ct0 λ P hP => .ofC (GY c1 c2 c3 c4 P hP)
 ·simp at hl
end
noncomputable def xK (f : Nat) (xs : List FV) : Option Nat := match Nat.beq f 637 with
 | true => match xs with
  | _ :: .str (ch :: _) :: _ => match Nat.beq ch 62 with
   | true => some 0
   | false => some 1
  | _ => none
 | false => none
def rV (r : Bool) (b : Bnd) : FV := match r with
 | true => dB b
 | false => .non
def gR (tab : Tab) (c : Cond) (n : Bool) : T FV := lX (runC tb0 (eV ct0 (nB xK tab)) 40 false 661 ([dT c, .int (sN n)].map .f) [])
def vD (k : Nat) (a : Side) (o : Op) (v l r : Side) (z : FV) : Nat × Nat × List FV × FV := (k, 637, [dS a, .str (opS o), dS v, dS l, dS r], z)
section
variable (p q q' : Plc) (l l' : Lit) (d d' : Led) (P : FV -> Prop)
noncomputable def GH (s : Bool) (k k' : Option Bool) (r r' : Bool) : Tab := [vD 0 (.col s p) .ge (sdK l q k) (.col s p) (sdK l q k) (rV r (.cmp p .ge (sdK l q k) d)), vD 1 (.col s p) .le (sdK l' q' k') (.col s p) (sdK l' q' k') (rV r' (.cmp p .le (sdK l' q' k') d'))]
theorem S6 : (on3 λ s n neg => bV.map λ k => bV.map λ k' => aQ.map λ r => aQ.map λ r' => (gR (GH p q q' l l' d d' s k k' r r') (.btw s p (sdK l q k) (sdK l' q' k') neg) n).AllP P) =
  on3 λ s n neg => bV.map λ k => bV.map λ k' => aQ.map λ r => aQ.map λ r' => lB (e9 neg (onB (s == n) (onB (aK (sdK l q k) n) ((GH p q q' l l' d d' s k k' r r').take 1) ++ onB (aK (sdK l' q' k') n) ((GH p q q' l l' d d' s k k' r r').drop 1))))
   (P (.lst (e9 neg (onB (s == n) (onB (aK (sdK l q k) n) (onB r [dB (.cmp p .ge (sdK l q k) d)]) ++ onB (aK (sdK l' q' k') n) (onB r' [dB (.cmp p .le (sdK l' q' k') d')])))))) := by kernel_rfl
noncomputable def O1 : Op -> Bool
 | .ne => true
 | _ => false
def FP (s : Bool) (o : Op) (v : Side) (n : Bool) : Bnd := match s == n with
 | true => .cmp p o v d
 | false => .cmp q (turn o) (.col s p) d
noncomputable def nW (s : Bool) (o : Op) (v : Side) (n r : Bool) (k : Nat) : Nat × Nat × List FV × FV := match s == n with
 | true => vD k (.col s p) o v (.col s p) v (rV r (.cmp p o v d))
 | false => vD k v (turn o) (.col s p) (.col s p) v (rV r (.cmp q (turn o) (.col s p) d))
def qL (s : Bool) (o : Op) (v : Side) (n : Bool) : Bool := !O1 o && (match s == n with
 | true => aK v n
 | false => fG v n)
theorem LG : (bI.map λ o => on3 λ s n r => bV.map λ k => (gR [nW p q d s o (sdK l q k) n r 0, nW p q d s o (sdK l q k) n r 1] (.bin o s p (sdK l q k)) n).AllP P) =
  bI.map λ o => on3 λ s n r => bV.map λ k => lB (onB (qL s o (sdK l q k) n) [nW p q d s o (sdK l q k) n r 0]) (P (.lst (onB (qL s o (sdK l q k) n) (onB r [dB (FP p q d s o (sdK l q k) n)])))) := by kernel_rfl
theorem OO : (bI.map λ o => aQ.map λ s => (gR [] (.bin o s p (.lit l)) (!s)).AllP P) = bI.map λ o => aQ.map λ s => P (.lst []) := by kernel_rfl
def vC (s : Bool) (o : Op) (r : Bool) (k : Nat) : Nat × Nat × List FV × FV := vD k (.col s p) (turn o) (.lit .i1) (.lit .i1) (.col s p) (rV r (.cmp p (turn o) (.lit .i1) d))
theorem OH : (bI.map λ o => on3 λ s n r => (gR [vC p d s o r 0, vC p d s o r 1] (.litl o s p) n).AllP P) =
  bI.map λ o => on3 λ s n r => lB (onB (!O1 o && s == n) [vC p d s o r 0]) (P (.lst (onB (!O1 o && s == n) (onB r [dB (.cmp p (turn o) (.lit .i1) d)])))) := by kernel_rfl
end
def zJ (p : Plc) (items : List FV) : FV := .node 581 [(j0, .int (pN p)), (pQ, .str sIn), (eT, .lst items), (eM, s6 (gG p)), (d5, .str cJ)]
theorem S4 (q : Plc) (l : Lit) (P : FV -> Prop) : (on3 λ s n neg => aU.map λ p => bV.map λ k => (gR [] (.in1 s p (sdK l q k) neg) n).AllP P) =
  on3 λ s n neg => aU.map λ p => bV.map λ k => P (.lst (e9 neg (onB (s == n) (onB (aK (sdK l q k) n) [zJ p [dS (sdK l q k)]])))) := by kernel_rfl
theorem S3 (q q' : Plc) (l l' : Lit) (P : FV -> Prop) : (on3 λ s n neg => aU.map λ p => bV.map λ k => bV.map λ k' => (gR [] (.in2 s p (sdK l q k) (sdK l' q' k') neg) n).AllP P) =
  on3 λ s n neg => aU.map λ p => bV.map λ k => bV.map λ k' => P (.lst (e9 neg (onB (s == n) (onB (aK (sdK l q k) n) (onB (aK (sdK l' q' k') n) [zJ p [dS (sdK l q k), dS (sdK l' q' k')]]))))) := by kernel_rfl
theorem VO (o : Op) (p : Plc) : (aQ.map λ s => aQ.map λ n => eK ct0 40 false 661 [dT (.ors o s p), .int (sN n)]) = aQ.map λ s => aQ.map λ n => some (unf tb0 9 (bL [])) := by kernel_rfl
def i9 : List (List Int) := [[0], [1], [0, 1]]
theorem TA (c : Cond) : (i9.map λ L => aQ.map λ n => aQ.map λ pl => eK ct0 40 false 623 [.dom (.term c L), .int (sN n), plV n pl]) = i9.map λ L => aQ.map λ n => aQ.map λ pl => some (unf tb0 0 (.bool (cG L n pl))) := by kernel_rfl
abbrev NY (a b : FV) : FV := .idct [(0, a), (1, b)]
abbrev xG (a b : FV) (c : Cond) : Option FV := eK ct0 60 true 626 [dC c, NY a b]
abbrev xF (c : Cond) : Option FV := some (unf tb0 9 (dT c))
theorem R3 (a b : FV) (p q q' : Plc) (l l' : Lit) (neg : Bool) : (aQ.map λ s => bV.map λ k => bV.map λ k' => xG a b (.btw s p (sdK l q k) (sdK l' q' k') neg)) = aQ.map λ s => bV.map λ k => bV.map λ k' => xF (.btw s p (sdK l q k) (sdK l' q' k') neg) := by kernel_rfl
theorem R2 (a b : FV) (p q : Plc) (l : Lit) (neg : Bool) : (aQ.map λ s => bV.map λ k => xG a b (.in1 s p (sdK l q k) neg)) = aQ.map λ s => bV.map λ k => xF (.in1 s p (sdK l q k) neg) := by kernel_rfl
theorem R1 (a b : FV) (p q q' : Plc) (l l' : Lit) (neg : Bool) : (aQ.map λ s => bV.map λ k => bV.map λ k' => xG a b (.in2 s p (sdK l q k) (sdK l' q' k') neg)) = aQ.map λ s => bV.map λ k => bV.map λ k' => xF (.in2 s p (sdK l q k) (sdK l' q' k') neg) := by kernel_rfl
theorem VB (a b : FV) (p : Plc) (o : Op) : (aQ.map λ s => xG a b (.ors o s p)) = aQ.map λ s => xF (.ors o s p) := by kernel_rfl
theorem N0 (a b : FV) (p : Plc) : (bI.map λ o => aQ.map λ s => xG a b (.litl o s p)) = bI.map λ o => aQ.map λ s => xF (.litl o s p) := by kernel_rfl
theorem R4 (a b : FV) (p q : Plc) (l : Lit) : (bI.map λ o => aQ.map λ s => bV.map λ k => xG a b (.bin o s p (sdK l q k))) = bI.map λ o => aQ.map λ s => bV.map λ k => xF (.bin o s p (sdK l q k)) := by kernel_rfl
theorem K5 (p q : Plc) (l : Lit) (neg : Bool) : (aQ.all λ s => bV.all λ k => decide (fN (.in1 s p (sdK l q k) neg) ∈ i9)) = true := by kernel_rfl
theorem K6 (p q q' : Plc) (l l' : Lit) (neg : Bool) : (aQ.all λ s => bV.all λ k => bV.all λ k' => decide (fN (.btw s p (sdK l q k) (sdK l' q' k') neg) ∈ i9)) = true := by kernel_rfl
theorem bB {α β : Type} (f : α -> β) (b : Bool) (l : List α) : (onB b l).map f = onB b (l.map f) := by cases b <;> rfl
theorem m3 {α β : Type} (f : α -> β) (b : Bool) (l : List α) : (e9 b l).map f = e9 b (l.map f) := by cases b <;> rfl
theorem uQ (p : Plc) (o : Op) (v : Side) : ∃ r d, fH (bS p o v) = rV r (.cmp p o v d) /\ ∀ f : Bnd -> FV, (ob (bS p o v)).map f = onB r [f (.cmp p o v d)] := by
 cases h : LE p v with
 | none =>
  have e : bS p o v = none := by unfold bS; rw [h]
  exact ⟨false, .no, by rw [e]; rfl, λ f => by rw [e]; rfl⟩
 | some d =>
  have e : bS p o v = some (.cmp p o v d) := by unfold bS; rw [h]
  exact ⟨true, d, by rw [e]; rfl, λ f => by rw [e]; rfl⟩
theorem RF.re {c : Cx} {G : Gh} {α : Type} {f g : α -> FV} (h : ∀ a v, RF c G (f a) v -> RF c G (g a) v) {l : List α} {v : Value} (r : RF c G (.lst (l.map f)) v) : RF c G (.lst (l.map g)) v :=
 RF.lstE r λ a us m g' e k r => .lst g' ⟨m, rfl⟩ (by rw [List.length_map] at k ⊢; exact k) (RL.re h r)
section
variable {w : World} {h₀ : Heap} {mg mb : Str -> Option Value}
theorem eW (X : Amb w h₀ mg mb) {s : Bool} {p : Plc} {o : Op} {v : Side} {z : FV} {k : Nat} (hz : fH (bS p o v) = z) (b : Bool) :
  Con (cx0 w h₀ mg mb) 42 (vD k (.col s p) o v (match b with | true => .col s p | false => v) (match b with | true => v | false => .col s p) z).2.1 (vD k (.col s p) o v (match b with | true => .col s p | false => v) (match b with | true => v | false => .col s p) z).2.2.1 (.ret (vD k (.col s p) o v (match b with | true => .col s p | false => v) (match b with | true => v | false => .col s p) z).2.2.2) := by
 subst hz
 exact dJ X (aB (aB (aB (S9 p o) s (aE s)) v (dN v)) b (aE b))
theorem mU {tab : Tab} {c : Cond} {n : Bool} {P : FV -> Prop} {q : Prop} (e : (gR tab c n).AllP P = q) (h : q) : rcF (eV ct0 (nB xK tab)) 40 false 661 [dT c, .int (sN n)] P := by
 unfold gR at e
 exact rcF.of e h
theorem f8 (X : Amb w h₀ mg mb) {tab : Tab} {c : Cond} {n : Bool} {v v' : FV} (ht : ∀ e ∈ tab, Con (cx0 w h₀ mg mb) 42 e.2.1 e.2.2.1 (.ret e.2.2.2)) (h : ∀ P : FV -> Prop, P v -> rcF (eV ct0 (nB xK tab)) 40 false 661 [dT c, .int (sN n)] P) (e : v = v') : Con (cx0 w h₀ mg mb) 83 661 [dT c, .int (sN n)] (.ret v') := by
 subst e
 exact cM X (fF (by decide) X.ct0 (nA ht)) h
theorem J0 (X : Amb w h₀ mg mb) (c : Cond) (n : Bool) : Con (cx0 w h₀ mg mb) 83 661 [dT c, .int (sN n)] (.ret (bL (bN c n))) := by
 cases c with
 | btw s p lo hi neg =>
  obtain ⟨r, d, e1, f1⟩ := uQ p .ge lo
  obtain ⟨r', d', e2, f2⟩ := uQ p .le hi
  obtain ⟨l, q, k, rfl⟩ := bA lo
  obtain ⟨l', q', k', rfl⟩ := bA hi
  refine f8 X (tab := GH p q q' l l' d d' s k k' r r') (λ e he => ?_) (λ P hP => mU (aB (aB (aB (aB (d8 (S6 p q q' l l' d d' P) s n neg) k (b8 k)) k' (b8 k')) r (aE r)) r' (aE r')) (cV hP _)) ?_
  ·rcases List.mem_cons.mp he with rfl | he
   ·exact eW X e1 true
   rw [List.mem_singleton.mp he]
   exact eW X e2 true
  ·show _ = FV.lst ((e9 neg (onB (s == n) (onB (aK (sdK l q k) n) (ob (bS p .ge (sdK l q k))) ++ onB (aK (sdK l' q' k') n) (ob (bS p .le (sdK l' q' k')))))).map dB)
   rw [m3, bB, List.map_append, bB, bB, f1, f2]
 | in1 s p x neg =>
  obtain ⟨l, q, k, rfl⟩ := bA x
  refine (f8 X (tab := []) (λ e he => by cases he) (λ P hP => mU (aB (aB (d8 (S4 q l P) s n neg) p (cX p)) k (b8 k)) hP) rfl).ret λ G u r => ?_
  show RF (cx0 w h₀ mg mb) G (.lst ((e9 neg (onB (s == n) (onB (aK (sdK l q k) n) [Bnd.inb1 p (sdK l q k) (gG p)]))).map dB)) u
  have e : e9 neg (onB (s == n) (onB (aK (sdK l q k) n) [zJ p [dS (sdK l q k)]])) = (e9 neg (onB (s == n) (onB (aK (sdK l q k) n) [Bnd.inb1 p (sdK l q k) (gG p)]))).map rZ := by rw [m3, bB, bB]; rfl
  rw [e] at r
  exact RF.re (λ b v r => .dom r) r
 | in2 s p x y neg =>
  obtain ⟨l, q, k, rfl⟩ := bA x
  obtain ⟨l', q', k', rfl⟩ := bA y
  refine (f8 X (tab := []) (λ e he => by cases he) (λ P hP => mU (aB (aB (aB (d8 (S3 q q' l l' P) s n neg) p (cX p)) k (b8 k)) k' (b8 k')) hP) rfl).ret λ G u r => ?_
  show RF (cx0 w h₀ mg mb) G (.lst ((e9 neg (onB (s == n) (onB (aK (sdK l q k) n) (onB (aK (sdK l' q' k') n) [Bnd.inb2 p (sdK l q k) (sdK l' q' k') (gG p)])))).map dB)) u
  have e : e9 neg (onB (s == n) (onB (aK (sdK l q k) n) (onB (aK (sdK l' q' k') n) [zJ p [dS (sdK l q k), dS (sdK l' q' k')]]))) = (e9 neg (onB (s == n) (onB (aK (sdK l q k) n) (onB (aK (sdK l' q' k') n) [Bnd.inb2 p (sdK l q k) (sdK l' q' k') (gG p)])))).map rZ := by rw [m3, bB, bB, bB]; rfl
  rw [e] at r
  exact RF.re (λ b v r => .dom r) r
 | ors o s p => exact (dJ X (aB (aB (VO o p) s (aE s)) n (aE n))).le (by decide)
 | litl o s p =>
  obtain ⟨r, d, e1, f1⟩ := uQ p (turn o) (.lit .i1)
  refine f8 X (tab := [vC p d s o r 0, vC p d s o r 1]) (λ e he => ?_) (λ P hP => mU (d8 (aB (OH p d P) o (gW o)) s n r) (cV hP _)) ?_
  ·rcases List.mem_cons.mp he with rfl | he
   ·exact eW X e1 false
   rw [List.mem_singleton.mp he]
   exact eW X e1 false
  ·show _ = FV.lst ((vT o (.lit .i1) (.col s p) n).map dB)
   cases o <;> first | rfl | (show FV.lst (onB (s == n) (onB r [dB (.cmp p _ (.lit .i1) d)])) = FV.lst ((onB (s == n) (ob (bS p _ (.lit .i1)))).map dB); rw [bB, f1])
 | bin o s p v =>
  cases hs : s == n with
  | true =>
   obtain ⟨r, d, e1, f1⟩ := uQ p o v
   obtain ⟨l, q, k, rfl⟩ := bA v
   refine f8 X (tab := [nW p q d s o (sdK l q k) n r 0, nW p q d s o (sdK l q k) n r 1]) (λ e he => ?_) (λ P hP => mU (aB (d8 (aB (LG p q l d P) o (gW o)) s n r) k (b8 k)) (cV hP _)) ?_
   ·rcases List.mem_cons.mp he with rfl | he
    ·unfold nW; rw [hs]; exact eW X e1 true
    rw [List.mem_singleton.mp he]
    unfold nW; rw [hs]; exact eW X e1 true
   ·show FV.lst (onB (qL s o (sdK l q k) n) (onB r [dB (FP p q d s o (sdK l q k) n)])) = FV.lst ((vT o (.col s p) (sdK l q k) n).map dB)
    have a1 : fG (.col s p) n = true := hs
    have a2 : aK (.col s p) n = false := by unfold aK; rw [a1]; rfl
    unfold qL FP
    rw [hs]
    cases o <;> first | rfl | (show FV.lst (onB (true && aK (sdK l q k) n) (onB r [dB (.cmp p _ (sdK l q k) d)])) = FV.lst ((onB (fG (.col s p) n) (onB (aK (sdK l q k) n) (ob (bS p _ (sdK l q k)))) ++ onB (fG (sdK l q k) n) (onB (aK (.col s p) n) (ob (J4 (sdK l q k) _ (.col s p))))).map dB); rw [a1, a2, List.map_append, bB, bB, f1, bB, bB]; cases fG (sdK l q k) n <;> simp [onB])
  | false =>
   have hn : n = !s := by cases s <;> cases n <;> first | rfl | cases hs
   cases v with
   | lit l =>
    subst hn
    refine f8 X (tab := []) (λ e he => by cases he) (λ P hP => mU (aB (aB (OO p l P) o (gW o)) s (aE s)) hP) ?_
    cases o <;> cases s <;> rfl
   | col t q =>
    obtain ⟨r, d, e1, f1⟩ := uQ q (turn o) (.col s p)
    refine f8 X (tab := [nW p q d s o (.col t q) n r 0, nW p q d s o (.col t q) n r 1]) (λ e he => ?_) (λ P hP => mU (aB (d8 (aB (LG p q .nul d P) o (gW o)) s n r) (some t) (b8 (some t))) (cV hP _)) ?_
    ·rcases List.mem_cons.mp he with rfl | he
     ·unfold nW; rw [hs]; exact eW X e1 false
     rw [List.mem_singleton.mp he]
     unfold nW; rw [hs]; exact eW X e1 false
    ·show FV.lst (onB (qL s o (.col t q) n) (onB r [dB (FP p q d s o (.col t q) n)])) = FV.lst ((vT o (.col s p) (.col t q) n).map dB)
     have a1 : fG (.col s p) n = false := hs
     have a2 : aK (.col s p) n = true := by unfold aK; rw [a1]; rfl
     unfold qL FP
     rw [hs]
     cases o <;> first | rfl | (show FV.lst (onB (true && fG (.col t q) n) (onB r [dB (.cmp q _ (.col s p) d)])) = FV.lst ((onB (fG (.col s p) n) (onB (aK (.col t q) n) (ob (bS p _ (.col t q)))) ++ onB (fG (.col t q) n) (onB (aK (.col s p) n) (ob (bS q _ (.col s p))))).map dB); rw [a1, a2, List.map_append, bB, bB (b := fG (.col t q) n), bB (b := true), f1]; rfl)
theorem GX (c : Cond) : fN c ∈ i9 := by
 have go : ∀ L, decide (L ∈ i9) = true -> L ∈ i9 := λ L h => of_decide_eq_true h
 cases c with
 | btw s p lo hi neg =>
  obtain ⟨l, q, k, rfl⟩ := bA lo
  obtain ⟨l', q', k', rfl⟩ := bA hi
  exact go _ (List.all_eq_true.mp (List.all_eq_true.mp (List.all_eq_true.mp (K6 p q q' l l' neg) s (aE s)) k (b8 k)) k' (b8 k'))
 | in1 s p x neg =>
  obtain ⟨l, q, k, rfl⟩ := bA x
  exact go _ (List.all_eq_true.mp (List.all_eq_true.mp (K5 p q l neg) s (aE s)) k (b8 k))
 | in2 s p x y neg =>
  obtain ⟨l, q, k, rfl⟩ := bA x
  obtain ⟨l', q', k', rfl⟩ := bA y
  exact go _ (List.all_eq_true.mp (List.all_eq_true.mp (List.all_eq_true.mp (K6 p q q' l l' neg) s (aE s)) k (b8 k)) k' (b8 k'))
 | ors o s p => cases s <;> exact go _ rfl
 | litl o s p => cases s <;> exact go _ rfl
 | bin o s p v =>
  obtain ⟨l, q, k, rfl⟩ := bA v
  exact go _ (List.all_eq_true.mp (List.all_eq_true.mp (K5 p q l false) s (aE s)) k (b8 k))
theorem J2 (X : Amb w h₀ mg mb) (c : Cond) (n pl : Bool) : Con (cx0 w h₀ mg mb) 83 623 [dT c, .int (sN n), plV n pl] (.ret (.bool (cG (fN c) n pl))) :=
 (dJ X (aB (aB (aB (TA c) _ (GX c)) n (aE n)) pl (aE pl))).le (by decide)
theorem J1 (X : Amb w h₀ mg mb) (a b : FV) (c : Cond) : Con (cx0 w h₀ mg mb) 83 626 [dC c, NY a b] (.ret (dT c)) := by
 have e : xG a b c = xF c := by
  cases c with
  | btw s p lo hi neg =>
   obtain ⟨l, q, k, rfl⟩ := bA lo
   obtain ⟨l', q', k', rfl⟩ := bA hi
   exact aB (aB (aB (R3 a b p q q' l l' neg) s (aE s)) k (b8 k)) k' (b8 k')
  | in1 s p x neg =>
   obtain ⟨l, q, k, rfl⟩ := bA x
   exact aB (aB (R2 a b p q l neg) s (aE s)) k (b8 k)
  | in2 s p x y neg =>
   obtain ⟨l, q, k, rfl⟩ := bA x
   obtain ⟨l', q', k', rfl⟩ := bA y
   exact aB (aB (aB (R1 a b p q q' l l' neg) s (aE s)) k (b8 k)) k' (b8 k')
  | ors o s p => exact aB (VB a b p o) s (aE s)
  | litl o s p => exact aB (aB (N0 a b p) o (gW o)) s (aE s)
  | bin o s p v =>
   obtain ⟨l, q, k, rfl⟩ := bA v
   exact aB (aB (aB (R4 a b p q l) o (gW o)) s (aE s)) k (b8 k)
 exact (dJ X e).le (by decide)
theorem E0 (X : Amb w h₀ mg mb) (c : Side) (o : Op) (v : Side) (n : Bool) : Con (cx0 w h₀ mg mb) 83 1016 [dS c, .str (opS o), dS v, .int (sN n)] (.ret (IU (j2 c o v n))) :=
 (dJ X (aB (aB (aB (OW o) c (dN c)) v (dN v)) n (aE n))).le (by decide)
theorem EY (X : Amb w h₀ mg mb) (b : Bnd) : Con (cx0 w h₀ mg mb) 83 1031 [dB b] (.ret (bM b)) := by
 cases b with
 | cmp p o v d => exact (dJ X (aB (aB (OV p d) o (gW o)) v (dN v))).le (by decide)
 | inb1 p v d => exact (dJ X (aB (H6 p d) v (dN v))).le (by decide)
 | inb2 p v u d => exact (dJ X (aB (aB (D0 p d) v (dN v)) u (dN u))).le (by decide)
end
inductive OpK where
 | eq | inn | lo | hi
noncomputable def f4 : OpK -> List FV
 | .eq => [.str [61]]
 | .inn => [.str sIn]
 | .lo => [.str [62], .str [62, 61]]
 | .hi => [.str [60], .str [60, 61]]
noncomputable def opK : OpK -> Op -> Bool
 | .eq, .eq => true
 | .lo, .gt => true
 | .lo, .ge => true
 | .hi, .lt => true
 | .hi, .le => true
 | _, _ => false
noncomputable def lY : Plc -> Plc -> Bool
 | .r, .r => true
 | .a, .a => true
 | .b, .b => true
 | .c, .c => true
 | _, _ => false
noncomputable def lM : OpK -> Bool
 | .inn => true
 | _ => false
noncomputable def g5 (q : Plc) (k : OpK) : Bnd -> Bool
 | .cmp p o _ _ => lY p q && opK k o
 | .inb1 p _ _ => lY p q && lM k
 | .inb2 p _ _ _ => lY p q && lM k
def lkB (q : Plc) (k : OpK) (l : List Bnd) : Option Bnd := l.find? (g5 q k)
inductive Fit where
 | rid
 | ix (q : Plc)
noncomputable def gI : Fit -> Plc
 | .rid => .r
 | .ix q => q
noncomputable def O4 : Fit -> FV
 | .rid => .non
 | .ix _ => .str cJ
def iS (f : Fit) : FV := .tup [.int (pN (gI f)), .bool (lY (gI f) .r), O4 f, a8]
def eD : List Fit := [.rid, .ix .r, .ix .a, .ix .b, .ix .c]
def eY : List OpK := [.eq, .inn, .lo, .hi]
theorem xS (f : Fit) : f ∈ eD := by
 cases f with
 | rid => simp [eD]
 | ix q => cases q <;> simp [eD]
theorem AZ (k : OpK) : k ∈ eY := by cases k <;> simp [eY]
def TX : List IStmt := match fJ.body with
 | [_, _, .for1 _ _ b, _] => b
 | _ => []
noncomputable abbrev vsF (L : FV) (f : Fit) (k : OpK) : Vs := [(81, .f L), (80, .f (iS f)), (82, .f (.tup (f4 k))), (57, .f (.int (pN (gI f)))), (79, .f (.bool (lY (gI f) .r))), (46, .f (O4 f)), (71, .f a8)]
def bdF : FV -> Vs -> Hp -> T (Fl × Vs × Hp) := λ v vs H => (lvl tb0 ct0 30).b 0 TX (put vs 63 (.f v)) H
noncomputable def IE (h : Bool) (b : Bnd) (L : FV) (f : Fit) (k : OpK) (Q : Fl × Vs × Hp -> Prop) : Prop := match h with
 | true => Q (.ret (.f (dB b)), vsF L f k ++ [(63, .f (dB b)), (83, .f (.bool true))], [])
 | false => Q (.next, vsF L f k, [])
theorem O9 (L : FV) (v : Side) (led : Led) (Q : Fl × Vs × Hp -> Prop) : (eD.map λ f => eY.map λ k => aU.map λ p => bI.map λ o => (bdF (dB (.cmp p o v led)) (vsF L f k) []).AllP Q) =
  eD.map λ f => eY.map λ k => aU.map λ p => bI.map λ o => IE (g5 (gI f) k (.cmp p o v led)) (.cmp p o v led) L f k Q := by kernel_rfl
theorem O8 (L : FV) (v : Side) (led : Led) (Q : Fl × Vs × Hp -> Prop) : (eD.map λ f => eY.map λ k => aU.map λ p => (bdF (dB (.inb1 p v led)) (vsF L f k) []).AllP Q) =
  eD.map λ f => eY.map λ k => aU.map λ p => IE (g5 (gI f) k (.inb1 p v led)) (.inb1 p v led) L f k Q := by kernel_rfl
theorem O7 (L : FV) (v u : Side) (led : Led) (Q : Fl × Vs × Hp -> Prop) : (eD.map λ f => eY.map λ k => aU.map λ p => (bdF (dB (.inb2 p v u led)) (vsF L f k) []).AllP Q) =
  eD.map λ f => eY.map λ k => aU.map λ p => IE (g5 (gI f) k (.inb2 p v u led)) (.inb2 p v u led) L f k Q := by kernel_rfl
theorem PA (b : Bnd) (L : FV) (f : Fit) (k : OpK) (Q : Fl × Vs × Hp -> Prop) (h : IE (g5 (gI f) k b) b L f k Q) : aF (bdF (dB b) (vsF L f k) []) Q := by
 cases b with
 | cmp p o v led => exact aF.of (aB (aB (aB (aB (O9 L v led Q) f (xS f)) k (AZ k)) p (cX p)) o (gW o)) h
 | inb1 p v led => exact aF.of (aB (aB (aB (O8 L v led Q) f (xS f)) k (AZ k)) p (cX p)) h
 | inb2 p v u led => exact aF.of (aB (aB (aB (O7 L v u led Q) f (xS f)) k (AZ k)) p (cX p)) h
theorem zM (L : FV) (f : Fit) (k : OpK) (P : PV × Hp -> Prop) : ∀ l : List Bnd, (∀ H, P (.f (fH (lkB (gI f) k l)), H)) -> foF bdF (l.map dB) (vsF L f k) [] (lZ (λ vs H => bF tb0 ct0 31 0 [.ret (.cst .non)] vs H (e8 P)) (e8 P))
 | [], h => rX (iU (n := 30) (.f .non) (vsF L f k) [] (by kernel_rfl) (h _))
 | b :: l, h => by
  refine rY (PA b L f k _ ?_)
  cases q : g5 (gI f) k b with
  | true =>
   have e : lkB (gI f) k (b :: l) = some b := by unfold lkB; rw [List.find?_cons, q]
   rw [e] at h
   exact h _
  | false =>
   refine zM L f k P l λ H => ?_
   have e : lkB (gI f) k (b :: l) = lkB (gI f) k l := by unfold lkB; rw [List.find?_cons, q]
   rw [e] at h
   exact h _
theorem TV (L : FV) (f : Fit) (k : OpK) : sF tb0 ct0 30 0 (.gc [81, 80, 82, 57, 79, 46, 71]) [(81, .f L), (80, .f (iS f)), (82, .f (.tup (f4 k))), (57, .f (.int (pN (gI f)))), (79, .f (.bool (lY (gI f) .r))), (46, .f (O4 f)), (71, .f a8)] [] = .ret (.next, vsF L f k, []) := by kernel_rfl
theorem O6 (l : List Bnd) (f : Fit) (k : OpK) (P : FV -> Prop) (h : P (fH (lkB (gI f) k l))) : cF tb0 ct0 32 725 ([bL l, iS f, .tup (f4 k)].map .f) [] (dF P) := by
 refine gL fJ [(81, .f (bL l)), (80, .f (iS f)), (82, .f (.tup (f4 k)))] (by kernel_rfl) (by kernel_rfl) (by kernel_rfl) ?_
 refine i3 (n := 30) (vsF (bL l) f k) [] (by kernel_rfl) ?_
 refine i3 (n := 30) (vsF (bL l) f k) [] (TV ..) ?_
 refine B2 (n := 30) (.f (bL l)) (l.map dB) [] (by kernel_rfl) (by kernel_rfl) ?_
 exact zM _ f k _ l λ H => h
theorem LV {tb : Tb} {ct : Ctr} {n k x y : Nat} {elt it : IExpr} {ifs : List IExpr} {ss : List IStmt} {vs : Vs} {H : Hp} {P : Fl × Vs × Hp -> Prop} (p : PV) (xs ys : List FV) (H' H'' : Hp) (e : eF tb ct n it vs H = .ret (p, H')) (hx : bY H' (opn tb p) = some xs)
  (hq : lW ((lvl tb ct n).c (100000 + y) [] H') = none) (hc : cR (λ vs H => bP (λ e H => (lvl tb ct n).t e vs H) ifs H) (λ vs H => (lvl tb ct n).e elt vs H) vs y xs H' = .ret (ys, H''))
  (h : bF tb ct (n + 1) k ss (put vs x (.f (.lst ys))) H'' P) : bF tb ct (n + 1) k (.asgC x elt y it ifs :: ss) vs H P := by
 refine cB ⟨show (((lvl tb ct n).e it vs H).bind _).AllP _ from ?_⟩
 have e' : (lvl tb ct n).e it vs H = .ret (p, H') := e
 rw [e']
 show (oB (bY H' (opn tb p)) λ xs => (g9 tb (lvl tb ct n) _ _ vs y xs H').bind _).AllP _
 rw [hx]
 show ((g9 tb (lvl tb ct n) _ _ vs y xs H').bind _).AllP _
 unfold g9
 rw [hq]
 dsimp only
 rw [hc]
 exact h
theorem fP {α : Type} {ts : Vs -> Hp -> T (Bool × Hp)} {el : Vs -> Hp -> T (PV × Hp)} {vs : Vs} {x : Nat} {H : Hp} {f : α -> FV} {g : α -> Bool} (h1 : ∀ a, ts (put vs x (.f (f a))) H = .ret (g a, H)) (h2 : ∀ a, el (put vs x (.f (f a))) H = .ret (.f (f a), H)) : ∀ l : List α, cR ts el vs x (l.map f) H = .ret ((l.filter g).map f, H)
 | [] => rfl
 | a :: l => by
  show ((ts (put vs x (.f (f a))) H).bind _) = _
  rw [h1]
  cases q : g a with
  | true =>
   show ((el (put vs x (.f (f a))) H).bind λ y => oB (asF (nrm y.2 y.1)) λ u => (cR ts el vs x (l.map f) y.2).bind λ z => .ret (u :: z.1, z.2)) = _
   rw [h2]
   show ((cR ts el vs x (l.map f) H).bind λ z => T.ret (f a :: z.1, z.2)) = _
   rw [fP h1 h2 l, List.filter_cons, if_pos q]
   rfl
  | false =>
   show cR ts el vs x (l.map f) H = _
   rw [fP h1 h2 l, List.filter_cons, if_neg (by rw [q]; exact Bool.false_ne_true)]
def OA : IExpr := match hW.body with
 | [.asgC _ _ _ _ [t], _] => t
 | _ => .wall
abbrev vsL (D : FV) (q : Plc) (k : OpK) : Vs := [(147, .f D), (57, .f (.int (pN q))), (82, .f (.lst (f4 k)))]
def tsL : Vs -> Hp -> T (Bool × Hp) := λ vs H => bP (λ e H => (lvl tb0 ct0 30).t e vs H) [OA] H
theorem N8 (D : FV) (v : Side) (led : Led) : (aU.map λ q => eY.map λ k => aU.map λ p => bI.map λ o => tsL (put (vsL D q k) 63 (.f (aG (.cmp p o v led)))) []) =
  aU.map λ q => eY.map λ k => aU.map λ p => bI.map λ o => .ret (g5 q k (.cmp p o v led), []) := by kernel_rfl
theorem N7 (D : FV) (v : Side) (led : Led) : (aU.map λ q => eY.map λ k => aU.map λ p => tsL (put (vsL D q k) 63 (.f (aG (.inb1 p v led)))) []) =
  aU.map λ q => eY.map λ k => aU.map λ p => .ret (g5 q k (.inb1 p v led), []) := by kernel_rfl
theorem N6 (D : FV) (v u : Side) (led : Led) : (aU.map λ q => eY.map λ k => aU.map λ p => tsL (put (vsL D q k) 63 (.f (aG (.inb2 p v u led)))) []) =
  aU.map λ q => eY.map λ k => aU.map λ p => .ret (g5 q k (.inb2 p v u led), []) := by kernel_rfl
theorem N9 (D : FV) (q : Plc) (k : OpK) (b : Bnd) : tsL (put (vsL D q k) 63 (.f (aG b))) [] = .ret (g5 q k b, []) := by
 cases b with
 | cmp p o v led => exact aB (aB (aB (aB (N8 D v led) q (cX q)) k (AZ k)) p (cX p)) o (gW o)
 | inb1 p v led => exact aB (aB (aB (N7 D v led) q (cX q)) k (AZ k)) p (cX p)
 | inb2 p v u led => exact aB (aB (aB (N6 D v u led) q (cX q)) k (AZ k)) p (cX p)
noncomputable def EO : Option Bnd -> FV
 | some b => aG b
 | none => .non
def dL (l : List Bnd) : FV := .lst (l.map aG)
theorem N5 (l : List Bnd) (q : Plc) (k : OpK) (P : FV -> Prop) (h : P (EO (lkB q k l))) : cF tb0 ct0 32 1036 ([dL l, .int (pN q), .lst (f4 k)].map .f) [] (dF P) := by
 refine gL hW (vsL (dL l) q k) (by kernel_rfl) (by kernel_rfl) (by kernel_rfl) ?_
 refine LV (n := 30) (.f (dL l)) (l.map aG) ((l.filter (g5 q k)).map aG) [] [] (by kernel_rfl) (by kernel_rfl) (by kernel_rfl) (fP (λ b => N9 (dL l) q k b) (λ b => ?_) l) ?_
 ·show (lvl tb0 ct0 30).e (.var 63) (put (vsL (dL l) q k) 63 (.f (aG b))) [] = _
  kernel_rfl
 ·have e : lkB q k l = (l.filter (g5 q k)).head? := (List.head?_filter).symm
  rw [e] at h
  cases hf : l.filter (g5 q k) with
  | nil =>
   rw [hf] at h
   exact iU (n := 30) (.f .non) (vsL (dL l) q k ++ [(148, .f (.lst []))]) [.fz (.lst [])] (by kernel_rfl) h
  | cons b r =>
   rw [hf] at h
   exact iU (n := 30) (.f (aG b)) (vsL (dL l) q k ++ [(148, .f (.lst (aG b :: r.map aG)))]) [.fz (.lst [])] (by kernel_rfl) h
section
variable {w : World} {h₀ : Heap} {mg mb : Str -> Option Value}
theorem JX (X : Amb w h₀ mg mb) (l : List Bnd) (f : Fit) (k : OpK) : Con (cx0 w h₀ mg mb) 34 725 [bL l, iS f, .tup (f4 k)] (.ret (fH (lkB (gI f) k l))) := cM (mk := false) (k := 32) X X.ct0 λ P hP => .ofC (O6 l f k P hP)
theorem EX (X : Amb w h₀ mg mb) (l : List Bnd) (q : Plc) (k : OpK) : Con (cx0 w h₀ mg mb) 34 1036 [dL l, .int (pN q), .lst (f4 k)] (.ret (EO (lkB q k l))) := cM (mk := false) (k := 32) X X.ct0 λ P hP => .ofC (N5 l q k P hP)
end
noncomputable def sel (l : List (Nat × (List FV -> Option (T FV)))) : Spec := λ f xs => match look l f with
 | some g => g xs
 | none => none
noncomputable def aS (k : Side -> Option (T FV)) (xs : List FV) : Option (T FV) := match xs with
 | [.dom (.side s)] => k s
 | _ => none
theorem P5 {k : Side -> Option (T FV)} {xs : List FV} {t : T FV} (h : aS k xs = some t) : ∃ s, xs = [dS s] /\ k s = some t := by
 unfold aS at h
 split at h
 ·exact ⟨_, rfl, h⟩
 ·cases h
theorem y4 {c : Cx} {n : Nat} {l : List (Nat × (List FV -> Option (T FV)))} (h : ∀ p ∈ l, ∀ xs t, p.2 xs = some t -> Con c n p.1 xs t) : ∀ f xs t, sel l f xs = some t -> Con c n f xs t := λ f xs t e => by
 unfold sel at e
 split at e
 ·rename_i g hg
  exact h (f, g) (b7 hg) xs t e
 ·cases e
noncomputable def D9 (l : List (Nat × FV)) : Spec := λ f xs => match xs with
 | [] => match look l f with
  | some v => some (.need False (.ret v))
  | none => none
 | _ :: _ => none
theorem D8 {c : Cx} {n : Nat} {l : List (Nat × FV)} : ∀ f xs t, D9 l f xs = some t -> Con c n f xs t := λ f xs t h => by
 unfold D9 at h
 split at h
 ·split at h
  ·cases h
   intro A W x tk vals R hA ra I hr
   exact hr.1.elim
  ·cases h
 ·cases h
noncomputable def SC : FV -> Option Nat
 | .int i => match i with
  | .ofNat n => some (4 * (n + 1))
  | .negSucc _ => some 0
 | _ => none
noncomputable def SD : List FV -> Option Nat
 | .str (c :: _) :: _ => match Nat.beq c 61 with
  | true => some 0
  | false => match Nat.beq c 105 with
   | true => some 1
   | false => match Nat.beq c 62 with
    | true => some 2
    | false => some 3
 | _ => none
noncomputable def UI (a b : Option Nat) : Option Nat := match a with
 | some x => match b with
  | some y => some (x + y)
  | none => none
 | none => none
noncomputable def VN (f : Nat) (xs : List FV) : Option Nat := match Nat.beq f 725 with
 | true => match xs with
  | [_, .tup (p :: _), .tup o] => UI (SC p) (SD o)
  | _ => none
 | false => match Nat.beq f 1036 with
  | true => match xs with
   | [_, p, .lst o] => UI (SC p) (SD o)
   | _ => none
  | false => none
noncomputable def ctH (tab : Tab) (hk : List (Nat × FV)) : Ctr := eV (eV ct0 (nB VN tab)) (D9 hk)
section
variable {w : World} {h₀ : Heap} {mg mb : Str -> Option Value}
theorem tH {m : Nat} {tab : Tab} {hk : List (Nat × FV)} (X : Amb w h₀ mg mb) (hm : 1 <= m) (ht : ∀ e ∈ tab, Con (cx0 w h₀ mg mb) m e.2.1 e.2.2.1 (.ret e.2.2.2)) : d9 (cx0 w h₀ mg mb) (ctH tab hk) m :=
 fF (Nat.le_refl _) (fF hm X.ct0 (nA ht)) D8
end
noncomputable def qK : Plc -> Nat
 | .r => 0
 | .a => 4
 | .b => 8
 | .c => 12
noncomputable def SF : OpK -> Nat
 | .eq => 0
 | .inn => 1
 | .lo => 2
 | .hi => 3
noncomputable def iZ : Side -> Bool
 | .lit .t => false
 | .lit _ => true
 | .col _ .r => true
 | .col _ _ => false
noncomputable def aH : Bnd -> Bool
 | .cmp _ _ v _ => iZ v
 | _ => false
theorem S8 : (aT.map λ s => eK ct0 40 false 675 [dS s]) = aT.map λ s => some (unf tb0 0 (.bool (iZ s))) := by kernel_rfl
theorem OU : (aT.map λ s => eK ct0 40 false 1043 [RD s]) = aT.map λ s => some (unf tb0 0 (.bool (iZ s))) := by kernel_rfl
section
variable {w : World} {h₀ : Heap} {mg mb : Str -> Option Value}
theorem JZ (X : Amb w h₀ mg mb) (s : Side) : Con (cx0 w h₀ mg mb) 42 675 [dS s] (.ret (.bool (iZ s))) := dJ X (aB S8 s (dN s))
theorem EW (X : Amb w h₀ mg mb) (s : Side) : Con (cx0 w h₀ mg mb) 42 1043 [.dom (.row s)] (.ret (.bool (iZ s))) := (dJ X (aB OU s (dN s))).args λ G vs r => by
 cases r with
 | cons a r => cases a with
  | dom a => exact .cons a r
end
noncomputable def xM (p : FV) : Bool := match p with
 | .node C _ => Nat.beq C 714
 | _ => false
noncomputable def KY (p : FV) : T FV := lX (runC tb0 ct0 40 false 711 ([p].map .f) [])
noncomputable def MN (t : T FV) (s : List Nat) : Bool := match t with
 | .ret v => match v with
  | .str cs => lV cs s
  | _ => false
 | _ => false
noncomputable def cC (p : FV) (s : List Nat) : Bool := xM p && MN (KY p) s
theorem xL {p : FV} (h : xM p = true) : ∃ fs, p = .node 714 fs := by
 unfold xM at h
 split at h
 ·exact ⟨_, by rw [Nat.eq_of_beq_eq_true h]⟩
 ·cases h
theorem mM {t : T FV} {s : List Nat} (h : MN t s = true) : t = .ret (.str s) := by
 unfold MN at h
 split at h
 ·split at h
  ·rw [cN.mp h]
  ·cases h
 ·cases h
section
variable {w : World} {h₀ : Heap} {mg mb : Str -> Option Value}
theorem JY (X : Amb w h₀ mg mb) {p : FV} {s : List Nat} (h : cC p s = true) : Con (cx0 w h₀ mg mb) 42 711 [p] (.ret (.str s)) := by
 have e := mM (Bool.and_eq_true_iff.mp h).2
 refine cM (mk := false) (k := 40) X X.ct0 λ P hP => ⟨?_⟩
 have e' : lX (runC tb0 ct0 40 false 711 ([p].map .f) []) = .ret (.str s) := e
 rw [e']
 exact hP
end
inductive In3 where
 | no | one | two
structure Sy where
 p : Plc
 o : Op
 v : Side
 u : Side
 d : Led
noncomputable def xW (s : Sy) (on : Bool) : FV := match on with
 | true => dB (.cmp s.p s.o s.v s.d)
 | false => .non
noncomputable def inR (s : Sy) (k : In3) : FV := match k with
 | .no => .non
 | .one => dB (.inb1 s.p s.v s.d)
 | .two => dB (.inb2 s.p s.v s.u s.d)
noncomputable def sL : Option Bnd -> Sy
 | some (.cmp p o v d) => ⟨p, o, v, v, d⟩
 | some (.inb1 p v d) => ⟨p, .eq, v, v, d⟩
 | some (.inb2 p v u d) => ⟨p, .eq, v, u, d⟩
 | none => ⟨.r, .eq, .lit .nul, .lit .nul, .no⟩
noncomputable def in3 : Option Bnd -> In3
 | some (.inb1 _ _ _) => .one
 | some (.inb2 _ _ _ _) => .two
 | _ => .no
theorem kK {q : Plc} {k : OpK} {l : List Bnd} (hk : lM k = false) : fH (lkB q k l) = xW (sL (lkB q k l)) (lkB q k l).isSome := by
 cases e : lkB q k l with
 | none => rfl
 | some b =>
  have h := List.find?_some (p := g5 q k) e
  cases b with
  | cmp p o v d => rfl
  | inb1 p v d => exact absurd (show (lY p q && lM k) = true from h) (by rw [hk]; simp)
  | inb2 p v u d => exact absurd (show (lY p q && lM k) = true from h) (by rw [hk]; simp)
theorem LD {q : Plc} {l : List Bnd} : fH (lkB q .inn l) = inR (sL (lkB q .inn l)) (in3 (lkB q .inn l)) := by
 cases e : lkB q .inn l with
 | none => rfl
 | some b =>
  have h := List.find?_some (p := g5 q .inn) e
  cases b with
  | cmp p o v d => exact absurd (show (lY p q && opK .inn o) = true from h) (by cases o <;> simp [opK])
  | inb1 p v d => rfl
  | inb2 p v u d => rfl
noncomputable def pB : List In3 := [.no, .one, .two]
theorem xP (k : In3) : k ∈ pB := by cases k <;> simp [pB]
def T0 (lo hi : Bool) : List Nat := (match lo with | true => [32, 102, 114, 111, 109] | false => []) ++ (match hi with | true => [32, 116, 111] | false => [])
def rangeT (h : List Nat) (lo hi : Bool) (b : List Nat) : List (List Nat) := match lo || hi with
 | true => [h ++ T0 lo hi ++ b]
 | false => []
def inT (h : List Nat) (m : In3) (b : List Nat) : List (List Nat) := match m with
 | .no => []
 | .one => [h ++ [32, 105, 110, 32] ++ [49] ++ b]
 | .two => [h ++ [32, 105, 110, 32] ++ [50] ++ b]
noncomputable def c0 (e : Bool) (m : In3) (lo hi : Bool) : List (List Nat) := onB e [[114, 111, 119, 105, 100, 32, 101, 113, 117, 97, 108, 115, 32, 49]] ++ (inT [114, 111, 119, 105, 100] m [] ++ rangeT [114, 111, 119, 105, 100, 95, 114, 97, 110, 103, 101] lo hi [])
def V7 : List (Nat × (List FV -> Option (T FV))) := [(675, aS λ s => some (.ret (.bool (iZ s))))]
noncomputable def wK (L F : List FV) (s : Nat -> Sy) (e : Bool) (m : In3) (lo hi : Bool) : Tab := [(0, 725, [.lst L, iS .rid, .tup (f4 .eq)], xW (s 0) e), (1, 725, [.lst L, iS .rid, .tup (f4 .inn)], inR (s 1) m),
 (2, 725, [.lst F, iS .rid, .tup (f4 .lo)], xW (s 2) lo), (3, 725, [.lst F, iS .rid, .tup (f4 .hi)], xW (s 3) hi)]
def rH (L F : List FV) (s : Nat -> Sy) (e : Bool) (m : In3) (lo hi : Bool) : Ctr := eV (ctH (wK L F s e m lo hi) [(100063, .lst F)]) (sel V7)
def mR (L F : List FV) (s : Nat -> Sy) (e : Bool) (m : In3) (lo hi : Bool) : T FV := lX (runC tb0 (rH L F s e m lo hi) 40 false 758 ([a8, .lst L].map .f) [])
noncomputable def pF : T FV -> List FV
 | .ret v => match v with
  | .lst ps => ps
  | _ => []
 | .need _ k => pF k
 | _ => []
def V4 (e : Bool) (m : In3) : Nat := (match e with | true => 1 | false => 0) + (match m with | .no => 0 | _ => 1)
def QC : IExpr := match iY.body with
 | [_, _, _, _, _, _, .asgC _ _ _ _ [t], _, _, _] => t
 | _ => .wall
def tsW (ct : Ctr) : Vs -> Hp -> T (Bool × Hp) := λ vs H => bP (λ e H => (lvl tb0 ct 38).t e vs H) [QC] H
def elW (ct : Ctr) : Vs -> Hp -> T (PV × Hp) := λ vs H => (lvl tb0 ct 38).e (.var 63) vs H
abbrev vsW (L : List FV) : Vs := [(71, .f a8), (81, .f (.lst L)), (80, .f (iS .rid)), (14, .ref 0)]
noncomputable def z6 (L F : List FV) (ct : Ctr) (fs : List FV) : Prop := ∃ ys, (∀ P : List FV × Hp -> Prop, P (ys, [.flist fs]) -> (cR (tsW ct) (elW ct) (vsW L) 63 L [.flist fs]).AllP P) /\ fvw tb0 (.lst F) = .lst ys
def lC {α : Type} (f : Bool -> In3 -> Bool -> Bool -> α) : List (List (List (List α))) := aQ.map λ e => pB.map λ m => aQ.map λ lo => aQ.map λ hi => f e m lo hi
theorem rS {α : Type} {f g : Bool -> In3 -> Bool -> Bool -> α} (h : lC f = lC g) (e : Bool) (m : In3) (lo hi : Bool) : f e m lo hi = g e m lo hi :=
 aB (aB (aB (aB h e (aE e)) m (xP m)) lo (aE lo)) hi (aE hi)
theorem TZ (L F : List FV) (s : Nat -> Sy) (P : FV -> Prop) : (lC λ e m lo hi => (mR L F s e m lo hi).AllP P) =
  lC λ e m lo hi => lB (aV 2 (wK L F s e m lo hi)) (z6 L F (rH L F s e m lo hi) (aV (V4 e m) (pF (mR L F s e m lo hi))) /\ lB ((wK L F s e m lo hi).drop 2) (P (.lst (pF (mR L F s e m lo hi))))) := by kernel_rfl
theorem GG (L F : List FV) (s : Nat -> Sy) : (aQ.all λ e => pB.all λ m => aQ.all λ lo => aQ.all λ hi => all2 cC (pF (mR L F s e m lo hi)) (c0 e m lo hi)) = true := by kernel_rfl
theorem CI (L F : List FV) (s : Nat -> Sy) (e : Bool) (m : In3) (lo hi : Bool) (fs : List FV) (b : Bnd) : tsW (rH L F s e m lo hi) (put (vsW L) 63 (.f (dB b))) [.flist fs] = .ret (aH b, [.flist fs]) := by
 cases b with
 | cmp p o v led =>
  cases o
  all_goals
   rcases v with l | ⟨t, q⟩
   ·cases l <;> kernel_rfl
   ·cases q <;> kernel_rfl
 | inb1 p v led => kernel_rfl
 | inb2 p v u led => kernel_rfl
section
variable {w : World} {h₀ : Heap} {mg mb : Str -> Option Value}
noncomputable def QQ (l : List Bnd) : Nat -> Sy := λ i => match i with
 | 0 => sL (lkB .r .eq l)
 | 1 => sL (lkB .r .inn l)
 | 2 => sL (lkB .r .lo (l.filter aH))
 | _ => sL (lkB .r .hi (l.filter aH))
theorem f9 (X : Amb w h₀ mg mb) {l : List Bnd} {L : List FV} {f : Fit} {k : OpK} {v : FV} (hL : l.map dB = L) (hv : fH (lkB (gI f) k l) = v) : Con (cx0 w h₀ mg mb) 42 725 [.lst L, iS f, .tup (f4 k)] (.ret v) := by
 subst hv; subst hL
 exact (JX X l f k).le (by decide)
theorem EL (ct : Ctr) (L : List FV) (fs : List FV) (b : Bnd) : elW ct (put (vsW L) 63 (.f (dB b))) [.flist fs] = .ret (.f (dB b), [.flist fs]) := by
 kernel_rfl
theorem HO {l : List Bnd} {L F : List FV} (hL : l.map dB = L) (hF : (l.filter aH).map dB = F) (s : Nat -> Sy) (e : Bool) (m : In3) (lo hi : Bool) (fs : List FV) : z6 L F (rH L F s e m lo hi) fs := by
 subst hF
 refine ⟨(l.filter aH).map dB, λ P hP => aF.r (aF.ret ?_ hP), rfl⟩
 have z := fP (f := dB) (g := aH) (λ b => CI L ((l.filter aH).map dB) s e m lo hi fs b) (λ b => EL (rH L ((l.filter aH).map dB) s e m lo hi) L fs b) l
 rw [hL] at z
 exact z
theorem JW (X : Amb w h₀ mg mb) (l : List Bnd) : ∃ ps, all2 cC ps (c0 (lkB .r .eq l).isSome (in3 (lkB .r .inn l)) (lkB .r .lo (l.filter aH)).isSome (lkB .r .hi (l.filter aH)).isSome) = true /\ Con (cx0 w h₀ mg mb) 83 758 [a8, bL l] (.ret (.lst ps)) := by
 obtain ⟨L, hL⟩ : ∃ L, l.map dB = L := ⟨_, rfl⟩
 obtain ⟨F, hF⟩ : ∃ F, (l.filter aH).map dB = F := ⟨_, rfl⟩
 obtain ⟨s, hs⟩ : ∃ s, QQ l = s := ⟨_, rfl⟩
 obtain ⟨e, he⟩ : ∃ e, (lkB .r .eq l).isSome = e := ⟨_, rfl⟩
 obtain ⟨m, hm⟩ : ∃ m, in3 (lkB .r .inn l) = m := ⟨_, rfl⟩
 obtain ⟨lo, hlo⟩ : ∃ lo, (lkB .r .lo (l.filter aH)).isSome = lo := ⟨_, rfl⟩
 obtain ⟨hi, hhi⟩ : ∃ hi, (lkB .r .hi (l.filter aH)).isSome = hi := ⟨_, rfl⟩
 have ht := List.all_eq_true.mp (List.all_eq_true.mp (List.all_eq_true.mp (List.all_eq_true.mp (GG L F s) e (aE e)) m (xP m)) lo (aE lo)) hi (aE hi)
 have K : d9 (cx0 w h₀ mg mb) (rH L F s e m lo hi) 42 := by
  refine fF (Nat.le_refl _) (tH X (by decide) λ x hx => ?_) (y4 λ p hp xs t h => ?_)
  ·rcases List.mem_cons.mp hx with rfl | hx
   ·exact f9 (f := .rid) X hL (by subst hs; subst he; exact kK rfl)
   rcases List.mem_cons.mp hx with rfl | hx
   ·exact f9 (f := .rid) X hL (by subst hs; subst hm; exact LD)
   rcases List.mem_cons.mp hx with rfl | hx
   ·exact f9 (f := .rid) X hF (by subst hs; subst hlo; exact kK rfl)
   rcases List.mem_cons.mp hx with rfl | hx
   ·exact f9 (f := .rid) X hF (by subst hs; subst hhi; exact kK rfl)
   cases hx
  ·rw [List.mem_singleton.mp hp] at h ⊢
   obtain ⟨s, rfl, h'⟩ := P5 h
   cases h'
   exact JZ X s
 rw [he, hm, hlo, hhi]
 refine ⟨pF (mR L F s e m lo hi), ht, ?_⟩
 have eL : bL l = .lst L := by rw [← hL]; rfl
 rw [eL]
 refine cM (mk := false) (k := 40) (r := 42) X K λ P hP => rcF.of (rS (TZ L F s P) e m lo hi) (cV ⟨HO hL hF s e m lo hi _, cV hP _⟩ _)
end
def vA (j : Nat) : List Nat := match j with
 | 0 => [105, 110, 100, 101, 120, 32, 105]
 | j + 1 => [105, 110, 100, 101, 120, 32, 105] ++ [32, 101, 113, 117, 97, 108, 115, 32] ++ [49 + j]
def FO (cov : Bool) : List Nat := match cov with
 | true => [32, 99, 111, 118, 101, 114, 105, 110, 103]
 | false => []
inductive Next where
 | done
 | at (lo hi : Bool) (m : In3)
noncomputable def b9 (j : Nat) (x : Next) (cov : Bool) : List (List Nat) := (vA j ++ FO cov) :: match x with
 | .done => []
 | .at lo hi m => rangeT (vA j) lo hi (FO cov) ++ inT (vA j) m (FO cov)
abbrev SyF := Plc -> OpK -> Sy
noncomputable def HM (L : List FV) (s : SyF) (q : Plc) : Next -> Tab
 | .done => []
 | .at lo hi m => [(qK q, 725, [.lst L, iS (.ix q), .tup (f4 .eq)], .non), (qK q + 2, 725, [.lst L, iS (.ix q), .tup (f4 .lo)], xW (s q .lo) lo), (qK q + 3, 725, [.lst L, iS (.ix q), .tup (f4 .hi)], xW (s q .hi) hi), (qK q + 1, 725, [.lst L, iS (.ix q), .tup (f4 .inn)], inR (s q .inn) m)]
noncomputable def sK (L : List FV) (s : SyF) : List Plc -> Nat -> Next -> Tab
 | [], _, _ => []
 | q :: r, j, x => match j with
  | 0 => HM L s q x
  | j + 1 => (qK q, 725, [.lst L, iS (.ix q), .tup (f4 .eq)], xW (s q .eq) true) :: sK L s r j x
def fX (L : List FV) (s : SyF) (ps : List Plc) (c : Nat × Next) (cov : Bool) : T FV := lX (runC tb0 (ctH (sK L s ps c.1 c.2) []) 40 false 772 ([cK ps, a8, .lst L, .bool cov].map .f) [])
def z0 : List Next := aQ.flatMap λ lo => aQ.flatMap λ hi => pB.map λ m => .at lo hi m
theorem HL (lo hi : Bool) (m : In3) : Next.at lo hi m ∈ z0 := List.mem_flatMap.mpr ⟨lo, aE lo, List.mem_flatMap.mpr ⟨hi, aE hi, List.mem_map.mpr ⟨m, xP m, rfl⟩⟩⟩
noncomputable def x0 : Nat -> List (Nat × Next)
 | 0 => []
 | j + 1 => x0 j ++ z0.map λ x => (j, x)
def gE (ps : List Plc) : List (Nat × Next) := (ps.length, .done) :: x0 ps.length
noncomputable abbrev EqI (ps : List Plc) : Prop := ∀ (L : List FV) (s : SyF) (P : FV -> Prop), (aQ.map λ cov => (gE ps).map λ c => (fX L s ps c cov).AllP P) = aQ.map λ cov => (gE ps).map λ c => lB (sK L s ps c.1 c.2) (P (.lst (pF (fX L s ps c cov))))
abbrev UJ (ps : List Plc) : Prop := ∀ (L : List FV) (s : SyF), (aQ.all λ cov => (gE ps).all λ c => all2 cC (pF (fX L s ps c cov)) (b9 c.1 c.2 cov)) = true
noncomputable abbrev iA (cs : List Bool) (ps : List Plc) : Prop := ∀ (L : List FV) (s : SyF) (P : FV -> Prop), ((cs.map λ cov => (gE ps).map λ c => (fX L s ps c cov).AllP P), cs.all λ cov => (gE ps).all λ c => all2 cC (pF (fX L s ps c cov)) (b9 c.1 c.2 cov)) = ((cs.map λ cov => (gE ps).map λ c => lB (sK L s ps c.1 c.2) (P (.lst (pF (fX L s ps c cov))))), true)
abbrev kE (ps : List Plc) : Prop := iA aQ ps
theorem VZ {α : Type} {F H : Bool -> α} {G : Bool -> Bool} (a : ([false].map F, [false].all G) = ([false].map H, true)) (b : ([true].map F, [true].all G) = ([true].map H, true)) : (aQ.map F, aQ.all G) = (aQ.map H, true) := by
 have a1 := congrArg Prod.fst a
 have a2 := congrArg Prod.snd a
 have b1 := congrArg Prod.fst b
 have b2 := congrArg Prod.snd b
 simp only [List.map, List.all, Bool.and_true, List.cons.injEq, and_true] at a1 a2 b1 b2
 simp only [aQ, List.map, List.all, a1, a2, b1, b2, Bool.and_true]
theorem j9 {ps : List Plc} (a : iA [false] ps) (b : iA [true] ps) : kE ps := λ L s P => VZ (a L s P) (b L s P)
theorem PY : kE [.a] := λ L s P => by kernel_rfl
theorem PX : kE [.b] := λ L s P => by kernel_rfl
theorem PW : kE [.c] := λ L s P => by kernel_rfl
theorem FJ : iA [false] [.b, .a] := λ L s P => by kernel_rfl
theorem FI : iA [true] [.b, .a] := λ L s P => by kernel_rfl
theorem J9 : kE [.b, .a] := j9 FJ FI
theorem FG : iA [false] [.c, .b] := λ L s P => by kernel_rfl
theorem FF : iA [true] [.c, .b] := λ L s P => by kernel_rfl
theorem J8 : kE [.c, .b] := j9 FG FF
theorem FL : iA [false] [.a, .r] := λ L s P => by kernel_rfl
theorem FK : iA [true] [.a, .r] := λ L s P => by kernel_rfl
theorem KA : kE [.a, .r] := j9 FL FK
theorem BP : iA [false] [.c, .a, .b] := λ L s P => by kernel_rfl
theorem BO : iA [true] [.c, .a, .b] := λ L s P => by kernel_rfl
theorem FH : kE [.c, .a, .b] := j9 BP BO
def cA : List (List Plc) := [[.a], [.b], [.c], [.b, .a], [.c, .b], [.a, .r], [.c, .a, .b]]
theorem vN {ps : List Plc} (h : ps ∈ cA) : kE ps := by
 simp only [cA, List.mem_cons, List.mem_nil_iff, or_false] at h
 rcases h with rfl | rfl | rfl | rfl | rfl | rfl | rfl
 ·exact PY
 ·exact PX
 ·exact PW
 ·exact J9
 ·exact J8
 ·exact KA
 ·exact FH
theorem PB {ps : List Plc} (h : ps ∈ cA) : EqI ps := λ L s P => congrArg Prod.fst (vN h L s P)
theorem CM {ps : List Plc} (h : ps ∈ cA) : UJ ps := λ L s => congrArg Prod.snd (vN h L s λ _ => True)
noncomputable def aP (l : List Bnd) : List Plc -> Nat
 | [] => 0
 | q :: r => match (lkB q .eq l).isSome with
  | true => aP l r + 1
  | false => 0
noncomputable def aI (l : List Bnd) : List Plc -> Next
 | [] => .done
 | q :: r => match (lkB q .eq l).isSome with
  | true => aI l r
  | false => .at (lkB q .lo l).isSome (lkB q .hi l).isSome (in3 (lkB q .inn l))
theorem m8 {l : List Bnd} {q : Plc} {r : List Plc} (h : (lkB q .eq l).isSome = true) : aI l (q :: r) = aI l r := by
 show (match (lkB q .eq l).isSome with | true => aI l r | false => _) = _
 rw [h]
theorem m9 {l : List Bnd} {q : Plc} {r : List Plc} (h : (lkB q .eq l).isSome = false) : aI l (q :: r) = .at (lkB q .lo l).isSome (lkB q .hi l).isSome (in3 (lkB q .inn l)) := by
 show (match (lkB q .eq l).isSome with | true => aI l r | false => _) = _
 rw [h]
theorem tB {l : List Bnd} {q : Plc} {r : List Plc} (h : (lkB q .eq l).isSome = true) : aP l (q :: r) = aP l r + 1 := by
 show (match (lkB q .eq l).isSome with | true => aP l r + 1 | false => _) = _
 rw [h]
theorem tC {l : List Bnd} {q : Plc} {r : List Plc} (h : (lkB q .eq l).isSome = false) : aP l (q :: r) = 0 := by
 show (match (lkB q .eq l).isSome with | true => aP l r + 1 | false => _) = _
 rw [h]
def syI (l : List Bnd) : SyF := λ q k => sL (lkB q k l)
theorem BM {n j : Nat} {lo hi : Bool} {m : In3} (h : j < n) : (j, Next.at lo hi m) ∈ x0 n := by
 induction n with
 | zero => cases h
 | succ n ih =>
  rcases Nat.lt_succ_iff_lt_or_eq.mp h with h | rfl
  ·exact List.mem_append_left _ (ih h)
  ·exact List.mem_append_right _ (List.mem_map.mpr ⟨_, HL lo hi m, rfl⟩)
theorem zT (l : List Bnd) : ∀ ps : List Plc, (aP l ps = ps.length /\ aI l ps = .done) \/ (aP l ps < ps.length /\ ∃ lo hi m, aI l ps = .at lo hi m)
 | [] => .inl ⟨rfl, rfl⟩
 | q :: r => by
  cases h : (lkB q .eq l).isSome with
  | true =>
   have e1 : aP l (q :: r) = aP l r + 1 := tB h
   have e2 : aI l (q :: r) = aI l r := m8 h
   rw [e1, e2, List.length_cons]
   rcases zT l r with ⟨a, b⟩ | ⟨a, b⟩
   ·exact .inl ⟨by rw [a], b⟩
   ·exact .inr ⟨by omega, b⟩
  | false =>
   have e1 : aP l (q :: r) = 0 := tC h
   have e2 : aI l (q :: r) = .at (lkB q .lo l).isSome (lkB q .hi l).isSome (in3 (lkB q .inn l)) := m9 h
   rw [e1, e2, List.length_cons]
   exact .inr ⟨Nat.succ_pos _, _, _, _, rfl⟩
theorem zU (l : List Bnd) (ps : List Plc) : (aP l ps, aI l ps) ∈ gE ps := by
 rcases zT l ps with ⟨a, b⟩ | ⟨a, lo, hi, m, b⟩
 ·rw [a, b]; exact .head _
 ·rw [b]; exact .tail _ (BM a)
section
variable {w : World} {h₀ : Heap} {mg mb : Str -> Option Value}
theorem uG (X : Amb w h₀ mg mb) {l : List Bnd} {L : List FV} (hL : l.map dB = L) : ∀ ps : List Plc, ∀ e ∈ sK L (syI l) ps (aP l ps) (aI l ps), Con (cx0 w h₀ mg mb) 42 e.2.1 e.2.2.1 (.ret e.2.2.2)
 | [], e, he => by cases he
 | q :: r, e, he => by
  cases h : (lkB q .eq l).isSome with
  | true =>
   have e1 : aP l (q :: r) = aP l r + 1 := tB h
   have e2 : aI l (q :: r) = aI l r := m8 h
   rw [e1, e2] at he
   rcases List.mem_cons.mp he with rfl | he
   ·exact f9 (f := .ix q) X hL (by rw [← h]; exact kK rfl)
   ·exact uG X hL r e he
  | false =>
   have e1 : aP l (q :: r) = 0 := tC h
   have e2 : aI l (q :: r) = .at (lkB q .lo l).isSome (lkB q .hi l).isSome (in3 (lkB q .inn l)) := m9 h
   rw [e1, e2] at he
   rcases List.mem_cons.mp he with rfl | he
   ·refine f9 (f := .ix q) X hL ?_
    show fH (lkB q .eq l) = .non
    rw [Option.isSome_eq_false_iff, Option.isNone_iff_eq_none] at h
    rw [h]; rfl
   rcases List.mem_cons.mp he with rfl | he
   ·exact f9 (f := .ix q) X hL (kK rfl)
   rcases List.mem_cons.mp he with rfl | he
   ·exact f9 (f := .ix q) X hL (kK rfl)
   rcases List.mem_cons.mp he with rfl | he
   ·exact f9 (f := .ix q) X hL LD
   cases he
theorem AM {L : List FV} {s : SyF} {ps : List Plc} {c : Nat × Next} {cov : Bool} {P : FV -> Prop} {p : Prop} (z : (fX L s ps c cov).AllP P = p) (h : p) : rcF (ctH (sK L s ps c.1 c.2) []) 40 false 772 [cK ps, a8, .lst L, .bool cov] P := by
 unfold fX at z
 exact rcF.of z h
theorem JV (X : Amb w h₀ mg mb) (l : List Bnd) {ps : List Plc} (hp : ps ∈ cA) (cov : Bool) : ∃ qs, all2 cC qs (b9 (aP l ps) (aI l ps) cov) = true /\ Con (cx0 w h₀ mg mb) 83 772 [cK ps, a8, bL l, .bool cov] (.ret (.lst qs)) := by
 obtain ⟨L, hL⟩ : ∃ L, l.map dB = L := ⟨_, rfl⟩
 have hc := zU l ps
 have hK := uG X hL ps
 have e1 : b9 (aP l ps) (aI l ps) cov = b9 (aP l ps, aI l ps).1 (aP l ps, aI l ps).2 cov := rfl
 have e2 : sK L (syI l) ps (aP l ps) (aI l ps) = sK L (syI l) ps (aP l ps, aI l ps).1 (aP l ps, aI l ps).2 := rfl
 rw [e1]
 rw [e2] at hK
 generalize (aP l ps, aI l ps) = c at hc hK ⊢
 have ht := List.all_eq_true.mp (List.all_eq_true.mp (CM hp L (syI l)) cov (aE cov)) c hc
 have K : d9 (cx0 w h₀ mg mb) (ctH (sK L (syI l) ps c.1 c.2) []) 42 := tH X (by decide) hK
 refine ⟨pF (fX L (syI l) ps c cov), ht, ?_⟩
 have eL : bL l = .lst L := by rw [← hL]; rfl
 rw [eL]
 refine cM (mk := false) (k := 40) (r := 42) X K λ P hP => ?_
 have z := aB (aB (PB hp L (syI l) P) cov (aE cov)) c hc
 exact AM z (cV hP _)
end
def NX (n : Bool) (xs : List FV) : Option Bool := match xs with
 | [] => some false
 | [.int j] => match decide (j = sN (!n)) with
  | true => some true
  | false => none
 | _ => none
def dH (ts : List FV) : FV := .node 815 [(178, .idct []), (179, .lst ts)]
def a7 (cs : List Cond) (n pl : Bool) : List Bnd := cs.flatMap λ c => onB (cG (fN c) n pl) (bN c n)
theorem aY {α : Type} {b : Bool} {l : List α} {k : Nat} (h : l.length <= k) : (onB b l).length <= k := by
 cases b
 ·exact Nat.zero_le _
 ·exact h
theorem m4 {α : Type} {b : Bool} {l : List α} {k : Nat} (h : l.length <= k) : (e9 b l).length <= k := by
 cases b
 ·exact h
 ·exact Nat.zero_le _
theorem zY {α : Type} {a b : List α} (ha : a.length <= 1) (hb : b.length <= 1) : (a ++ b).length <= 2 := by rw [List.length_append]; omega
theorem sU (r : Option Bnd) : (ob r).length <= 1 := by cases r <;> simp [ob]
theorem vS (o : Op) (l r : Side) (n : Bool) : (vT o l r n).length <= 2 := by
 unfold vT
 split
 ·exact Nat.zero_le _
 ·exact zY (aY (aY (sU _))) (aY (aY (sU _)))
theorem hU (c : Cond) (n : Bool) : (bN c n).length <= 2 := by
 cases c with
 | btw s p lo hi neg => exact m4 (aY (zY (aY (sU _)) (aY (sU _))))
 | in1 s p x neg => exact m4 (aY (aY (by simp)))
 | in2 s p x y neg => exact m4 (aY (aY (aY (by simp))))
 | ors o s p => exact Nat.zero_le _
 | litl o s p => exact vS ..
 | bin o s p v => exact vS ..
noncomputable def WG (xs : List FV) : Option FV := match xs with
 | [.dom (.term c _), .int i, .lst p] => match rM i with
  | some n => match NX n p with
   | some b => some (.bool (cG (fN c) n b))
   | none => none
  | none => none
 | _ => none
def WE (xs : List FV) : Option FV := match xs with
 | [.dom (.term c _), .int i] => match rM i with
  | some n => some (bL (bN c n))
  | none => none
 | _ => none
def ctR (c : Cx) : Ctr := eV ct0 (AS c 83 [(623, WG), (661, WE)])
def y8 : List IStmt := match bH.body with
 | [_, _, _, .for1 _ _ b, _] => b
 | _ => []
def rbT : IExpr := match y8 with
 | [.ite t _ _, _] => t
 | _ => .wall
def rbA : IStmt := match y8 with
 | [.ite _ [a] _, _] => a
 | _ => .retn
def rbG : IStmt := match y8 with
 | [_, g] => g
 | _ => .retn
section
variable (c : Cx) (self L : FV) (n pl : Bool) (acc : List FV) (x : Cond)
abbrev vsR : Vs := [(171, .f self), (34, .f (.int (sN n))), (143, .f (plV n pl)), (179, .f L), (14, .f (.lst acc))]
def bdR : FV -> Vs -> Hp -> T (Fl × Vs × Hp) := λ v vs H => (lvl tb0 (ctR c) 40).b 0 y8 (put vs 67 (.f v)) H
theorem U4 (Q : Bool × Hp -> Prop) : ((lvl tb0 (ctR c) 39).t rbT (vsR self L n pl acc ++ [(67, .f (dT x))]) []).AllP Q = (Con c 83 623 [dT x, .int (sN n), plV n pl] (.ret (.bool (cG (fN x) n pl))) /\ Q (cG (fN x) n pl, [])) := by
 cases n <;> cases pl <;> kernel_rfl
theorem U5 (Q : Fl × Vs × Hp -> Prop) : (sF tb0 (ctR c) 38 0 rbA (vsR self L n pl acc ++ [(67, .f (dT x))]) []).AllP Q = (Con c 83 661 [dT x, .int (sN n)] (.ret (bL (bN x n))) /\ (acc ++ (bN x n).map dB).length <= 1000 ∧
  Q (.next, vsR self L n pl (acc ++ (bN x n).map dB) ++ [(67, .f (dT x))], [.fz (.lst (acc ++ (bN x n).map dB))])) := by
 cases n <;> kernel_rfl
theorem RH (H : Hp) : sF tb0 (ctR c) 39 0 rbG (vsR self L n pl acc ++ [(67, .f (dT x))]) H = .ret (.next, vsR self L n pl acc, []) := by kernel_rfl
end
section
variable {w : World} {h₀ : Heap} {mg mb : Str -> Option Value}
theorem HE (X : Amb w h₀ mg mb) (self L : FV) (n pl : Bool) (acc : List FV) (x : Cond) (Q : Fl × Vs × Hp -> Prop) (hl : acc.length <= 900) (h : Q (.next, vsR self L n pl (acc ++ (onB (cG (fN x) n pl) (bN x n)).map dB), [])) : aF (bdR (cx0 w h₀ mg mb) (dT x) (vsR self L n pl acc) []) Q := by
 have hb := hU x n
 refine ⟨bF.r (show bF tb0 (ctR (cx0 w h₀ mg mb)) 40 0 [.ite rbT [rbA] [], rbG] (vsR self L n pl acc ++ [(67, .f (dT x))]) [] Q from w_ite (n := 39) (aF.of (U4 ..) ⟨J2 X x n pl, ?_⟩))⟩
 cases q : cG (fN x) n pl with
 | true =>
  rw [q] at h
  refine cB (n := 38) (aF.of (U5 ..) ⟨J0 X x n, by rw [List.length_append, List.length_map]; omega, ?_⟩)
  exact p7 (n := 38) (i3 (n := 39) _ _ (RH ..) (p7 h))
 | false =>
  rw [q] at h
  have h' : Q (.next, vsR self L n pl (acc ++ []), []) := h
  rw [List.append_nil] at h'
  exact p7 (n := 38) (i3 (n := 39) _ _ (RH ..) (p7 h'))
theorem y7 (X : Amb w h₀ mg mb) (self L : FV) (n pl : Bool) (P : FV -> Prop) : ∀ (cs : List Cond) (acc : List FV), acc.length + 2 * cs.length <= 900 -> P (.lst (acc ++ (a7 cs n pl).map dB)) ->
  foF (bdR (cx0 w h₀ mg mb)) (cs.map dT) (vsR self L n pl acc) [] (lZ (λ vs H => bF tb0 (ctR (cx0 w h₀ mg mb)) 41 0 [.ret (.var 14)] vs H (e8 (dF P))) (e8 (dF P)))
 | [], acc, _, h => by
  have h' : P (.lst (acc ++ [])) := h
  rw [List.append_nil] at h'
  exact rX (iU (n := 40) (.f (.lst acc)) (vsR self L n pl acc) [] (by kernel_rfl) h')
 | x :: cs, acc, hl, h => by
  rw [List.length_cons] at hl
  refine rY (HE X self L n pl acc x _ (by omega) (y7 X self L n pl P cs _ ?_ ?_))
  ·have : (onB (cG (fN x) n pl) (bN x n)).length <= 2 := aY (hU x n)
   rw [List.length_append, List.length_map]; omega
  ·rw [List.append_assoc, ← List.map_append]
   exact h
theorem U6 (c : Cx) (ts : List FV) (n pl : Bool) : sF tb0 (ctR c) 40 0 (.asg 179 (.ite (.cmp .In (.var 34) (.attr (.var 171) 178)) (.sub (.attr (.var 171) 178) (.var 34)) (.attr (.var 171) 179))) [(171, .f (dH ts)), (34, .f (.int (sN n))), (143, .f (plV n pl))] [] = .ret (.next, [(171, .f (dH ts)), (34, .f (.int (sN n))), (143, .f (plV n pl)), (179, .f (.lst ts))], []) := by kernel_rfl
theorem JU (X : Amb w h₀ mg mb) (cs : List Cond) (n pl : Bool) (hl : cs.length <= 4) : Con (cx0 w h₀ mg mb) 126 798 [dH (cs.map dT), .int (sN n), plV n pl] (.ret (bL (a7 cs n pl))) := by
 refine cM (ct := ctR (cx0 w h₀ mg mb)) (mk := false) (k := 42) (r := 83) X (fF (by decide) X.ct0 mB) λ P hP => .ofC ?_
 refine gL bH [(171, .f (dH (cs.map dT))), (34, .f (.int (sN n))), (143, .f (plV n pl))] (by kernel_rfl) (by kernel_rfl) (by kernel_rfl) ?_
 refine i3 (n := 40) _ _ (U6 ..) ?_
 refine i3 (n := 40) (vsR (dH (cs.map dT)) (.lst (cs.map dT)) n pl []) [.fz (.lst [])] (by kernel_rfl) ?_
 refine i3 (n := 40) (vsR (dH (cs.map dT)) (.lst (cs.map dT)) n pl []) [] (by kernel_rfl) ?_
 refine B2 (n := 40) (.f (.lst (cs.map dT))) (cs.map dT) [] (by kernel_rfl) (by kernel_rfl) ?_
 exact y7 X _ _ n pl P cs [] (by simp; omega) hP
end
def PE : List IStmt := match kX.body with
 | [_, _, .for1 _ _ b, _] => b
 | _ => []
def KX : FV := .sdct [([61], .str [61]), ([60], .str [62]), ([60, 61], .str [62, 61]), ([62], .str [60]), ([62, 61], .str [60, 61])]
abbrev vsD (L : FV) (n pl : Bool) : Vs := [(142, .f L), (34, .f (.int (sN n))), (143, .f (plV n pl)), (141, .f KX), (14, .ref 0)]
noncomputable def UT (xs : List FV) : Option FV := match xs with
 | [.dom (.side a), .str cs, .dom (.side v), .int i] => match rM i with
  | some n => some (IU (j2 a (VA cs) v n))
  | none => none
 | _ => none
def UP (xs : List FV) : Option FV := match xs with
 | [.dom (.side a)] => some (.dom (.row a))
 | _ => none
def RG (s : Side) : Nat := match s with
 | .lit _ => 87
 | .col _ _ => 113
abbrev UU (c : Cx) (s : Side) : Prop := Con c 83 (RG s) [dS s] (.ret (.dom (.row s)))
abbrev WH (c : Cx) (a : Side) (o : Op) (v : Side) (n : Bool) : Prop := Con c 83 1016 [dS a, .str (opS o), dS v, .int (sN n)] (.ret (IU (j2 a o v n)))
theorem SH : (aT.map λ s => eK ct0 40 false (RG s) [dS s]) = aT.map λ s => some (unf tb0 9 (.dom (.row s))) := by kernel_rfl
def EU (c : Cx) : Ctr := eV ct0 (AS c 83 [(1016, UT), (87, UP), (113, UP)])
def bdD (c : Cx) : FV -> Vs -> Hp -> T (Fl × Vs × Hp) := λ v vs H => (lvl tb0 (EU c) 40).b 0 PE (put vs 3 (.f v)) H
noncomputable def wD (c : Cx) (n : Bool) : List (Side × Op × Side) -> List FV -> (List FV -> Prop) -> Prop
 | [], acc, Q => Q acc
 | e :: r, acc, Q => WH c e.1 e.2.1 e.2.2 n /\ (acc ++ g8 (j2 e.1 e.2.1 e.2.2 n)).length <= 1000 /\ wD c n r (acc ++ g8 (j2 e.1 e.2.1 e.2.2 n)) Q
def nxD (L : FV) (n pl : Bool) (Q : Fl × Vs × Hp -> Prop) (xs : List FV) : Prop := Q (.next, vsD L n pl, [.flist xs])
def vF (C : Cx) (c : Cond) (n pl : Bool) (L : FV) (xs : List FV) (Q : Fl × Vs × Hp -> Prop) : Prop := (bdD C (dC c) (vsD L n pl) [.flist xs]).AllP Q
noncomputable def xT (c : Cond) (n pl : Bool) (L : FV) (xs : List FV) (Q : Fl × Vs × Hp -> Prop) (rhs : Prop) : Prop := match cG (fN c) n pl with
 | true => rhs
 | false => Q (.cont, vsD L n pl, [.flist xs])
def lU (C : Cx) (c : Cond) (n pl : Bool) (L : FV) (xs : List FV) (Q : Fl × Vs × Hp -> Prop) (rhs : Prop) : Prop := vF C c n pl L xs Q = xT c n pl L xs Q rhs
def inD (p : Plc) (rows : List FV) : FV := .tup [.int (pN p), .str sIn, .tup rows, s6 (gG p)]
noncomputable def P3 (C : Cx) : List Side -> Prop -> Prop
 | [], Q => Q
 | x :: r, Q => UU C x /\ P3 C r Q
def w9 (C : Cx) (on : Bool) (v : FV) (rs : List Side) (xs : List FV) (Q : List FV -> Prop) : Prop := match on with
 | true => P3 C rs (xs.length <= 1000 /\ Q (xs ++ [v]))
 | false => Q xs
section
variable (C : Cx) (L : FV) (xs : List FV) (Q : Fl × Vs × Hp -> Prop)
def UM (s : Bool) (p : Plc) (lo hi : Side) (neg n pl : Bool) : Prop := xT (.btw s p lo hi neg) n pl L xs Q (wD C n (e9 neg [(.col s p, .ge, lo), (.col s p, .le, hi)]) xs (nxD L n pl Q))
theorem PH (p : Plc) (l l' : Lit) (q q' : Plc) : (on3 λ s n pl => aQ.map λ neg => bV.map λ k => bV.map λ k' => vF C (.btw s p (sdK l q k) (sdK l' q' k') neg) n pl L xs Q) =
  on3 λ s n pl => aQ.map λ neg => bV.map λ k => bV.map λ k' => UM C L xs Q s p (sdK l q k) (sdK l' q' k') neg n pl := by kernel_rfl
theorem IS (s : Bool) (p : Plc) (lo hi : Side) (neg n pl : Bool) : lU C (.btw s p lo hi neg) n pl L xs Q (wD C n (e9 neg [(.col s p, .ge, lo), (.col s p, .le, hi)]) xs (nxD L n pl Q)) := by
 obtain ⟨l, q, k, rfl⟩ := bA lo
 obtain ⟨l', q', k', rfl⟩ := bA hi
 exact aB (aB (aB (d8 (PH C L xs Q p l l' q q') s n pl) neg (aE neg)) k (b8 k)) k' (b8 k')
def UL (s : Bool) (p : Plc) (x : Side) (neg n pl : Bool) : Prop := xT (.in1 s p x neg) n pl L xs Q (w9 C (!neg && s == n && aK x n) (inD p [iQ x]) [x] xs (nxD L n pl Q))
theorem PG (l : Lit) (q : Plc) : (on3 λ s n pl => aQ.map λ neg => aU.map λ p => bV.map λ k => vF C (.in1 s p (sdK l q k) neg) n pl L xs Q) =
  on3 λ s n pl => aQ.map λ neg => aU.map λ p => bV.map λ k => UL C L xs Q s p (sdK l q k) neg n pl := by kernel_rfl
theorem IQ (s : Bool) (p : Plc) (x : Side) (neg n pl : Bool) : lU C (.in1 s p x neg) n pl L xs Q (w9 C (!neg && s == n && aK x n) (inD p [iQ x]) [x] xs (nxD L n pl Q)) := by
 obtain ⟨l, q, k, rfl⟩ := bA x
 exact aB (aB (aB (d8 (PG C L xs Q l q) s n pl) neg (aE neg)) p (cX p)) k (b8 k)
noncomputable def UK (s : Bool) (p : Plc) (x y : Side) (neg n pl : Bool) : Prop := xT (.in2 s p x y neg) n pl L xs Q (w9 C (!neg && s == n && aK x n && aK y n) (inD p [iQ x, iQ y]) [x, y] xs (nxD L n pl Q))
theorem PF (l l' : Lit) (q q' : Plc) : (on3 λ s n pl => aQ.map λ neg => aU.map λ p => bV.map λ k => bV.map λ k' => vF C (.in2 s p (sdK l q k) (sdK l' q' k') neg) n pl L xs Q) =
  on3 λ s n pl => aQ.map λ neg => aU.map λ p => bV.map λ k => bV.map λ k' => UK C L xs Q s p (sdK l q k) (sdK l' q' k') neg n pl := by kernel_rfl
theorem IP (s : Bool) (p : Plc) (x y : Side) (neg n pl : Bool) : lU C (.in2 s p x y neg) n pl L xs Q (w9 C (!neg && s == n && aK x n && aK y n) (inD p [iQ x, iQ y]) [x, y] xs (nxD L n pl Q)) := by
 obtain ⟨l, q, k, rfl⟩ := bA x
 obtain ⟨l', q', k', rfl⟩ := bA y
 exact aB (aB (aB (aB (d8 (PF C L xs Q l l' q q') s n pl) neg (aE neg)) p (cX p)) k (b8 k)) k' (b8 k')
theorem T2 (o : Op) (p : Plc) : (on3 λ s n pl => vF C (.ors o s p) n pl L xs Q) = on3 λ s n pl => xT (.ors o s p) n pl L xs Q (nxD L n pl Q xs) := by kernel_rfl
theorem PD (o : Op) (s : Bool) (p : Plc) (n pl : Bool) : lU C (.ors o s p) n pl L xs Q (nxD L n pl Q xs) := d8 (T2 C L xs Q o p) s n pl
def KB (o : Op) (l r : Side) : List (Side × Op × Side) := match o with
 | .ne => []
 | _ => [(l, o, r), (r, turn o, l)]
def LS (c : Cond) (o : Op) (l r : Side) (n pl : Bool) : Prop := xT c n pl L xs Q (wD C n (KB o l r) xs (nxD L n pl Q))
theorem IV (p : Plc) : (on3 λ s n pl => bI.map λ o => vF C (.litl o s p) n pl L xs Q) = on3 λ s n pl => bI.map λ o => LS C L xs Q (.litl o s p) o (.lit .i1) (.col s p) n pl := by kernel_rfl
theorem EN (o : Op) (s : Bool) (p : Plc) (n pl : Bool) : lU C (.litl o s p) n pl L xs Q (wD C n (KB o (.lit .i1) (.col s p)) xs (nxD L n pl Q)) := aB (d8 (IV C L xs Q p) s n pl) o (gW o)
theorem PJ (p : Plc) (l : Lit) (q : Plc) : (on3 λ s n pl => bI.map λ o => bV.map λ k => vF C (.bin o s p (sdK l q k)) n pl L xs Q) =
  on3 λ s n pl => bI.map λ o => bV.map λ k => LS C L xs Q (.bin o s p (sdK l q k)) o (.col s p) (sdK l q k) n pl := by kernel_rfl
theorem IT (o : Op) (s : Bool) (p : Plc) (v : Side) (n pl : Bool) : lU C (.bin o s p v) n pl L xs Q (wD C n (KB o (.col s p) v) xs (nxD L n pl Q)) := by
 obtain ⟨l, q, k, rfl⟩ := bA v
 exact aB (aB (d8 (PJ C L xs Q p l q) s n pl) o (gW o)) k (b8 k)
end
section
variable {w : World} {h₀ : Heap} {mg mb : Str -> Option Value}
def lP (n : Bool) (ls : List (Side × Op × Side)) : List FV := ls.flatMap λ e => g8 (j2 e.1 e.2.1 e.2.2 n)
theorem z4 (X : Amb w h₀ mg mb) {n : Bool} {Q : List FV -> Prop} : ∀ {ls : List (Side × Op × Side)} {acc : List FV}, (acc ++ lP n ls).length <= 1000 -> Q (acc ++ lP n ls) -> wD (cx0 w h₀ mg mb) n ls acc Q
 | [], acc, _, h => by
  rw [show lP n [] = [] from rfl, List.append_nil] at h
  exact h
 | e :: r, acc, hl, h => by
  have e' : lP n (e :: r) = g8 (j2 e.1 e.2.1 e.2.2 n) ++ lP n r := rfl
  rw [e', ← List.append_assoc] at h hl
  refine ⟨E0 X _ _ _ n, ?_, z4 X hl h⟩
  rw [List.length_append] at hl
  omega
theorem JQ (X : Amb w h₀ mg mb) (s : Side) : UU (cx0 w h₀ mg mb) s := (dJ X (aB SH s (dN s))).le (by decide)
theorem zX (X : Amb w h₀ mg mb) {Q : Prop} (h : Q) : ∀ rs : List Side, P3 (cx0 w h₀ mg mb) rs Q
 | [] => h
 | x :: r => ⟨JQ X x, zX X h r⟩
end
theorem kP (s : Bool) (p : Plc) (o : Op) (v : Side) (n : Bool) : g8 (j2 (.col s p) o v n) = (onB (fG (.col s p) n) (onB (aK v n) (ob (bS p o v)))).map bM := by
 unfold j2 aK
 show g8 (match s == n with | true => _ | false => _) = (onB (s == n) _).map bM
 cases s == n
 ·rfl
 ·cases fG v n
  ·cases bS p o v <;> rfl
  ·rfl
theorem nX (l : Side) (o : Op) (v : Side) (n : Bool) : g8 (j2 l o v n) = (onB (fG l n) (onB (aK v n) (ob (J4 l o v)))).map bM := by
 cases l with
 | lit l => rfl
 | col s p => exact kP ..
theorem LL (a b a' b' : Side) (o o' : Op) (n : Bool) : lP n [(a, o, b), (a', o', b')] = g8 (j2 a o b n) ++ g8 (j2 a' o' b' n) := congrArg (g8 (j2 a o b n) ++ ·) (List.append_nil _)
theorem rN (o : Op) (l r : Side) (n : Bool) : lP n (KB o l r) = (vT o l r n).map bM := by
 cases o <;> first | rfl | (refine (LL ..).trans ?_; rw [nX, nX, ← List.map_append]; rfl)
noncomputable def DB (c : Cond) (n : Bool) : List FV := match c with
 | .in1 s p x neg => onB (!neg && s == n && aK x n) [inD p [iQ x]]
 | .in2 s p x y neg => onB (!neg && s == n && aK x n && aK y n) [inD p [iQ x, iQ y]]
 | c => (bN c n).map bM
def sS (c : Cond) (n pl : Bool) : List FV := onB (cG (fN c) n pl) (DB c n)
theorem uP (c : Cond) (n : Bool) : (DB c n).length <= 2 := by
 have h : ∀ c, ((bN c n).map bM).length <= 2 := λ c => by rw [List.length_map]; exact hU c n
 cases c with
 | in1 s p x neg => exact aY (by simp)
 | in2 s p x y neg => exact aY (by simp)
 | _ => exact h _
def DF (P : Vs × Hp -> Prop) (z : Fl × Vs × Hp) : Prop := match z.1 with
 | .next => P z.2
 | .cont => P z.2
 | _ => False
section
variable {w : World} {h₀ : Heap} {mg mb : Str -> Option Value}
theorem HF (X : Amb w h₀ mg mb) {on : Bool} {v : FV} {rs : List Side} {xs : List FV} {Q : List FV -> Prop} (hl : xs.length <= 1000) (h : Q (xs ++ onB on [v])) : w9 (cx0 w h₀ mg mb) on v rs xs Q := by
 cases on
 ·simpa [onB, w9] using h
 ·exact zX X ⟨hl, h⟩ rs
theorem EM (X : Amb w h₀ mg mb) (c : Cond) (n pl : Bool) (L : FV) (xs : List FV) (P : Vs × Hp -> Prop) (hl : xs.length <= 900) (h : P (vsD L n pl, [.flist (xs ++ sS c n pl)])) : aF (bdD (cx0 w h₀ mg mb) (dC c) (vsD L n pl) [.flist xs]) (DF P) := by
 have nxt : ∀ ls, lP n ls = DB c n -> cG (fN c) n pl = true -> wD (cx0 w h₀ mg mb) n ls xs (nxD L n pl (DF P)) := λ ls e q => by
  have := uP c n
  refine z4 X (by rw [e, List.length_append]; omega) ?_
  rw [e]
  unfold sS at h
  rw [q] at h
  exact h
 have put : ∀ on v rs, onB on [v] = DB c n -> cG (fN c) n pl = true -> w9 (cx0 w h₀ mg mb) on v rs xs (nxD L n pl (DF P)) := λ on v rs e q => by
  refine HF X (by omega) ?_
  rw [e]
  unfold sS at h
  rw [q] at h
  exact h
 have skip : cG (fN c) n pl = false -> P (vsD L n pl, [.flist xs]) := λ q => by
  unfold sS at h
  rw [q] at h
  simpa [onB] using h
 have go : ∀ rhs : Prop, lU (cx0 w h₀ mg mb) c n pl L xs (DF P) rhs -> (cG (fN c) n pl = true -> rhs) -> aF (bdD (cx0 w h₀ mg mb) (dC c) (vsD L n pl) [.flist xs]) (DF P) := λ rhs e k => by
  unfold lU vF xT at e
  refine aF.of e ?_
  cases q : cG (fN c) n pl with
  | true => exact k q
  | false => exact skip q
 cases c with
 | btw s p lo hi neg =>
  refine go _ (IS ..) (nxt _ ?_)
  cases neg
  ·refine (LL ..).trans ?_
   show _ = (onB _ (_ ++ _)).map bM
   rw [kP, kP, ← List.map_append]
   cases fG (.col s p) n <;> rfl
  ·rfl
 | in1 s p x neg => exact go _ (IQ ..) (put _ _ _ rfl)
 | in2 s p x y neg => exact go _ (IP ..) (put _ _ _ rfl)
 | ors o s p => exact go _ (PD ..) λ q => nxt [] rfl q
 | litl o s p => exact go _ (EN ..) (nxt _ (rN ..))
 | bin o s p v => exact go _ (IT ..) (nxt _ (rN ..))
end
def eJ (cs : List Cond) (n pl : Bool) : List FV := cs.flatMap λ c => sS c n pl
section
variable {w : World} {h₀ : Heap} {mg mb : Str -> Option Value}
theorem vE (X : Amb w h₀ mg mb) (n pl : Bool) (L : FV) (P : Fl × Vs × Hp -> Prop) : ∀ (cs : List Cond) (acc : List FV), acc.length + 2 * cs.length <= 900 -> P (.next, vsD L n pl, [.flist (acc ++ eJ cs n pl)]) -> foF (bdD (cx0 w h₀ mg mb)) (cs.map dC) (vsD L n pl) [.flist acc] P
 | [], acc, _, h => by
  have h' : P (.next, vsD L n pl, [.flist (acc ++ [])]) := h
  rw [List.append_nil] at h'
  exact rX h'
 | c :: cs, acc, hl, h => by
  rw [List.length_cons] at hl
  refine rY (aF.mono (λ z hz => ?_) (EM X c n pl L acc (λ z => foF (bdD (cx0 w h₀ mg mb)) (cs.map dC) z.1 z.2 P) (by omega) ?_))
  ·obtain ⟨f, vs, H⟩ := z
   cases f with
   | next => exact hz
   | cont => exact hz
   | brk => exact False.elim hz
   | ret _ => exact False.elim hz
  ·refine vE X n pl L P cs _ ?_ ?_
   ·have : (sS c n pl).length <= 2 := aY (uP c n)
    rw [List.length_append]; omega
   ·have e : eJ (c :: cs) n pl = sS c n pl ++ eJ cs n pl := rfl
    rw [e, ← List.append_assoc] at h
    exact h
theorem IO (X : Amb w h₀ mg mb) (cs : List Cond) (n pl : Bool) (hl : cs.length <= 4) (P : FV -> Prop) (h : P (.lst (eJ cs n pl))) : cF tb0 (EU (cx0 w h₀ mg mb)) 42 1026 ([.lst (cs.map dC), .int (sN n), plV n pl].map .f) [] (dF P) := by
 refine gL kX [(142, .f (.lst (cs.map dC))), (34, .f (.int (sN n))), (143, .f (plV n pl))] (by kernel_rfl) (by kernel_rfl) (by kernel_rfl) ?_
 refine i3 (n := 40) [(142, .f (.lst (cs.map dC))), (34, .f (.int (sN n))), (143, .f (plV n pl)), (141, .f KX), (14, .ref 0)] [.flist []] (by kernel_rfl) ?_
 refine i3 (n := 40) (vsD (.lst (cs.map dC)) n pl) [.flist []] (by kernel_rfl) ?_
 refine B2 (n := 40) (.f (.lst (cs.map dC))) (cs.map dC) [.flist []] (by kernel_rfl) (by kernel_rfl) ?_
 refine vE X n pl _ _ cs [] (by simp; omega) ?_
 exact iU (n := 40) (.f (.lst (eJ cs n pl))) (vsD (.lst (cs.map dC)) n pl) [.fz (.lst (eJ cs n pl))] (by kernel_rfl) h
end
section
variable {w : World} {h₀ : Heap} {mg mb : Str -> Option Value}
theorem AP (c : Cond) (n : Bool) : (DB c n).map (unf tb0 1) = (bN c n).map aG := by
 have h : ∀ c, ((bN c n).map bM).map (unf tb0 1) = (bN c n).map aG := λ c => by rw [List.map_map]; rfl
 cases c with
 | in1 s p x neg =>
  show (onB (!neg && s == n && aK x n) [inD p [iQ x]]).map (unf tb0 1) = (e9 neg (onB (s == n) (onB (aK x n) [Bnd.inb1 p x (gG p)]))).map aG
  cases neg <;> cases s == n <;> cases aK x n <;> first | rfl | (show [unf tb0 1 (aG (.inb1 p x (gG p)))] = [aG _]; rw [raw_same])
 | in2 s p x y neg =>
  show (onB (!neg && s == n && aK x n && aK y n) [inD p [iQ x, iQ y]]).map (unf tb0 1) = (e9 neg (onB (s == n) (onB (aK x n) (onB (aK y n) [Bnd.inb2 p x y (gG p)])))).map aG
  cases neg <;> cases s == n <;> cases aK x n <;> cases aK y n <;> first | rfl | (show [unf tb0 1 (aG (.inb2 p x y (gG p)))] = [aG _]; rw [raw_same])
 | _ => exact h _
theorem lG (n pl : Bool) : ∀ cs : List Cond, (eJ cs n pl).map (unf tb0 1) = ((a7 cs n pl).map bM).map (unf tb0 1)
 | [] => rfl
 | c :: cs => by
  have e1 : eJ (c :: cs) n pl = sS c n pl ++ eJ cs n pl := rfl
  have e2 : a7 (c :: cs) n pl = onB (cG (fN c) n pl) (bN c n) ++ a7 cs n pl := rfl
  rw [e1, e2, List.map_append, List.map_append, List.map_append, lG n pl cs]
  congr 1
  unfold sS
  rw [bB, bB, bB, AP, List.map_map]
  rfl
theorem EZ (X : Amb w h₀ mg mb) (cs : List Cond) (n pl : Bool) (hl : cs.length <= 4) : Con (cx0 w h₀ mg mb) 126 1026 [.lst (cs.map dC), .int (sN n), plV n pl] (.ret (.lst ((a7 cs n pl).map bM))) := by
 refine (cM (ct := EU (cx0 w h₀ mg mb)) (mk := false) (v := .lst (eJ cs n pl)) (k := 42) (r := 83) X (fF (by decide) X.ct0 mB) λ P hP => .ofC (IO X cs n pl hl P hP)).ret λ G u h => RF.same (c := cx0 w h₀ mg mb) (n := 2) (m := 2) ?_ h
 show FV.lst ((eJ cs n pl).map (unf tb0 1)) = FV.lst (((a7 cs n pl).map bM).map (unf tb0 1))
 rw [lG]
end
def xX (s : Sy) (on : Bool) : FV := match on with
 | true => aG (.cmp s.p s.o s.v s.d)
 | false => .non
def IC (s : Sy) (k : In3) : FV := match k with
 | .no => .non
 | .one => aG (.inb1 s.p s.v s.d)
 | .two => aG (.inb2 s.p s.v s.u s.d)
theorem iH {q : Plc} {k : OpK} {l : List Bnd} (hk : lM k = false) : EO (lkB q k l) = xX (sL (lkB q k l)) (lkB q k l).isSome := by
 cases e : lkB q k l with
 | none => rfl
 | some b =>
  have h := List.find?_some (p := g5 q k) e
  cases b with
  | cmp p o v d => rfl
  | inb1 p v d => exact absurd (show (lY p q && lM k) = true from h) (by rw [hk]; simp)
  | inb2 p v u d => exact absurd (show (lY p q && lM k) = true from h) (by rw [hk]; simp)
theorem DS {q : Plc} {l : List Bnd} : EO (lkB q .inn l) = IC (sL (lkB q .inn l)) (in3 (lkB q .inn l)) := by
 cases e : lkB q .inn l with
 | none => rfl
 | some b =>
  have h := List.find?_some (p := g5 q .inn) e
  cases b with
  | cmp p o v d => exact absurd (show (lY p q && opK .inn o) = true from h) (by cases o <;> simp [opK])
  | inb1 p v d => rfl
  | inb2 p v u d => rfl
def l8 (D : List FV) (q : Plc) (k : OpK) (v : FV) : Nat × Nat × List FV × FV := (qK q + SF k, 1036, [.lst D, .int (pN q), .lst (f4 k)], v)
noncomputable def yM : List (List Nat) -> List FV -> (List FV -> Prop) -> Prop
 | [], acc, Q => Q acc
 | s :: r, acc, Q => acc.length <= 1000 /\ yM r (acc ++ [.str s]) Q
theorem iO {Q : List FV -> Prop} : ∀ {ss : List (List Nat)} {acc : List FV}, acc.length + ss.length <= 1000 -> Q (acc ++ ss.map .str) -> yM ss acc Q
 | [], acc, _, h => by
  rw [List.map_nil, List.append_nil] at h
  exact h
 | s :: r, acc, hl, h => by
  rw [List.length_cons] at hl
  refine ⟨by omega, iO (by rw [List.length_append, List.length_singleton]; omega) ?_⟩
  rw [List.append_assoc]
  exact h
def aR (k : Side -> Option (T FV)) (xs : List FV) : Option (T FV) := match xs with
 | [.dom (.row s)] => k s
 | _ => none
theorem P6 {k : Side -> Option (T FV)} {xs : List FV} {t : T FV} (h : aR k xs = some t) : ∃ s, xs = [.dom (.row s)] /\ k s = some t := by
 unfold aR at h
 split at h
 ·exact ⟨_, rfl, h⟩
 ·cases h
def UN : List (Nat × (List FV -> Option (T FV))) := [(1043, aR λ s => some (.ret (.bool (iZ s))))]
noncomputable def MB (D F : List FV) (s t : SyF) (e : Bool) (m : In3) (lo hi : Bool) : Tab := [l8 D .r .inn (IC (s .r .inn) m), l8 D .r .eq (xX (s .r .eq) e), l8 F .r .lo (xX (t .r .lo) lo), l8 F .r .hi (xX (t .r .hi) hi)]
def n3 (D F : List FV) (s t : SyF) (e : Bool) (m : In3) (lo hi : Bool) : Ctr := eV (ctH (MB D F s t e m lo hi) [(100063, .lst F)]) (sel UN)
noncomputable def U8 (H : Hp) : Bool := match nth H 1 with
 | some o => match o with
  | .fz v => match v with
   | .lst xs => match xs with
    | [.str [105, 110]] => true
    | _ => false
   | _ => false
  | _ => false
 | none => false
def ctM (c1 c2 : Ctr) : Ctr := λ f as H => match U8 H with
 | true => c1 f as H
 | false => c2 f as H
theorem PL {c : Cx} {c1 c2 : Ctr} {n : Nat} (h1 : d9 c c1 n) (h2 : d9 c c2 n) : d9 c (ctM c1 c2) n := by
 intro A W x t f as vals R tr hA ra I htr h
 unfold ctM at htr
 split at htr
 ·exact h1 hA ra I htr h
 ·exact h2 hA ra I htr h
abbrev LW (D : List FV) (pv : FV) (cov : Bool) : Vs := [(147, .f (.lst D)), (155, .f pv), (116, .f (.bool cov))]
abbrev vsX (D : List FV) (pv : FV) (cov : Bool) : Vs := [(147, .f (.lst D)), (155, .f pv), (116, .f (.bool cov)), (14, .ref 0)]
def TP : IExpr := match a6.body with
 | [_, _, _, .asg _ (.callF _ _ [.comp _ _ _ [t], _]), _, _, _, _, _, _, _, _] => t
 | _ => .wall
def tsH (ct : Ctr) : Vs -> Hp -> T (Bool × Hp) := λ vs H => bP (λ e H => (lvl tb0 ct 36).t e vs H) [TP] H
def elH (ct : Ctr) : Vs -> Hp -> T (PV × Hp) := λ vs H => (lvl tb0 ct 36).e (.var 63) vs H
abbrev vsH (D : List FV) (pv : FV) (cov : Bool) (many : FV) : Vs := [(147, .f (.lst D)), (155, .f pv), (116, .f (.bool cov)), (14, .ref 0), (94, .f many)]
abbrev hpH (fs : List FV) : Hp := [.flist fs, .fz (.lst [.str sIn]), .fz (.lst [.str [61]])]
noncomputable def LT (D F : List FV) (ct : Ctr) (pv : FV) (cov : Bool) (many : FV) (fs : List FV) : Prop := ∃ ys, (∀ P : List FV × Hp -> Prop, P (ys, hpH fs) -> (cR (tsH ct) (elH ct) (vsH D pv cov many) 63 D (hpH fs)).AllP P) /\ fvw tb0 (.lst F) = .lst ys
theorem U7 (ct2 : Ctr) (D F : List FV) (s t : SyF) (pv : FV) (cov : Bool) (Q : Fl × Vs × Hp -> Prop) : (lC λ e m lo hi => ((lvl tb0 (ctM (n3 D F s t e m lo hi) ct2) 39).b 0 (aV 6 a6.body) (LW D pv cov) []).AllP Q) =
  lC λ e m lo hi => lB (aV 2 (MB D F s t e m lo hi)) (yM (onB e [[114, 111, 119, 105, 100, 32, 101, 113, 117, 97, 108, 115, 32, 49]]) [] λ f1 => yM (inT [114, 111, 119, 105, 100] m []) f1 λ f2 =>
   (LT D F (ctM (n3 D F s t e m lo hi) ct2) pv cov (IC (s .r .inn) m) f2 /\ lB ((MB D F s t e m lo hi).drop 2) (yM (rangeT [114, 111, 119, 105, 100, 95, 114, 97, 110, 103, 101] lo hi []) f2 λ f => Q (.next, vsX D pv cov, [.flist f])))) := by kernel_rfl
theorem L9 (ct2 : Ctr) (D F : List FV) (s t : SyF) (e : Bool) (m : In3) (lo hi : Bool) (pv : FV) (cov : Bool) (many : FV) (fs : List FV) (b : Bnd) : tsH (ctM (n3 D F s t e m lo hi) ct2) (put (vsH D pv cov many) 63 (.f (aG b))) (hpH fs) = .ret (aH b, hpH fs) := by
 cases b with
 | cmp p o v led =>
  cases o
  all_goals
   rcases v with l | ⟨t, q⟩
   ·cases l <;> kernel_rfl
   ·cases q <;> kernel_rfl
 | inb1 p v led => kernel_rfl
 | inb2 p v u led => kernel_rfl
theorem PC (ct : Ctr) (D : List FV) (pv : FV) (cov : Bool) (many : FV) (fs : List FV) (b : Bnd) : elH ct (put (vsH D pv cov many) 63 (.f (aG b))) (hpH fs) = .ret (.f (aG b), hpH fs) := by
 kernel_rfl
theorem RY (ct2 : Ctr) {l : List Bnd} {D F : List FV} (hD : l.map aG = D) (hF : (l.filter aH).map aG = F) (s t : SyF) (e : Bool) (m : In3) (lo hi : Bool) (pv : FV) (cov : Bool) (many : FV) (fs : List FV) : LT D F (ctM (n3 D F s t e m lo hi) ct2) pv cov many fs := by
 subst hF
 refine ⟨(l.filter aH).map aG, λ P hP => aF.r (aF.ret ?_ hP), rfl⟩
 have z := fP (f := aG) (g := aH) (λ b => L9 ct2 D ((l.filter aH).map aG) s t e m lo hi pv cov many fs b) (λ b => PC (ctM (n3 D ((l.filter aH).map aG) s t e m lo hi) ct2) D pv cov many fs b) l
 rw [hD] at z
 exact z
noncomputable def IJ (D : List FV) (s : SyF) : List Plc -> Nat -> Next -> Tab
 | [], _, _ => []
 | q :: r, j, x => match j with
  | 0 => match x with
   | .done => []
   | .at _ _ _ => [l8 D q .eq .non]
  | j + 1 => l8 D q .eq (xX (s q .eq) true) :: IJ D s r j x
noncomputable def HJ (D : List FV) (s : SyF) : List Plc -> Nat -> Next -> Tab
 | [], _, _ => []
 | q :: r, j, x => match j with
  | 0 => match x with
   | .done => []
   | .at lo hi m => [l8 D q .lo (xX (s q .lo) lo), l8 D q .hi (xX (s q .hi) hi), l8 D q .inn (IC (s q .inn) m)]
  | j + 1 => HJ D s r j x
def wJ (D : List FV) (s : SyF) (ps : List Plc) (c : Nat × Next) : Tab := IJ D s ps c.1 c.2 ++ HJ D s ps c.1 c.2
def mW (ps : List Plc) : FV := .lst (ps.map λ p => .int (pN p))
noncomputable abbrev wE (ps : List Plc) : Prop := ∀ (ct1 : Ctr) (D : List FV) (s : SyF) (xs : List FV) (P : FV -> Prop), (aQ.map λ cov => (gE ps).map λ c => ((lvl tb0 (ctM ct1 (ctH (wJ D s ps c) [])) 39).b 0 (a6.body.drop 6) (vsX D (mW ps) cov) [.flist xs]).AllP (e8 (dF P))) =
 aQ.map λ cov => (gE ps).map λ c => lB (IJ D s ps c.1 c.2) (yM ((b9 c.1 c.2 cov).take 1) xs λ f => lB (HJ D s ps c.1 c.2) (yM ((b9 c.1 c.2 cov).drop 1) f λ f => P (.lst f)))
theorem QT : wE [.a] := λ ct1 D s xs P => by kernel_rfl
theorem QS : wE [.b] := λ ct1 D s xs P => by kernel_rfl
theorem QR : wE [.c] := λ ct1 D s xs P => by kernel_rfl
theorem MK : wE [.b, .a] := λ ct1 D s xs P => by kernel_rfl
theorem MJ : wE [.c, .b] := λ ct1 D s xs P => by kernel_rfl
theorem ML : wE [.a, .r] := λ ct1 D s xs P => by kernel_rfl
theorem GI : wE [.c, .a, .b] := λ ct1 D s xs P => by kernel_rfl
theorem GJ {ps : List Plc} (h : ps ∈ cA) : wE ps := by
 simp only [cA, List.mem_cons, List.mem_nil_iff, or_false] at h
 rcases h with rfl | rfl | rfl | rfl | rfl | rfl | rfl
 ·exact QT
 ·exact QS
 ·exact QR
 ·exact MK
 ·exact MJ
 ·exact ML
 ·exact GI
theorem j5 (h : List Nat) (m : In3) (b : List Nat) : (inT h m b).length <= 1 := by cases m <;> simp [inT]
theorem fY (h : List Nat) (lo hi : Bool) (b : List Nat) : (rangeT h lo hi b).length <= 1 := by cases lo <;> cases hi <;> simp [rangeT]
theorem mJ (j : Nat) (x : Next) (cov : Bool) : (b9 j x cov).length <= 3 := by
 cases x with
 | done => simp [b9]
 | «at» lo hi m =>
  have h1 := fY (vA j) lo hi (FO cov)
  have h2 := j5 (vA j) m (FO cov)
  simp only [b9, List.length_cons, List.length_append]
  omega
section
variable {w : World} {h₀ : Heap} {mg mb : Str -> Option Value}
theorem eB (X : Amb w h₀ mg mb) {l : List Bnd} {D : List FV} {q : Plc} {k : OpK} {v : FV} (hD : l.map aG = D) (hv : EO (lkB q k l) = v) : Con (cx0 w h₀ mg mb) 42 (l8 D q k v).2.1 (l8 D q k v).2.2.1 (.ret (l8 D q k v).2.2.2) := by
 subst hv; subst hD
 exact (EX X l q k).le (by decide)
theorem uF (X : Amb w h₀ mg mb) {l : List Bnd} {D : List FV} (hD : l.map aG = D) : ∀ ps : List Plc, ∀ e ∈ IJ D (syI l) ps (aP l ps) (aI l ps) ++ HJ D (syI l) ps (aP l ps) (aI l ps), Con (cx0 w h₀ mg mb) 42 e.2.1 e.2.2.1 (.ret e.2.2.2)
 | [], e, he => by cases he
 | q :: r, e, he => by
  cases h : (lkB q .eq l).isSome with
  | true =>
   have e1 : aP l (q :: r) = aP l r + 1 := tB h
   have e2 : aI l (q :: r) = aI l r := m8 h
   rw [e1, e2] at he
   rcases List.mem_cons.mp he with rfl | he
   ·exact eB X hD (by rw [← h]; exact iH rfl)
   ·exact uF X hD r e he
  | false =>
   have e1 : aP l (q :: r) = 0 := tC h
   have e2 : aI l (q :: r) = .at (lkB q .lo l).isSome (lkB q .hi l).isSome (in3 (lkB q .inn l)) := m9 h
   rw [e1, e2] at he
   rcases List.mem_cons.mp he with rfl | he
   ·refine eB X hD ?_
    rw [Option.isSome_eq_false_iff, Option.isNone_iff_eq_none] at h
    rw [h]; rfl
   rcases List.mem_cons.mp he with rfl | he
   ·exact eB X hD (iH rfl)
   rcases List.mem_cons.mp he with rfl | he
   ·exact eB X hD (iH rfl)
   rcases List.mem_cons.mp he with rfl | he
   ·exact eB X hD DS
   cases he
noncomputable def eZ (l : List Bnd) (ps : List Plc) (cov : Bool) : List (List Nat) := c0 (lkB .r .eq l).isSome (in3 (lkB .r .inn l)) (lkB .r .lo (l.filter aH)).isSome (lkB .r .hi (l.filter aH)).isSome ++ b9 (aP l ps) (aI l ps) cov
theorem EV (X : Amb w h₀ mg mb) (l : List Bnd) {ps : List Plc} (hp : ps ∈ cA) (cov : Bool) : Con (cx0 w h₀ mg mb) 83 1055 [.lst (l.map bM), mW ps, .bool cov] (.ret (.lst ((eZ l ps cov).map .str))) := by
 have main : Con (cx0 w h₀ mg mb) 83 1055 [dL l, mW ps, .bool cov] (.ret (.lst ((eZ l ps cov).map .str))) := by
  obtain ⟨D, hD⟩ : ∃ D, l.map aG = D := ⟨_, rfl⟩
  obtain ⟨F, hF⟩ : ∃ F, (l.filter aH).map aG = F := ⟨_, rfl⟩
  unfold eZ
  obtain ⟨e, he⟩ : ∃ e, (lkB .r .eq l).isSome = e := ⟨_, rfl⟩
  obtain ⟨m, hm⟩ : ∃ m, in3 (lkB .r .inn l) = m := ⟨_, rfl⟩
  obtain ⟨lo, hlo⟩ : ∃ lo, (lkB .r .lo (l.filter aH)).isSome = lo := ⟨_, rfl⟩
  obtain ⟨hi, hhi⟩ : ∃ hi, (lkB .r .hi (l.filter aH)).isSome = hi := ⟨_, rfl⟩
  have K1 : d9 (cx0 w h₀ mg mb) (n3 D F (syI l) (syI (l.filter aH)) e m lo hi) 42 := by
   refine fF (Nat.le_refl _) (tH X (by decide) λ x hx => ?_) (y4 λ p hp xs t h => ?_)
   ·rcases List.mem_cons.mp hx with rfl | hx
    ·exact eB X hD (by rw [← hm]; exact DS)
    rcases List.mem_cons.mp hx with rfl | hx
    ·exact eB X hD (by rw [← he]; exact iH rfl)
    rcases List.mem_cons.mp hx with rfl | hx
    ·exact eB X hF (by rw [← hlo]; exact iH rfl)
    rcases List.mem_cons.mp hx with rfl | hx
    ·exact eB X hF (by rw [← hhi]; exact iH rfl)
    cases hx
   ·rw [List.mem_singleton.mp hp] at h ⊢
    obtain ⟨s, rfl, h'⟩ := P6 h
    cases h'
    exact EW X s
  have K2 : d9 (cx0 w h₀ mg mb) (ctH (wJ D (syI l) ps (aP l ps, aI l ps)) []) 42 := tH X (by decide) (uF X hD ps)
  have eL : dL l = .lst D := by rw [← hD]; rfl
  rw [eL, he, hm, hlo, hhi]
  obtain ⟨R, hR⟩ : ∃ R, c0 e m lo hi = R := ⟨_, rfl⟩
  obtain ⟨J, hJ⟩ : ∃ J, b9 (aP l ps) (aI l ps) cov = J := ⟨_, rfl⟩
  have lR : R.length <= 3 := by
   subst hR
   have h1 := j5 [114, 111, 119, 105, 100] m []
   have h2 := fY [114, 111, 119, 105, 100, 95, 114, 97, 110, 103, 101] lo hi []
   have h3 : (onB e [[114, 111, 119, 105, 100, 32, 101, 113, 117, 97, 108, 115, 32, 49]]).length <= 1 := aY (by simp)
   unfold c0
   rw [List.length_append, List.length_append]
   omega
  have lJ : J.length <= 3 := by rw [← hJ]; exact mJ ..
  refine cM (mk := false) (k := 40) (r := 42) X (PL K1 K2) λ P hP => .ofC ?_
  refine gL a6 (LW D (mW ps) cov) (by kernel_rfl) (by kernel_rfl) (by kernel_rfl) ?_
  have suf : ∀ xs, xs = R.map .str -> bF tb0 (ctM (n3 D F (syI l) (syI (l.filter aH)) e m lo hi) (ctH (wJ D (syI l) ps (aP l ps, aI l ps)) [])) 39 0 (a6.body.drop 6) (vsX D (mW ps) cov) [.flist xs] (e8 (dF P)) := λ xs hxs => by
   have lx : xs.length <= 3 := by rw [hxs, List.length_map]; exact lR
   have z := aB (aB (GJ hp (n3 D F (syI l) (syI (l.filter aH)) e m lo hi) D (syI l) xs P) cov (aE cov)) _ (zU l ps)
   refine ⟨(aF.of z (cV (iO ?_ (cV (iO ?_ ?_) _)) _)).r⟩
   ·rw [hJ]
    have : (J.take 1).length <= 3 := Nat.le_trans (List.length_take_le' ..) lJ
    omega
   ·rw [hJ, List.length_append, List.length_map]
    have h1 : (J.take 1).length <= 3 := Nat.le_trans (List.length_take_le' ..) lJ
    have h2 : (J.drop 1).length <= 3 := by rw [List.length_drop]; omega
    omega
   ·rw [hJ, hxs, List.append_assoc, ← List.map_append, ← List.map_append, List.take_append_drop, ← hJ, ← hR]
    exact hP
  have pre : bF tb0 (ctM (n3 D F (syI l) (syI (l.filter aH)) e m lo hi) (ctH (wJ D (syI l) ps (aP l ps, aI l ps)) [])) 39 0 (aV 6 a6.body) (LW D (mW ps) cov) [] (lZ (λ vs H => bF tb0 (ctM (n3 D F (syI l) (syI (l.filter aH)) e m lo hi) (ctH (wJ D (syI l) ps (aP l ps, aI l ps)) [])) 39 0 (a6.body.drop 6) vs H (e8 (dF P))) (e8 (dF P))) := by
   have z := rS (U7 (ctH (wJ D (syI l) ps (aP l ps, aI l ps)) []) D F (syI l) (syI (l.filter aH)) (mW ps) cov (lZ (λ vs H => bF tb0 (ctM (n3 D F (syI l) (syI (l.filter aH)) e m lo hi) (ctH (wJ D (syI l) ps (aP l ps, aI l ps)) [])) 39 0 (a6.body.drop 6) vs H (e8 (dF P))) (e8 (dF P)))) e m lo hi
   refine ⟨(aF.of z (cV (iO ?_ (iO ?_ ⟨RY _ hD hF _ _ _ _ _ _ _ _ _ _, cV (iO ?_ (suf _ ?_)) _⟩)) _)).r⟩
   ·have h3 : (onB e [[114, 111, 119, 105, 100, 32, 101, 113, 117, 97, 108, 115, 32, 49]]).length <= 1 := aY (by simp)
    simp only [List.length_nil]; omega
   ·have h3 : (onB e [[114, 111, 119, 105, 100, 32, 101, 113, 117, 97, 108, 115, 32, 49]]).length <= 1 := aY (by simp)
    have h1 := j5 [114, 111, 119, 105, 100] m []
    simp only [List.length_append, List.length_map, List.length_nil]; omega
   ·have h3 : (onB e [[114, 111, 119, 105, 100, 32, 101, 113, 117, 97, 108, 115, 32, 49]]).length <= 1 := aY (by simp)
    have h1 := j5 [114, 111, 119, 105, 100] m []
    have h2 := fY [114, 111, 119, 105, 100, 95, 114, 97, 110, 103, 101] lo hi []
    simp only [List.length_append, List.length_map, List.length_nil]; omega
   ·rw [← hR]
    unfold c0
    rw [List.nil_append, ← List.map_append, ← List.map_append, List.append_assoc]
  exact B3 (n := 38) (a := aV 6 a6.body) (b := a6.body.drop 6) pre
 exact main.args λ G vs r => by
  cases r with
  | cons a r => exact .cons (RF.re (c := cx0 w h₀ mg mb) (f := bM) (g := aG) (λ b v r => r.inv) a) r
end
def OF (f : Nat) (xs : List FV) : Option Nat := match Nat.beq f 550 with
 | true => match xs with
  | [.non] => none
  | _ => some 0
 | false => none
def WF (xs : List FV) : Option FV := match xs with
 | [.dom (.cond c), _] => some (dT c)
 | _ => none
def ctW (c : Cx) (cs : List Cond) : Ctr := eV (eV ct0 (AS c 83 [(626, WF)])) (nB OF [(0, 550, [fT cs], .lst (cs.map dC))])
noncomputable def yH (c : Cx) : List Cond -> Prop -> Prop
 | [], Q => Q
 | x :: r, Q => Con c 83 626 [dC x, NY (wT false) (wT true)] (.ret (dT x)) /\ yH c r Q
noncomputable def pD (c : Cx) (cs : List Cond) : Prop := ∀ P : FV -> Prop, (lX (runC tb0 (ctW c cs) 40 true 815 ([dG, fT cs].map .f) [])).AllP P = ((550 = 550 /\ [fT cs] = [fT cs]) /\ yH c cs (P (dH (cs.map dT))))
theorem T8 (c : Cx) (c1 : Cond) : pD c [c1] := λ P => by kernel_rfl
theorem T7 (c : Cx) (c1 c2 : Cond) : pD c [c1, c2] := λ P => by kernel_rfl
theorem T6 (c : Cx) (c1 c2 c3 : Cond) : pD c [c1, c2, c3] := λ P => by kernel_rfl
theorem T5 (c : Cx) (c1 c2 c3 c4 : Cond) : pD c [c1, c2, c3, c4] := λ P => by kernel_rfl
section
variable {w : World} {h₀ : Heap} {mg mb : Str -> Option Value}
theorem rO (X : Amb w h₀ mg mb) {Q : Prop} (h : Q) : ∀ cs : List Cond, yH (cx0 w h₀ mg mb) cs Q
 | [] => h
 | x :: r => ⟨J1 X _ _ x, rO X h r⟩
theorem JT (X : Amb w h₀ mg mb) (cs : List Cond) (hl : cs.length <= 4) (h0 : cs ≠ []) : Con (cx0 w h₀ mg mb) 124 815 [dG, fT cs] (.ret (dH (cs.map dT))) := by
 have e : pD (cx0 w h₀ mg mb) cs := by
  rcases cs with _ | ⟨c1, _ | ⟨c2, _ | ⟨c3, _ | ⟨c4, _ | ⟨c5, r⟩⟩⟩⟩⟩
  ·exact absurd rfl h0
  ·exact T8 _ c1
  ·exact T7 _ c1 c2
  ·exact T6 _ c1 c2 c3
  ·exact T5 _ c1 c2 c3 c4
  ·simp at hl
 refine cM (ct := ctW (cx0 w h₀ mg mb) cs) (mk := true) (k := 40) (r := 83) X (fF (Nat.le_refl _) (fF (by decide) X.ct0 mB) (nA λ e he => ?_)) λ P hP => rcF.of (e P) ⟨⟨rfl, rfl⟩, rO X hP cs⟩
 rw [List.mem_singleton.mp he]
 exact (J3 X cs hl h0).le (by decide)
end
noncomputable def unC : List FV -> List Cond
 | [] => []
 | v :: r => match v with
  | .dom (.cond c) => c :: unC r
  | _ => unC r
noncomputable def unT : List FV -> List Cond
 | [] => []
 | v :: r => match v with
  | .dom (.term c _) => c :: unT r
  | _ => unT r
noncomputable def unB : List FV -> List Bnd
 | [] => []
 | v :: r => match v with
  | .dom (.bnd c) => c :: unB r
  | _ => unB r
noncomputable def unD : List FV -> List Bnd
 | [] => []
 | v :: r => match v with
  | .dom (.due c) => c :: unD r
  | _ => unD r
def HG (i : Int) : Plc := match i with
 | .ofNat n => match n with
  | 0 => .a
  | 1 => .b
  | _ => .c
 | .negSucc _ => .r
noncomputable def unP : List FV -> List Plc
 | [] => []
 | v :: r => match v with
  | .int i => HG i :: unP r
  | _ => unP r
theorem yY : ∀ cs : List Cond, unC (cs.map dC) = cs
 | [] => rfl
 | c :: r => congrArg (c :: ·) (yY r)
theorem yV : ∀ cs : List Cond, unT (cs.map dT) = cs
 | [] => rfl
 | c :: r => congrArg (c :: ·) (yV r)
theorem jQ : ∀ cs : List Bnd, unB (cs.map dB) = cs
 | [] => rfl
 | c :: r => congrArg (c :: ·) (jQ r)
theorem yX : ∀ cs : List Bnd, unD (cs.map bM) = cs
 | [] => rfl
 | c :: r => congrArg (c :: ·) (yX r)
theorem sT (p : Plc) : HG (pN p) = p := by cases p <;> rfl
theorem yW : ∀ ps : List Plc, unP (ps.map λ p => .int (pN p)) = ps
 | [] => rfl
 | p :: r => by
  show HG (pN p) :: unP (r.map λ p => .int (pN p)) = _
  rw [sT, yW r]
noncomputable def pR (c : Cx) (b : List FV) : List FV := Classical.epsilon λ ps => all2 cC ps (c0 (lkB .r .eq (unB b)).isSome (in3 (lkB .r .inn (unB b))) (lkB .r .lo ((unB b).filter aH)).isSome (lkB .r .hi ((unB b).filter aH)).isSome) = true /\ Con c 83 758 [a8, .lst b] (.ret (.lst ps))
noncomputable def pI (c : Cx) (i : FV) (b : List FV) (cov : Bool) : List FV := Classical.epsilon λ qs => ∀ ps, i = cK ps -> ps ∈ cA -> all2 cC qs (b9 (aP (unB b) ps) (aI (unB b) ps) cov) = true /\ Con c 83 772 [i, a8, .lst b, .bool cov] (.ret (.lst qs))
def U1 (t : T FV) : FV := match t with
 | .ret v => v
 | _ => .non
def gN (p : FV) : FV := U1 (KY p)
noncomputable def US (xs : List FV) : Option FV := match xs with
 | [.lst x, .int i, .lst p] => match rM i with
  | some n => match NX n p with
   | some b => some (.lst ((a7 (unC x) n b).map bM))
   | none => none
  | none => none
 | _ => none
noncomputable def WA (xs : List FV) : Option FV := match xs with
 | [.node _ [_, (_, .lst ts)], .int i, .lst p] => match rM i with
  | some n => match NX n p with
   | some b => some (.lst ((a7 (unT ts) n b).map dB))
   | none => none
  | none => none
 | _ => none
def WC (c : Cx) (xs : List FV) : Option FV := match xs with
 | [_, .lst b] => some (.lst (pR c b))
 | _ => none
def WB (c : Cx) (xs : List FV) : Option FV := match xs with
 | [i, _, .lst b, .bool cov] => some (.lst (pI c i b cov))
 | _ => none
def UQ (xs : List FV) : Option FV := match xs with
 | [.lst d, .lst pv, .bool cov] => some (.lst ((eZ (unD d) (unP pv) cov).map .str))
 | _ => none
def WD (xs : List FV) : Option FV := match xs with
 | [p] => some (gN p)
 | _ => none
def LN (v : FV) : Option Cond := match v with
 | .dom (.cond c) => some c
 | _ => none
def UG (v : FV) : Option (FV × Cond) := match v with
 | .node _ [_, (_, l), (_, r)] => match LN r with
  | some c => some (l, c)
  | none => none
 | _ => none
noncomputable def B1 : Nat -> FV -> Option (List Cond)
 | 0, _ => none
 | n + 1, v => match LN v with
  | some c => some [c]
  | none => match UG v with
   | some q => match B1 n q.1 with
    | some cs => some (cs ++ [q.2])
    | none => none
   | none => none
def V9 (xs : List FV) : Option FV := match xs with
 | [_, v] => match B1 4 v with
  | some cs => some (dH (cs.map dT))
  | none => none
 | _ => none
def UR (xs : List FV) : Option FV := match xs with
 | [.dom (.bnd b)] => some (bM b)
 | _ => none
def V8 (xs : List FV) : Option FV := match xs with
 | [.node _ ((_, .int n) :: _), .int i] => match rM n with
  | some b => some (dS (.col b (HG i)))
  | none => none
 | _ => none
noncomputable def VC (v : FV) : Lit := match v with
 | .int i => match i with
  | .ofNat n => match n with
   | 0 => .i0
   | 1 => .i1
   | _ => .i2
  | .negSucc _ => .i0
 | .str _ => .t
 | _ => .nul
def F90 (xs : List FV) : Option FV := match xs with
 | [v] => some (dS (.lit (VC v)))
 | _ => none
def Fts (c : Cx) : List (Nat × (List FV -> Option FV)) := [(990, V8), (90, F90), (1026, US), (798, WA), (758, WC c), (772, WB c), (1055, UQ), (711, WD), (815, V9), (1031, UR)]
def ctA (c : Cx) : Ctr := eV ct0 (AS c 186 (Fts c))
theorem S7 : (aQ.map λ n => aU.map λ p => eK ct0 40 false 990 [wT n, .int (pN p)]) = aQ.map λ n => aU.map λ p => some (unf tb0 9 (dS (.col n p))) := by kernel_rfl
theorem VW : (kC.map λ l => eK ct0 20 true 90 [HV l]) = kC.map λ l => some (unf tb0 9 (dS (.lit l))) := by kernel_rfl
section
variable {w : World} {h₀ : Heap} {mg mb : Str -> Option Value}
theorem PO (X : Amb w h₀ mg mb) : d9 (cx0 w h₀ mg mb) (ctA (cx0 w h₀ mg mb)) 186 := fF (by decide) X.ct0 mB
theorem JS (X : Amb w h₀ mg mb) (n : Bool) (p : Plc) : Con (cx0 w h₀ mg mb) 186 990 [wT n, .int (pN p)] (.ret (dS (.col n p))) := (dJ X (aB (aB S7 n (aE n)) p (cX p))).le (by decide)
theorem tJ (X : Amb w h₀ mg mb) (l : Lit) : Con (cx0 w h₀ mg mb) 186 90 [HV l] (.ret (dS (.lit l))) := (dJ X (aB VW l (DT l))).le (by decide)
theorem RK (X : Amb w h₀ mg mb) (l : List Bnd) : all2 cC (pR (cx0 w h₀ mg mb) (l.map dB)) (c0 (lkB .r .eq l).isSome (in3 (lkB .r .inn l)) (lkB .r .lo (l.filter aH)).isSome (lkB .r .hi (l.filter aH)).isSome) = true /\ Con (cx0 w h₀ mg mb) 186 758 [a8, bL l] (.ret (.lst (pR (cx0 w h₀ mg mb) (l.map dB)))) := by
 obtain ⟨ps, h1, h2⟩ := JW X l
 have z : all2 cC (pR (cx0 w h₀ mg mb) (l.map dB)) (c0 (lkB .r .eq (unB (l.map dB))).isSome (in3 (lkB .r .inn (unB (l.map dB)))) (lkB .r .lo ((unB (l.map dB)).filter aH)).isSome (lkB .r .hi ((unB (l.map dB)).filter aH)).isSome) = true /\ Con (cx0 w h₀ mg mb) 83 758 [a8, .lst (l.map dB)] (.ret (.lst (pR (cx0 w h₀ mg mb) (l.map dB)))) :=
  Classical.epsilon_spec (p := λ ps => all2 cC ps (c0 (lkB .r .eq (unB (l.map dB))).isSome (in3 (lkB .r .inn (unB (l.map dB)))) (lkB .r .lo ((unB (l.map dB)).filter aH)).isSome (lkB .r .hi ((unB (l.map dB)).filter aH)).isSome) = true /\ Con (cx0 w h₀ mg mb) 83 758 [a8, .lst (l.map dB)] (.ret (.lst ps))) ⟨ps, by rw [jQ]; exact ⟨h1, h2⟩⟩
 rw [jQ] at z
 exact ⟨z.1, z.2.le (by decide)⟩
theorem ID {a b : List Plc} (h : cK a = cK b) : a = b := by
 unfold cK at h
 injection h with _ h
 injection h with _ h
 injection h with _ h
 injection h with _ h
 injection h with h _
 injection h with _ h
 injection h with h
 have : ∀ {a b : List Plc}, (a.map λ p => FV.tup [.int (pN p), .str cJ, .bool false]) = (b.map λ p => FV.tup [.int (pN p), .str cJ, .bool false]) -> a = b := by
  intro a
  induction a with
  | nil => intro b h; cases b with | nil => rfl | cons _ _ => cases h
  | cons x r ih =>
   intro b h
   cases b with
   | nil => cases h
   | cons y t =>
    injection h with h1 h2
    injection h1 with h1
    injection h1 with h1 _
    injection h1 with h1
    rw [← sT x, ← sT y, h1, ih h2]
 exact this h
theorem RM (X : Amb w h₀ mg mb) (l : List Bnd) {ps : List Plc} (hp : ps ∈ cA) (cov : Bool) : all2 cC (pI (cx0 w h₀ mg mb) (cK ps) (l.map dB) cov) (b9 (aP l ps) (aI l ps) cov) = true /\ Con (cx0 w h₀ mg mb) 186 772 [cK ps, a8, bL l, .bool cov] (.ret (.lst (pI (cx0 w h₀ mg mb) (cK ps) (l.map dB) cov))) := by
 obtain ⟨qs, h1, h2⟩ := JV X l hp cov
 have z : ∀ ps', cK ps = cK ps' -> ps' ∈ cA -> all2 cC (pI (cx0 w h₀ mg mb) (cK ps) (l.map dB) cov) (b9 (aP (unB (l.map dB)) ps') (aI (unB (l.map dB)) ps') cov) = true /\ Con (cx0 w h₀ mg mb) 83 772 [cK ps, a8, .lst (l.map dB), .bool cov] (.ret (.lst (pI (cx0 w h₀ mg mb) (cK ps) (l.map dB) cov))) :=
  Classical.epsilon_spec (p := λ qs => ∀ ps', cK ps = cK ps' -> ps' ∈ cA -> all2 cC qs (b9 (aP (unB (l.map dB)) ps') (aI (unB (l.map dB)) ps') cov) = true /\ Con (cx0 w h₀ mg mb) 83 772 [cK ps, a8, .lst (l.map dB), .bool cov] (.ret (.lst qs))) ⟨qs, λ ps' e _ => by
   rw [← ID e, jQ]; exact ⟨h1, h2⟩⟩
 have z := z ps rfl hp
 rw [jQ] at z
 exact ⟨z.1, z.2.le (by decide)⟩
end
section
variable {c : Cx} {tc : Tc} {ev : Ev} {n : Nat}
theorem f5 {α : Type} {x y : α} {i : Nat} (h : nth [x] i = some y) : i = 0 /\ y = x := by
 cases i with
 | zero => cases h; exact ⟨rfl, rfl⟩
 | succ i => cases h
theorem xU (S : Sound c tc ev n) {A : Around} {W : Wd} {x : Sx} {t f i : Nat} {v : FV} {vals : List Value} {R : Result -> Shared -> Prop} (hA : AOk n A) (hi : nth W.H i = some .src) (ra : RPs c W.G W.ρ [.ref i, .f v] vals) (I : Inv c W)
  (h : aF (ev.c f [.ref 0, .f v] [.src]) λ r => ∃ u' u, r.1 = .f u' /\ nth r.2 0 = some .src /\ (∀ G y, RF c G u' y -> RF c G u y) /\ Gd c No W.ρ.length W x (RE c (.f u, W.H)) λ v s' => R (.ok (.ret v)) s') : codeAny (model c.prog c.w) A (.call (.ref f) ⟨vals, []⟩) R (mkS x W.h t) := by
 cases ra with
 | cons a ra =>
 cases a with
 | ref hp =>
 rename_i p
 cases ra with
 | cons b ra =>
 cases ra with
 | nil =>
 cases b with
 | f rb =>
 have fpS : ∀ b, ({ W with ρ := [p], H := [.src] } : Wd).fp b -> b = p.1 := λ b hb => by
  obtain ⟨j, ao, q, h1, h2, h3⟩ := hb
  obtain ⟨_, rfl⟩ := f5 h1
  obtain ⟨_, rfl⟩ := f5 h2
  exact List.mem_singleton.mp h3
 have fpW : W.fp p.1 := ⟨i, .src, p, hi, hp, .head _⟩
 have I0 : Inv c { W with ρ := [p], H := [.src] } := by
  refine ⟨rfl, I.sub, λ j ao q h1 h2 => ?_, λ b hb => by rw [fpS b hb]; exact I.fresh _ fpW, λ j k ao ao' q q' hjk h1 h2 _ _ => ?_, λ j C fs q h1 _ => ?_, I.base⟩
  ·obtain ⟨_, rfl⟩ := f5 h1
   obtain ⟨_, rfl⟩ := f5 h2
   have := I.ok i _ _ hi hp
   cases this with
   | src a b d e => exact .src a b d e
  ·exact absurd ((f5 h1).1.trans (f5 h2).1.symm) hjk
  ·cases (f5 h1).2
 refine S.c (W := { W with ρ := [p], H := [.src] }) hA (.cons (.ref (p := p) rfl) (.cons (.f rb) .nil)) I0 (T.AllP_mono (λ r hr => ?_) h.r)
 obtain ⟨u', u, hu, hs, hv, hr'⟩ := hr
 intro W₁ y tk e1 I1 ⟨hH, ru⟩
 rw [hu] at ru
 cases ru with
 | f ru =>
 have hs1 : nth W₁.H 0 = some .src := by rw [hH]; exact hs
 have hp1 : nth W₁.ρ 0 = some p := e1.rho 0 p (Nat.zero_lt_one) rfl
 have fp1 : W₁.fp p.1 := ⟨0, .src, p, hs1, hp1, .head _⟩
 have kp : ∀ b o, b ≠ p.1 -> W.h.get? b = some o -> W₁.h.get? b = some o := λ b o hb ho => e1.keep b o ho (λ z => hb (fpS b z)) (λ z => z)
 have gn : ∀ b, W.fp b -> W₁.G b = none := λ b hb => by
  by_cases hbp : b = p.1
  ·rw [hbp]; exact I1.fresh _ fp1
  ·cases q : W₁.G b with
   | none => rfl
   | some o =>
    exfalso
    rcases e1.dom b (.inr (by rw [q]; rfl)) with w | w
    ·rcases w with w | w
     ·exact hbp (fpS b w)
     ·have := I.fresh b hb
      have w' : (W.G b).isSome = true := w
      rw [this] at w'; cases w'
    ·obtain ⟨o', ho'⟩ := I.fpLt hb
     have w' : W.h.get? b = none := w
     rw [ho'] at w'; cases w'
 have I2 : Inv c { G := W₁.G, ρ := W.ρ, H := W.H, h := W₁.h } := by
  refine ⟨I.len, I1.sub, λ j ao q h1 h2 => ?_, gn, I.apart, I.two, I1.base⟩
  by_cases hj : j = i
  ·rw [hj] at h1 h2
   rw [hi] at h1; rw [hp] at h2
   cases h1; cases h2
   have := I1.ok 0 _ _ hs1 hp1
   cases this with
   | src a b d e => exact .src a b d e
  ·refine (I.ok j ao q h1 h2).mono e1.G (λ _ _ z => z) λ b hb o ho => kp b o (λ z => ?_) ho
   exact I.apart j i ao .src q p hj h1 hi h2 hp b hb (by rw [z]; exact .head _)
 have E2 : Ext No W.ρ.length W { G := W₁.G, ρ := W.ρ, H := W.H, h := W₁.h } := by
  refine ⟨e1.G, λ _ _ _ z => z, λ b o ho hb _ => kp b o (λ z => hb (z ▸ fpW)) ho, λ b hb => ?_, e1.live⟩
  rcases hb with hb | hb
  ·exact .inl (.inl hb)
  ·rcases e1.dom b (.inr hb) with w | w
   ·rcases w with w | w
    ·rw [fpS b w]; exact .inl (.inl fpW)
    ·exact .inl (.inr w)
   ·exact .inr w
 exact hr' { G := W₁.G, ρ := W.ρ, H := W.H, h := W₁.h } y tk E2 I2 ⟨rfl, .f (hv _ _ ru)⟩
noncomputable def n4 (f0 : Nat) (v : FV) (p : Dom -> Bool) (ct : Ctr) : Ctr := λ f as H => match Nat.beq f f0 with
 | true => match as with
  | [q, .f u] => match D6 H q with
   | true => some (.need (u = v) (.pick p λ d => .ret (.f (.dom d), H)))
   | false => none
  | _ => none
 | false => ct f as H
theorem rG {f0 r k : Nat} {v : FV} {p : Dom -> Bool} {ct : Ctr} (B : TabOk c tc) (K : d9 c ct r) (P1 : rT c tc ct) (P2 : rU c tc ct)
  (h : ∀ P : Dom -> Prop, (∀ d, p d = true -> P d) -> aF ((lvl c.tb ct k).c f0 [.ref 0, .f v] [.src]) λ q => ∃ u' d, q.1 = .f u' /\ nth q.2 0 = some .src /\ (∀ G y, RF c G u' y -> RF c G (.dom d) y) /\ P d) : d9 c (n4 f0 v p ct) (k + r) := by
 intro A W x t f as vals R tr hA ra I htr hr
 unfold n4 at htr
 split at htr
 ·rename_i hf
  have hf := Nat.eq_of_beq_eq_true hf
  subst hf
  split at htr
  ·rename_i q u
   split at htr
   ·rename_i hs
    cases htr
    obtain ⟨i, rfl, hi⟩ := qT hs
    obtain ⟨rfl, hr⟩ := hr
    refine xU (qC B K P1 P2 k) hA hi ra I (aF.mono (λ q hq => ?_) (h _ hr))
    obtain ⟨u', d, h1, h2, h3, h4⟩ := hq
    exact ⟨u', .dom d, h1, h2, h3, h4⟩
   ·cases htr
  ·cases htr
 ·exact K (hA.le (Nat.le_add_left r k)) ra I htr hr
end
noncomputable def cS : Nat -> (Nat -> Prop) -> Prop
 | 0, _ => True
 | n + 1, f => cS n f /\ f n
theorem wC {f : Nat -> Prop} : ∀ {n : Nat}, cS n f -> ∀ d, d < n -> f d
 | 0, _, d, h => by cases h
 | n + 1, h, d, hd => by
  rcases Nat.lt_succ_iff_lt_or_eq.mp hd with hd | rfl
  ·exact wC h.1 d hd
  ·exact h.2
def T.AllE {α : Type} (t : T α) (P : α -> Prop) : Prop := T.rec (motive := λ _ => Prop) P False (λ n _ ih => cS n ih) (λ p _ ih => ∀ d, p d = true -> ih d) (λ p _ ih => p /\ ih) t
theorem T.AllE_P {α : Type} {P : α -> Prop} : ∀ {t : T α}, t.AllE P -> t.AllP P
 | .ret a, h => h
 | .fail, h => h
 | .take n g, h => λ d hd => T.AllE_P (t := g d) (wC h d hd)
 | .pick p g, h => λ d hd => T.AllE_P (t := g d) (h d hd)
 | .need p g, h => ⟨h.1, T.AllE_P (t := g) h.2⟩
theorem aF.ofE {α : Type} {t : T α} {P : α -> Prop} {p : Prop} (e : t.AllE P = p) (h : p) : aF t P := ⟨T.AllE_P (e.mpr h)⟩
noncomputable def isS : Dom -> Bool
 | .side _ => true
 | _ => false
noncomputable def isC : Dom -> Bool
 | .cond _ => true
 | _ => false
theorem H8 {d : Dom} (h : isS d = true) : ∃ s, d = .side s := by
 cases d with
 | side s => exact ⟨s, rfl⟩
 | _ => cases h
noncomputable def vP : Nat -> Bool
 | 0 => false
 | _ => true
noncomputable def uS : Nat -> Plc
 | 0 => .r
 | 1 => .a
 | 2 => .b
 | _ => .c
noncomputable def N4 : Nat -> Lit
 | 0 => .nul
 | 1 => .i0
 | 2 => .i1
 | _ => .t
noncomputable def opN : Nat -> Op
 | 0 => .eq
 | 1 => .eq
 | 2 => .lt
 | 3 => .le
 | 4 => .gt
 | 5 => .ge
 | _ => .ne
abbrev hdQ (G : PV -> Option AO -> Prop) : PV × Hp -> Prop := λ r => G r.1 (nth r.2 0)
abbrev yP (c : Cx) (s : Nat) (q : Nat) : Prop := Con c 186 990 [wT (vP s), .int (Int.ofNat q - 1)] (.ret (dS (.col (vP s) (uS q))))
abbrev z7 (c : Cx) (l : Lit) : Prop := Con c 186 90 [HV l] (.ret (dS (.lit l)))
theorem CS (c : Cx) (G : PV -> Option AO -> Prop) : ((lvl tb0 (ctA c) 40).c 997 [.ref 0, .f dG] [.src]).AllE (hdQ G) = cS 2 λ d => match d with
 | 0 => cS 2 λ s => cS 4 λ q => yP c s q /\ G (.f (dS (.col (vP s) (uS q)))) (some .src)
 | _ => cS 4 λ l => z7 c (N4 l) /\ G (.f (dS (.lit (N4 l)))) (some .src) := by kernel_rfl
def ctB (c : Cx) : Ctr := n4 997 dG isS (ctA c)
abbrev LZ : Vs := [(31, .ref 0), (43, .f dG)]
abbrev LY (b : Bool) (p : Plc) : Vs := [(31, .ref 0), (43, .f dG), (110, .f (dS (.col b p)))]
abbrev LX (b : Bool) (p : Plc) (d : Nat) : Vs := [(31, .ref 0), (43, .f dG), (110, .f (dS (.col b p))), (125, .f (.int (Int.ofNat d)))]
def csN (i : Nat) : IStmt := match cU.body.drop i with
 | s :: _ => s
 | [] => .retn
def csR : List IStmt := cU.body.drop 2
theorem JI (c : Cx) (Q : Fl × Vs × Hp -> Prop) : (sF tb0 (ctB c) 38 1 (csN 0) LZ [.src]).AllE Q = cS 2 λ s => cS 4 λ q => yP c s q /\ Q (.next, LY (vP s) (uS q), [.src]) := by kernel_rfl
theorem JH (c : Cx) (b : Bool) (p : Plc) (Q : Fl × Vs × Hp -> Prop) : (sF tb0 (ctB c) 38 1 (csN 1) (LY b p) [.src]).AllE Q = cS 7 λ d => Q (.next, LX b p d, [.src]) := by kernel_rfl
abbrev lT (c : Cx) (b : Bool) (p : Plc) (G : PV -> Option AO -> Prop) (d : Nat) : Prop := ((lvl tb0 (ctB c) 39).b 1 csR (LX b p d) [.src]).AllE (e8 (hdQ G))
abbrev mX (f : Dom -> Prop) : Prop := dG = dG /\ ∀ d, isS d = true -> f d
theorem JP (c : Cx) (b : Bool) (p : Plc) (G : PV -> Option AO -> Prop) : lT c b p G 0 = mX λ x => mX λ y => cS 3 λ k => G (.f (.node 194 [(8, dS (.col b p)), (9, .dom x), (10, .dom y), (64, .bool (Nat.beq k 0))])) (some .src) := by kernel_rfl
theorem JO (c : Cx) (b : Bool) (p : Plc) (G : PV -> Option AO -> Prop) : lT c b p G 1 = cS 2 λ m => match m with
 | 0 => mX λ x => cS 3 λ k => G (.f (.node 220 [(8, dS (.col b p)), (12, .lst [.dom x]), (64, .bool (Nat.beq k 0))])) (some .src)
 | _ => mX λ x => mX λ y => cS 3 λ k => G (.f (.node 220 [(8, dS (.col b p)), (12, .lst [.dom x, .dom y]), (64, .bool (Nat.beq k 0))])) (some .src) := by kernel_rfl
theorem JN (c : Cx) (b : Bool) (p : Plc) (G : PV -> Option AO -> Prop) : lT c b p G 2 = cS 7 λ o => z7 c .i1 /\ z7 c .i2 /\ G (.f (.node 168 [(49, .str sOr), (0, .node 168 [(49, .str (opS (opN o))), (0, dS (.col b p)), (2, dS (.lit .i1))]), (2, .node 168 [(49, .str [61]), (0, dS (.col b p)), (2, dS (.lit .i2))])])) (some .src) := by kernel_rfl
theorem JM (c : Cx) (b : Bool) (p : Plc) (G : PV -> Option AO -> Prop) : lT c b p G 3 = cS 7 λ o => z7 c .i1 /\ G (.f (.node 168 [(49, .str (opS (opN o))), (0, dS (.lit .i1)), (2, dS (.col b p))])) (some .src) := by kernel_rfl
noncomputable abbrev F7 (c : Cx) (b : Bool) (p : Plc) (G : PV -> Option AO -> Prop) : Prop := cS 7 λ o => mX λ x => G (.f (.node 168 [(49, .str (opS (opN o))), (0, dS (.col b p)), (2, .dom x)])) (some .src)
theorem JL (c : Cx) (b : Bool) (p : Plc) (G : PV -> Option AO -> Prop) : lT c b p G 4 = F7 c b p G := by kernel_rfl
theorem JK (c : Cx) (b : Bool) (p : Plc) (G : PV -> Option AO -> Prop) : lT c b p G 5 = F7 c b p G := by kernel_rfl
theorem JJ (c : Cx) (b : Bool) (p : Plc) (G : PV -> Option AO -> Prop) : lT c b p G 6 = F7 c b p G := by kernel_rfl
theorem allLt_of {f : Nat -> Prop} : ∀ {n : Nat}, (∀ d, d < n -> f d) -> cS n f
 | 0, _ => trivial
 | n + 1, h => ⟨allLt_of λ d hd => h d (Nat.lt_succ_of_lt hd), h n (Nat.lt_succ_self n)⟩
section
variable {w : World} {h₀ : Heap} {mg mb : Str -> Option Value}
theorem zP (X : Amb w h₀ mg mb) (s q : Nat) (hq : q < 4) : yP (cx0 w h₀ mg mb) s q := by
 have h := JS X (vP s) (uS q)
 have e : pN (uS q) = Int.ofNat q - 1 := by
  match q, hq with
  | 0, _ => rfl
  | 1, _ => rfl
  | 2, _ => rfl
  | 3, _ => rfl
 rw [e] at h
 exact h
def t8 (c : Cx) (P : Dom -> Prop) (q : PV) (o : Option AO) : Prop := ∃ u' d, q = .f u' /\ o = some .src /\ (∀ G y, RF c G u' y -> RF c G (.dom d) y) /\ P d
theorem t8.dom {c : Cx} {P : Dom -> Prop} {d : Dom} (h : P d) : t8 c P (.f (.dom d)) (some .src) := ⟨_, d, rfl, rfl, λ _ _ r => r, h⟩
theorem t8.view {c : Cx} {P : Dom -> Prop} {d : Dom} {v : FV} (e : c.tb.view d = v) (h : P d) : t8 c P (.f v) (some .src) := ⟨_, d, rfl, rfl, λ _ _ r => .dom (by rw [e]; exact r), h⟩
theorem AG (X : Amb w h₀ mg mb) (P : Dom -> Prop) (h : ∀ d, isS d = true -> P d) : aF ((lvl tb0 (ctA (cx0 w h₀ mg mb)) 40).c 997 [.ref 0, .f dG] [.src]) (hdQ (t8 (cx0 w h₀ mg mb) P)) := by
 refine aF.ofE (CS (cx0 w h₀ mg mb) (t8 (cx0 w h₀ mg mb) P)) (allLt_of λ d hd => ?_)
 match d, hd with
 | 0, _ => exact allLt_of λ s _ => allLt_of λ q hq => ⟨zP X s q hq, .dom (h _ rfl)⟩
 | 1, _ => exact allLt_of λ l _ => ⟨tJ X (N4 l), .dom (h _ rfl)⟩
theorem zN {c : Cx} {t : T (PV × Hp)} {P : Dom -> Prop} (h : aF t (hdQ (t8 c P))) : aF t λ q => ∃ u' d, q.1 = .f u' /\ nth q.2 0 = some .src /\ (∀ G y, RF c G u' y -> RF c G (.dom d) y) /\ P d := h
theorem PN (X : Amb w h₀ mg mb) : d9 (cx0 w h₀ mg mb) (ctB (cx0 w h₀ mg mb)) 226 :=
 rG (c := cx0 w h₀ mg mb) (k := 40) (r := 186) X.tab (PO X) (wS X.tab) (w0 X.tab) λ P hP => zN (AG X P hP)
theorem dX {f : Dom -> Prop} (h : ∀ s, f (.side s)) : mX f := ⟨rfl, λ d hd => by obtain ⟨s, rfl⟩ := H8 hd; exact h s⟩
theorem AN (X : Amb w h₀ mg mb) (P : Dom -> Prop) (h : ∀ d, isC d = true -> P d) (b : Bool) (p : Plc) : ∀ d, d < 7 -> lT (cx0 w h₀ mg mb) b p (t8 (cx0 w h₀ mg mb) P) d
 | 0, _ => (JP ..).mpr (dX λ x => dX λ y => allLt_of λ k _ => .view (d := .cond (.btw b p x y (Nat.beq k 0))) rfl (h _ rfl))
 | 1, _ => (JO ..).mpr (allLt_of λ m hm => match m, hm with
  | 0, _ => dX λ x => allLt_of λ k _ => .view (d := .cond (.in1 b p x (Nat.beq k 0))) rfl (h _ rfl)
  | 1, _ => dX λ x => dX λ y => allLt_of λ k _ => .view (d := .cond (.in2 b p x y (Nat.beq k 0))) rfl (h _ rfl))
 | 2, _ => (JN ..).mpr (allLt_of λ o _ => ⟨tJ X .i1, tJ X .i2, .view (d := .cond (.ors (opN o) b p)) rfl (h _ rfl)⟩)
 | 3, _ => (JM ..).mpr (allLt_of λ o _ => ⟨tJ X .i1, .view (d := .cond (.litl (opN o) b p)) rfl (h _ rfl)⟩)
 | 4, _ => (JL ..).mpr (allLt_of λ o _ => dX λ x => .view (d := .cond (.bin (opN o) b p x)) rfl (h _ rfl))
 | 5, _ => (JK ..).mpr (allLt_of λ o _ => dX λ x => .view (d := .cond (.bin (opN o) b p x)) rfl (h _ rfl))
 | 6, _ => (JJ ..).mpr (allLt_of λ o _ => dX λ x => .view (d := .cond (.bin (opN o) b p x)) rfl (h _ rfl))
theorem BE (X : Amb w h₀ mg mb) (P : Dom -> Prop) (h : ∀ d, isC d = true -> P d) : cF tb0 (ctB (cx0 w h₀ mg mb)) 40 1002 [.ref 0, .f dG] [.src] (hdQ (t8 (cx0 w h₀ mg mb) P)) := by
 refine gL cU LZ (by kernel_rfl) (by kernel_rfl) (by kernel_rfl) ?_
 show bF tb0 (ctB (cx0 w h₀ mg mb)) 39 1 (csN 0 :: csN 1 :: csR) LZ [.src] _
 refine cB (n := 38) (aF.ofE (JI ..) (allLt_of λ s _ => allLt_of λ q hq => ⟨zP X s q hq, ?_⟩))
 show bF tb0 (ctB (cx0 w h₀ mg mb)) 39 1 (csN 1 :: csR) (LY (vP s) (uS q)) [.src] _
 refine cB (n := 38) (aF.ofE (JH ..) (allLt_of λ d hd => ?_))
 show bF tb0 (ctB (cx0 w h₀ mg mb)) 39 1 csR (LX (vP s) (uS q) d) [.src] _
 exact ⟨T.AllE_P (AN X P h (vP s) (uS q) d hd)⟩
theorem PM (X : Amb w h₀ mg mb) : d9 (cx0 w h₀ mg mb) (n4 1002 dG isC (ctB (cx0 w h₀ mg mb))) 266 :=
 rG (c := cx0 w h₀ mg mb) (k := 40) (r := 226) X.tab (PN X) (wS X.tab) (w0 X.tab) λ P hP => zN ⟨(BE X P hP).r⟩
end
section
variable {tb : Tb} {ct : Ctr} {n : Nat}
theorem QB {k x : Nat} {elt it e2 : IExpr} {A ss : List IStmt} {vs : Vs} {H : Hp} {P : Fl × Vs × Hp -> Prop} (p : PV) (xs ys : List FV) (v : FV) (e1 : eF tb ct n it vs H = .ret (p, H)) (hx : bY H (opn tb p) = some xs)
  (hq : lW ((lvl tb ct n).c (100000 + x) [] H) = none)
  (hc : ∀ Q : List FV × Hp -> Prop, Q (ys, H) -> aF (cR (λ vs H => bP (λ e H => (lvl tb ct n).t e vs H) [] H) (λ vs H => (lvl tb ct n).e elt vs H) vs x xs H) Q)
  (he : ∀ Q : PV × Hp -> Prop, Q (.f v, H) -> aF (eF tb ct (n + 1) e2 vs H) Q)
  (hs : lW ((lvl tb ct (n + 1)).c 200000 [] H) = none) (hn : xY H .NotEq (.f (.lst ys)) (.f v) = some false)
  (h : bF tb ct (n + 3) k ss vs H P) : bF tb ct (n + 3) k (.ite (.cmp .NotEq (.comp elt x it []) e2) A [] :: ss) vs H P := by
 refine cB ⟨T.AllP_of_bind (t := (lvl tb ct (n + 2)).t (.cmp .NotEq (.comp elt x it []) e2) vs H) (T.AllP_of_bind (t := (lvl tb ct (n + 1)).e (.comp elt x it []) vs H) ?_)⟩
 show (((lvl tb ct n).e it vs H).bind λ y => oB (bY y.2 (opn tb y.1)) λ xs => (g9 tb (lvl tb ct n) (λ vs H => bP (λ e H => (lvl tb ct n).t e vs H) [] H) (λ vs H => (lvl tb ct n).e elt vs H) vs x xs y.2).bind λ z => T.ret (PV.f z.1, z.2)).AllP _
 have e1' : (lvl tb ct n).e it vs H = .ret (p, H) := e1
 rw [e1']
 show (oB (bY H (opn tb p)) λ xs => (g9 tb (lvl tb ct n) (λ vs H => bP (λ e H => (lvl tb ct n).t e vs H) [] H) (λ vs H => (lvl tb ct n).e elt vs H) vs x xs H).bind λ z => T.ret (PV.f z.1, z.2)).AllP _
 rw [hx]
 show ((g9 tb (lvl tb ct n) _ _ vs x xs H).bind _).AllP _
 unfold g9
 rw [hq]
 refine T.AllP_of_bind (T.AllP_of_bind (hc _ ?_).r)
 refine T.AllP_of_bind (t := (lvl tb ct (n + 1)).e e2 vs H) (he _ ?_).r
 have hcq : vJ (lvl tb ct (n + 1)) .NotEq (.f (.lst ys)) (.f v) H = .ret false := by
  unfold vJ
  rw [hs, hn]
  rfl
 show ((vJ (lvl tb ct (n + 1)) .NotEq (.f (.lst ys)) (.f v) H).bind _).AllP _
 rw [hcq]
 exact h
theorem LU {k : Nat} {ys : List Nat} {it : IExpr} {body ss : List IStmt} {vs : Vs} {H : Hp} {P : Fl × Vs × Hp -> Prop} (p : PV) (xs : List FV) (H' : Hp) (e : eF tb ct n it vs H = .ret (p, H')) (hx : bY H' p = some xs)
  (h : foF (λ v vs H => oB (oN v) λ us => oB (putAll ys (us.map .f) vs) λ vs' => (lvl tb ct n).b k body vs' H) xs vs H' (lZ (λ vs H => bF tb ct (n + 1) k ss vs H P) P)) : bF tb ct (n + 1) k (.forT ys it body :: ss) vs H P := by
 refine cB ⟨show (((lvl tb ct n).e it vs H).bind _).AllP _ from ?_⟩
 have e' : (lvl tb ct n).e it vs H = .ret (p, H') := e
 rw [e']
 show (oB (bY H' p) _).AllP _
 rw [hx]
 exact h.r
end
theorem kR {α : Type} {ts : Vs -> Hp -> T (Bool × Hp)} {el : Vs -> Hp -> T (PV × Hp)} {vs : Vs} {x : Nat} {H : Hp} {f g : α -> FV} (h1 : ∀ vs, ts vs H = .ret (true, H)) :
  ∀ l : List α, (∀ a ∈ l, ∀ Q : PV × Hp -> Prop, Q (.f (g a), H) -> aF (el (put vs x (.f (f a))) H) Q) -> ∀ Q : List FV × Hp -> Prop, Q (l.map g, H) -> aF (cR ts el vs x (l.map f) H) Q
 | [], _, Q, h => ⟨h⟩
 | a :: l, h2, Q, h => by
  refine ⟨?_⟩
  show ((ts (put vs x (.f (f a))) H).bind _).AllP Q
  rw [h1]
  show ((el (put vs x (.f (f a))) H).bind λ y => oB (asF (nrm y.2 y.1)) λ u => (cR ts el vs x (l.map f) y.2).bind λ z => .ret (u :: z.1, z.2)).AllP Q
  refine T.AllP_of_bind (h2 a (.head _) _ ?_).r
  show ((cR ts el vs x (l.map f) H).bind λ z => .ret (g a :: z.1, z.2)).AllP Q
  exact T.AllP_of_bind (kR h1 l (λ b hb => h2 b (.tail _ hb)) _ h).r
theorem vV (l : List Bnd) : nU (l.map bM) = true /\ BS (l.map bM) (l.map bM) = true := by induction l with
 | nil => exact ⟨rfl, rfl⟩
 | cons b l ih => exact ⟨ih.1, Bool.and_eq_true_iff.mpr ⟨decide_eq_true (rfl : Dom.due b = .due b), ih.2⟩⟩
theorem vU (l : List (List Nat)) : nU (l.map FV.str) = true /\ BS (l.map FV.str) (l.map FV.str) = true := by induction l with
 | nil => exact ⟨rfl, rfl⟩
 | cons b l ih => exact ⟨ih.1, Bool.and_eq_true_iff.mpr ⟨cN.mpr (rfl : b = b), ih.2⟩⟩
theorem zC {H : Hp} {a : List FV} (h1 : nU a = true) (h2 : BS a a = true) : xY H .NotEq (.f (.lst a)) (.f (.lst a)) = some false := by cases a with
 | nil => rfl
 | cons x r =>
  show DJ (gO (nU (x :: r)) <| gO (BS (x :: r) (x :: r)) <| some true) = _
  rw [h1, h2]
  rfl
def ctL (c : Cx) : Ctr := n4 1002 dG isC (ctB c)
def okG (G : Hp) : Prop := G = [] \/ ∃ x1 x2 x3 x4 x5, G = [x1, x2, x3, x4, x5]
def vO : List IStmt := match zW.body.drop 11 with
 | .forT _ _ b :: _ => b
 | _ => []
def sbN (i : Nat) : IStmt := match vO.drop i with
 | s :: _ => s
 | [] => .retn
section
variable (x ts pv d b z : List FV) (iv : FV) (n pl cov : Bool)
abbrev vsI : Vs := [(31, .ref 0), (71, .f a8), (155, .f (.lst pv)), (113, .f iv), (117, .f (.lst x)), (142, .f (dH ts))]
abbrev vsJ : Vs := vsI x ts pv iv ++ [(34, .f (.int (sN n))), (143, .f (plV n pl))]
abbrev vsK : Vs := vsJ x ts pv iv n pl ++ [(147, .f (.lst d)), (81, .f (.lst b))]
abbrev vsM : Vs := vsK x ts pv d b iv n pl ++ [(116, .f (.bool cov))]
abbrev vsN : Vs := vsM x ts pv d b iv n pl cov ++ [(148, .f (.lst z))]
end
section
variable (c : Cx) (G : Hp) (x ts pv d b z : List FV) (iv : FV) (n pl cov : Bool)
theorem TL (Q : Fl × Vs × Hp -> Prop) : (sF tb0 (ctL c) 49 0 (sbN 0) (vsJ x ts pv iv n pl) (.src :: G)).AllP Q = (Con c 186 1026 [.lst x, .int (sN n), plV n pl] (.ret (.lst ((a7 (unC x) n pl).map bM))) ∧
  Con c 186 798 [dH ts, .int (sN n), plV n pl] (.ret (.lst ((a7 (unT ts) n pl).map dB))) /\ Q (.next, vsK x ts pv ((a7 (unC x) n pl).map bM) ((a7 (unT ts) n pl).map dB) iv n pl, (.src :: G))) := by
 cases n <;> cases pl <;> kernel_rfl
theorem TK (Q : Fl × Vs × Hp -> Prop) : (sF tb0 (ctL c) 49 0 (sbN 2) (vsK x ts pv d b iv n pl) (.src :: G)).AllE Q = cS 2 λ k => Q (.next, vsM x ts pv d b iv n pl (Nat.beq k 0), (.src :: G)) := by kernel_rfl
theorem TJ (hG : okG G) (Q : Fl × Vs × Hp -> Prop) : (sF tb0 (ctL c) 49 0 (sbN 3) (vsM x ts pv d b iv n pl cov) (.src :: G)).AllP Q = (Con c 186 758 [a8, .lst b] (.ret (.lst (pR c b))) ∧
  Con c 186 772 [iv, a8, .lst b, .bool cov] (.ret (.lst (pI c iv b cov))) /\ (pR c b ++ pI c iv b cov).length <= 1000 /\ Q (.next, vsN x ts pv d b (pR c b ++ pI c iv b cov) iv n pl cov, (.src :: (G ++ [.fz (.lst (pR c b ++ pI c iv b cov))])))) := by
 rcases hG with rfl | ⟨x1, x2, x3, x4, x5, rfl⟩
 ·kernel_rfl
 ·kernel_rfl
theorem TI : sF tb0 (ctL c) 49 0 (sbN 5) (vsN x ts pv d b z iv n pl cov) (.src :: (G ++ [.fz (.lst z)])) = .ret (.next, vsI x ts pv iv, [.src]) := by kernel_rfl
theorem OZ (a : Bnd) (Q : PV × Hp -> Prop) : ((lvl tb0 (ctL c) 47).e (.callF 167 1031 [.var 63]) (put (vsK x ts pv d b iv n pl) 63 (.f (dB a))) (.src :: G)).AllP Q = (Con c 186 1031 [dB a] (.ret (bM a)) /\ Q (.f (bM a), (.src :: G))) := by kernel_rfl
theorem OY (fs : List (Nat × FV)) (Q : PV × Hp -> Prop) : ((lvl tb0 (ctL c) 47).e (.meth (.var 85) 117 []) (put (vsN x ts pv d b z iv n pl cov) 85 (.f (.node 714 fs))) (.src :: (G ++ [.fz (.lst z)]))).AllP Q =
  (Con c 186 711 [.node 714 fs] (.ret (gN (.node 714 fs))) /\ Q (.f (gN (.node 714 fs)), (.src :: (G ++ [.fz (.lst z)])))) := by kernel_rfl
theorem TD (Q : PV × Hp -> Prop) : (eF tb0 (ctL c) 48 (.callF 170 1055 [.var 147, .var 155, .var 116]) (vsN x ts pv d b z iv n pl cov) (.src :: (G ++ [.fz (.lst z)]))).AllP Q =
  (Con c 186 1055 [.lst d, .lst pv, .bool cov] (.ret (.lst ((eZ (unD d) (unP pv) cov).map .str))) /\ Q (.f (.lst ((eZ (unD d) (unP pv) cov).map .str)), (.src :: (G ++ [.fz (.lst z)])))) := by kernel_rfl
theorem TH : eF tb0 (ctL c) 47 (.var 81) (vsK x ts pv d b iv n pl) (.src :: G) = .ret (.f (.lst b), (.src :: G)) := by kernel_rfl
theorem TG : eF tb0 (ctL c) 48 (.var 147) (vsK x ts pv d b iv n pl) (.src :: G) = .ret (.f (.lst d), (.src :: G)) := by kernel_rfl
theorem TF : eF tb0 (ctL c) 47 (.var 148) (vsN x ts pv d b z iv n pl cov) (.src :: (G ++ [.fz (.lst z)])) = .ret (.f (.lst z), (.src :: (G ++ [.fz (.lst z)]))) := by kernel_rfl
theorem TC (H : Hp) : lW ((lvl tb0 (ctL c) 47).c (100000 + 63) [] H) = none := by kernel_rfl
theorem TB (H : Hp) : lW ((lvl tb0 (ctL c) 47).c (100000 + 85) [] H) = none := by kernel_rfl
theorem LH (H : Hp) : lW ((lvl tb0 (ctL c) 48).c 200000 [] H) = none := by kernel_rfl
end
theorem mI : ∀ {qs : List FV} {ss : List (List Nat)}, all2 cC qs ss = true -> qs.map gN = ss.map .str /\ ∀ q ∈ qs, ∃ s, cC q s = true
 | [], [], _ => ⟨rfl, λ q h => by cases h⟩
 | [], _ :: _, h => by cases h
 | _ :: _, [], h => by cases h
 | q :: qs, s :: ss, h => by
  obtain ⟨h1, h2⟩ := Bool.and_eq_true_iff.mp h
  obtain ⟨e, f⟩ := mI (qs := qs) (ss := ss) h2
  refine ⟨?_, λ q' hq => ?_⟩
  ·rw [List.map_cons, List.map_cons, e]
   have e1 : gN q = .str s := by
    unfold gN
    rw [mM (Bool.and_eq_true_iff.mp h1).2]
    rfl
   rw [e1]
  ·rcases List.mem_cons.mp hq with rfl | hq
   ·exact ⟨s, h1⟩
   ·exact f q' hq
theorem CK {a b : List FV} {s t : List (List Nat)} (h1 : all2 cC a s = true) (h2 : all2 cC b t = true) : (a ++ b).map gN = (s ++ t).map .str /\ (∀ q ∈ a ++ b, ∃ s, cC q s = true) /\ (a ++ b).length = s.length + t.length := by
 obtain ⟨e1, f1⟩ := mI h1
 obtain ⟨e2, f2⟩ := mI h2
 refine ⟨by rw [List.map_append, List.map_append, e1, e2], λ q hq => ?_, by rw [List.length_append, kD h1, kD h2]⟩
 rcases List.mem_append.mp hq with h | h
 ·exact f1 q h
 ·exact f2 q h
theorem CJ {q : FV} {s : List Nat} (h : cC q s = true) : gN q = .str s := by
 unfold gN
 rw [mM (Bool.and_eq_true_iff.mp h).2]
 rfl
theorem wI (e : Bool) (m : In3) (lo hi : Bool) : (c0 e m lo hi).length <= 3 := by
 have h1 := j5 [114, 111, 119, 105, 100] m []
 have h2 := fY [114, 111, 119, 105, 100, 95, 114, 97, 110, 103, 101] lo hi []
 have h3 : (onB e [[114, 111, 119, 105, 100, 32, 101, 113, 117, 97, 108, 115, 32, 49]]).length <= 1 := aY (by simp)
 unfold c0
 rw [List.length_append, List.length_append]
 omega
section
variable {w : World} {h₀ : Heap} {mg mb : Str -> Option Value}
def DE (P : Vs × Hp -> Prop) (z : Fl × Vs × Hp) : Prop := match z.1 with
 | .next => P z.2
 | _ => False
theorem iter (X : Amb w h₀ mg mb) {G : Hp} (hG : okG G) (cs : List Cond) (h0 : cs ≠ []) (hl : cs.length <= 4) {ps : List Plc} (hp : ps ∈ cA) (n pl : Bool) (P : Vs × Hp -> Prop) (h : P (vsI (cs.map dC) (cs.map dT) (ps.map λ p => .int (pN p)) (cK ps), [.src])) :
  bF tb0 (ctL (cx0 w h₀ mg mb)) 50 0 vO (vsJ (cs.map dC) (cs.map dT) (ps.map λ p => .int (pN p)) (cK ps) n pl) (.src :: G) (DE P) := by
 obtain ⟨c, hc⟩ : ∃ c, cx0 w h₀ mg mb = c := ⟨_, rfl⟩
 obtain ⟨B, hB⟩ : ∃ B, a7 cs n pl = B := ⟨_, rfl⟩
 have c1 : Con c 186 1026 [.lst (cs.map dC), .int (sN n), plV n pl] (.ret (.lst (B.map bM))) := by subst hc; subst hB; exact (EZ X cs n pl hl).le (by decide)
 have c2 : Con c 186 798 [dH (cs.map dT), .int (sN n), plV n pl] (.ret (.lst (B.map dB))) := by subst hc; subst hB; exact (JU X cs n pl hl).le (by decide)
 have c3 : ∀ a, Con c 186 1031 [dB a] (.ret (bM a)) := λ a => by subst hc; exact (EY X a).le (by decide)
 have c4 : ∀ q s, cC q s = true -> Con c 186 711 [q] (.ret (gN q)) := λ q s hs => by
  rw [CJ hs]; subst hc; exact (JY X hs).le (by decide)
 have c5 : ∀ cov, Con c 186 1055 [.lst (B.map bM), .lst (ps.map λ p => .int (pN p)), .bool cov] (.ret (.lst ((eZ B ps cov).map .str))) := λ cov => by subst hc; exact (EV X B hp cov).le (by decide)
 have c6 : all2 cC (pR c (B.map dB)) (c0 (lkB .r .eq B).isSome (in3 (lkB .r .inn B)) (lkB .r .lo (B.filter aH)).isSome (lkB .r .hi (B.filter aH)).isSome) = true /\ Con c 186 758 [a8, .lst (B.map dB)] (.ret (.lst (pR c (B.map dB)))) := by subst hc; exact RK X B
 have c7 : ∀ cov, all2 cC (pI c (cK ps) (B.map dB) cov) (b9 (aP B ps) (aI B ps) cov) = true /\ Con c 186 772 [cK ps, a8, .lst (B.map dB), .bool cov] (.ret (.lst (pI c (cK ps) (B.map dB) cov))) := λ cov => by subst hc; exact RM X B hp cov
 rw [hc]
 obtain ⟨x, hx⟩ : ∃ x, cs.map dC = x := ⟨_, rfl⟩
 obtain ⟨ts, hts⟩ : ∃ ts, cs.map dT = ts := ⟨_, rfl⟩
 obtain ⟨pv, hpv⟩ : ∃ pv, (ps.map λ p => FV.int (pN p)) = pv := ⟨_, rfl⟩
 obtain ⟨iv, hiv⟩ : ∃ iv, cK ps = iv := ⟨_, rfl⟩
 have u1 : unC x = cs := by rw [← hx]; exact yY cs
 have u2 : unT ts = cs := by rw [← hts]; exact yV cs
 have u3 : unP pv = ps := by rw [← hpv]; exact yW ps
 have u4 : unD (B.map bM) = B := yX B
 rw [hx] at c1 h ⊢
 rw [hts] at c2 h ⊢
 rw [hpv] at c5 h ⊢
 rw [hiv] at c7 h ⊢
 show bF tb0 (ctL c) 50 0 [sbN 0, sbN 1, sbN 2, sbN 3, sbN 4, sbN 5] (vsJ x ts pv iv n pl) (.src :: G) (DE P)
 refine cB (n := 49) (aF.of (TL c G x ts pv iv n pl _) ?_)
 rw [u1, u2, hB]
 refine ⟨c1, c2, ?_⟩
 show bF tb0 (ctL c) 50 0 [.ite (.cmp .NotEq (.comp (.callF 167 1031 [.var 63]) 63 (.var 81) []) (.var 147)) [.ret (.cst (.bool false))] [], sbN 2, sbN 3, sbN 4, sbN 5] (vsK x ts pv (B.map bM) (B.map dB) iv n pl) (.src :: G) (DE P)
 refine QB (n := 47) (.f (.lst (B.map dB))) (B.map dB) (B.map bM) (.lst (B.map bM)) (TH ..) (by kernel_rfl) (TC ..) ?_ (λ Q hQ => aF.ret (TG ..) hQ) (LH ..) (zC (vV B).1 (vV B).2) ?_
 ·exact kR (f := dB) (g := bM) (λ vs => rfl) B λ a _ Q hQ => aF.of (OZ c G x ts pv (B.map bM) (B.map dB) iv n pl a Q) ⟨c3 a, hQ⟩
 refine cB (n := 49) (aF.ofE (TK c G x ts pv (B.map bM) (B.map dB) iv n pl _) (allLt_of λ k _ => ?_))
 obtain ⟨cov, hcov⟩ : ∃ cov, Nat.beq k 0 = cov := ⟨_, rfl⟩
 rw [hcov]
 show bF tb0 (ctL c) 50 0 [sbN 3, sbN 4, sbN 5] (vsM x ts pv (B.map bM) (B.map dB) iv n pl cov) (.src :: G) (DE P)
 obtain ⟨t1, t2, t3⟩ := CK c6.1 (c7 cov).1
 have l1 := wI (lkB .r .eq B).isSome (in3 (lkB .r .inn B)) (lkB .r .lo (B.filter aH)).isSome (lkB .r .hi (B.filter aH)).isSome
 have l2 := mJ (aP B ps) (aI B ps) cov
 refine cB (n := 49) (aF.of (TJ c G x ts pv (B.map bM) (B.map dB) iv n pl cov hG _) ⟨c6.2, (c7 cov).2, by omega, ?_⟩)
 generalize pR c (B.map dB) ++ pI c iv (B.map dB) cov = z at t1 t2 ⊢
 show bF tb0 (ctL c) 50 0 [.ite (.cmp .NotEq (.comp (.meth (.var 85) 117 []) 85 (.var 148) []) (.callF 170 1055 [.var 147, .var 155, .var 116])) [.ret (.cst (.bool false))] [], sbN 5] (vsN x ts pv (B.map bM) (B.map dB) z iv n pl cov) (.src :: (G ++ [.fz (.lst z)])) (DE P)
 refine QB (n := 47) (.f (.lst z)) z ((eZ B ps cov).map .str) (.lst ((eZ B ps cov).map .str)) (TF ..) (by kernel_rfl) (TB ..) ?_ (λ Q hQ => aF.of (TD c G x ts pv (B.map bM) (B.map dB) z iv n pl cov Q) ?_) (LH ..) (zC (vU _).1 (vU _).2) ?_
 ·have e : eZ B ps cov = c0 (lkB .r .eq B).isSome (in3 (lkB .r .inn B)) (lkB .r .lo (B.filter aH)).isSome (lkB .r .hi (B.filter aH)).isSome ++ b9 (aP B ps) (aI B ps) cov := rfl
  rw [e, ← t1]
  have key := kR (ts := λ vs H => bP (λ e H => (lvl tb0 (ctL c) 47).t e vs H) [] H) (el := λ vs H => (lvl tb0 (ctL c) 47).e (.meth (.var 85) 117 []) vs H) (vs := vsN x ts pv (B.map bM) (B.map dB) z iv n pl cov) (x := 85) (H := (.src :: (G ++ [.fz (.lst z)]))) (f := λ v : FV => v) (g := gN) (λ vs => rfl) z (λ a ha Q hQ => by
   obtain ⟨s, hs⟩ := t2 a ha
   obtain ⟨fs, rfl⟩ := xL (Bool.and_eq_true_iff.mp hs).1
   exact aF.of (OY c G x ts pv (B.map bM) (B.map dB) z iv n pl cov fs Q) ⟨c4 _ s hs, hQ⟩)
  rw [List.map_id'] at key
  exact key
 ·rw [u3, u4]
  exact ⟨c5 cov, hQ⟩
 ·exact i3 (n := 49) _ _ (TI ..) (p7 h)
end
def lN (i : Nat) : IStmt := match zW.body.drop i with
 | s :: _ => s
 | [] => .retn
noncomputable def psN : Nat -> List Plc
 | 0 => [.a]
 | 1 => [.b]
 | 2 => [.c]
 | 3 => [.b, .a]
 | 4 => [.c, .b]
 | 5 => [.a, .r]
 | _ => [.c, .a, .b]
theorem NW {d : Nat} (h : d < 7) : psN d ∈ cA := by
 match d, h with
 | 0, _ => simp [psN, cA]
 | 1, _ => simp [psN, cA]
 | 2, _ => simp [psN, cA]
 | 3, _ => simp [psN, cA]
 | 4, _ => simp [psN, cA]
 | 5, _ => simp [psN, cA]
 | 6, _ => simp [psN, cA]
abbrev pP (ps : List Plc) : List FV := ps.map λ p => .int (pN p)
abbrev vsA (pv : List FV) (iv : FV) : Vs := [(31, .ref 0), (71, .f a8), (155, .f (.lst pv)), (113, .f iv), (43, .f dG)]
theorem VG (c : Cx) (xs : List FV) (Q : Fl × Vs × Hp -> Prop) : (sF tb0 (ctL c) 50 0 (lN 0) [(157, .f (.lst xs))] []).AllP Q = ((∃ is, fD xs = some is) /\ Q (.next, [(157, .f (.lst xs)), (31, .ref 0)], [.src])) := by kernel_rfl
theorem VF (c : Cx) (xs : List FV) (Q : Fl × Vs × Hp -> Prop) : ((lvl tb0 (ctL c) 51).b 0 [lN 1, lN 2, lN 3, lN 4, lN 5] [(157, .f (.lst xs)), (31, .ref 0)] [.src]).AllE Q = cS 7 λ d => Q (.next, vsA (pP (psN d)) (cK (psN d)), [.src]) := by kernel_rfl
abbrev vsB (pv : List FV) (iv t w k l : PV) : Vs := [(31, .ref 0), (71, .f a8), (155, .f (.lst pv)), (113, iv), (43, .f dG), (117, t), (162, w), (134, k), (3, l)]
theorem VE (c : Cx) (pv : List FV) (iv : FV) : sF tb0 (ctL c) 50 0 (lN 6) (vsA pv iv) [.src] = .ret (.next, vsA pv iv ++ [(117, .ref 1), (162, .f .non)], [.src, .flist []]) := by kernel_rfl
abbrev gU (f : Dom -> Prop) : Prop := dG = dG /\ ∀ d, isC d = true -> f d
abbrev w1 (a : Dom) : FV := .dom a
abbrev w2 (a b : Dom) : FV := aD (w1 a) (.dom b)
abbrev w3 (a b d : Dom) : FV := aD (w2 a b) (.dom d)
abbrev w4 (a b d e : Dom) : FV := aD (w3 a b d) (.dom e)
theorem VD (c : Cx) (pv : List FV) (iv : FV) (Q : Fl × Vs × Hp -> Prop) : (sF tb0 (ctL c) 50 0 (lN 7) (vsA pv iv ++ [(117, .ref 1), (162, .f .non)]) [.src, .flist []]).AllE Q = cS 4 λ k => match k with
 | 0 => gU λ a => Q (.next, vsB pv (.f iv) (.ref 1) (.f (w1 a)) (.f (.int 0)) (.f (.dom a)), [.src, .flist [.dom a]])
 | 1 => gU λ a => gU λ b => Q (.next, vsB pv (.f iv) (.ref 1) (.f (w2 a b)) (.f (.int 1)) (.f (.dom b)), [.src, .flist [.dom a, .dom b], .fz (w2 a b)])
 | 2 => gU λ a => gU λ b => gU λ d => Q (.next, vsB pv (.f iv) (.ref 1) (.f (w3 a b d)) (.f (.int 2)) (.f (.dom d)), [.src, .flist [.dom a, .dom b, .dom d], .fz (w2 a b), .fz (w3 a b d)])
 | _ => gU λ a => gU λ b => gU λ d => gU λ e => Q (.next, vsB pv (.f iv) (.ref 1) (.f (w4 a b d e)) (.f (.int 3)) (.f (.dom e)), [.src, .flist [.dom a, .dom b, .dom d, .dom e], .fz (w2 a b), .fz (w3 a b d), .fz (w4 a b d e)]) := by kernel_rfl
noncomputable abbrev F9 (c : Cx) (pv : List FV) (iv : FV) (cs : List Cond) (k l : PV) (G : Hp) (Q : Fl × Vs × Hp -> Prop) : Prop := ((lvl tb0 (ctL c) 51).b 0 [lN 8, lN 9, lN 10] (vsB pv (.f iv) (.ref 1) (.f (fT cs)) k l) (.src :: .flist (cs.map dC) :: G)).AllP Q =
 (Con c 186 815 [dG, fT cs] (.ret (dH (cs.map dT))) /\ Q (.next, vsI (cs.map dC) (cs.map dT) pv iv, [.src]))
theorem VL (c : Cx) (pv : List FV) (iv : FV) (a : Cond) (k l : PV) (Q : Fl × Vs × Hp -> Prop) : F9 c pv iv [a] k l [] Q := by kernel_rfl
theorem VK (c : Cx) (pv : List FV) (iv : FV) (a b : Cond) (k l : PV) (x : AO) (Q : Fl × Vs × Hp -> Prop) : F9 c pv iv [a, b] k l [x] Q := by kernel_rfl
theorem VJ (c : Cx) (pv : List FV) (iv : FV) (a b d : Cond) (k l : PV) (x y : AO) (Q : Fl × Vs × Hp -> Prop) : F9 c pv iv [a, b, d] k l [x, y] Q := by kernel_rfl
theorem VI (c : Cx) (pv : List FV) (iv : FV) (a b d e : Cond) (k l : PV) (x y z : AO) (Q : Fl × Vs × Hp -> Prop) : F9 c pv iv [a, b, d, e] k l [x, y, z] Q := by kernel_rfl
def iW (n pl : Bool) : FV := .tup [.int (sN n), plV n pl]
def bdL (c : Cx) : FV -> Vs -> Hp -> T (Fl × Vs × Hp) := λ v vs H => oB (oN v) λ us => oB (putAll [34, 143] (us.map .f) vs) λ vs' => (lvl tb0 (ctL c) 50).b 0 vO vs' H
theorem VM (c : Cx) (H : Hp) (x ts pv : List FV) (iv : FV) (n pl : Bool) : bdL c (iW n pl) (vsI x ts pv iv) H = (lvl tb0 (ctL c) 50).b 0 vO (vsJ x ts pv iv n pl) H := by kernel_rfl
def sJ : List FV := [iW false false, iW true false, iW false true, iW true true]
def itL : IExpr := match lN 11 with
 | .forT _ it _ => it
 | _ => .wall
abbrev hpT : Hp := [.src, .fz (.lst []), .fz (.lst []), .fz (.lst [.int 1]), .fz (.lst [.int 0]), .fz (.lst sJ)]
theorem VH (c : Cx) (x ts pv : List FV) (iv : FV) : eF tb0 (ctL c) 50 itL (vsI x ts pv iv) [.src] = .ret (.f (.lst sJ), hpT) := by kernel_rfl
theorem aF.cast {α : Type} {t t' : T α} {P : α -> Prop} (e : t = t') (h : aF t' P) : aF t P := e ▸ h
theorem bF.ofE {tb : Tb} {ct : Ctr} {n k : Nat} {ss : List IStmt} {vs : Vs} {H : Hp} {P : Fl × Vs × Hp -> Prop} {p : Prop} (e : ((lvl tb ct n).b k ss vs H).AllE P = p) (h : p) : bF tb ct n k ss vs H P := ⟨T.AllE_P (e.mpr h)⟩
theorem bF.of {tb : Tb} {ct : Ctr} {n k : Nat} {ss : List IStmt} {vs : Vs} {H : Hp} {P : Fl × Vs × Hp -> Prop} {p : Prop} (e : ((lvl tb ct n).b k ss vs H).AllP P = p) (h : p) : bF tb ct n k ss vs H P := ⟨e.mpr h⟩
theorem cP {f : Dom -> Prop} (h : ∀ c, f (.cond c)) : gU f := ⟨rfl, λ d hd => by
 cases d with
 | cond c => exact h c
 | _ => cases hd⟩
section
variable {w : World} {h₀ : Heap} {mg mb : Str -> Option Value}
theorem yZ (X : Amb w h₀ mg mb) {G : Hp} (hG : okG G) (cs : List Cond) (h0 : cs ≠ []) (hl : cs.length <= 4) {ps : List Plc} (hp : ps ∈ cA) (n pl : Bool) (r : List FV) (Q : Fl × Vs × Hp -> Prop)
  (h : foF (bdL (cx0 w h₀ mg mb)) r (vsI (cs.map dC) (cs.map dT) (pP ps) (cK ps)) [.src] Q) : foF (bdL (cx0 w h₀ mg mb)) (iW n pl :: r) (vsI (cs.map dC) (cs.map dT) (pP ps) (cK ps)) (.src :: G) Q := by
 refine rY (aF.cast (VM ..) (aF.mono (λ z hz => ?_) ⟨(iter X hG cs h0 hl hp n pl (λ z => foF (bdL (cx0 w h₀ mg mb)) r z.1 z.2 Q) h).r⟩))
 obtain ⟨f, vs, H⟩ := z
 cases f with
 | next => exact hz
 | brk => exact False.elim hz
 | cont => exact False.elim hz
 | ret p => exact False.elim hz
theorem DW (X : Amb w h₀ mg mb) (cs : List Cond) (h0 : cs ≠ []) (hl : cs.length <= 4) {ps : List Plc} (hp : ps ∈ cA) (P : FV -> Prop) (h : P (.bool true)) :
  bF tb0 (ctL (cx0 w h₀ mg mb)) 51 0 [lN 11, lN 12] (vsI (cs.map dC) (cs.map dT) (pP ps) (cK ps)) [.src] (e8 (dF P)) := by
 show bF tb0 (ctL (cx0 w h₀ mg mb)) 51 0 [.forT [34, 143] itL vO, .ret (.cst (.bool true))] (vsI (cs.map dC) (cs.map dT) (pP ps) (cK ps)) [.src] (e8 (dF P))
 refine LU (n := 50) (.f (.lst sJ)) sJ hpT (VH ..) (by kernel_rfl) ?_
 show foF (bdL (cx0 w h₀ mg mb)) [iW false false, iW true false, iW false true, iW true true] (vsI (cs.map dC) (cs.map dT) (pP ps) (cK ps)) hpT _
 refine yZ X (.inr ⟨_, _, _, _, _, rfl⟩) cs h0 hl hp _ _ _ _ ?_
 refine yZ X (.inl rfl) cs h0 hl hp _ _ _ _ ?_
 refine yZ X (.inl rfl) cs h0 hl hp _ _ _ _ ?_
 refine yZ X (.inl rfl) cs h0 hl hp _ _ _ _ ?_
 refine rX ?_
 exact iU (n := 50) (.f (.bool true)) (vsI (cs.map dC) (cs.map dT) (pP ps) (cK ps)) [.src] (by kernel_rfl) h
theorem mD (X : Amb w h₀ mg mb) (cs : List Cond) (h0 : cs ≠ []) (hl : cs.length <= 4) {ps : List Plc} (hp : ps ∈ cA) {k l : PV} {G : Hp} (P : FV -> Prop) (h : P (.bool true))
  (e : ∀ Q, F9 (cx0 w h₀ mg mb) (pP ps) (cK ps) cs k l G Q) :
  bF tb0 (ctL (cx0 w h₀ mg mb)) 51 0 ([lN 8, lN 9, lN 10] ++ [lN 11, lN 12]) (vsB (pP ps) (.f (cK ps)) (.ref 1) (.f (fT cs)) k l) (.src :: .flist (cs.map dC) :: G) (e8 (dF P)) :=
 B3 (n := 50) (bF.of (e _) ⟨(JT X cs hl h0).le (by decide), DW X cs h0 hl hp P h⟩)
theorem HY (X : Amb w h₀ mg mb) (xs : List FV) (hxs : ∃ is, fD xs = some is) (P : FV -> Prop) (h : P (.bool true)) : cF tb0 (ctL (cx0 w h₀ mg mb)) 52 1060 ([.lst xs].map .f) [] (dF P) := by
 refine gL zW [(157, .f (.lst xs))] (by kernel_rfl) (by kernel_rfl) (by kernel_rfl) ?_
 show bF tb0 (ctL (cx0 w h₀ mg mb)) 51 0 (lN 0 :: ([lN 1, lN 2, lN 3, lN 4, lN 5] ++ (lN 6 :: lN 7 :: ([lN 8, lN 9, lN 10] ++ [lN 11, lN 12])))) [(157, .f (.lst xs))] [] (e8 (dF P))
 refine cB (n := 50) (aF.of (VG ..) ⟨hxs, ?_⟩)
 show bF tb0 (ctL (cx0 w h₀ mg mb)) 51 0 ([lN 1, lN 2, lN 3, lN 4, lN 5] ++ (lN 6 :: lN 7 :: ([lN 8, lN 9, lN 10] ++ [lN 11, lN 12]))) [(157, .f (.lst xs)), (31, .ref 0)] [.src] (e8 (dF P))
 refine B3 (n := 50) (bF.ofE (VF ..) (allLt_of λ d hd => ?_))
 have hp := NW hd
 generalize psN d = ps at hp ⊢
 show bF tb0 (ctL (cx0 w h₀ mg mb)) 51 0 (lN 6 :: lN 7 :: ([lN 8, lN 9, lN 10] ++ [lN 11, lN 12])) (vsA (pP ps) (cK ps)) [.src] (e8 (dF P))
 refine i3 (n := 50) _ _ (VE ..) ?_
 refine cB (n := 50) (aF.ofE (VD ..) (allLt_of λ k hk => ?_))
 match k, hk with
 | 0, _ => exact cP λ a => mD X [a] (by simp) (by simp) hp P h λ Q => VL ..
 | 1, _ => exact cP λ a => cP λ b => mD X [a, b] (by simp) (by simp) hp P h λ Q => VK ..
 | 2, _ => exact cP λ a => cP λ b => cP λ d => mD X [a, b, d] (by simp) (by simp) hp P h λ Q => VJ ..
 | 3, _ => exact cP λ a => cP λ b => cP λ d => cP λ e => mD X [a, b, d, e] (by simp) (by simp) hp P h λ Q => VI ..
theorem JR (X : Amb w h₀ mg mb) (xs : List FV) (hxs : ∃ is, fD xs = some is) : Con (cx0 w h₀ mg mb) 319 1060 [.lst xs] (.ret (.bool true)) :=
 cM (mk := false) (k := 52) (r := 266) X (PM X) λ P hP => .ofC (HY X xs hxs P hP)
end
end
section
open PySem PySem.W PySem.Calls PyProof.Rows
theorem qW {c : Cx} {G : Gh} {P : Params} {h : Heap} : ∀ {is : List Int} {vs : List Value}, WellAll P h vs (ofPys (is.map PyData.int)) -> RL c G (is.map FV.int) vs
 | [], _, .nil => .nil
 | i :: r, _, .cons w ws => by
  cases w with
  | int _ t => exact .cons (.int i t) (qW ws)
theorem xO (is : List Int) : fD (is.map FV.int) = some is := by induction is with
 | nil => rfl
 | cons i r ih =>
  show (oO (fD (r.map FV.int)) λ l => some (i :: l)) = _
  rw [ih]; rfl
theorem pE {P : Params} {h : Heap} {a : Addr} {ds : List WData} (w : Well P h (.ref a) (.list ds)) : ∃ vs : List Value, h.get? a = some { cls := .type "list", data := .seq vs.toArray } /\ WellAll P h vs ds := by
 cases w with
 | list h1 h2 => exact ⟨_, h1, h2⟩
theorem OD (P : Params) : nsIn (KN P) mainGlobals (S "law") = some (some (.ref 1060)) := by kernel_rfl
theorem OC : nN.1.name = S "law" := by kernel_rfl
theorem DV (args : List WData) : PySem.Challenge.rw_nt0130_01.row.toRowW.claim.post args (.bool true) args = true := by kernel_rfl
theorem xI (args : List WData) (cls : ExcName) : PySem.Challenge.rw_nt0130_01.row.toRowW.claim.raises args cls = false := by kernel_rfl
theorem rw_holds : PySem.Challenge.rw_nt0130_01.Holds := by
 refine EA ?_
 intro w sa s1 mg mb G Y a o pm cd doc dV kV ho hd hcd hD hmg hg args vals as hpre hlay hrd hwl hlo
 refine Ground.open G ?_
 intro T B D TE TW
 wrow_args hpre hlay hrd hwl hlo
 rename_i is hs _ hL1 hr1 hl2 b1 b2 l vs b3 hL ra w1 r0 hI hr hlen _
 have X : Amb w s1.heap mg mb := ⟨Y, qv, looseW qv loose, ExcName.means sa.heap, T⟩
 have ha : a = 1060 := by
  have e := mg_of Y T.g (OD w.params)
  rw [OC] at hmg
  rw [hmg] at e
  cases e; rfl
 subst ha
 have hlen' : is.length <= 63 := by
  have : ¬ ((63 : Int) < (is.length : Int)) := hlen
  omega
 have C := JR X (is.map FV.int) ⟨is, xO is⟩
 have w1' : Well w.params s1.heap (.ref l) (.list (ofPys (is.map PyData.int))) := w1
 obtain ⟨us, hget, wall⟩ := pE w1'
 obtain ⟨h1, g1, d1, t1, os1⟩ := s1
 have ra' : RL (cx0 w h1 mg mb) h1.get? [.lst (is.map FV.int)] [.ref l] := .cons (.lst hget ⟨0, rfl⟩ (by rw [List.length_map]; omega) (qW wall)) .nil
 have I : Inv (cx0 w h1 mg mb) ⟨h1.get?, [], [], h1⟩ := ⟨rfl, λ _ _ z => z, λ i ao p z _ => (by cases z), λ b hb => (by obtain ⟨i, ao, p, z, _⟩ := hb; cases z), λ i j ao ao' p p' _ z => (by cases z), λ i C fs p z => (by cases z), λ _ _ z => z⟩
 have hA : AOk 319 callerA := ⟨rfl, by decide, by decide⟩
 refine wpAny_call (C callerA ⟨h1.get?, [], [], h1⟩ ⟨g1, d1, os1⟩ t1 [.ref l] _ hA ra' I λ W' v tk e I' r => ?_)
 obtain ⟨hH, rv⟩ := r
 cases rv with
 | f rv =>
 cases rv with
 | bool b =>
 refine GoodW.toG ⟨.inl ⟨_, .bool true, [], rfl, λ cls => xI _ cls, .bool _, DV _, λ _ => ⟨List.nodup_nil, λ _ z => by cases z⟩⟩, λ b o z => e.keep b o z (λ hb => by obtain ⟨i, ao, p, z, _⟩ := hb; cases z) λ z => z, rfl, hg⟩
end
end
end Mine
theorem PySem.Challenge.cw_nt0130_01_holds : PySem.Challenge.rw_nt0130_01.Holds :=
  Mine.rw_holds
