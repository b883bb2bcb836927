import PyProof.Rows.All
import Wide.All
import OpenK.AllK
import Wide.FinOn
import PyProof.ExcBaseAll.Exception
import PyProof.InstStoreFacts
import PyProof.ExcAttrAll.Exception
import Lean
import PySem.Challenge.RW_pq1095_01
open PySem PySem.W PyProof.Rows PySem.Calls
set_option Elab.async false
set_option maxRecDepth 100000
set_option linter.unusedVariables false
set_option linter.unusedSimpArgs false
namespace PQ
noncomputable abbrev tM : Str := "law"
noncomputable abbrev P0 : Program := PySem.Challenge.pw_pq1095_01
noncomputable def q0 : Program := { P0 with main := { P0.main with body := P0.main.body.filter fun st => match st with | .FunctionDef n .. => n == tM | _ => false } }
noncomputable def l0 : List Str := P0.boundNames.filter fun n => !(n == tM)
noncomputable def dk : DefRec × List (Str × Expr) := match defOf q0 tM with | some x => x | none => (⟨tM, ⟨[], [], none, [], [], none, []⟩, [], P0.main.scope, default⟩, [])
end PQ
namespace PQ
noncomputable abbrev L0 : OpenLaw := PySem.Challenge.rw_pq1095_01
theorem an {a b : Bool} (h : a = true) (h2 : b = true) : (a && b) = true := by rw [h, h2]; rfl
theorem v1 : Fast.tw11788848310118352699 P0.main = true := by kernel_rfl
theorem v3 : Fast.tw8377067652309620493 P0 = true := by kernel_rfl
theorem v5 : Fast.tw8326940854005059898 { strict := !R.allR (Fast.tw5923862056798008813 P0.main.body) (Fast.tw3471404346716756564 Fast.tw17691160309236699985), foot := none, bare := R.filterR (Fast.tw13343964577679436407 P0 P0.main.body) [⟨⟨[118, 97, 114, 115]⟩⟩, ⟨⟨[100, 105, 114]⟩⟩, ⟨⟨[108, 111, 99, 97, 108, 115]⟩⟩] } P0.main.body = true := by kernel_rfl
theorem v6 : (Fast.tw17119622794617984870 P0 P0.main.body fun x n => Fast.tw17868728402115742887 n) = true := by kernel_rfl
theorem w1 : Fast.tw12908688711261696721 P0 = true := an (an (an (an (an v1 (by kernel_rfl)) v3) (by kernel_rfl)) v5) v6
theorem w2 : Fast.tw2436336058641802641 (Fast.tw2368527892694137696 L0) = true := an (an (an (an (an (an (an (an (an (an (an (an (an w1 (by kernel_rfl)) (by kernel_rfl)) (by kernel_rfl)) (by kernel_rfl)) (by kernel_rfl)) (by kernel_rfl)) (by kernel_rfl)) (by kernel_rfl)) (by kernel_rfl)) (by kernel_rfl)) (by kernel_rfl)) (by kernel_rfl)) (by kernel_rfl)
theorem w3 : Fast.tw17960256430627541270 (Fast.tw2368527892694137696 L0) = true := an (an w2 (by kernel_rfl)) (by kernel_rfl)
theorem said0 : L0.wellSaid = true := by
 rw [Fast.te9446332074065402090]
 refine an (an (an (an (an (an (an (an (an (an (an (an (an (an (an (an (an (an w3 ?_) ?_) ?_) ?_) ?_) ?_) ?_) ?_) ?_) ?_) ?_) ?_) ?_) ?_) ?_) ?_) ?_) ?_ <;> kernel_rfl
theorem def0 : defOf q0 L0.row.name = some dk := by kernel_rfl
theorem the0 : L0.row.prog.theDef L0.row.name = some (dk.1.params, dk.1.body, dk.1.scope) := by kernel_rfl
theorem kw0 : kwWritten? dk.1.params.kwonlyargs dk.1.params.kw_defaults = some dk.2 := by kernel_rfl
theorem ok0 : (chainsOk q0 && opensWell L0.row.prog && (frees L0.row.toRowW && L0.row.within.isEmpty)) = true := by kernel_rfl
theorem bare0 : L0.row.prog.bare := ⟨rfl, rfl, rfl, rfl, rfl, by decide +kernel⟩
theorem prom0 : L0.row.toRowW.promised := by
 exact RowW.promised_of_found (by kernel_rfl)
end PQ
namespace PQ
inductive aB where
 | d (x : PyData)
 | loc (l : Nat)
 | fn (f : Nat)
 | inst (l : Nat)
 | exc (w : Str)
inductive bN where
 | lst (xs : List PyData)
 | dct (kvs : List (Str × aB))
abbrev aG := List bN
inductive aI (α : Type) where
 | stuck
 | ok (a : α) (σ : aG)
 | exc (w : Str)
noncomputable def aI.bind {α β : Type} (x : aI α) (f : α -> aG -> aI β) : aI β := match x with
 | .stuck => .stuck
 | .ok a σ => f a σ
 | .exc w => .exc w
noncomputable def lift {α : Type} (x : Option α) (σ : aG) : aI α := match x with
 | some a => .ok a σ
 | none => .stuck
inductive BOp where
 | add | sub | mul | mod | fdiv | pow | shr | band
 deriving DecidableEq
inductive COp where
 | eq | ne | lt | le | gt | ge | isIn | notIn | isNone | notNone
 deriving DecidableEq
inductive Bi where
 | len | str | int | max | sum | tuple | repr | vals
 deriving DecidableEq
inductive Me where
 | strip | split | find | replace | join | append | pop | index | get | update
 deriving DecidableEq
inductive IK where
 | seq | range | enum
 deriving DecidableEq
inductive aK where
 | stuck
 | lit (x : PyData)
 | var (i : Nat)
 | fnv (f : Nat)
 | bin (op : BOp) (a b : aK)
 | cmp (op : COp) (a b : aK)
 | boolop (k : Bool) (es : List aK)
 | not (a : aK)
 | ite (c a b : aK)
 | idx (a i : aK)
 | slice (a : aK) (lo hi : Option aK)
 | attr (a : aK) (x : Str)
 | tup (es : List aK)
 | list (m : Bool) (es : List aK)
 | dict (m : Bool) (ks : List Str) (es : List aK)
 | comp (m : Bool) (elt : aK) (x : Nat) (k : IK) (it : aK) (cond : Option aK)
 | call (f : Nat) (es : List aK)
 | callv (a : aK) (es : List aK)
 | bi (b : Bi) (es : List aK)
 | meth (o : aK) (m : Me) (es : List aK)
 | newI (es : List aK)
inductive bH where
 | asg (i : Nat) (e : aK)
 | asgT (is : List Nat) (e : aK)
 | asgN (is : List Nat) (es : List aK)
 | setI (o i e : aK)
 | aug (i : Nat) (op : BOp) (e : aK)
 | ex (e : aK)
 | ite (c : aK) (t f : List bH)
 | wh (c : aK) (b : List bH)
 | for_ (is : List Nat) (k : IK) (e : aK) (b : List bH)
 | ret (e : aK)
 | raise (w : Str)
 | tryE (b : List bH) (i : Nat) (h : List bH)
structure aW where
 params : List Nat
 dflt : List PyData
 body : List bH
abbrev aJ := Nat -> Option aB
noncomputable def aJ.set (ρ : aJ) (i : Nat) (v : aB) : aJ := fun j => bif Nat.beq j i then some v else ρ j
theorem aJ.set_if {ρ : aJ} {i j : Nat} {v : aB} : ρ.set i v j = if j = i then some v else ρ j := by
 show (bif Nat.beq j i then some v else ρ j) = _
 cases h : Nat.beq j i
 ·rw [if_neg (Nat.ne_of_beq_eq_false h)]; rfl
 ·rw [if_pos (Nat.eq_of_beq_eq_true h)]; rfl
noncomputable def asB (d : PyData) : Option Bool := PyData.casesOn d none some (fun _ => none) (fun _ => none) (fun _ => none) (fun _ => none) (fun _ => none)
noncomputable def asI (d : PyData) : Option Int := PyData.casesOn d none (fun _ => none) some (fun _ => none) (fun _ => none) (fun _ => none) (fun _ => none)
noncomputable def dH (d : PyData) : Option Str := PyData.casesOn d none (fun _ => none) (fun _ => none) some (fun _ => none) (fun _ => none) (fun _ => none)
noncomputable def asL (d : PyData) : Option (List PyData) := PyData.casesOn d none (fun _ => none) (fun _ => none) (fun _ => none) some (fun _ => none) (fun _ => none)
noncomputable def asT (d : PyData) : Option (List PyData) := PyData.casesOn d none (fun _ => none) (fun _ => none) (fun _ => none) (fun _ => none) some (fun _ => none)
noncomputable def asM (d : PyData) : Option (List (PyData × PyData)) := PyData.casesOn d none (fun _ => none) (fun _ => none) (fun _ => none) (fun _ => none) (fun _ => none) some
noncomputable def cS (v : aB) : Option PyData := aB.casesOn v some (fun _ => none) (fun _ => none) (fun _ => none) (fun _ => none)
noncomputable def kA (v : aB) : Option Nat := aB.casesOn v (fun _ => none) some (fun _ => none) (fun _ => none) (fun _ => none)
noncomputable def asF (v : aB) : Option Nat := aB.casesOn v (fun _ => none) (fun _ => none) some (fun _ => none) (fun _ => none)
noncomputable def fZ (σ : aG) (l : Nat) : Option (List PyData) := σ[l]?.bind fun o => bN.casesOn o some (fun _ => none)
noncomputable def hZ (σ : aG) (l : Nat) : Option (List (Str × aB)) := σ[l]?.bind fun o => bN.casesOn o (fun _ => none) some
noncomputable def xJ (σ : aG) (v : aB) : Option (List PyData) := (kA v).bind (fZ σ)
noncomputable def tS (σ : aG) (v : aB) : Option (List (Str × aB)) := (kA v).bind (hZ σ)
noncomputable def iF (σ : aG) (v : aB) : Option PyData := (cS v).or ((xJ σ v).map .list)
noncomputable def hd1 {α : Type} (l : List α) : Option α := List.casesOn l none fun a r => List.casesOn r (some a) fun _ _ => none
noncomputable def hd2 {α : Type} (l : List α) : Option (α × α) := List.casesOn l none fun a r => (hd1 r).map fun b => (a, b)
noncomputable def aU {α : Type} (p : Prop) [Decidable p] (x : Option α) : Option α := if p then x else none
noncomputable def aJ.pure (ρ : aJ) : aJ := fun j => ((ρ j).bind cS).map .d
inductive Fl where
 | next (ρ : aJ)
 | ret (v : aB)
noncomputable def ii {β : Type} (f : Int -> Int -> Option β) (x y : PyData) : Option β := (asI x).bind fun a => (asI y).bind (f a)
noncomputable def ss {β : Type} (f : Str -> Str -> Option β) (x y : PyData) : Option β := (dH x).bind fun a => (dH y).bind (f a)
noncomputable def ll {β : Type} (f : List PyData -> List PyData -> Option β) (x y : PyData) : Option β := (asL x).bind fun a => (asL y).bind (f a)
noncomputable def li {β : Type} (f : List PyData -> Int -> Option β) (x y : PyData) : Option β := (asL x).bind fun a => (asI y).bind (f a)
noncomputable def wZ (x y : PyData) : Option PyData := (ii (fun a b => some (.int (a + b))) x y).or (ss (fun a b => aU (a.length + b.length <= 65536) (some (.str (a ++ b)))) x y)
noncomputable def tY (op : BOp) (x y : PyData) : Option PyData := match op with
 | .add => (wZ x y).or (ll (fun a b => aU (a.length + b.length <= 1000) (some (.list (a ++ b)))) x y)
 | .sub => ii (fun a b => some (.int (a - b))) x y
 | .mul => (ii (fun a b => aU (a.natAbs < 2 ^ 256 /\ b.natAbs < 2 ^ 256) (some (.int (a * b)))) x y).or (li (fun a b => aU (-1000 <= b /\ b <= 1000 /\ a.length <= 1) (some (.list (List.replicate b.toNat a).flatten))) x y)
 | .mod => ii (fun a b => aU (b ≠ 0) (some (.int (a.fmod b)))) x y
 | .fdiv => ii (fun a b => aU (b ≠ 0 /\ b.natAbs < 2 ^ 256) (some (.int (a.fdiv b)))) x y
 | .pow => ii (fun a b => aU (0 <= b /\ b <= 1000000 /\ a.natAbs < 2 ^ 64) (some (.int (a ^ b.toNat)))) x y
 | .shr => ii (fun a b => aU (0 <= b) (some (.int (a.fdiv (2 ^ b.toNat))))) x y
 | .band => ii (fun a b => some (.int (Builtin.bitAnd a b))) x y
noncomputable def xR (x : PyData) (v : aB) : Option aB := (cS v).bind fun y => (wZ x y).map .d
noncomputable def fB (op : BOp) (a b : aB) : Option aB := (cS a).bind fun x => (cS b).bind fun y => (tY op x y).map .d
noncomputable def fS (k : Str) : List (PyData × PyData) -> Option PyData
 | [] => none
 | p :: r => (dH p.1).bind fun x => if x = k then some p.2 else fS k r
noncomputable def fD (k : Str) : List (Str × aB) -> Option aB
 | [] => none
 | p :: r => if p.1 = k then some p.2 else fD k r
noncomputable def fC (x : PyData) : Bool := x.canLay0 && decide (x.depth <= 20)
noncomputable def nX (xs : List PyData) : Bool := PyData.canLayAll0 xs && decide (PyData.depthAll xs <= 20)
noncomputable def eqD (x y : PyData) : Option Bool := (ss (fun a b => some (a == b)) x y).or ((ii (fun a b => some (a == b)) x y).or (aU ((fC x && fC y) = true) (some (PyData.eqv x y))))
noncomputable def inX (x : PyData) (xs : List PyData) : Option Bool := aU ((fC x && nX xs) = true) (some (xs.any fun y => PyData.eqv y x))
noncomputable def inD (x c : PyData) : Option Bool :=
 (ss (fun h y => some (!(Builtin.Str.occurrences h y 0 h.length 1).isEmpty)) c x).or
 (((asM c).bind fun kvs => (dH x).map fun y => (fS y kvs).isSome).or (((asL c).bind (inX x)).or ((asT c).bind (inX x))))
noncomputable def yH (op : COp) (x y : PyData) : Option Bool := match op with
 | .eq => eqD x y
 | .ne => (eqD x y).map (!·)
 | .lt => ii (fun a b => some (decide (a < b))) x y
 | .le => ii (fun a b => some (decide (a <= b))) x y
 | .gt => ii (fun a b => some (decide (a > b))) x y
 | .ge => ii (fun a b => some (decide (a >= b))) x y
 | .isIn => inD x y
 | .notIn => (inD x y).map (!·)
 | .isNone => none
 | .notNone => none
noncomputable def aHx (d : PyData) : Bool := PyData.casesOn d true (fun _ => false) (fun _ => false) (fun _ => false) (fun _ => false) (fun _ => false) (fun _ => false)
noncomputable def eX (v : aB) : Bool := aB.casesOn v aHx (fun _ => false) (fun _ => false) (fun _ => false) (fun _ => false)
noncomputable def bV (b : Bool) : aB := .d (.bool b)
noncomputable def inS (a b : aB) (σ : aG) : Option Bool := (tS σ b).bind fun kvs => ((cS a).bind dH).map fun y => (fD y kvs).isSome
noncomputable def lF (op : COp) (a b : aB) (σ : aG) : Option aB := (iF σ a).bind fun x => (iF σ b).bind fun y => (yH op x y).map bV
noncomputable def bR (op : COp) (a b : aB) (σ : aG) : Option aB := match op with
 | .eq => lF .eq a b σ
 | .ne => lF .ne a b σ
 | .lt => lF .lt a b σ
 | .le => lF .le a b σ
 | .gt => lF .gt a b σ
 | .ge => lF .ge a b σ
 | .isIn => ((inS a b σ).map bV).or (lF .isIn a b σ)
 | .notIn => ((inS a b σ).map fun r => bV (!r)).or (lF .notIn a b σ)
 | .isNone => aU (eX b = true) (some (bV (eX a)))
 | .notNone => aU (eX b = true) (some (bV (!eX a)))
noncomputable def atD (xs : List PyData) (i : Int) : Option PyData := if 0 <= i then xs[i.toNat]? else if 0 <= i + xs.length then xs[(i + xs.length).toNat]? else none
noncomputable def zF (x i : PyData) : Option PyData :=
 (li (fun xs i => aU (i.natAbs < 2 ^ 62) (atD xs i)) x i).or
 (((asT x).bind fun xs => (asI i).bind fun i => aU (i.natAbs < 2 ^ 62) (atD xs i)).or
 (((dH x).bind fun x => (asI i).bind fun i => aU (0 <= i /\ i < 2 ^ 62) ((x.cps[i.toNat]?).map fun c => .str ⟨#[c]⟩)).or
 ((asM x).bind fun kvs => (dH i).bind fun k => fS k kvs)))
noncomputable def dW (σ : aG) (a i : aB) : Option aB := (cS i).bind fun i => ((tS σ a).bind fun kvs => (dH i).bind fun k => fD k kvs).or ((iF σ a).bind fun x => (zF x i).map .d)
noncomputable def oL (d : PyData) : Option (Option Int) := PyData.casesOn d (some none) (fun _ => none) (fun i => some (some i)) (fun _ => none) (fun _ => none) (fun _ => none) (fun _ => none)
noncomputable def aD9 (x : PyData) (l h : Option Int) : Option PyData :=
 ((dH x).bind fun x => aU (x.length <= 65536) (some (.str (Txt.slice x l h)))).or
 (((asL x).bind fun xs => h.bind fun j => aU (l.isNone = true /\ 0 <= j /\ xs.length <= 65536) (some (.list (xs.take j.toNat)))).or
 (((asL x).bind fun xs => l.bind fun i => aU (h.isNone = true /\ 0 <= i /\ xs.length <= 65536) (some (.list (xs.drop i.toNat)))).or
 ((asT x).bind fun xs => l.bind fun i => aU (h.isNone = true /\ 1 <= i /\ i <= xs.length /\ xs.length <= 65536) (some (.tuple (xs.drop i.toNat))))))
noncomputable def gH (σ : aG) (a lo hi : aB) : Option aB := (iF σ a).bind fun x => ((cS lo).bind oL).bind fun l => ((cS hi).bind oL).bind fun h => (aD9 x l h).map .d
noncomputable def lA : List aB -> Option (List PyData)
 | [] => some []
 | v :: r => (cS v).bind fun x => (lA r).map (x :: ·)
noncomputable def iT : List PyData -> Option (List Int)
 | [] => some []
 | d :: r => (asI d).bind fun i => (iT r).map (i :: ·)
noncomputable def kT : List PyData -> Option (List Str)
 | [] => some []
 | d :: r => (dH d).bind fun i => (kT r).map (i :: ·)
noncomputable def jS : Int -> List Int -> Int
 | m, [] => m
 | m, i :: r => jS (if i > m then i else m) r
noncomputable def mN (c : Nat) : Option Nat := if 48 <= c /\ c <= 57 then some (c - 48) else if 97 <= c /\ c <= 102 then some (c - 87) else none
noncomputable def iS : Nat -> List Nat -> Option Nat
 | a, [] => some a
 | a, c :: r => (mN c).bind fun x => iS (a * 16 + x) r
noncomputable def aCT (x : PyData) : Option Nat := ((asL x).map List.length).or (((asT x).map List.length).or ((dH x).map Str.length))
noncomputable def biD (b : Bi) (ds : List PyData) : Option PyData := match b with
 | .len => (hd1 ds).bind fun x => (aCT x).bind fun n => aU (n < 2 ^ 62) (some (.int n))
 | .str => ((hd1 ds).bind asI).bind fun a => aU (a.natAbs.log2 < 1920) (some (.str (Str.ofString (toString a))))
 | .int => (((hd1 ds).bind dH).bind fun x => aU (x.length <= 640) ((PySem.intText? x).map .int)).or
  ((hd2 ds).bind fun p => (dH p.1).bind fun x => (asI p.2).bind fun b => aU (b = 16 /\ 0 < x.length /\ x.length <= 8) ((iS 0 x.cps.toList).map fun (n : Nat) => .int (n : Int)))
 | .max => ((hd1 ds).bind asL).bind fun xs => (iT xs).bind fun is => List.casesOn is none fun i r => some (.int (jS i r))
 | .sum => ((hd1 ds).bind asL).bind fun xs => (iT xs).map fun r => .int r.sum
 | .tuple => ((hd1 ds).bind asL).bind fun xs => aU (xs.length <= 1000) (some (.tuple xs))
 | .repr => ((hd1 ds).bind asT).bind fun xs => aU ((PyData.showableAll xs && nX xs && !PyData.hasDictAll xs && decide ((PyData.shown (.tuple xs)).length <= 65536)) = true) (some (.str (PyData.shown (.tuple xs))))
 | .vals => ((hd1 ds).bind asM).bind fun kvs => aU (kvs.length <= 1000) (some (.list (kvs.map (·.2))))
noncomputable def oW (σ : aG) : List aB -> Option (List PyData)
 | [] => some []
 | v :: r => (iF σ v).bind fun x => (oW σ r).map (x :: ·)
noncomputable def quiet : Bi -> Bool
 | .max | .sum | .vals => false
 | .len | .str | .int | .tuple | .repr => true
noncomputable def dT (hb : Bool) (b : Bi) (vs : List aB) (σ : aG) : Option aB := aU ((!hb || quiet b) = true) ((oW σ vs).bind fun ds => (biD b ds).map .d)
noncomputable def lJ (y : Str) : List Str -> Nat -> Option Nat
 | [], _ => none
 | x :: r, i => if x = y then some i else lJ y r (i + 1)
noncomputable def s1 (x : PyData) (ds : List PyData) (f : Str -> Str -> Option PyData) : Option PyData := (dH x).bind fun x => ((hd1 ds).bind dH).bind (f x)
noncomputable def pR (x : Str) (ys : List PyData) : Option PyData := (kT ys).bind fun ts => aU (JoinOk x ts = true) (some (.str (Txt.join x ts)))
noncomputable def aCZ (m : Me) (x : PyData) (ds : List PyData) : Option PyData := match m with
 | .strip => s1 x ds fun x y => aU (x.length <= 65536) (some (.str (Txt.stripChars x y)))
 | .split => s1 x ds fun x y => aU (x.length <= 65536 /\ y.length ≠ 0) (some (.list ((Txt.split x y).map .str)))
 | .find => (s1 x ds fun x y => some (.int (Txt.find x y))).or ((dH x).bind fun x => (hd2 ds).bind fun p => (dH p.1).bind fun y => (asI p.2).bind fun i => some (.int (Txt.find3 x y i)))
 | .join => (dH x).bind fun x => (((hd1 ds).bind asL).bind (pR x)).or (((hd1 ds).bind asT).bind (pR x))
 | .replace => (dH x).bind fun x => (hd2 ds).bind fun p => (dH p.1).bind fun y => (dH p.2).bind fun z => aU ((y == z) = false /\ x.length <= 65536 /\ z.length <= 14) (some (.str (Txt.replace x y z)))
 | .index => (asL x).bind fun xs => ((hd1 ds).bind dH).bind fun y => (kT xs).bind fun ts => aU (xs.length <= 65536) ((lJ y ts 0).map fun (i : Nat) => .int (i : Int))
 | .get => (asM x).bind fun kvs => (hd2 ds).bind fun p => (dH p.1).bind fun k => aU (((asI p.2).isSome || (asM p.2).isSome) = true) (some ((fS k kvs).getD p.2))
 | .append => none
 | .pop => none
 | .update => none
noncomputable def nF : List (Str × aB) -> List (Str × aB) -> Option (List (Str × aB))
 | kvs, [] => some kvs
 | kvs, p :: r => aU ((fD p.1 kvs).isNone = true) (nF (kvs ++ [p]) r)
noncomputable def aAk (v : aB) : Bool := (cS v).isSome || (asF v).isSome
inductive MK where
 | str | list | dict
 deriving DecidableEq
noncomputable def zX : Me -> MK
 | .strip | .split | .find | .replace | .join => .str
 | .append | .pop | .index => .list
 | .get | .update => .dict
noncomputable def mK (m : Me) (o : aB) (σ : aG) : Bool := match zX m with
 | .str => ((cS o).bind dH).isSome
 | .list => ((cS o).bind asL).isSome || (xJ σ o).isSome
 | .dict => ((cS o).bind asM).isSome || (tS σ o).isSome
noncomputable def mS (m : Me) (o : aB) (vs : List aB) (σ : aG) : Option (aB × aG) := (iF σ o).bind fun x => (oW σ vs).bind fun ds => (aCZ m x ds).map fun r => (.d r, σ)
noncomputable def eY (m : Me) (o : aB) (vs : List aB) (σ : aG) : Option (aB × aG) := match m with
 | .append => (kA o).bind fun l => (fZ σ l).bind fun xs => ((hd1 vs).bind cS).bind fun x => aU (xs.length <= 100000) (some (.d .none, σ.set l (.lst (xs ++ [x]))))
 | .pop => (kA o).bind fun l => (fZ σ l).bind fun xs => (((hd1 vs).bind cS).bind asI).bind fun i => List.casesOn xs none fun x xs => aU (i = 0 /\ xs.length <= 100000) (some (.d x, σ.set l (.lst xs)))
 | .update => (kA o).bind fun l => (hZ σ l).bind fun kvs => ((hd1 vs).bind kA).bind fun k => (hZ σ k).bind fun jvs =>
  aU (l ≠ k /\ (jvs.all fun p => aAk p.2) = true /\ kvs.length + jvs.length <= 1000) ((nF kvs jvs).map fun r => (.d .none, σ.set l (.dct r)))
 | .strip => mS .strip o vs σ
 | .split => mS .split o vs σ
 | .find => mS .find o vs σ
 | .join => mS .join o vs σ
 | .replace => mS .replace o vs σ
 | .index => mS .index o vs σ
 | .get => mS .get o vs σ
noncomputable def zU (n : Nat) (v : aB) : Bool := aB.casesOn v (fun _ => true) (fun l => decide (l < n)) (fun _ => true) (fun _ => false) (fun _ => false)
noncomputable def kR (k : Str) (v : aB) : List (Str × aB) -> List (Str × aB)
 | [] => [(k, v)]
 | p :: r => if p.1 = k then (p.1, v) :: r else p :: kR k v r
noncomputable def qI (o i v : aB) (σ : aG) : Option aG := (kA o).bind fun l => (cS i).bind fun i => (cS v).bind fun x =>
 ((asI i).bind fun i => (fZ σ l).bind fun xs => aU (0 <= i /\ i < xs.length /\ xs.length <= 100000) (some (σ.set l (.lst (xs.set i.toNat x))))).or
 ((dH i).bind fun k => (hZ σ l).bind fun kvs => aU (kvs.length <= 1000) (some (σ.set l (.dct (kR k (.d x) kvs)))))
noncomputable def fY (hb : Bool) (k : IK) (x : PyData) : Option (List PyData) := match k with
 | .seq => (asL x).or ((asT x).or (aU (hb = false) ((asM x).map fun kvs => kvs.map (·.1))))
 | .range => aU (hb = false) ((asI x).bind fun n => aU (-1000 <= n /\ n <= 1000) (some ((List.range n.toNat).map fun (i : Nat) => .int i)))
 | .enum => aU (hb = false) ((asL x).bind fun xs => aU (xs.length <= 1000) (some (xs.zipIdx.map fun p => .tuple [.int (p.2 : Nat), p.1])))
noncomputable def dfP (ds : List PyData) (k : Nat) : Option PyData := aU (k <= ds.length) (ds.drop (ds.length - k)).head?
noncomputable def hO : List Nat -> List PyData -> List aB -> Option aJ
 | [], _, vs => List.casesOn vs (some fun _ => none) fun _ _ => none
 | p :: ps, ds, vs => List.casesOn vs ((dfP ds (ps.length + 1)).bind fun d => (hO ps ds []).map fun ρ => ρ.set p (.d d)) fun v vs => (hO ps ds vs).map fun ρ => ρ.set p v
noncomputable def setAll (ρ : aJ) : List Nat -> List aB -> Option aJ
 | [], vs => List.casesOn vs (some ρ) fun _ _ => none
 | i :: is, vs => List.casesOn vs none fun v vs => setAll (ρ.set i v) is vs
noncomputable def aAU (ρ : aJ) (is : List Nat) (x : PyData) : Option aJ := (asT x).bind fun xs => setAll ρ is (xs.map .d)
noncomputable def nM (ρ : aJ) (is : List Nat) (x : PyData) : Option aJ := ((hd1 is).map fun i => ρ.set i (.d x)).or (aU (is.length ≠ 1) (aAU ρ is x))
noncomputable def aC8 (v : aB) : Option aB := ((cS v).bind asB).map fun b => bV (!b)
noncomputable def aBB (x : Str) (v : aB) : Option aB := aB.casesOn v (fun _ => none) (fun _ => none) (fun _ => none) (fun l => aU (x = Str.ofString "types") (some (.loc l))) (fun w => aU (x = Str.ofString "why") (some (.d (.str w))))
noncomputable def aC4 (vs : List aB) : Option aB := (hd2 vs).bind fun p => (cS p.1).bind fun _ => (kA p.2).map .inst
noncomputable def oB (k : IK) (m : Bool) (σ : aG) (l : Nat) : Option (List PyData) := aU (k = .seq /\ m = false) ((fZ σ l).bind fun xs => aU (xs.length <= 1000) (some xs))
noncomputable def cU (x : Option (aB × aG)) : aI aB := Option.casesOn x .stuck fun p => .ok p.1 p.2
noncomputable def aI.bindN {α β : Type} (x : aI α) (f : α -> aG -> aI β) : aI β := aI.casesOn x .stuck f fun _ => .stuck
noncomputable def lH (m : Bool) (ds : List PyData) (σ : aG) : aI aB := bif m then .ok (.loc σ.length) (σ ++ [.lst ds]) else .ok (.d (.list ds)) σ
noncomputable def uN (m : Bool) (ks : List Str) (vs : List aB) (σ : aG) : aI aB := bif m then cU (aU (vs.all (zU σ.length) = true) (some (.loc σ.length, σ ++ [.dct (ks.zip vs)]))) else lift ((lA vs).map fun ds => .d (.dict ((ks.map .str).zip ds))) σ
noncomputable def dC (N : Nat) (fl : Fl) (σ : aG) : aI aB := Fl.casesOn fl (fun _ => .ok (.d .none) (σ.take N)) fun v => aB.casesOn v (fun x => .ok (.d x) (σ.take N)) (fun l => .ok (.loc l) σ) (fun f => .ok (.fn f) σ) (fun l => .ok (.inst l) σ) fun w => .ok (.exc w) σ
noncomputable def aB.on {β : Type} (v : aB) (d : PyData -> β) (l : Nat -> β) (z : β) : β := aB.casesOn v d l (fun _ => z) (fun _ => z) fun _ => z
noncomputable def aK.tst {β : Type} (e : aK) (n : aK -> β) (b : Bool -> List aK -> β) (i : aK -> aK -> aK -> β) (z : β) : β := match e with
 | .not a => n a
 | .boolop k es => b k es
 | .ite x y w => i x y w
 | _ => z
section
variable (T : Nat -> Option aW) (hb : Bool)
mutual
noncomputable def aP : Nat -> aK -> aJ -> aG -> aI aB
 | 0, _, _, _ => .stuck
 | n + 1, e, ρ, σ => match e with
  | .stuck => .stuck
  | .lit x => .ok (.d x) σ
  | .var i => lift (ρ i) σ
  | .fnv f => .ok (.fn f) σ
  | .bin op a b => (aP n a ρ σ).bind fun va σ => (aP n b ρ σ).bind fun vb σ => lift (fB op va vb) σ
  | .cmp op a b => (aP n a ρ σ).bind fun va σ => (aP n b ρ σ).bind fun vb σ => lift (bR op va vb σ) σ
  | .boolop k es => pI n k es ρ σ
  | .not a => (aP n a ρ σ).bind fun v σ => lift (aC8 v) σ
  | .ite c a b => (dF n c ρ σ).bind fun t σ => bif t then aP n a ρ σ else aP n b ρ σ
  | .idx a i => (aP n a ρ σ).bind fun va σ => (aP n i ρ σ).bind fun vi σ => lift (dW σ va vi) σ
  | .slice a lo hi => (aP n a ρ σ).bind fun va σ => (evO n lo ρ σ).bind fun l σ => (evO n hi ρ σ).bind fun h σ => lift (gH σ va l h) σ
  | .attr a x => (aP n a ρ σ).bind fun va σ => lift (aBB x va) σ
  | .tup es => (eW n es ρ σ).bind fun vs σ => lift ((lA vs).map fun ds => .d (.tuple ds)) σ
  | .list m es => (eW n es ρ σ).bind fun vs σ => (lift (lA vs) σ).bind (lH m)
  | .dict m ks es => (eW n es ρ σ).bind (uN m ks)
  | .comp m elt x k it cond => (aP n it ρ σ).bind fun v σ => v.on
   (fun d => (lift ((fY hb k d).bind fun is => aU (is.length <= 1000) (some is)) σ).bind fun is σ => (cY n elt x cond is ρ σ).bind (lH m))
   (fun l => (lift (oB k m σ l) σ).bind fun is σ => (cY n elt x cond is ρ.pure []).bind fun ds _ => .ok (.d (.list ds)) σ) .stuck
  | .call f es => (eW n es ρ σ).bind fun vs σ => kG n f vs σ
  | .callv a es => (aP n a ρ σ).bind fun va σ => (lift (asF va) σ).bind fun f σ => (eW n es ρ σ).bind fun vs σ => kG n f vs σ
  | .bi b es => (eW n es ρ σ).bind fun vs σ => lift (dT hb b vs σ) σ
  | .meth o m es => (aP n o ρ σ).bind fun vo σ => (lift (aU (mK m vo σ = true) (some ())) σ).bind fun _ σ => (eW n es ρ σ).bind fun vs σ => cU (eY m vo vs σ)
  | .newI es => (eW n es ρ σ).bind fun vs σ => lift (aC4 vs) σ
noncomputable def evO : Nat -> Option aK -> aJ -> aG -> aI aB
 | 0, _, _, _ => .stuck
 | n + 1, e, ρ, σ => match e with
  | none => .ok (.d .none) σ
  | some e => aP n e ρ σ
noncomputable def eW : Nat -> List aK -> aJ -> aG -> aI (List aB)
 | 0, _, _, _ => .stuck
 | n + 1, es, ρ, σ => match es with
  | [] => .ok [] σ
  | e :: es => (aP n e ρ σ).bind fun v σ => (eW n es ρ σ).bind fun vs σ => .ok (v :: vs) σ
noncomputable def pI : Nat -> Bool -> List aK -> aJ -> aG -> aI aB
 | 0, _, _, _, _ => .stuck
 | n + 1, k, es, ρ, σ => match es with
  | [] => .stuck
  | e :: es => bif es.isEmpty then aP n e ρ σ else (aP n e ρ σ).bind fun v σ => (lift ((cS v).bind asB) σ).bind fun b σ => bif b == k then pI n k es ρ σ else .ok (bV b) σ
noncomputable def dF : Nat -> aK -> aJ -> aG -> aI Bool
 | 0, _, _, _ => .stuck
 | n + 1, e, ρ, σ => e.tst (fun a => (dF n a ρ σ).bind fun b σ => .ok (!b) σ) (fun k es => pJ n k es ρ σ)
  (fun c a b => (dF n c ρ σ).bind fun t σ => bif t then dF n a ρ σ else dF n b ρ σ) ((aP n e ρ σ).bind fun v σ => lift ((cS v).bind asB) σ)
noncomputable def pJ : Nat -> Bool -> List aK -> aJ -> aG -> aI Bool
 | 0, _, _, _, _ => .stuck
 | n + 1, k, es, ρ, σ => match es with
  | [] => .ok k σ
  | e :: es => (dF n e ρ σ).bind fun b σ => bif b == k then pJ n k es ρ σ else .ok b σ
noncomputable def mJ : Nat -> Option aK -> aJ -> aG -> aI Bool
 | 0, _, _, _ => .stuck
 | n + 1, c, ρ, σ => match c with
  | none => .ok true σ
  | some c => dF n c ρ σ
noncomputable def cY : Nat -> aK -> Nat -> Option aK -> List PyData -> aJ -> aG -> aI (List PyData)
 | 0, _, _, _, _, _, _ => .stuck
 | n + 1, elt, x, cond, is, ρ, σ => match is with
  | [] => .ok [] σ
  | it :: r => (mJ n cond (ρ.set x (.d it)) σ).bind fun b σ =>
   bif b then (aP n elt (ρ.set x (.d it)) σ).bind fun v σ => (lift (cS v) σ).bind fun y σ => (cY n elt x cond r ρ σ).bind fun ys σ => .ok (y :: ys) σ
   else cY n elt x cond r ρ σ
noncomputable def kG : Nat -> Nat -> List aB -> aG -> aI aB
 | 0, _, _, _ => .stuck
 | n + 1, f, vs, σ => (lift (T f) σ).bind fun r σ => (lift (hO r.params r.dflt vs) σ).bind fun ρ σ => (bS n r.body ρ σ).bind (dC σ.length)
noncomputable def bS : Nat -> List bH -> aJ -> aG -> aI Fl
 | 0, _, _, _ => .stuck
 | n + 1, ss, ρ, σ => match ss with
  | [] => .ok (.next ρ) σ
  | s :: ss => (dD n s ρ σ).bind fun fl σ => Fl.casesOn fl (fun ρ => bS n ss ρ σ) fun v => .ok (.ret v) σ
noncomputable def dD : Nat -> bH -> aJ -> aG -> aI Fl
 | 0, _, _, _ => .stuck
 | n + 1, s, ρ, σ => match s with
  | .asg i e => (aP n e ρ σ).bind fun v σ => .ok (.next (ρ.set i v)) σ
  | .asgT is e => (aP n e ρ σ).bind fun v σ => lift (aU (hb = false) (((cS v).bind (aAU ρ is)).map .next)) σ
  | .asgN is es => (eW n es ρ σ).bind fun vs σ => lift (aU (hb = false) ((setAll ρ is vs).map .next)) σ
  | .setI o i e => (aP n e ρ σ).bind fun v σ => (aP n o ρ σ).bind fun vo σ => (aP n i ρ σ).bind fun vi σ => (lift (qI vo vi v σ) σ).bind fun σ _ => .ok (.next ρ) σ
  | .aug i _ e => (lift ((ρ i).bind cS) σ).bind fun x σ => (aP n e ρ σ).bind fun v σ => lift ((xR x v).map fun r => .next (ρ.set i r)) σ
  | .ex e => (aP n e ρ σ).bind fun _ σ => .ok (.next ρ) σ
  | .ite c t f => (dF n c ρ σ).bind fun b σ => bif b then bS n t ρ σ else bS n f ρ σ
  | .wh c b => evW n c b ρ σ
  | .for_ is k e b => (aP n e ρ σ).bind fun v σ => (lift ((cS v).bind (fY hb k)) σ).bind fun items σ => evF n is b items ρ σ
  | .ret e => (aP n e ρ σ).bind fun v σ => .ok (.ret v) σ
  | .raise w => bif hb then .stuck else .exc w
  | .tryE .. => .stuck
noncomputable def evW : Nat -> aK -> List bH -> aJ -> aG -> aI Fl
 | 0, _, _, _, _ => .stuck
 | n + 1, c, b, ρ, σ => (dF n c ρ σ).bindN fun t σ => bif t then (bS n b ρ σ).bindN fun fl σ => Fl.casesOn fl (fun ρ => evW n c b ρ σ) fun v => .ok (.ret v) σ else .ok (.next ρ) σ
noncomputable def evF : Nat -> List Nat -> List bH -> List PyData -> aJ -> aG -> aI Fl
 | 0, _, _, _, _, _ => .stuck
 | n + 1, is, b, l, ρ, σ => match l with
  | [] => .ok (.next ρ) σ
  | it :: r => (lift (nM ρ is it) σ).bind fun ρ σ => (bS n b ρ σ).bindN fun fl σ => Fl.casesOn fl (fun ρ => evF n is b r ρ σ) fun v => .ok (.ret v) σ
end
end
end PQ
namespace PQ
noncomputable def jO : List Str := [Str.ofString "hex_text_addresses", Str.ofString "ip4_text", Str.ofString "nought_run", Str.ofString "ip6_text", Str.ofString "value_text", Str.ofString "quoted", Str.ofString "plain_text", Str.ofString "print_units", Str.ofString "print_size", Str.ofString "print_counter", Str.ofString "print_quota", Str.ofString "print_limit", Str.ofString "print_object", Str.ofString "meter_printers", Str.ofString "print_log", Str.ofString "print_reject", Str.ofString "print_notrack", Str.ofString "print_ports", Str.ofString "print_nat_target", Str.ofString "print_nat", Str.ofString "print_expect", Str.ofString "print_flow", Str.ofString "nat_printers", Str.ofString "print_statement", Str.ofString "print_rule", Str.ofString "_law_codes", Str.ofString "_law_tongue", Str.ofString "_law_draw", Str.ofString "_law_octets", Str.ofString "_law_some_text", Str.ofString "_law_some_name", Str.ofString "_law_meter", Str.ofString "_law_act", Str.ofString "_law_address", Str.ofString "_law_ports", Str.ofString "_law_nat", Str.ofString "_law_statement", Str.ofString "_law_bad", Str.ofString "_law_words", Str.ofString "_law_next", Str.ofString "_law_skip", Str.ofString "_law_want", Str.ofString "_law_number", Str.ofString "_law_string", Str.ofString "_law_sized", Str.ofString "_law_some_octets", Str.ofString "_law_read_limit", Str.ofString "_law_read_meter", Str.ofString "_law_read_log", Str.ofString "_law_read_reject", Str.ofString "_law_read_address", Str.ofString "_law_halves", Str.ofString "_law_read_ports", Str.ofString "_law_read_target", Str.ofString "_law_read_nat", Str.ofString "_law_read_one", Str.ofString "_law_read", Str.ofString "_law_is_held", Str.ofString "_law_can_be_written"]
noncomputable def bP : List Str := [Str.ofString "number", Str.ofString "least", Str.ofString "digits", Str.ofString "shift", Str.ofString "groups", Str.ofString "begin", Str.ofString "many", Str.ofString "run", Str.ofString "place", Str.ofString "group", Str.ofString "parts", Str.ofString "a_type", Str.ofString "bits", Str.ofString "n", Str.ofString "sort", Str.ofString "word", Str.ofString "text", Str.ofString "tongue", Str.ofString "kind", Str.ofString "octets", Str.ofString "units", Str.ofString "rank", Str.ofString "statement", Str.ofString "is_over", Str.ofString "rate", Str.ofString "unit", Str.ofString "burst", Str.ofString "is_octets", Str.ofString "ports", Str.ofString "nfproto", Str.ofString "addresses", Str.ofString "low", Str.ofString "high", Str.ofString "flags", Str.ofString "words", Str.ofString "printers", Str.ofString "statements", Str.ofString "comment", Str.ofString "types", Str.ofString "pen", Str.ofString "drawn", Str.ofString "some", Str.ofString "levels", Str.ofString "tail", Str.ofString "way", Str.ofString "length", Str.ofString "rest", Str.ofString "end", Str.ofString "is_here", Str.ofString "is_let", Str.ofString "size", Str.ofString "packets", Str.ofString "prefix", Str.ofString "level", Str.ofString "codes", Str.ofString "code", Str.ofString "piece", Str.ofString "k", Str.ofString "halves", Str.ofString "half", Str.ofString "lack", Str.ofString "word_now", Str.ofString "base", Str.ofString "name", Str.ofString "texts", Str.ofString "one", Str.ofString "script", Str.ofString "ends", Str.ofString "told", Str.ofString "numbers", Str.ofString "fault"]
noncomputable def f0 : aW := ⟨[0, 1], [.int 1], [.asg 2 (.lit (.str "")), .wh (.boolop false [.cmp .gt (.var 0) (.lit (.int 0)), .cmp .lt (.bi .len [.var 2]) (.var 1)]) [.asg 2 (.bin .add (.idx (.lit (.str "0123456789abcdef")) (.bin .band (.var 0) (.lit (.int 15)))) (.var 2)), .asg 0 (.bin .shr (.var 0) (.lit (.int 4)))], .ret (.var 2)]⟩
noncomputable def f1 : aW := ⟨[0], [], [.ret (.meth (.lit (.str ".")) .join [.comp false (.bi .str [.bin .band (.bin .shr (.var 0) (.var 3)) (.lit (.int 255))]) 3 .seq (.tup [.lit (.int 24), .lit (.int 16), .lit (.int 8), .lit (.int 0)]) none])]⟩
noncomputable def f2 : aW := ⟨[4], [], [.asgN [5, 6] [.lit (.int 0), .lit (.int 0)], .asg 7 (.lit (.int 0)), .for_ [8, 9] .enum (.var 4) [.asg 7 (.ite (.cmp .eq (.var 9) (.lit (.int 0))) (.bin .add (.var 7) (.lit (.int 1))) (.lit (.int 0))), .ite (.cmp .gt (.var 7) (.var 6)) [.asgN [5, 6] [.bin .sub (.bin .add (.var 8) (.lit (.int 1))) (.var 7), .var 7]] []], .ret (.tup [.var 5, .var 6])]⟩
noncomputable def f3 : aW := ⟨[0], [], [.asg 4 (.comp false (.bin .band (.bin .shr (.var 0) (.var 3)) (.lit (.int 65535))) 3 .seq (.tup [.lit (.int 112), .lit (.int 96), .lit (.int 80), .lit (.int 64), .lit (.int 48), .lit (.int 32), .lit (.int 16), .lit (.int 0)]) none), .asgT [5, 6] (.call 2 [.var 4]), .asg 10 (.comp false (.call 0 [.var 9]) 9 .seq (.var 4) none), .ite (.cmp .lt (.var 6) (.lit (.int 2))) [.ret (.meth (.lit (.str ":")) .join [.var 10])] [], .ite (.boolop true [.cmp .eq (.var 5) (.lit (.int 0)), .boolop false [.cmp .eq (.var 6) (.lit (.int 6)), .boolop true [.cmp .eq (.var 6) (.lit (.int 5)), .cmp .eq (.idx (.var 4) (.lit (.int 5))) (.lit (.int 65535))]]]) [.asg 10 (.bin .add (.slice (.var 10) none (some (.lit (.int 6)))) (.list false [.call 1 [.bin .band (.var 0) (.lit (.int 4294967295))]]))] [], .ret (.bin .add (.bin .add (.meth (.lit (.str ":")) .join [.slice (.var 10) none (some (.var 5))]) (.lit (.str "::"))) (.meth (.lit (.str ":")) .join [.slice (.var 10) (some (.bin .add (.var 5) (.var 6))) none]))]⟩
noncomputable def f4 : aW := ⟨[11, 12, 13], [], [.asg 14 (.idx (.var 11) (.lit (.int 2))), .for_ [15] .seq (.idx (.var 11) (.lit (.int 3))) [.ite (.cmp .eq (.idx (.idx (.var 11) (.lit (.int 3))) (.var 15)) (.var 13)) [.ret (.var 15)] []], .ite (.cmp .eq (.var 14) (.lit (.str "ip4"))) [.ret (.call 1 [.var 13])] [], .ite (.cmp .eq (.var 14) (.lit (.str "ip6"))) [.ret (.call 3 [.var 13])] [], .ite (.cmp .eq (.var 14) (.lit (.str "mac"))) [.ret .stuck] [], .ite (.cmp .eq (.var 14) (.lit (.str "name"))) [.ret .stuck] [], .ite (.cmp .eq (.var 14) (.lit (.str "time"))) [.ret .stuck] [], .ite (.cmp .eq (.var 14) (.lit (.str "mask"))) [.ret .stuck] [], .ite (.cmp .eq (.var 14) (.lit (.str "hex"))) [.ret .stuck] [], .ret (.bi .str [.var 13])]⟩
noncomputable def f5 : aW := ⟨[16], [], [.ite (.boolop false [.cmp .isIn (.lit (.str "\"")) (.var 16), .cmp .isIn (.lit (.str "\n")) (.var 16)]) [.raise "no string holds a quote or a newline"] [], .ret (.bin .add (.bin .add (.lit (.str "\"")) (.var 16)) (.lit (.str "\"")))]⟩
noncomputable def f6 : aW := ⟨[17, 18, 13], [], [.ret (.call 4 [.idx (.attr (.var 17) "types") (.idx (.var 18) (.lit (.int 0))), .idx (.var 18) (.lit (.int 1)), .var 13])]⟩
noncomputable def f7 : aW := ⟨[19, 6], [], [.asg 20 (.tup [.lit (.str "bytes"), .lit (.str "kbytes"), .lit (.str "mbytes"), .lit (.str "gbytes")]), .asg 21 (.lit (.int 0)), .wh (.boolop true [.cmp .lt (.bin .add (.var 21) (.lit (.int 1))) (.var 6), .cmp .ne (.var 19) (.lit (.int 0)), .cmp .eq (.bin .mod (.var 19) (.lit (.int 1024))) (.lit (.int 0))]) [.asg 19 (.bin .fdiv (.var 19) (.lit (.int 1024))), .aug 21 .add (.lit (.int 1))], .ret (.bin .add (.bin .add (.bi .str [.var 19]) (.lit (.str " "))) (.idx (.var 20) (.var 21)))]⟩
noncomputable def f8 : aW := ⟨[19], [], [.ret (.call 7 [.var 19, .lit (.int 4)])]⟩
noncomputable def f9 : aW := ⟨[17, 22], [], [.ret (.bin .add (.bin .add (.bin .add (.lit (.str "counter packets ")) (.bi .str [.idx (.var 22) (.lit (.int 1))])) (.lit (.str " bytes "))) (.bi .str [.idx (.var 22) (.lit (.int 2))]))]⟩
noncomputable def f10 : aW := ⟨[17, 22], [], [.asg 16 (.lit (.str "quota ")), .ite (.idx (.var 22) (.lit (.int 1))) [.aug 16 .add (.lit (.str "over "))] [], .aug 16 .add (.call 8 [.idx (.var 22) (.lit (.int 2))]), .ite (.cmp .ne (.idx (.var 22) (.lit (.int 3))) (.lit (.int 0))) [.aug 16 .add (.bin .add (.lit (.str " used ")) (.call 8 [.idx (.var 22) (.lit (.int 3))]))] [], .ret (.var 16)]⟩
noncomputable def f11 : aW := ⟨[17, 22], [], [.asgT [23, 24, 25, 26, 27] (.slice (.var 22) (some (.lit (.int 1))) none), .asg 16 (.lit (.str "limit rate ")), .ite (.var 23) [.aug 16 .add (.lit (.str "over "))] [], .ite (.not (.var 27)) [.ret (.bin .add (.bin .add (.bin .add (.bin .add (.bin .add (.bin .add (.var 16) (.bi .str [.var 24])) (.lit (.str "/"))) (.var 25)) (.lit (.str " burst "))) (.bi .str [.var 26])) (.lit (.str " packets")))] [], .aug 16 .add (.bin .add (.bin .add (.call 7 [.var 24, .lit (.int 3)]) (.lit (.str "/"))) (.var 25)), .ite (.cmp .ne (.var 26) (.lit (.int 0))) [.aug 16 .add (.bin .add (.lit (.str " burst ")) (.call 7 [.var 26, .lit (.int 3)]))] [], .ret (.var 16)]⟩
noncomputable def f12 : aW := ⟨[17, 22], [], [.ret (.bin .add (.bin .add (.idx (.var 22) (.lit (.int 1))) (.lit (.str " name "))) (.call 5 [.idx (.var 22) (.lit (.int 2))]))]⟩
noncomputable def f13 : aW := ⟨[], [], [.ret (.dict true ["counter", "quota", "limit", "object"] [.fnv 9, .fnv 10, .fnv 11, .fnv 12])]⟩
noncomputable def f14 : aW := ⟨[17, 22], [], [.asg 16 (.lit (.str "log")), .ite (.cmp .ne (.idx (.var 22) (.lit (.int 1))) (.lit (.str ""))) [.aug 16 .add (.bin .add (.lit (.str " prefix ")) (.call 5 [.idx (.var 22) (.lit (.int 1))]))] [], .ite (.cmp .ne (.idx (.var 22) (.lit (.int 2))) (.lit (.str "warn"))) [.aug 16 .add (.bin .add (.lit (.str " level ")) (.idx (.var 22) (.lit (.int 2))))] [], .ret (.var 16)]⟩
noncomputable def f15 : aW := ⟨[17, 22], [], [.asg 18 (.idx (.var 22) (.lit (.int 1))), .ite (.cmp .eq (.var 18) (.lit (.str "tcp"))) [.ret (.lit (.str "reject with tcp reset"))] [], .ret (.bin .add (.bin .add (.bin .add (.lit (.str "reject with ")) (.var 18)) (.lit (.str " "))) (.call 6 [.var 17, .tup [.bin .add (.var 18) (.lit (.str "_code")), .lit (.int 8)], .idx (.var 22) (.lit (.int 2))]))]⟩
noncomputable def f16 : aW := ⟨[17, 22], [], [.ret (.lit (.str "notrack"))]⟩
noncomputable def f17 : aW := ⟨[28], [], [.ite (.cmp .isNone (.var 28) (.lit .none)) [.ret (.lit (.str ""))] [], .ite (.cmp .eq (.idx (.var 28) (.lit (.int 0))) (.idx (.var 28) (.lit (.int 1)))) [.ret (.bin .add (.lit (.str ":")) (.bi .str [.idx (.var 28) (.lit (.int 0))]))] [], .ret (.bin .add (.bin .add (.bin .add (.lit (.str ":")) (.bi .str [.idx (.var 28) (.lit (.int 0))])) (.lit (.str "-"))) (.bi .str [.idx (.var 28) (.lit (.int 1))]))]⟩
noncomputable def f18 : aW := ⟨[17, 29, 30, 28], [], [.ite (.cmp .isNone (.var 30) (.lit .none)) [.ret (.call 17 [.var 28])] [], .ite (.boolop true [.cmp .ne (.idx (.var 30) (.lit (.int 0))) (.lit (.str "span")), .cmp .notNone (.var 28) (.lit .none)]) [.raise "no text for ports behind a map or a prefix"] [], .asg 18 (.tup [.lit (.str "ipv4_addr"), .lit (.int 32)]), .ite (.cmp .eq (.var 29) (.lit (.int 10))) [.asg 18 (.tup [.lit (.str "ipv6_addr"), .lit (.int 128)])] [], .ite (.cmp .eq (.idx (.var 30) (.lit (.int 0))) (.lit (.str "map"))) [.ret .stuck] [], .asg 31 (.call 6 [.var 17, .var 18, .idx (.var 30) (.lit (.int 1))]), .ite (.cmp .eq (.idx (.var 30) (.lit (.int 0))) (.lit (.str "net"))) [.ret (.bin .add (.bin .add (.var 31) (.lit (.str "/"))) (.bi .str [.idx (.var 30) (.lit (.int 2))]))] [], .asg 32 (.call 6 [.var 17, .var 18, .idx (.var 30) (.lit (.int 2))]), .ite (.boolop true [.cmp .eq (.var 29) (.lit (.int 10)), .cmp .notNone (.var 28) (.lit .none)]) [.asg 31 (.bin .add (.bin .add (.lit (.str "[")) (.var 31)) (.lit (.str "]"))), .asg 32 (.bin .add (.bin .add (.lit (.str "[")) (.var 32)) (.lit (.str "]")))] [], .ite (.cmp .ne (.var 31) (.var 32)) [.aug 31 .add (.bin .add (.lit (.str "-")) (.var 32))] [], .ret (.bin .add (.var 31) (.call 17 [.var 28]))]⟩
noncomputable def f19 : aW := ⟨[17, 22], [], [.asgT [18, 29, 30, 28, 33] (.slice (.var 22) (some (.lit (.int 1))) none), .asg 34 (.list true [.var 18]), .ite (.boolop false [.cmp .eq (.var 18) (.lit (.str "snat")), .cmp .eq (.var 18) (.lit (.str "dnat"))]) [.ex (.meth (.var 34) .append [.ite (.cmp .eq (.var 29) (.lit (.int 10))) (.lit (.str "ip6")) (.lit (.str "ip"))])] [], .ite (.boolop true [.cmp .notNone (.var 30) (.lit .none), .cmp .eq (.idx (.var 30) (.lit (.int 0))) (.lit (.str "net"))]) [.ex (.meth (.var 34) .append [.lit (.str "prefix")])] [], .ite (.boolop false [.cmp .notNone (.var 30) (.lit .none), .cmp .notNone (.var 28) (.lit .none)]) [.ex (.meth (.var 34) .append [.lit (.str "to")]), .ex (.meth (.var 34) .append [.call 18 [.var 17, .var 29, .var 30, .var 28]])] [], .ite (.cmp .gt (.bi .len [.var 33]) (.lit (.int 0))) [.ex (.meth (.var 34) .append [.meth (.lit (.str ",")) .join [.var 33]])] [], .ret (.meth (.lit (.str " ")) .join [.var 34])]⟩
noncomputable def f20 : aW := ⟨[17, 22], [], [.ret (.bin .add (.lit (.str "ct expectation set ")) (.call 5 [.idx (.var 22) (.lit (.int 1))]))]⟩
noncomputable def f21 : aW := ⟨[17, 22], [], [.ret (.bin .add (.lit (.str "flow add @")) (.idx (.var 22) (.lit (.int 1))))]⟩
noncomputable def f22 : aW := ⟨[], [], [.ret (.dict true ["nat", "expect", "flow"] [.fnv 19, .fnv 20, .fnv 21])]⟩
noncomputable def f23 : aW := ⟨[17, 35, 22], [], [.ite (.cmp .notIn (.idx (.var 22) (.lit (.int 0))) (.var 35)) [.ex .stuck] [], .ret (.callv (.idx (.var 35) (.idx (.var 22) (.lit (.int 0)))) [.var 17, .var 22])]⟩
noncomputable def f24 : aW := ⟨[17, 35, 36, 37], [], [.asg 34 (.comp true (.call 23 [.var 17, .var 35, .var 22]) 22 .seq (.var 36) none), .ite (.cmp .ne (.var 37) (.lit (.str ""))) [.ex (.meth (.var 34) .append [.bin .add (.lit (.str "comment ")) (.call 5 [.var 37])])] [], .ret (.meth (.lit (.str " ")) .join [.var 34])]⟩
noncomputable def f25 : aW := ⟨[], [], [.ret (.dict false ["icmp", "icmpv6", "icmpx"] [.dict false ["net-unreachable", "host-unreachable", "port-unreachable", "admin-prohibited"] [.lit (.int 0), .lit (.int 1), .lit (.int 3), .lit (.int 13)], .dict false ["no-route", "admin-prohibited", "port-unreachable"] [.lit (.int 0), .lit (.int 1), .lit (.int 4)], .dict false ["no-route", "port-unreachable", "host-unreachable", "admin-prohibited"] [.lit (.int 0), .lit (.int 1), .lit (.int 2), .lit (.int 3)]])]⟩
noncomputable def f26 : aW := ⟨[], [], [.asg 38 (.dict true ["ipv4_addr", "ipv6_addr"] [.tup [.lit (.int 32), .lit (.str "big"), .lit (.str "ip4"), .dict false [] []], .tup [.lit (.int 128), .lit (.str "big"), .lit (.str "ip6"), .dict false [] []]]), .for_ [18] .seq (.tup [.lit (.str "icmp"), .lit (.str "icmpv6"), .lit (.str "icmpx")]) [.setI (.var 38) (.bin .add (.var 18) (.lit (.str "_code"))) (.tup [.lit (.int 8), .lit (.str "big"), .lit (.str "number"), .idx (.call 25 []) (.var 18)])], .ret (.newI [.dict false [] [], .var 38])]⟩
noncomputable def f27 : aW := ⟨[39, 6], [], [.asg 40 (.bin .mod (.idx (.var 39) (.lit (.int 0))) (.var 6)), .setI (.var 39) (.lit (.int 0)) (.bin .fdiv (.idx (.var 39) (.lit (.int 0))) (.var 6)), .ret (.var 40)]⟩
noncomputable def f28 : aW := ⟨[39], [], [.asg 41 (.tup [.lit (.int 1024), .lit (.int 0), .lit (.int 1), .lit (.int 1023), .lit (.int 1536), .lit (.int 2048), .bin .pow (.lit (.int 2)) (.lit (.int 20)), .bin .mul (.lit (.int 3)) (.bin .pow (.lit (.int 2)) (.lit (.int 30))), .bin .pow (.lit (.int 2)) (.lit (.int 40)), .bin .sub (.bin .pow (.lit (.int 2)) (.lit (.int 64))) (.lit (.int 1)), .bin .mul (.lit (.int 1025)) (.lit (.int 1024))]), .asg 8 (.call 27 [.var 39, .lit (.int 12)]), .ret (.ite (.cmp .lt (.var 8) (.lit (.int 11))) (.idx (.var 41) (.var 8)) (.call 27 [.var 39, .bin .pow (.lit (.int 2)) (.lit (.int 64))]))]⟩
noncomputable def f29 : aW := ⟨[39], [], [.ret (.idx (.tup [.lit (.str "x"), .lit (.str "in: "), .lit (.str "level err"), .lit (.str "a_b-1"), .lit (.str "comment"), .lit (.str "two  blanks"), .lit (.str ""), .lit (.str "a\"b"), .lit (.str "a\nb")]) (.call 27 [.var 39, .lit (.int 9)]))]⟩
noncomputable def f30 : aW := ⟨[39], [], [.ret (.idx (.tup [.lit (.str "c1"), .lit (.str "in-2"), .lit (.str "A_b")]) (.call 27 [.var 39, .lit (.int 3)]))]⟩
noncomputable def f31 : aW := ⟨[39, 14], [], [.ite (.cmp .eq (.var 14) (.lit (.int 0))) [.ret (.tup [.lit (.str "counter"), .call 28 [.var 39], .call 28 [.var 39]])] [], .ite (.cmp .eq (.var 14) (.lit (.int 1))) [.ret (.tup [.lit (.str "quota"), .cmp .eq (.call 27 [.var 39, .lit (.int 2)]) (.lit (.int 1)), .call 28 [.var 39], .call 28 [.var 39]])] [], .asg 25 (.idx (.tup [.lit (.str "second"), .lit (.str "minute"), .lit (.str "hour"), .lit (.str "day"), .lit (.str "week")]) (.call 27 [.var 39, .lit (.int 5)])), .asgN [23, 27] [.cmp .eq (.call 27 [.var 39, .lit (.int 2)]) (.lit (.int 1)), .cmp .eq (.var 14) (.lit (.int 3))], .ret (.tup [.lit (.str "limit"), .var 23, .call 28 [.var 39], .var 25, .call 28 [.var 39], .var 27])]⟩
noncomputable def f32 : aW := ⟨[39, 14], [], [.ite (.cmp .eq (.var 14) (.lit (.int 4))) [.ret (.tup [.lit (.str "object"), .idx (.tup [.lit (.str "counter"), .lit (.str "quota"), .lit (.str "limit")]) (.call 27 [.var 39, .lit (.int 3)]), .call 29 [.var 39]])] [], .ite (.cmp .eq (.var 14) (.lit (.int 5))) [.asg 42 (.tup [.lit (.str "warn"), .lit (.str "emerg"), .lit (.str "alert"), .lit (.str "crit"), .lit (.str "err"), .lit (.str "notice"), .lit (.str "info"), .lit (.str "debug")]), .ret (.tup [.lit (.str "log"), .call 29 [.var 39], .idx (.var 42) (.call 27 [.var 39, .lit (.int 8)])])] [], .ite (.cmp .eq (.var 14) (.lit (.int 6))) [.asg 18 (.idx (.tup [.lit (.str "icmp"), .lit (.str "icmpv6"), .lit (.str "icmpx"), .lit (.str "tcp")]) (.call 27 [.var 39, .lit (.int 4)])), .ret (.tup [.lit (.str "reject"), .var 18, .ite (.cmp .eq (.var 18) (.lit (.str "tcp"))) (.lit (.int 0)) (.call 27 [.var 39, .lit (.int 256)])])] [], .ite (.cmp .eq (.var 14) (.lit (.int 7))) [.ret (.tup [.lit (.str "notrack")])] [], .ret (.ite (.cmp .eq (.var 14) (.lit (.int 8))) (.tup [.lit (.str "expect"), .call 29 [.var 39]]) (.tup [.lit (.str "flow"), .call 30 [.var 39]]))]⟩
noncomputable def f33 : aW := ⟨[39, 29], [], [.ite (.cmp .eq (.var 29) (.lit (.int 2))) [.ret (.idx (.tup [.lit (.int 0), .lit (.int 1), .bin .sub (.bin .pow (.lit (.int 2)) (.lit (.int 32))) (.lit (.int 1)), .lit (.int 3232235777), .call 27 [.var 39, .bin .pow (.lit (.int 2)) (.lit (.int 32))]]) (.call 27 [.var 39, .lit (.int 5)]))] [], .asg 43 (.idx (.tup [.lit (.int 0), .lit (.int 1), .bin .sub (.bin .pow (.lit (.int 2)) (.lit (.int 64))) (.lit (.int 1)), .lit (.int 65536), .call 27 [.var 39, .bin .pow (.lit (.int 2)) (.lit (.int 64))]]) (.call 27 [.var 39, .lit (.int 5)])), .ret (.bin .add (.idx (.tup [.bin .mul (.lit (.int 536939960)) (.bin .pow (.lit (.int 2)) (.lit (.int 96))), .bin .mul (.lit (.int 65152)) (.bin .pow (.lit (.int 2)) (.lit (.int 112)))]) (.call 27 [.var 39, .lit (.int 2)])) (.var 43))]⟩
noncomputable def f34 : aW := ⟨[39], [], [.asgN [44, 31, 32] [.call 27 [.var 39, .lit (.int 3)], .call 27 [.var 39, .lit (.int 65536)], .call 27 [.var 39, .lit (.int 65536)]], .ret (.ite (.cmp .eq (.var 44) (.lit (.int 0))) (.lit .none) (.ite (.cmp .eq (.var 44) (.lit (.int 1))) (.tup [.var 31, .var 31]) (.tup [.var 31, .var 32])))]⟩
noncomputable def f35 : aW := ⟨[39, 14], [], [.asg 33 (.idx (.tup [.tup [], .tup [.lit (.str "random")], .tup [.lit (.str "persistent")], .tup [.lit (.str "random"), .lit (.str "persistent")]]) (.call 27 [.var 39, .lit (.int 4)])), .ite (.cmp .eq (.var 14) (.lit (.int 11))) [.ret (.tup [.lit (.str "nat"), .idx (.tup [.lit (.str "masquerade"), .lit (.str "redirect")]) (.call 27 [.var 39, .lit (.int 2)]), .lit (.int 0), .lit .none, .call 34 [.var 39], .var 33])] [], .asgN [18, 29, 28] [.idx (.tup [.lit (.str "snat"), .lit (.str "dnat")]) (.call 27 [.var 39, .lit (.int 2)]), .idx (.tup [.lit (.int 2), .lit (.int 10)]) (.call 27 [.var 39, .lit (.int 2)]), .call 34 [.var 39]], .asgN [44, 31, 32] [.call 27 [.var 39, .lit (.int 4)], .call 33 [.var 39, .var 29], .call 33 [.var 39, .var 29]], .ite (.boolop true [.cmp .eq (.var 44) (.lit (.int 0)), .cmp .notNone (.var 28) (.lit .none)]) [.ret (.tup [.lit (.str "nat"), .var 18, .var 29, .lit .none, .var 28, .var 33])] [], .ite (.cmp .eq (.var 44) (.lit (.int 1))) [.asg 12 (.ite (.cmp .eq (.var 29) (.lit (.int 2))) (.lit (.int 32)) (.lit (.int 128))), .asg 45 (.call 27 [.var 39, .bin .add (.var 12) (.lit (.int 1))]), .ret (.tup [.lit (.str "nat"), .var 18, .var 29, .tup [.lit (.str "net"), .bin .sub (.var 31) (.bin .mod (.var 31) (.bin .pow (.lit (.int 2)) (.bin .sub (.var 12) (.var 45)))), .var 45], .lit .none, .var 33])] [], .ret (.tup [.lit (.str "nat"), .var 18, .var 29, .tup [.lit (.str "span"), .var 31, .ite (.cmp .eq (.var 44) (.lit (.int 2))) (.var 31) (.var 32)], .var 28, .var 33])]⟩
noncomputable def f36 : aW := ⟨[0], [], [.asg 39 (.list true [.var 0]), .asg 14 (.call 27 [.var 39, .lit (.int 12)]), .ret (.ite (.cmp .lt (.var 14) (.lit (.int 4))) (.call 31 [.var 39, .var 14]) (.ite (.cmp .lt (.var 14) (.lit (.int 10))) (.call 32 [.var 39, .var 14]) (.call 35 [.var 39, .var 14])))]⟩
noncomputable def f37 : aW := ⟨[39], [], [.setI (.var 39) (.lit (.str "is_bad")) (.lit (.bool true)), .ret (.lit (.str ""))]⟩
noncomputable def f38 : aW := ⟨[16], [], [.asgN [34, 46] [.list true [], .var 16], .wh (.cmp .ne (.var 46) (.lit (.str ""))) [.asg 47 (.ite (.cmp .eq (.idx (.var 46) (.lit (.int 0))) (.lit (.str "\""))) (.bin .add (.meth (.var 46) .find [.lit (.str "\""), .lit (.int 1)]) (.lit (.int 1))) (.meth (.var 46) .find [.lit (.str " ")])), .ite (.boolop true [.cmp .eq (.idx (.var 46) (.lit (.int 0))) (.lit (.str "\"")), .cmp .eq (.var 47) (.lit (.int 0))]) [.ret (.lit .none)] [], .asg 15 (.ite (.cmp .lt (.var 47) (.lit (.int 0))) (.var 46) (.slice (.var 46) none (some (.var 47)))), .ex (.meth (.var 34) .append [.var 15]), .asg 46 (.slice (.var 46) (some (.bi .len [.var 15])) none), .ite (.boolop true [.cmp .ne (.var 46) (.lit (.str "")), .boolop false [.cmp .ne (.idx (.var 46) (.lit (.int 0))) (.lit (.str " ")), .cmp .isIn (.slice (.var 46) (some (.lit (.int 1))) (some (.lit (.int 2)))) (.tup [.lit (.str ""), .lit (.str " ")])]]) [.ret (.lit .none)] [], .asg 46 (.slice (.var 46) (some (.lit (.int 1))) none)], .ret (.var 34)]⟩
noncomputable def f39 : aW := ⟨[39], [], [.ret (.ite (.cmp .ne (.idx (.var 39) (.lit (.str "words"))) (.list false [])) (.meth (.idx (.var 39) (.lit (.str "words"))) .pop [.lit (.int 0)]) (.call 37 [.var 39]))]⟩
noncomputable def f40 : aW := ⟨[39, 15], [], [.asg 48 (.cmp .eq (.slice (.idx (.var 39) (.lit (.str "words"))) none (some (.lit (.int 1)))) (.list false [.var 15])), .ite (.var 48) [.ex (.meth (.idx (.var 39) (.lit (.str "words"))) .pop [.lit (.int 0)])] [], .ret (.var 48)]⟩
noncomputable def f41 : aW := ⟨[39, 15], [], [.ret (.ite (.call 40 [.var 39, .var 15]) (.var 15) (.call 37 [.var 39]))]⟩
noncomputable def f42 : aW := ⟨[39, 15], [], [.ite (.boolop false [.cmp .eq (.var 15) (.lit (.str "")), .cmp .ne (.meth (.var 15) .strip [.lit (.str "0123456789")]) (.lit (.str "")), .boolop true [.cmp .eq (.idx (.var 15) (.lit (.int 0))) (.lit (.str "0")), .cmp .ne (.var 15) (.lit (.str "0"))]]) [.ex (.call 37 [.var 39]), .ret (.lit (.int 0))] [], .ret (.bi .int [.var 15])]⟩
noncomputable def f43 : aW := ⟨[39], [], [.asg 15 (.call 39 [.var 39]), .ret (.ite (.boolop true [.cmp .gt (.bi .len [.var 15]) (.lit (.int 1)), .cmp .eq (.idx (.var 15) (.lit (.int 0))) (.lit (.str "\""))]) (.slice (.var 15) (some (.lit (.int 1))) (some (.lit (.int (-1))))) (.call 37 [.var 39]))]⟩
noncomputable def f44 : aW := ⟨[39, 15, 25, 6], [], [.asgN [13, 20] [.call 42 [.var 39, .var 15], .slice (.list false [.lit (.str "bytes"), .lit (.str "kbytes"), .lit (.str "mbytes"), .lit (.str "gbytes")]) none (some (.var 6))], .ite (.cmp .notIn (.var 25) (.var 20)) [.ex (.call 37 [.var 39]), .ret (.lit (.int 0))] [], .asg 21 (.meth (.var 20) .index [.var 25]), .ite (.boolop false [.boolop true [.cmp .eq (.var 13) (.lit (.int 0)), .cmp .gt (.var 21) (.lit (.int 0))], .boolop true [.cmp .gt (.var 13) (.lit (.int 0)), .cmp .eq (.bin .mod (.var 13) (.lit (.int 1024))) (.lit (.int 0)), .cmp .lt (.bin .add (.var 21) (.lit (.int 1))) (.var 6)]]) [.ex (.call 37 [.var 39])] [], .ret (.bin .mul (.var 13) (.bin .pow (.lit (.int 1024)) (.var 21)))]⟩
noncomputable def f45 : aW := ⟨[39, 6, 49], [], [.asg 15 (.call 39 [.var 39]), .asg 19 (.call 44 [.var 39, .var 15, .call 39 [.var 39], .var 6]), .ite (.boolop true [.cmp .eq (.var 19) (.lit (.int 0)), .not (.var 49)]) [.ex (.call 37 [.var 39])] [], .ret (.var 19)]⟩
noncomputable def f46 : aW := ⟨[39], [], [.ex (.call 41 [.var 39, .lit (.str "rate")]), .asg 23 (.call 40 [.var 39, .lit (.str "over")]), .asg 15 (.call 39 [.var 39]), .ite (.cmp .isIn (.lit (.str "/")) (.var 15)) [.asgN [24, 25] [.slice (.var 15) none (some (.meth (.var 15) .find [.lit (.str "/")])), .slice (.var 15) (some (.bin .add (.meth (.var 15) .find [.lit (.str "/")]) (.lit (.int 1)))) none], .ex (.call 41 [.var 39, .lit (.str "burst")]), .asg 26 (.call 42 [.var 39, .call 39 [.var 39]]), .ex (.call 41 [.var 39, .lit (.str "packets")]), .ret (.tup [.lit (.str "limit"), .var 23, .call 42 [.var 39, .var 24], .var 25, .var 26, .lit (.bool false)])] [], .asg 50 (.call 39 [.var 39]), .asg 8 (.meth (.var 50) .find [.lit (.str "/")]), .asg 24 (.ite (.cmp .ge (.var 8) (.lit (.int 0))) (.call 44 [.var 39, .var 15, .slice (.var 50) none (some (.var 8)), .lit (.int 3)]) (.call 37 [.var 39])), .asg 26 (.ite (.call 40 [.var 39, .lit (.str "burst")]) (.call 45 [.var 39, .lit (.int 3), .lit (.bool false)]) (.lit (.int 0))), .ret (.tup [.lit (.str "limit"), .var 23, .var 24, .slice (.var 50) (some (.bin .add (.var 8) (.lit (.int 1)))) none, .var 26, .lit (.bool true)])]⟩
noncomputable def f47 : aW := ⟨[39, 15], [], [.ite (.call 40 [.var 39, .lit (.str "name")]) [.ret (.tup [.lit (.str "object"), .var 15, .call 43 [.var 39]])] [], .ite (.cmp .eq (.var 15) (.lit (.str "limit"))) [.ret (.call 46 [.var 39])] [], .ite (.cmp .eq (.var 15) (.lit (.str "counter"))) [.ex (.call 41 [.var 39, .lit (.str "packets")]), .asg 51 (.call 42 [.var 39, .call 39 [.var 39]]), .ex (.call 41 [.var 39, .lit (.str "bytes")]), .ret (.tup [.lit (.str "counter"), .var 51, .call 42 [.var 39, .call 39 [.var 39]]])] [], .asg 23 (.call 40 [.var 39, .lit (.str "over")]), .asg 19 (.call 45 [.var 39, .lit (.int 4), .lit (.bool true)]), .ret (.tup [.lit (.str "quota"), .var 23, .var 19, .ite (.call 40 [.var 39, .lit (.str "used")]) (.call 45 [.var 39, .lit (.int 4), .lit (.bool false)]) (.lit (.int 0))])]⟩
noncomputable def f48 : aW := ⟨[39], [], [.asg 52 (.ite (.call 40 [.var 39, .lit (.str "prefix")]) (.call 43 [.var 39]) (.lit .none)), .asg 53 (.ite (.call 40 [.var 39, .lit (.str "level")]) (.call 39 [.var 39]) (.lit .none)), .ite (.boolop false [.cmp .eq (.var 52) (.lit (.str "")), .cmp .eq (.var 53) (.lit (.str "warn"))]) [.ex (.call 37 [.var 39])] [], .ret (.tup [.lit (.str "log"), .ite (.cmp .isNone (.var 52) (.lit .none)) (.lit (.str "")) (.var 52), .ite (.cmp .isNone (.var 53) (.lit .none)) (.lit (.str "warn")) (.var 53)])]⟩
noncomputable def f49 : aW := ⟨[39], [], [.ex (.call 41 [.var 39, .lit (.str "with")]), .asgN [18, 15] [.call 39 [.var 39], .call 39 [.var 39]], .ite (.cmp .eq (.var 18) (.lit (.str "tcp"))) [.ret (.tup [.lit (.str "reject"), .var 18, .ite (.cmp .eq (.var 15) (.lit (.str "reset"))) (.lit (.int 0)) (.call 37 [.var 39])])] [], .asg 54 (.meth (.call 25 []) .get [.var 18, .dict false [] []]), .ite (.cmp .isIn (.var 15) (.var 54)) [.ret (.tup [.lit (.str "reject"), .var 18, .idx (.var 54) (.var 15)])] [], .asg 55 (.call 42 [.var 39, .var 15]), .ret (.tup [.lit (.str "reject"), .var 18, .ite (.cmp .isIn (.var 55) (.bi .vals [.var 54])) (.call 37 [.var 39]) (.var 55)])]⟩
noncomputable def f50 : aW := ⟨[39, 16, 29], [], [.ite (.cmp .eq (.var 29) (.lit (.int 2))) [.asg 10 (.comp false (.call 42 [.var 39, .var 56]) 56 .seq (.meth (.var 16) .split [.lit (.str ".")]) none), .ite (.boolop false [.cmp .ne (.bi .len [.var 10]) (.lit (.int 4)), .cmp .gt (.bi .max [.var 10]) (.lit (.int 255))]) [.ret (.call 37 [.var 39])] [], .ret (.bi .sum [.comp false (.bin .mul (.idx (.var 10) (.var 57)) (.bin .pow (.lit (.int 256)) (.bin .sub (.lit (.int 3)) (.var 57)))) 57 .range (.lit (.int 4)) none])] [], .asg 58 (.comp false (.comp false (.var 56) 56 .seq (.meth (.var 59) .split [.lit (.str ":")]) (some (.cmp .ne (.var 56) (.lit (.str ""))))) 59 .seq (.meth (.var 16) .split [.lit (.str "::")]) none), .asg 60 (.bin .sub (.lit (.int 8)) (.bi .sum [.comp false (.bi .len [.var 59]) 59 .seq (.var 58) none])), .asg 4 (.bin .add (.idx (.var 58) (.lit (.int 0))) (.ite (.cmp .eq (.bi .len [.var 58]) (.lit (.int 2))) (.bin .add (.bin .mul (.list false [.lit (.str "0")]) (.var 60)) (.idx (.var 58) (.lit (.int 1)))) (.list false []))), .ite (.boolop false [.cmp .ne (.bi .len [.var 4]) (.lit (.int 8)), .cmp .ne (.comp false (.var 56) 56 .seq (.var 4) (some (.boolop false [.cmp .ne (.meth (.var 56) .strip [.lit (.str "0123456789abcdef")]) (.lit (.str "")), .cmp .gt (.bi .len [.var 56]) (.lit (.int 4))]))) (.list false [])]) [.ret (.call 37 [.var 39])] [], .ret (.bi .sum [.comp false (.bin .mul (.bi .int [.idx (.var 4) (.var 57), .lit (.int 16)]) (.bin .pow (.lit (.int 65536)) (.bin .sub (.lit (.int 7)) (.var 57)))) 57 .range (.lit (.int 8)) none])]⟩
noncomputable def f51 : aW := ⟨[39, 16], [], [.asg 58 (.meth (.var 16) .split [.lit (.str "-")]), .ite (.boolop false [.cmp .gt (.bi .len [.var 58]) (.lit (.int 2)), .boolop true [.cmp .eq (.idx (.var 58) (.lit (.int 0))) (.idx (.var 58) (.lit (.int (-1)))), .cmp .eq (.bi .len [.var 58]) (.lit (.int 2))]]) [.ex (.call 37 [.var 39])] [], .ret (.tup [.idx (.var 58) (.lit (.int 0)), .idx (.var 58) (.lit (.int (-1)))])]⟩
noncomputable def f52 : aW := ⟨[39, 16], [], [.asgT [31, 32] (.call 51 [.var 39, .var 16]), .ret (.tup [.call 42 [.var 39, .var 31], .call 42 [.var 39, .var 32]])]⟩
noncomputable def f53 : aW := ⟨[39, 29], [], [.asgN [16, 28] [.call 39 [.var 39], .lit .none], .ite (.cmp .eq (.slice (.var 16) none (some (.lit (.int 1)))) (.lit (.str "["))) [.asg 8 (.meth (.var 16) .find [.lit (.str "]:")]), .asgN [16, 43] [.meth (.meth (.slice (.var 16) none (some (.bin .add (.var 8) (.lit (.int 1))))) .replace [.lit (.str "["), .lit (.str "")]) .replace [.lit (.str "]"), .lit (.str "")], .slice (.var 16) (some (.bin .add (.var 8) (.lit (.int 2)))) none], .asg 28 (.ite (.boolop true [.cmp .gt (.var 8) (.lit (.int 0)), .cmp .eq (.var 29) (.lit (.int 10))]) (.call 52 [.var 39, .var 43]) (.call 37 [.var 39]))] [.ite (.boolop true [.cmp .ne (.var 29) (.lit (.int 10)), .cmp .isIn (.lit (.str ":")) (.var 16)]) [.asg 8 (.meth (.var 16) .find [.lit (.str ":")]), .asgN [16, 28] [.slice (.var 16) none (some (.var 8)), .call 52 [.var 39, .slice (.var 16) (some (.bin .add (.var 8) (.lit (.int 1)))) none]]] [.ite (.boolop true [.cmp .eq (.slice (.var 16) none (some (.lit (.int 1)))) (.lit (.str ":")), .cmp .ne (.slice (.var 16) none (some (.lit (.int 2)))) (.lit (.str "::"))]) [.asgN [16, 28] [.lit (.str ""), .call 52 [.var 39, .slice (.var 16) (some (.lit (.int 1))) none]]] []]], .ite (.cmp .eq (.var 16) (.lit (.str ""))) [.ret (.tup [.lit .none, .var 28])] [], .asgT [31, 32] (.call 51 [.var 39, .var 16]), .ret (.tup [.tup [.lit (.str "span"), .call 50 [.var 39, .var 31, .var 29], .call 50 [.var 39, .var 32, .var 29]], .var 28])]⟩
noncomputable def f54 : aW := ⟨[39, 15], [], [.asgN [29, 30, 28] [.lit (.int 0), .lit .none, .lit .none], .ite (.cmp .isIn (.var 15) (.tup [.lit (.str "snat"), .lit (.str "dnat")])) [.asg 29 (.meth (.dict false ["ip", "ip6"] [.lit (.int 2), .lit (.int 10)]) .get [.call 39 [.var 39], .lit (.int 0)])] [], .ite (.boolop true [.cmp .gt (.var 29) (.lit (.int 0)), .call 40 [.var 39, .lit (.str "prefix")]]) [.ex (.call 41 [.var 39, .lit (.str "to")]), .asg 61 (.call 39 [.var 39]), .asg 8 (.meth (.var 61) .find [.lit (.str "/")]), .asg 62 (.ite (.cmp .gt (.var 8) (.lit (.int 0))) (.call 50 [.var 39, .slice (.var 61) none (some (.var 8)), .var 29]) (.call 37 [.var 39])), .asg 30 (.tup [.lit (.str "net"), .var 62, .call 42 [.var 39, .slice (.var 61) (some (.bin .add (.var 8) (.lit (.int 1)))) none]])] [.ite (.call 40 [.var 39, .lit (.str "to")]) [.asgT [30, 28] (.call 53 [.var 39, .var 29])] []], .asg 33 (.tup []), .for_ [61] .seq (.tup [.lit (.str "random,persistent"), .lit (.str "random"), .lit (.str "persistent")]) [.ite (.boolop true [.cmp .eq (.var 33) (.tup []), .call 40 [.var 39, .var 61]]) [.asg 33 (.bi .tuple [.meth (.var 61) .split [.lit (.str ",")]])] []], .ret (.tup [.lit (.str "nat"), .var 15, .var 29, .var 30, .var 28, .var 33])]⟩
noncomputable def f55 : aW := ⟨[39], [], [.asg 15 (.call 39 [.var 39]), .ite (.cmp .isIn (.var 15) (.tup [.lit (.str "counter"), .lit (.str "quota"), .lit (.str "limit")])) [.ret (.call 47 [.var 39, .var 15])] [], .ite (.cmp .isIn (.var 15) (.tup [.lit (.str "snat"), .lit (.str "dnat"), .lit (.str "masquerade"), .lit (.str "redirect")])) [.ret (.call 54 [.var 39, .var 15])] [], .ite (.cmp .eq (.var 15) (.lit (.str "log"))) [.ret (.call 48 [.var 39])] [], .ite (.cmp .eq (.var 15) (.lit (.str "reject"))) [.ret (.call 49 [.var 39])] [], .ite (.cmp .eq (.var 15) (.lit (.str "ct"))) [.ex (.call 41 [.var 39, .lit (.str "expectation")]), .ex (.call 41 [.var 39, .lit (.str "set")]), .ret (.tup [.lit (.str "expect"), .call 43 [.var 39]])] [], .ite (.cmp .eq (.var 15) (.lit (.str "flow"))) [.ex (.call 41 [.var 39, .lit (.str "add")]), .asg 63 (.call 39 [.var 39]), .ret (.tup [.lit (.str "flow"), .ite (.cmp .eq (.slice (.var 63) none (some (.lit (.int 1)))) (.lit (.str "@"))) (.slice (.var 63) (some (.lit (.int 1))) none) (.call 37 [.var 39])])] [], .ret (.ite (.cmp .eq (.var 15) (.lit (.str "notrack"))) (.tup [.lit (.str "notrack")]) (.call 37 [.var 39]))]⟩
noncomputable def f56 : aW := ⟨[16], [], [.asgN [39, 36, 37] [.dict true ["words", "is_bad"] [.call 38 [.var 16], .lit (.bool false)], .list true [], .lit (.str "")], .ite (.cmp .isNone (.idx (.var 39) (.lit (.str "words"))) (.lit .none)) [.ret (.lit .none)] [], .wh (.boolop true [.cmp .ne (.idx (.var 39) (.lit (.str "words"))) (.list true []), .not (.idx (.var 39) (.lit (.str "is_bad")))]) [.ite (.boolop true [.cmp .ne (.var 36) (.list true []), .call 40 [.var 39, .lit (.str "comment")]]) [.asg 37 (.call 43 [.var 39]), .ret (.ite (.boolop false [.idx (.var 39) (.lit (.str "is_bad")), .cmp .eq (.var 37) (.lit (.str "")), .cmp .ne (.idx (.var 39) (.lit (.str "words"))) (.list true [])]) (.lit .none) (.tup [.bi .tuple [.var 36], .var 37]))] [], .ex (.meth (.var 36) .append [.call 55 [.var 39]])], .ret (.ite (.idx (.var 39) (.lit (.str "is_bad"))) (.lit .none) (.tup [.bi .tuple [.var 36], .var 37]))]⟩
noncomputable def f57 : aW := ⟨[16], [], [.ret (.boolop true [.cmp .notIn (.lit (.str "\"")) (.var 16), .cmp .notIn (.lit (.str "\n")) (.var 16)])]⟩
noncomputable def f58 : aW := ⟨[36, 37], [], [.asg 64 (.list true [.var 37]), .for_ [65] .seq (.var 36) [.ite (.cmp .isIn (.idx (.var 65) (.lit (.int 0))) (.tup [.lit (.str "object"), .lit (.str "log"), .lit (.str "expect")])) [.ex (.meth (.var 64) .append [.ite (.cmp .eq (.idx (.var 65) (.lit (.int 0))) (.lit (.str "object"))) (.idx (.var 65) (.lit (.int 2))) (.idx (.var 65) (.lit (.int 1)))])] []], .ret (.cmp .eq (.comp false (.var 16) 16 .seq (.var 64) (some (.not (.call 57 [.var 16])))) (.list false []))]⟩
noncomputable def f59 : aW := ⟨[66], [], [.asg 67 (.bin .add (.lit (.int 3)) (.bin .mul (.bin .mul (.lit (.int 4)) (.bin .pow (.lit (.int 2)) (.lit (.int 64)))) (.bin .add (.lit (.int 1)) (.bin .mul (.bin .mul (.bin .mul (.lit (.int 5)) (.lit (.int 2))) (.bin .pow (.lit (.int 2)) (.lit (.int 64)))) (.bin .add (.lit (.int 2)) (.lit (.int 5))))))), .asg 68 (.list false [.lit (.int 1), .bin .add (.lit (.int 2)) (.bin .mul (.lit (.int 12)) (.lit (.int 9))), .bin .add (.bin .mul (.lit (.int 12)) (.lit (.int 2))) (.lit (.int 3)), .bin .add (.lit (.int 10)) (.bin .mul (.lit (.int 12)) (.bin .add (.lit (.int 1)) (.bin .mul (.lit (.int 4)) (.bin .add (.lit (.int 1)) (.bin .mul (.lit (.int 2)) (.bin .add (.lit (.int 1)) (.bin .mul (.lit (.int 2)) (.bin .add (.lit (.int 1)) (.bin .mul (.lit (.int 3)) (.bin .add (.lit (.int 22)) (.bin .mul (.bin .mul (.lit (.int 65536)) (.lit (.int 65536))) (.var 67))))))))))))]), .asg 69 (.comp false (.bin .add (.idx (.var 68) (.var 57)) (.ite (.cmp .lt (.var 57) (.bi .len [.var 66])) (.idx (.var 66) (.var 57)) (.lit (.int 0)))) 57 .range (.lit (.int 4)) none), .asg 36 (.bi .tuple [.comp false (.call 36 [.var 0]) 0 .seq (.var 69) none]), .asg 37 (.idx (.tup [.lit (.str ""), .lit (.str "x"), .lit (.str "two  blanks"), .lit (.str "comment"), .lit (.str "a\"b")]) (.bin .mod (.bin .add (.lit (.int 1)) (.ite (.cmp .gt (.bi .len [.var 66]) (.lit (.int 4))) (.idx (.var 66) (.lit (.int 4))) (.lit (.int 0)))) (.lit (.int 5)))), .asg 35 (.call 13 []), .ex (.meth (.var 35) .update [.call 22 []]), .ex (.meth (.var 35) .update [.dict true ["log", "reject", "notrack"] [.fnv 14, .fnv 15, .fnv 16]]), .tryE [.asg 16 (.call 24 [.call 26 [], .var 35, .var 36, .var 37])] 70 [.ret (.boolop true [.cmp .eq (.attr (.var 70) "why") (.lit (.str "no string holds a quote or a newline")), .not (.call 58 [.var 36, .var 37])])], .ite (.not (.call 58 [.var 36, .var 37])) [.ret (.lit (.bool false))] [], .ret (.cmp .eq (.bi .repr [.call 56 [.var 16]]) (.bi .repr [.tup [.var 36, .var 37]]))]⟩
noncomputable def FTl : List aW := [f0, f1, f2, f3, f4, f5, f6, f7, f8, f9, f10, f11, f12, f13, f14, f15, f16, f17, f18, f19, f20, f21, f22, f23, f24, f25, f26, f27, f28, f29, f30, f31, f32, f33, f34, f35, f36, f37, f38, f39, f40, f41, f42, f43, f44, f45, f46, f47, f48, f49, f50, f51, f52, f53, f54, f55, f56, f57, f58]
noncomputable def FT (i : Nat) : Option aW := FTl[i]?
end PQ
namespace PQ
noncomputable def pB : BOp -> Operator
 | .add => .Add | .sub => .Sub | .mul => .Mult | .mod => .Mod | .fdiv => .FloorDiv | .pow => .Pow | .shr => .RShift | .band => .BitAnd
noncomputable def yK : COp -> CmpOp
 | .eq => .Eq | .ne => .NotEq | .lt => .Lt | .le => .LtE | .gt => .Gt | .ge => .GtE | .isIn => .In | .notIn => .NotIn | .isNone => .Is | .notNone => .IsNot
noncomputable def gO : Bi -> Str
 | .len => "len" | .str => "str" | .int => "int" | .max => "max" | .sum => "sum" | .tuple => "tuple" | .repr => "repr" | .vals => "list"
noncomputable def nL : Bi -> Value
 | .len => .builtin "len" | .str => .type "str" | .int => .type "int" | .max => .builtin "max" | .sum => .builtin "sum" | .tuple => .type "tuple" | .repr => .builtin "repr" | .vals => .type "list"
noncomputable def vK : Me -> Str
 | .strip => "strip" | .split => "split" | .find => "find" | .replace => "replace" | .join => "join" | .append => "append" | .pop => "pop" | .index => "index" | .get => "get" | .update => "update"
noncomputable def aFX (d : PyData) : Option Const := PyData.casesOn d (some .none) (fun b => some (.bool b)) (fun i => some (.int i)) (fun x => some (.str x)) (fun _ => none) (fun _ => none) (fun _ => none)
noncomputable def lG (c : Const) (d : PyData) : Bool := aFX d == some c
noncomputable def pP (e : Expr) : Bool := Nat.beq e.ctorIdx 26
noncomputable def mP (e : Expr) : Bool := Nat.beq e.ctorIdx 22
noncomputable def jD (e : Expr) : Bool := Nat.beq e.ctorIdx 8 || (Nat.beq e.ctorIdx 9 || Nat.beq e.ctorIdx 10)
noncomputable def jQ (e : Expr) : Bool := Nat.beq e.ctorIdx 7
noncomputable def zN (e : Expr) : Bool := Nat.beq e.ctorIdx 25
noncomputable def zM (m : aK) : Bool := Nat.beq m.ctorIdx 0
noncomputable def cP (sc : Scope) (x : Str) : Bool := (sc.names.lookup x == some .local || sc.names.lookup x == some .cell) && x != ("__debug__" : Str)
noncomputable def dK (sc : Scope) (x : Str) : Bool := sc.names.lookup x == some .globalImplicit && x != ("__debug__" : Str)
noncomputable def inner (sc cs : Scope) : Scope :=
 { cs with names := cs.names.map fun (n, k) => if (k == .free && sc.kind == .function && sc.names.lookup n == some .cell) then (n, .cell) else (n, k) }
noncomputable def kF (sc cs : Scope) (y : Str) : Bool :=
 cs.kind == .function && (cs.names.all fun x => x.2 != .cell && (x.2 != .local || x.1 == y || (x.1 == (".0" : Str) && cs.names.lookup x.1 == some .local)) && (x.2 != .free || (sc.names.lookup x.1 == some .cell && x.1 != (".0" : Str)))) && cs.names.lookup y == some .local
theorem eB {p : Prop} [Decidable p] {x : p -> Bool} {P : Prop} (h : (if q : p then x q else false) = true) (k : ∀ q, x q = true -> P) : P := by
 by_cases q : p
 ·rw [dif_pos q] at h; exact k q h
 ·rw [dif_neg q] at h; cases h
theorem aA {a b : Bool} (h : (a && b) = true) : a = true /\ b = true := Bool.and_eq_true_iff.mp h
theorem aMq {a b : Bool} {P : Prop} (h : (a && b) = true) (k : a = true -> b = true -> P) : P := k (aA h).1 (aA h).2
theorem fE {b : Bool} (h : (!b) = true) : b = false := Bool.not_eq_true' b ▸ h
theorem bK {P : Prop} (h : false = true) : P := absurd h Bool.false_ne_true
theorem aMx {α : Type} {l : List α} (h : (!l.isEmpty) = true) : l ≠ [] := fun q => bK (by rw [q] at h; exact h)
@[elab_as_elim] theorem dZ {α : Type} [BEq α] [LawfulBEq α] {G : α -> Prop} {a b : α} (h : (a == b) = true) (k : G a) : G b := eq_of_beq h ▸ k
@[elab_as_elim] theorem aMr {α : Type} [BEq α] [LawfulBEq α] {G : α -> Prop} {a b : α} (h : (a == b) = true) (k : G b) : G a := (eq_of_beq h).symm ▸ k
@[elab_as_elim] theorem nil_r {α : Type} {G : List α -> Prop} {l : List α} (h : l.isEmpty = true) (k : G []) : G l := List.isEmpty_iff.mp h ▸ k
noncomputable def on1 {α : Type} (l : List α) (f : α -> Bool) : Bool := List.casesOn l false fun a r => r.isEmpty && f a
@[elab_as_elim] theorem gB {α : Type} {G : List α -> Prop} {l : List α} {f} (h : on1 l f = true) (k : ∀ a, f a = true -> G [a]) : G l := by
 cases l with
 | nil => exact bK h
 | cons a r => exact nil_r (G := fun r => G (a :: r)) (aA h).1 (k a (aA h).2)
noncomputable def fL {α : Type} (l : List α) (f : α -> List α -> Bool) : Bool := List.casesOn l false f
@[elab_as_elim] theorem gF {α : Type} {G : List α -> Prop} {l : List α} {f} (h : fL l f = true) (k : ∀ a r, f a r = true -> G (a :: r)) : G l := by
 cases l with
 | nil => exact bK h
 | cons a r => exact k a r h
noncomputable def cM {α : Type} (x : Option α) (f : α -> Bool) : Bool := Option.casesOn x false f
@[elab_as_elim] theorem mY {α : Type} {G : Option α -> Prop} {x : Option α} {f} (h : cM x f = true) (k : ∀ a, f a = true -> G (some a)) : G x := by
 cases x with
 | none => exact bK h
 | some a => exact k a h
@[elab_as_elim] theorem aAm {α : Type} {G : Option α -> Prop} {x : Option α} (h : x.isNone = true) (k : G none) : G x := Option.isNone_iff_eq_none.mp h ▸ k
noncomputable def onB (b : FuncBody) (f : List Stmt -> Bool) : Bool := FuncBody.casesOn b f fun _ => false
@[elab_as_elim] theorem vP {G : FuncBody -> Prop} {b : FuncBody} {f} (h : onB b f = true) (k : ∀ ss, f ss = true -> G (.stmts ss)) : G b := by
 cases b with
 | stmts ss => exact k ss h
 | expr => exact bK h
noncomputable def onC (e : Expr) (f : Const -> Bool) : Bool := if h : e.ctorIdx = 19 then Expr.Constant.elim e h fun c _ _ => f c else false
@[elab_as_elim] theorem kO {G : Expr -> Prop} {e : Expr} {f} (h : onC e f = true) (z : ∀ c k p, f c = true -> G (.Constant c k p)) : G e :=
 eB h fun q h => Expr.Constant.elim (motive_1 := fun e => ∀ q : e.ctorIdx = 19, (Expr.Constant.elim (motive_1 := fun _ => Bool) e q fun c _ _ => f c) = true -> G e) e q (fun c k p _ h => z c k p h) q h
noncomputable def onN (e : Expr) (f : Str -> Bool) : Bool := if h : e.ctorIdx = 23 then Expr.Name.elim e h fun x _ => f x else false
@[elab_as_elim] theorem fM {G : Expr -> Prop} {e : Expr} {f} (h : onN e f = true) (k : ∀ x p, f x = true -> G (.Name x p)) : G e :=
 eB h fun q h => Expr.Name.elim (motive_1 := fun e => ∀ q : e.ctorIdx = 23, (Expr.Name.elim (motive_1 := fun _ => Bool) e q fun x _ => f x) = true -> G e) e q (fun x p _ h => k x p h) q h
noncomputable def onU (e : Expr) (f : UnaryOp -> Expr -> Bool) : Bool := if h : e.ctorIdx = 3 then Expr.UnaryOp.elim e h fun o a _ => f o a else false
@[elab_as_elim] theorem oK {G : Expr -> Prop} {e : Expr} {f} (h : onU e f = true) (k : ∀ o a p, f o a = true -> G (.UnaryOp o a p)) : G e :=
 eB h fun q h => Expr.UnaryOp.elim (motive_1 := fun e => ∀ q : e.ctorIdx = 3, (Expr.UnaryOp.elim (motive_1 := fun _ => Bool) e q fun o a _ => f o a) = true -> G e) e q (fun o a p _ h => k o a p h) q h
noncomputable def aAr (e : Expr) (f : Expr -> Operator -> Expr -> Bool) : Bool := if h : e.ctorIdx = 2 then Expr.BinOp.elim e h fun l o r _ => f l o r else false
@[elab_as_elim] theorem vQ {G : Expr -> Prop} {e : Expr} {f} (h : aAr e f = true) (k : ∀ l o r p, f l o r = true -> G (.BinOp l o r p)) : G e :=
 eB h fun q h => Expr.BinOp.elim (motive_1 := fun e => ∀ q : e.ctorIdx = 2, (Expr.BinOp.elim (motive_1 := fun _ => Bool) e q fun l o r _ => f l o r) = true -> G e) e q (fun l o r p _ h => k l o r p h) q h
noncomputable def aDi (e : Expr) (f : Expr -> List CmpOp -> List Expr -> Bool) : Bool := if h : e.ctorIdx = 15 then Expr.Compare.elim e h fun l o r _ => f l o r else false
@[elab_as_elim] theorem aAt {G : Expr -> Prop} {e : Expr} {f} (h : aDi e f = true) (k : ∀ l o r p, f l o r = true -> G (.Compare l o r p)) : G e :=
 eB h fun q h => Expr.Compare.elim (motive_1 := fun e => ∀ q : e.ctorIdx = 15, (Expr.Compare.elim (motive_1 := fun _ => Bool) e q fun l o r _ => f l o r) = true -> G e) e q (fun l o r p _ h => k l o r p h) q h
noncomputable def aDg (e : Expr) (f : BoolOp -> List Expr -> Bool) : Bool := if h : e.ctorIdx = 0 then Expr.BoolOp.elim e h fun o v _ => f o v else false
@[elab_as_elim] theorem aAs {G : Expr -> Prop} {e : Expr} {f} (h : aDg e f = true) (k : ∀ o v p, f o v = true -> G (.BoolOp o v p)) : G e :=
 eB h fun q h => Expr.BoolOp.elim (motive_1 := fun e => ∀ q : e.ctorIdx = 0, (Expr.BoolOp.elim (motive_1 := fun _ => Bool) e q fun o v _ => f o v) = true -> G e) e q (fun o v p _ h => k o v p h) q h
noncomputable def aDn (e : Expr) (f : Expr -> Expr -> Expr -> Bool) : Bool := if h : e.ctorIdx = 5 then Expr.IfExp.elim e h fun t x y _ => f t x y else false
@[elab_as_elim] theorem aAw {G : Expr -> Prop} {e : Expr} {f} (h : aDn e f = true) (k : ∀ t x y p, f t x y = true -> G (.IfExp t x y p)) : G e :=
 eB h fun q h => Expr.IfExp.elim (motive_1 := fun e => ∀ q : e.ctorIdx = 5, (Expr.IfExp.elim (motive_1 := fun _ => Bool) e q fun t x y _ => f t x y) = true -> G e) e q (fun t x y p _ h => k t x y p h) q h
noncomputable def sV (e : Expr) (f : Expr -> Expr -> Bool) : Bool := if h : e.ctorIdx = 21 then Expr.Subscript.elim e h fun v s _ => f v s else false
@[elab_as_elim] theorem kP {G : Expr -> Prop} {e : Expr} {f} (h : sV e f = true) (k : ∀ v s p, f v s = true -> G (.Subscript v s p)) : G e :=
 eB h fun q h => Expr.Subscript.elim (motive_1 := fun e => ∀ q : e.ctorIdx = 21, (Expr.Subscript.elim (motive_1 := fun _ => Bool) e q fun v s _ => f v s) = true -> G e) e q (fun v s p _ h => k v s p h) q h
noncomputable def aDv (e : Expr) (f : Option Expr -> Option Expr -> Option Expr -> Bool) : Bool := if h : e.ctorIdx = 26 then Expr.Slice.elim e h fun l u s _ => f l u s else false
@[elab_as_elim] theorem aJd {G : Expr -> Prop} {e : Expr} {f} (h : aDv e f = true) (k : ∀ l u s p, f l u s = true -> G (.Slice l u s p)) : G e :=
 eB h fun q h => Expr.Slice.elim (motive_1 := fun e => ∀ q : e.ctorIdx = 26, (Expr.Slice.elim (motive_1 := fun _ => Bool) e q fun l u s _ => f l u s) = true -> G e) e q (fun l u s p _ h => k l u s p h) q h
noncomputable def mW (e : Expr) (f : Expr -> Str -> Pos -> Bool) : Bool := if h : e.ctorIdx = 20 then Expr.Attribute.elim e h fun v y p => f v y p else false
@[elab_as_elim] theorem mX {G : Expr -> Prop} {e : Expr} {f} (h : mW e f = true) (k : ∀ v y p, f v y p = true -> G (.Attribute v y p)) : G e :=
 eB h fun q h => Expr.Attribute.elim (motive_1 := fun e => ∀ q : e.ctorIdx = 20, (Expr.Attribute.elim (motive_1 := fun _ => Bool) e q fun v y p => f v y p) = true -> G e) e q (fun v y p _ h => k v y p h) q h
noncomputable def qE (e : Expr) (f : List Expr -> Bool) : Bool := if h : e.ctorIdx = 25 then Expr.Tuple.elim e h fun x _ _ => f x else false
@[elab_as_elim] theorem oJ {G : Expr -> Prop} {e : Expr} {f} (h : qE e f = true) (z : ∀ x k p, f x = true -> G (.Tuple x k p)) : G e :=
 eB h fun q h => Expr.Tuple.elim (motive_1 := fun e => ∀ q : e.ctorIdx = 25, (Expr.Tuple.elim (motive_1 := fun _ => Bool) e q fun x _ _ => f x) = true -> G e) e q (fun x k p _ h => z x k p h) q h
noncomputable def aDr (e : Expr) (f : List Expr -> Bool) : Bool := if h : e.ctorIdx = 24 then Expr.List.elim e h fun x _ => f x else false
@[elab_as_elim] theorem aAx {G : Expr -> Prop} {e : Expr} {f} (h : aDr e f = true) (k : ∀ x p, f x = true -> G (.List x p)) : G e :=
 eB h fun q h => Expr.List.elim (motive_1 := fun e => ∀ q : e.ctorIdx = 24, (Expr.List.elim (motive_1 := fun _ => Bool) e q fun x _ => f x) = true -> G e) e q (fun x p _ h => k x p h) q h
noncomputable def aDj (e : Expr) (f : List (Option Expr) -> List Expr -> Bool) : Bool := if h : e.ctorIdx = 6 then Expr.Dict.elim e h fun k v _ => f k v else false
@[elab_as_elim] theorem aAu {G : Expr -> Prop} {e : Expr} {f} (h : aDj e f = true) (z : ∀ k v p, f k v = true -> G (.Dict k v p)) : G e :=
 eB h fun q h => Expr.Dict.elim (motive_1 := fun e => ∀ q : e.ctorIdx = 6, (Expr.Dict.elim (motive_1 := fun _ => Bool) e q fun k v _ => f k v) = true -> G e) e q (fun k v p _ h => z k v p h) q h
noncomputable def aDp (e : Expr) (f : Expr -> List Comprehension -> Scope -> Bool) : Bool := if h : e.ctorIdx = 8 then Expr.ListComp.elim e h fun l g c _ => f l g c else false
@[elab_as_elim] theorem aDq {G : Expr -> Prop} {e : Expr} {f} (h : aDp e f = true) (k : ∀ l g c p, f l g c = true -> G (.ListComp l g c p)) : G e :=
 eB h fun q h => Expr.ListComp.elim (motive_1 := fun e => ∀ q : e.ctorIdx = 8, (Expr.ListComp.elim (motive_1 := fun _ => Bool) e q fun l g c _ => f l g c) = true -> G e) e q (fun l g c p _ h => k l g c p h) q h
noncomputable def aDh (e : Expr) (f : Expr -> List Expr -> List Keyword -> Pos -> Bool) : Bool := if h : e.ctorIdx = 16 then Expr.Call.elim e h fun g a k p => f g a k p else false
@[elab_as_elim] theorem aI7 {G : Expr -> Prop} {e : Expr} {f} (h : aDh e f = true) (z : ∀ g a k p, f g a k p = true -> G (.Call g a k p)) : G e :=
 eB h fun q h => Expr.Call.elim (motive_1 := fun e => ∀ q : e.ctorIdx = 16, (Expr.Call.elim (motive_1 := fun _ => Bool) e q fun g a k p => f g a k p) = true -> G e) e q (fun g a k p _ h => z g a k p h) q h
noncomputable def aDe (e : Stmt) (f : List Expr -> Expr -> Bool) : Bool := if h : e.ctorIdx = 5 then Stmt.Assign.elim e h fun t v _ => f t v else false
@[elab_as_elim] theorem aI5 {G : Stmt -> Prop} {e : Stmt} {f} (h : aDe e f = true) (k : ∀ t v p, f t v = true -> G (.Assign t v p)) : G e :=
 eB h fun q h => Stmt.Assign.elim (motive_2 := fun e => ∀ q : e.ctorIdx = 5, (Stmt.Assign.elim (motive_2 := fun _ => Bool) e q fun t v _ => f t v) = true -> G e) e q (fun t v p _ h => k t v p h) q h
noncomputable def aDf (e : Stmt) (f : Expr -> Operator -> Expr -> Bool) : Bool := if h : e.ctorIdx = 7 then Stmt.AugAssign.elim e h fun t o v _ => f t o v else false
@[elab_as_elim] theorem aI6 {G : Stmt -> Prop} {e : Stmt} {f} (h : aDf e f = true) (k : ∀ t o v p, f t o v = true -> G (.AugAssign t o v p)) : G e :=
 eB h fun q h => Stmt.AugAssign.elim (motive_2 := fun e => ∀ q : e.ctorIdx = 7, (Stmt.AugAssign.elim (motive_2 := fun _ => Bool) e q fun t o v _ => f t o v) = true -> G e) e q (fun t o v p _ h => k t o v p h) q h
noncomputable def aAv (e : Stmt) (f : Expr -> Bool) : Bool := if h : e.ctorIdx = 24 then Stmt.Expr.elim e h fun v _ => f v else false
@[elab_as_elim] theorem aDk {G : Stmt -> Prop} {e : Stmt} {f} (h : aAv e f = true) (k : ∀ v p, f v = true -> G (.Expr v p)) : G e :=
 eB h fun q h => Stmt.Expr.elim (motive_2 := fun e => ∀ q : e.ctorIdx = 24, (Stmt.Expr.elim (motive_2 := fun _ => Bool) e q fun v _ => f v) = true -> G e) e q (fun v p _ h => k v p h) q h
noncomputable def aDo (e : Stmt) (f : Expr -> List Stmt -> List Stmt -> Bool) : Bool := if h : e.ctorIdx = 12 then Stmt.If.elim e h fun c a b _ => f c a b else false
@[elab_as_elim] theorem aJa {G : Stmt -> Prop} {e : Stmt} {f} (h : aDo e f = true) (k : ∀ c a b p, f c a b = true -> G (.If c a b p)) : G e :=
 eB h fun q h => Stmt.If.elim (motive_2 := fun e => ∀ q : e.ctorIdx = 12, (Stmt.If.elim (motive_2 := fun _ => Bool) e q fun c a b _ => f c a b) = true -> G e) e q (fun c a b p _ h => k c a b p h) q h
noncomputable def aDy (e : Stmt) (f : Expr -> List Stmt -> List Stmt -> Bool) : Bool := if h : e.ctorIdx = 11 then Stmt.While.elim e h fun c b o _ => f c b o else false
@[elab_as_elim] theorem aJf {G : Stmt -> Prop} {e : Stmt} {f} (h : aDy e f = true) (k : ∀ c b o p, f c b o = true -> G (.While c b o p)) : G e :=
 eB h fun q h => Stmt.While.elim (motive_2 := fun e => ∀ q : e.ctorIdx = 11, (Stmt.While.elim (motive_2 := fun _ => Bool) e q fun c b o _ => f c b o) = true -> G e) e q (fun c b o p _ h => k c b o p h) q h
noncomputable def aDm (e : Stmt) (f : Expr -> Expr -> List Stmt -> List Stmt -> Bool) : Bool := if h : e.ctorIdx = 9 then Stmt.For.elim e h fun t i b o _ => f t i b o else false
@[elab_as_elim] theorem aI8 {G : Stmt -> Prop} {e : Stmt} {f} (h : aDm e f = true) (k : ∀ t i b o p, f t i b o = true -> G (.For t i b o p)) : G e :=
 eB h fun q h => Stmt.For.elim (motive_2 := fun e => ∀ q : e.ctorIdx = 9, (Stmt.For.elim (motive_2 := fun _ => Bool) e q fun t i b o _ => f t i b o) = true -> G e) e q (fun t i b o p _ h => k t i b o p h) q h
noncomputable def aDu (e : Stmt) (f : Option Expr -> Bool) : Bool := if h : e.ctorIdx = 3 then Stmt.Return.elim e h fun v _ => f v else false
@[elab_as_elim] theorem aJc {G : Stmt -> Prop} {e : Stmt} {f} (h : aDu e f = true) (k : ∀ v p, f v = true -> G (.Return v p)) : G e :=
 eB h fun q h => Stmt.Return.elim (motive_2 := fun e => ∀ q : e.ctorIdx = 3, (Stmt.Return.elim (motive_2 := fun _ => Bool) e q fun v _ => f v) = true -> G e) e q (fun v p _ h => k v p h) q h
noncomputable def aDt (e : Stmt) (f : Option Expr -> Option Expr -> Bool) : Bool := if h : e.ctorIdx = 16 then Stmt.Raise.elim e h fun x c _ => f x c else false
@[elab_as_elim] theorem aJb {G : Stmt -> Prop} {e : Stmt} {f} (h : aDt e f = true) (k : ∀ x c p, f x c = true -> G (.Raise x c p)) : G e :=
 eB h fun q h => Stmt.Raise.elim (motive_2 := fun e => ∀ q : e.ctorIdx = 16, (Stmt.Raise.elim (motive_2 := fun _ => Bool) e q fun x c _ => f x c) = true -> G e) e q (fun x c p _ h => k x c p h) q h
noncomputable def iU (e : Expr) (f : Expr -> List Expr -> Pos -> Bool) : Bool := aDh e fun g a k p => k.isEmpty && f g a p
@[elab_as_elim] theorem gC {G : Expr -> Prop} {e : Expr} {f} (h : iU e f = true) (k : ∀ g a p, f g a p = true -> G (.Call g a [] p)) : G e :=
 aI7 h fun g a ks p h => nil_r (G := fun ks => G (.Call g a ks p)) (aA h).1 (k g a p (aA h).2)
noncomputable def lU (s : Stmt) (f : Expr -> Expr -> Bool) : Bool := aDe s fun ts v => on1 ts fun t => f t v
@[elab_as_elim] theorem mV {G : Stmt -> Prop} {e : Stmt} {f} (h : lU e f = true) (k : ∀ t v p, f t v = true -> G (.Assign [t] v p)) : G e :=
 aI5 h fun ts v p h => gB (G := fun ts => G (.Assign ts v p)) h fun t h => k t v p h
noncomputable def aDx (s : Stmt) (f : Expr -> List Stmt -> Bool) : Bool := aDy s fun c b o => o.isEmpty && f c b
@[elab_as_elim] theorem aJg {G : Stmt -> Prop} {e : Stmt} {f} (h : aDx e f = true) (k : ∀ c b p, f c b = true -> G (.While c b [] p)) : G e :=
 aJf h fun c b o p h => nil_r (G := fun o => G (.While c b o p)) (aA h).1 (k c b p (aA h).2)
noncomputable def aDl (s : Stmt) (f : Expr -> Expr -> List Stmt -> Bool) : Bool := aDm s fun t i b o => o.isEmpty && f t i b
@[elab_as_elim] theorem aI9 {G : Stmt -> Prop} {e : Stmt} {f} (h : aDl e f = true) (k : ∀ t i b p, f t i b = true -> G (.For t i b [] p)) : G e :=
 aI8 h fun t i b o p h => nil_r (G := fun o => G (.For t i b o p)) (aA h).1 (k t i b p (aA h).2)
noncomputable def lQ (x : Str) (e : Expr) : Bool := onN e (x == ·)
@[elab_as_elim] theorem oF {G : Expr -> Prop} {x : Str} {e : Expr} (h : lQ x e = true) (k : ∀ p, G (.Name x p)) : G e := fM h fun _ p h => dZ (G := fun y => G (.Name y p)) h (k p)
noncomputable def vZ (a v : Str) (s : Stmt) : Bool := lU s fun t e => mW t fun o y _ => lQ "self" o && (a == y && lQ v e)
@[elab_as_elim] theorem aAT {G : Stmt -> Prop} {a v : Str} {s : Stmt} (h : vZ a v s = true) (k : ∀ p1 p2 p3 p4, G (.Assign [.Attribute (.Name "self" p1) a p2] (.Name v p3) p4)) : G s :=
 mV h fun t e p4 h => mX (G := fun t => G (.Assign [t] e p4)) h fun o y p2 h => oF (G := fun o => G (.Assign [.Attribute o y p2] e p4)) (aA h).1 fun p1 =>
  dZ (G := fun y => G (.Assign [.Attribute (.Name "self" p1) y p2] e p4)) (aA (aA h).2).1 (oF (G := fun e => G (.Assign [.Attribute (.Name "self" p1) a p2] e p4)) (aA (aA h).2).2 fun p3 => k p1 p2 p3 p4)
noncomputable def aAy (e : aK) (f : PyData -> Bool) : Bool := if h : e.ctorIdx = 1 then aK.lit.elim e h f else false
@[elab_as_elim] theorem aDs {G : aK -> Prop} {e : aK} {f} (h : aAy e f = true) (k : ∀ d, f d = true -> G (.lit d)) : G e :=
 eB h fun q h => aK.lit.elim (motive_1 := fun e => ∀ q : e.ctorIdx = 1, (aK.lit.elim (motive_1 := fun _ => Bool) e q f) = true -> G e) e q (fun d _ h => k d h) q h
noncomputable def aBc (es : List Expr) (xs : List aK) : Bool := fL es fun a r => on1 r fun b => fL xs fun x y => on1 y fun y => onC a (fun c => aAy x (lG c)) && onC b (fun c => aAy y (lG c))
theorem aLU {P : Prop} {es : List Expr} {xs : List aK} (h : aBc es xs = true)
  (z : ∀ c1 k1 p1 c2 k2 p2 d1 d2, es = [.Constant c1 k1 p1, .Constant c2 k2 p2] -> xs = [.lit d1, .lit d2] -> lG c1 d1 = true -> lG c2 d2 = true -> P) : P :=
 (gF (G := fun l => l = es -> P) h fun a r h q1 => (gB (G := fun l => a :: l = es -> P) h fun b h q1 => (gF (G := fun l => l = xs -> P) h fun x y h q2 => (gB (G := fun l => x :: l = xs -> P) h fun y h q2 =>
  (kO (G := fun a => [a, b] = es -> P) (aA h).1 fun c1 k1 p1 h1 q1 => (kO (G := fun b => [.Constant c1 k1 p1, b] = es -> P) (aA h).2 fun c2 k2 p2 h2 q1 => (aDs (G := fun x => [x, y] = xs -> P) h1 fun d1 h1 q2 => (aDs (G := fun y => [.lit d1, y] = xs -> P) h2 fun d2 h2 q2 => z _ _ _ _ _ _ _ _ q1.symm q2.symm h1 h2) q2) q2) q1) q1) q2) rfl) q1) rfl
noncomputable def tZ (k : Bool) (o : BoolOp) : Bool := o == (bif k then .And else .Or)
mutual
noncomputable def aR : Nat -> Scope -> Expr -> aK -> Bool
 | 0, _, _, _ => false
 | n + 1, sc, e, m => match m with
  | .stuck => true
  | .lit x => onC e (lG · x) || onU e fun o a => .USub == o && cM (asI x) fun i => onC a fun c => Const.int (-i) == c
  | .var i => onN e fun x => bP[i]? == some x && cP sc x
  | .fnv f => onN e fun x => jO[f]? == some x && dK sc x
  | .bin op a b => aAr e fun l o r => pB op == o && (aR n sc l a && aR n sc r b)
  | .cmp op a b => aDi e fun l os rs => on1 os fun o => on1 rs fun r => yK op == o && (!jQ r && (aR n sc l a && aR n sc r b))
  | .boolop k es => aDg e fun o vs => tZ k o && (cT n sc vs es && !vs.isEmpty)
  | .not a => onU e fun o x => .Not == o && aR n sc x a
  | .ite c a b => aDn e fun t x y => aR n sc t c && (aR n sc x a && aR n sc y b)
  | .idx a i => sV e fun v s => !pP s && (aR n sc v a && aR n sc s i)
  | .slice a lo hi => sV e fun v s => aDv s fun l u t => t.isNone && (aR n sc v a && (hY n sc l lo && hY n sc u hi))
  | .attr a x => mW e fun v y _ => x == y && onN v fun _ => aR n sc v a
  | .tup es => qE e fun xs => cT n sc xs es && decide (xs.length <= 1000)
  | .list _ es => aDr e fun xs => cT n sc xs es && decide (xs.length <= 1000)
  | .dict _ ks es => aDj e fun kos vs => kos.length == vs.length && (ks.length == kos.length && (decide (kos.length <= 15) && (nQ kos ks && (decide ks.Nodup && cT n sc vs es))))
  | .comp _ elt x k it cond => aDp e fun el gs cs => on1 gs fun g => onN g.target fun y => bP[x]? == some y && (kF sc cs y && (k != .enum && (kE n sc k g.iter it && (aR n (inner sc cs) el elt && (hY n (inner sc cs) g.ifs.head? cond && (decide (g.ifs.length <= 1) && (!jQ g.iter && 0 == g.is_async)))))))
  | .call f es => iU e fun g args _ => onN g fun x => jO[f]? == some x && (dK sc x && cT n sc args es)
  | .callv a es => iU e fun g args _ => sV g fun _ _ => aR n sc g a && (cT n sc args es && !args.isEmpty)
  | .bi b es => iU e fun g args _ => onN g fun x => gO b == x && (dK sc x && (bif b == .vals then on1 args fun v => on1 es fun a => iU v fun f as p => as.isEmpty && mW f fun o nm ap => ("values" : Str) == nm && (aR n sc o a && ap.endLine == p.line)
   else cT n sc args es && !args.isEmpty))
  | .meth o m es => iU e fun g args p => mW g fun ox nm ap => vK m == nm && (aR n sc ox o && (cT n sc args es && (decide (args.length <= 5) && (ap.endLine == p.line && (!args.isEmpty && (m != .replace || aBc args es))))))
  | .newI es => iU e fun g args _ => onN g fun x => ("Tongue" : Str) == x && (dK sc x && (cT n sc args es && !args.isEmpty))
noncomputable def hY : Nat -> Scope -> Option Expr -> Option aK -> Bool
 | 0, _, _, _ => false
 | n + 1, sc, e, m => Option.casesOn m e.isNone fun m => cM e fun e => aR n sc e m
noncomputable def cT : Nat -> Scope -> List Expr -> List aK -> Bool
 | 0, _, _, _ => false
 | n + 1, sc, es, ms => List.casesOn ms es.isEmpty fun m ms => fL es fun e es => !mP e && (aR n sc e m && cT n sc es ms)
noncomputable def kE : Nat -> Scope -> IK -> Expr -> aK -> Bool
 | 0, _, _, _, _ => false
 | n + 1, sc, k, e, m => match k with
  | .seq => aR n sc e m
  | .range => iU e fun g args _ => onN g fun x => on1 args fun a => ("range" : Str) == x && (dK sc x && (!mP a && aR n sc a m))
  | .enum => iU e fun g args _ => onN g fun x => on1 args fun a => ("enumerate" : Str) == x && (dK sc x && (!mP a && aR n sc a m))
noncomputable def nQ : List (Option Expr) -> List Str -> Bool
 | [], ks => ks.isEmpty
 | k :: r, ks => cM k fun e => fL ks fun x xs => onC e (Const.str x == ·) && nQ r xs
end
noncomputable def mG (sc : Scope) : List Expr -> List Nat -> Bool
 | [], is => is.isEmpty
 | t :: r, is => fL is fun i is => onN t (fun x => bP[i]? == some x && cP sc x) && mG sc r is
noncomputable def aBQ (sc : Scope) (t : Expr) (is : List Nat) : Bool := on1 is (fun i => onN t fun x => bP[i]? == some x && cP sc x) || qE t fun ts => mG sc ts is && (decide (2 <= is.length) && decide is.Nodup)
mutual
noncomputable def uA : Nat -> Scope -> Stmt -> bH -> Bool
 | 0, _, _, _ => false
 | n + 1, sc, st, m => match m with
  | .asg i e => lU st fun t v => onN t fun x => bP[i]? == some x && (cP sc x && aR n sc v e)
  | .asgT is e => lU st fun t v => qE t fun ts => mG sc ts is && (decide is.Nodup && (!jD v && (!zN v && aR n sc v e)))
  | .asgN is es => lU st fun t v => qE t fun ts => qE v fun vs => mG sc ts is && (decide is.Nodup && (cT n sc vs es && (ts.length == vs.length && (decide (vs.length <= 1000) && (vs.all (foldedForSure 8) || !vs.all (constantsAlone 8))))))
  | .setI o i e => lU st fun t v => sV t fun ox ix => !pP ix && (!jD v && (aR n sc v e && (aR n sc ox o && aR n sc ix i)))
  | .aug i op e => aDf st fun t o v => onN t fun x => bP[i]? == some x && (cP sc x && (Operator.Add == o && aR n sc v e))
  | .ex e => zM e || aAv st fun v => !jD v && aR n sc v e
  | .ite c t f => aDo st fun cx tx fx => aR n sc cx c && (dU n sc tx t && dU n sc fx f)
  | .wh c b => aDx st fun cx bx => aR n sc cx c && dU n sc bx b
  | .for_ is k e b => aDl st fun t ix bx => aBQ sc t is && (kE n sc k ix e && (dU n sc bx b && (!jQ ix && decide (is.length = bif k == .enum then 2 else 1))))
  | .ret e => aDu st fun v => cM v fun v => aR n sc v e
  | .raise w => aDt st fun x c => c.isNone && cM x fun y => iU y fun g args _ => onN g fun x => ("Misused" : Str) == x && (dK sc x && on1 args fun a => onC a (Const.str w == ·))
  | .tryE .. => false
noncomputable def dU : Nat -> Scope -> List Stmt -> List bH -> Bool
 | 0, _, _, _ => false
 | n + 1, sc, ss, ms => List.casesOn ms ss.isEmpty fun m ms => fL ss fun s ss => uA n sc s m && dU n sc ss ms
end
noncomputable def oN : Value -> Option Addr
 | .ref a => some a
 | _ => none
noncomputable def zJ : Value -> Option Int
 | .int i _ => some i
 | _ => none
noncomputable def aAl : Value -> Bool
 | .none => true
 | _ => false
noncomputable def uT (d : Data) : Option FuncData := match d with
 | .func fd => some fd
 | _ => none
noncomputable def aDZ (d : Data) : Option (Array Value) := match d with
 | .seq xs _ => some xs
 | _ => none
theorem sZ {v : Value} {a : Addr} (h : oN v = some a) : v = .ref a := by cases v <;> first | exact congrArg _ (Option.some.inj h) | exact nomatch h
theorem aHl {v : Value} {i : Int} (h : zJ v = some i) : ∃ t, v = .int i t := by cases v <;> first | exact ⟨_, congrArg (Value.int · _) (Option.some.inj h)⟩ | exact nomatch h
theorem aC5 {v : Value} (h : aAl v = true) : v = .none := by cases v <;> first | rfl | exact bK h
theorem uU {d : Data} {fd : FuncData} (h : uT d = some fd) : d = .func fd := by cases d <;> first | exact congrArg _ (Option.some.inj h) | exact nomatch h
theorem aK3 {d : Data} {xs : Array Value} (h : aDZ d = some xs) : ∃ n, d = .seq xs n := by cases d <;> first | exact ⟨_, congrArg (Data.seq · _) (Option.some.inj h)⟩ | exact nomatch h
noncomputable def zS : List Value -> List PyData -> Bool
 | [], ds => ds.isEmpty
 | v :: vs, ds => fL ds fun d ds => cM (zJ v) (fun i => asI d == some i) && zS vs ds
noncomputable def aB2 (K : Frag) (v : Value) (ds : List PyData) : Bool := List.casesOn ds (aAl v) fun _ _ => cM (oN v) fun T => cM (K.lookup T) fun o => cM (aDZ o.data) fun items => zS items.toList ds
noncomputable def pL (K : Frag) (a : Addr) (r : aW) : Bool := cM (K.lookup a) fun o => cM (uT o.data) fun fd => onB fd.body fun body =>
 dU 60 fd.scope body r.body && (fd.globals == mainGlobals && (fd.closure.isEmpty && (fd.builtins == builtinsNs && (codeIn K fd.code fd.qualname && (fd.scope.kind == .function && (!fd.scope.isCoroutine && (!fd.scope.isGenerator &&
  (fd.params.posonlyargs.isEmpty && (fd.params.vararg.isNone && (fd.params.kwonlyargs.isEmpty && (fd.params.kwarg.isNone && ((r.params.all fun i => (bP[i]?).isSome) && ((r.params.filterMap (bP[·]?)) == fd.params.args.map (·.arg) &&
  (decide r.params.Nodup && ((fd.params.args.all fun p => cP fd.scope p.arg) && (aB2 K fd.defaults r.dflt && decide ((cellsFrom 0 fd.scope.names []).map (·.1)).Nodup))))))))))))))))
noncomputable def iN (K : Frag) (x : Str) : Option Addr := (nsIn K mainGlobals x).bind fun v => v.bind oN
noncomputable def yY (K : Frag) : List Str -> List aW -> Bool
 | [], rs => rs.isEmpty
 | x :: xs, rs => fL rs fun r rs => cM (iN K x) (fun a => pL K a r) && yY K xs rs
noncomputable def aFj (K : Frag) : Bool := [Bi.len, .str, .int, .max, .sum, .tuple, .repr, .vals].all fun b => nsIn K mainGlobals (gO b) == some none && bootBuiltins (gO b) == some (nL b)
noncomputable def aAI (K : Frag) : Bool := yY K jO FTl && (aFj K && (nsIn K mainGlobals ("range" : Str) == some none && nsIn K mainGlobals ("enumerate" : Str) == some none))
end PQ
namespace PQ
structure SP where
 prog : Program
 w : World
 K : Frag
 p : Program
 loose : List Str
 mg : Str -> Option Value
 mb : Str -> Option Value
noncomputable def IsL (h : Heap) (a : Addr) (vs : Array Value) : Prop := ∃ o, h.get? a = some o /\ o.cls = .type "list" /\ o.dict = none /\ ∃ n, o.data = .seq vs n
theorem IsL.isList {h : Heap} {a : Addr} {vs : Array Value} : IsL h a vs -> h.IsList a vs := fun x => x.elim fun o y => ⟨o, y.1, y.2.1, y.2.2.2⟩
theorem aHw {h : Heap} {a : Addr} {vs : Array Value} : h.PlainList a vs -> IsL h a vs := fun x => x.elim fun n e => ⟨_, e, rfl, rfl, n, rfl⟩
section
variable {α β γ : Type} {P : Prop} {z : β}
theorem aL {o : Option α} {f : α -> Option β} (e : o.bind f = some z) (k : ∀ a, o = some a -> f a = some z -> P) : P := by
 cases o with
 | none => cases e
 | some a => exact k a rfl e
@[elab_as_elim] theorem vJ {G : β -> Prop} {o : Option α} {f : α -> β} (e : o.map f = some z) (k : ∀ a, o = some a -> G (f a)) : G z := by
 cases o with
 | none => cases e
 | some a => exact Option.some.inj e ▸ k a rfl
theorem dR {a b : Option β} (e : a.or b = some z) (l : a = some z -> P) (r : b = some z -> P) : P := by
 cases a with
 | none => exact r e
 | some a => exact l e
theorem bO {p : Prop} [Decidable p] {o : Option β} (e : aU p o = some z) (k : p -> o = some z -> P) : P := by
 unfold aU at e
 split at e
 ·exact k ‹_› e
 ·cases e
@[elab_as_elim] theorem jI {G : β -> Prop} {a : β} (e : some a = some z) (k : G a) : G z := Option.some.inj e ▸ k
@[elab_as_elim] theorem zA {G : List α -> Prop} {l : List α} {a : α} (e : hd1 l = some a) (k : G [a]) : G l := by
 cases l with
 | nil => cases e
 | cons b r => cases r with
  | nil => exact jI (G := fun b => G [b] -> G _) e id k |> fun h => h
  | cons => cases e
@[elab_as_elim] theorem aCs {G : List α -> Prop} {l : List α} {p : α × α} (e : hd2 l = some p) (k : G [p.1, p.2]) : G l := by
 cases l with
 | nil => cases e
 | cons b r =>
  refine aL (f := fun c => some (b, c)) (o := hd1 r) (by rw [<- e]; exact Option.map_eq_bind.symm) fun c h e => zA (G := fun r => G (b :: r)) h ?_
  have e := Option.some.inj e
  subst e
  exact k
end
noncomputable def aY {α β : Type} (R : α -> β -> Prop) : List α -> List β -> Prop
 | l, [] => List.casesOn l True fun _ _ => False
 | l, b :: m => List.casesOn l False fun a l => R a b /\ aY R l m
section
variable {α β : Type} {R R' : α -> β -> Prop}
theorem aY.ind {G : List α -> List β -> Prop} {m : List β} {l : List α} (h : aY R l m) (h0 : G [] []) (h1 : ∀ a b l m, R a b -> aY R l m -> G l m -> G (a :: l) (b :: m)) : G l m := by
 induction m generalizing l with
 | nil => cases l with
  | nil => exact h0
  | cons => exact h.elim
 | cons b m ih => cases l with
  | nil => exact h.elim
  | cons a l => exact h1 a b l m h.1 h.2 (ih h.2)
@[elab_as_elim] theorem aY.cons_r {G : List α -> Prop} {l : List α} {b : β} {m : List β} (h : aY R l (b :: m)) (k : ∀ a r, R a b -> aY R r m -> G (a :: r)) : G l := by
 cases l with
 | nil => exact h.elim
 | cons a l => exact k a l h.1 h.2
@[elab_as_elim] theorem aY.nil_r {G : List α -> Prop} {l : List α} (h : aY R l []) (k : G []) : G l := by
 cases l with
 | nil => exact k
 | cons a l => exact h.elim
theorem aY.imp (k : ∀ a b, R a b -> R' a b) {m : List β} {l : List α} (h : aY R l m) : aY R' l m := h.ind (G := aY R') trivial fun a b _ _ h _ q => ⟨k a b h, q⟩
theorem aY.length {m : List β} {l : List α} (h : aY R l m) : l.length = m.length := h.ind (G := fun l m => l.length = m.length) rfl fun _ _ _ _ _ _ q => congrArg (· + 1) q
theorem aY.append {m m' : List β} {l l' : List α} (h : aY R l m) (q : aY R l' m') : aY R (l ++ l') (m ++ m') := h.ind (G := fun l m => aY R (l ++ l') (m ++ m')) q fun _ _ _ _ h _ q => And.intro h q
theorem aY.at {m : List β} {l : List α} (h : aY R l m) : ∀ {i : Nat} {x : β}, m[i]? = some x -> ∃ a, l[i]? = some a /\ R a x :=
 h.ind (G := fun l m => ∀ {i : Nat} {x : β}, m[i]? = some x -> ∃ a, l[i]? = some a /\ R a x) (fun e => nomatch e) fun a b l m h _ q {i x} => Nat.casesOn i (fun e => ⟨a, rfl, Option.some.inj e ▸ h⟩) fun i e => q (i := i) e
theorem aY.drop {m : List β} {l : List α} (h : aY R l m) : ∀ i, aY R (l.drop i) (m.drop i) :=
 h.ind (G := fun l m => ∀ i, aY R (l.drop i) (m.drop i)) (fun i => by rw [List.drop_nil, List.drop_nil]; trivial) fun a b l m h r q i => Nat.casesOn i ⟨h, r⟩ fun i => q i
theorem aY.take {m : List β} {l : List α} (h : aY R l m) : ∀ i, aY R (l.take i) (m.take i) :=
 h.ind (G := fun l m => ∀ i, aY R (l.take i) (m.take i)) (fun i => by rw [List.take_nil, List.take_nil]; trivial) fun a b l m h r q i => Nat.casesOn i trivial fun i => ⟨h, q i⟩
theorem aY.set {m : List β} {l : List α} (h : aY R l m) {a : α} {b : β} (z : R a b) : ∀ i, aY R (l.set i a) (m.set i b) :=
 h.ind (G := fun l m => ∀ i, aY R (l.set i a) (m.set i b)) (fun i => trivial) fun a b l m h r q i => Nat.casesOn i ⟨z, r⟩ fun i => ⟨h, q i⟩
theorem aY.rep {m : List β} {l : List α} (h : aY R l m) : ∀ k, aY R (List.replicate k l).flatten (List.replicate k m).flatten := fun k => by
 induction k with
 | zero => trivial
 | succ k ih => rw [List.replicate_succ, List.replicate_succ, List.flatten_cons, List.flatten_cons]; exact h.append ih
end
section
variable (S : SP)
mutual
noncomputable def RD (g : Heap) : Value -> PyData -> Prop
 | v, .none => v = .none
 | v, .bool b => v = .bool b
 | v, .int i => ∃ t, v = .int i t
 | v, .str x => ∃ t, v = .str x t
 | v, .list xs => ∃ a vs, v = .ref a /\ IsL g a vs /\ aM g vs.toList xs
 | v, .tuple xs => ∃ a vs, v = .ref a /\ g.IsTuple a vs /\ aM g vs.toList xs
 | v, .dict kvs => ∃ a pvs, v = .ref a /\ g.DictOf (PySem.strKind S.prog S.w) a pvs /\ (a == sysModules) = false /\ dJ g pvs kvs
noncomputable def aM (g : Heap) : List Value -> List PyData -> Prop
 | l, [] => List.casesOn l True fun _ _ => False
 | l, d :: ds => List.casesOn l False fun v vs => RD g v d /\ aM g vs ds
noncomputable def dJ (g : Heap) : List (Str × Value) -> List (PyData × PyData) -> Prop
 | l, [] => List.casesOn l True fun _ _ => False
 | l, (k, d) :: ds => List.casesOn l False fun p vs => (k = .str p.1 /\ RD g p.2 d) /\ dJ g vs ds
end
variable {S}
theorem lN {h h' : Heap} {a : Addr} {vs : Array Value} (x : h.IsTuple a vs) (k : h.StaysIn h') : h'.IsTuple a vs := x.elim fun o y => ⟨o, k a o y.1, y.2⟩
theorem rZ {h h' : Heap} {a : Addr} {vs : Array Value} (x : h.IsList a vs) (k : h.StaysIn h') : h'.IsList a vs := x.elim fun o y => ⟨o, k a o y.1, y.2⟩
theorem uY {h h' : Heap} {a : Addr} {vs : Array Value} (x : IsL h a vs) (k : h.StaysIn h') : IsL h' a vs := x.elim fun o y => ⟨o, k a o y.1, y.2⟩
theorem nS {h h' : Heap} {a : Addr} {pvs : List (Str × Value)} (x : h.DictOf (PySem.strKind S.prog S.w) a pvs) (k : h.StaysIn h') : h'.DictOf (PySem.strKind S.prog S.w) a pvs :=
 x.elim fun o x => x.elim fun es x => x.elim fun ep y => ⟨o, es, ep, k a o y.1, y.2⟩
section
variable {g : Heap} {G : Value -> Prop} {pv : Value} {d : PyData}
theorem RD.none : RD S g .none .none := rfl
theorem RD.bool (b) : RD S g (.bool b) (.bool b) := rfl
theorem RD.int (i t) : RD S g (.int i t) (.int i) := ⟨t, rfl⟩
theorem RD.str (x t) : RD S g (.str x t) (.str x) := ⟨t, rfl⟩
theorem RD.list {a vs xs} (h : IsL g a vs) (r : aM S g vs.toList xs) : RD S g (.ref a) (.list xs) := ⟨a, vs, rfl, h, r⟩
theorem RD.tuple {a vs xs} (h : g.IsTuple a vs) (r : aM S g vs.toList xs) : RD S g (.ref a) (.tuple xs) := ⟨a, vs, rfl, h, r⟩
theorem RD.dict {a pvs kvs} (h : g.DictOf (PySem.strKind S.prog S.w) a pvs) (q : (a == sysModules) = false) (r : dJ S g pvs kvs) : RD S g (.ref a) (.dict kvs) := ⟨a, pvs, rfl, h, q, r⟩
theorem dL {α : Type} {P : Prop} {a : α} (e : none = some a) : P := nomatch e
theorem aEU {i} (e : asB d = some i) : d = .bool i := by cases d <;> first | exact dL e | exact congrArg _ (Option.some.inj e)
theorem qX {i} (e : asI d = some i) : d = .int i := by cases d <;> first | exact dL e | exact congrArg _ (Option.some.inj e)
theorem xL {i} (e : dH d = some i) : d = .str i := by cases d <;> first | exact dL e | exact congrArg _ (Option.some.inj e)
theorem xI {i} (e : asL d = some i) : d = .list i := by cases d <;> first | exact dL e | exact congrArg _ (Option.some.inj e)
theorem xM {i} (e : asT d = some i) : d = .tuple i := by cases d <;> first | exact dL e | exact congrArg _ (Option.some.inj e)
theorem xK {i} (e : asM d = some i) : d = .dict i := by cases d <;> first | exact dL e | exact congrArg _ (Option.some.inj e)
@[elab_as_elim] theorem xG {b} (r : RD S g pv d) (e : asB d = some b) (k : G (.bool b)) : G pv := (show pv = .bool b from (aEU e ▸ r : RD S g pv (.bool b))) ▸ k
@[elab_as_elim] theorem jL {i} (r : RD S g pv d) (e : asI d = some i) (k : ∀ t, G (.int i t)) : G pv := (qX e ▸ r : RD S g pv (.int i)).elim fun t q => q ▸ k t
@[elab_as_elim] theorem kC {x} (r : RD S g pv d) (e : dH d = some x) (k : ∀ t, G (.str x t)) : G pv := (xL e ▸ r : RD S g pv (.str x)).elim fun t q => q ▸ k t
@[elab_as_elim] theorem xN {xs} (r : RD S g pv d) (e : asT d = some xs) (k : ∀ a vs, g.IsTuple a vs -> aM S g vs.toList xs -> G (.ref a)) : G pv :=
 (xM e ▸ r : RD S g pv (.tuple xs)).elim fun a r => r.elim fun vs q => q.1 ▸ k a vs q.2.1 q.2.2
@[elab_as_elim] theorem oX {xs} (r : RD S g pv d) (e : asL d = some xs) (k : ∀ a vs, IsL g a vs -> aM S g vs.toList xs -> G (.ref a)) : G pv :=
 (xI e ▸ r : RD S g pv (.list xs)).elim fun a r => r.elim fun vs q => q.1 ▸ k a vs q.2.1 q.2.2
@[elab_as_elim] theorem tT {kvs} (r : RD S g pv d) (e : asM d = some kvs) (k : ∀ a pvs, g.DictOf (PySem.strKind S.prog S.w) a pvs -> (a == sysModules) = false -> dJ S g pvs kvs -> G (.ref a)) : G pv :=
 (xK e ▸ r : RD S g pv (.dict kvs)).elim fun a r => r.elim fun vs q => q.1 ▸ k a vs q.2.1 q.2.2.1 q.2.2.2
theorem qZ {v : aB} (e : cS v = some d) : v = .d d := by cases v <;> first | exact dL e | exact congrArg _ (Option.some.inj e)
theorem qY {v : aB} {l} (e : kA v = some l) : v = .loc l := by cases v <;> first | exact dL e | exact congrArg _ (Option.some.inj e)
theorem aEV {v : aB} {l} (e : asF v = some l) : v = .fn l := by cases v <;> first | exact dL e | exact congrArg _ (Option.some.inj e)
theorem sM {σ : aG} {l : Nat} {xs} (e : fZ σ l = some xs) : σ[l]? = some (.lst xs) := aL e fun o h e => by
 cases o with
 | lst ys => rw [h]; exact congrArg _ (congrArg _ (Option.some.inj e))
 | dct => cases e
theorem pE {σ : aG} {l : Nat} {xs} (e : hZ σ l = some xs) : σ[l]? = some (.dct xs) := aL e fun o h e => by
 cases o with
 | dct ys => rw [h]; exact congrArg _ (congrArg _ (Option.some.inj e))
 | lst => cases e
end
theorem aM.nil {g : Heap} : aM S g [] [] := trivial
theorem aM.cons {g : Heap} {v d vs ds} (h : RD S g v d) (r : aM S g vs ds) : aM S g (v :: vs) (d :: ds) := ⟨h, r⟩
theorem fG {g : Heap} : ∀ {ds : List PyData} {vs : List Value}, aM S g vs ds ↔ aY (RD S g) vs ds := by
 intro ds
 induction ds with
 | nil => intro vs; cases vs <;> exact Iff.rfl
 | cons d ds ih => intro vs; cases vs with
  | nil => exact Iff.rfl
  | cons v vs => exact and_congr_right fun _ => ih
noncomputable def RK (S : SP) (g : Heap) (p : Str × Value) (q : PyData × PyData) : Prop := q.1 = .str p.1 /\ RD S g p.2 q.2
theorem oU {g : Heap} : ∀ {ds : List (PyData × PyData)} {vs : List (Str × Value)}, dJ S g vs ds ↔ aY (RK S g) vs ds := by
 intro ds
 induction ds with
 | nil => intro vs; cases vs <;> exact Iff.rfl
 | cons d ds ih => intro vs; cases vs with
  | nil => exact Iff.rfl
  | cons v vs => exact and_congr_right fun _ => ih
theorem RD.mono {g g' : Heap} (k : g.StaysIn g') {v : Value} {d : PyData} (h : RD S g v d) : RD S g' v d :=
 PyData.rec (motive_1 := fun d => ∀ v, RD S g v d -> RD S g' v d) (motive_2 := fun d => ∀ v, aM S g v d -> aM S g' v d) (motive_3 := fun d => ∀ v, dJ S g v d -> dJ S g' v d) (motive_4 := fun p => ∀ v, RD S g v p.2 -> RD S g' v p.2)
  (fun _ h => h) (fun _ _ h => h) (fun _ _ h => h) (fun _ _ h => h)
  (fun _ ih _ h => h.elim fun a h => h.elim fun vs q => ⟨a, vs, q.1, uY q.2.1 k, ih _ q.2.2⟩)
  (fun _ ih _ h => h.elim fun a h => h.elim fun vs q => ⟨a, vs, q.1, lN q.2.1 k, ih _ q.2.2⟩)
  (fun _ ih _ h => h.elim fun a h => h.elim fun vs q => ⟨a, vs, q.1, nS q.2.1 k, q.2.2.1, ih _ q.2.2.2⟩)
  (fun _ h => h) (fun _ _ i1 i2 vs => List.casesOn vs (fun h => h) fun v vs h => ⟨i1 v h.1, i2 vs h.2⟩)
  (fun _ h => h) (fun _ _ i1 i2 vs => List.casesOn vs (fun h => h) fun v vs h => ⟨⟨h.1.1, i1 v.2 h.1.2⟩, i2 vs h.2⟩)
  (fun _ _ _ ih => ih) d v h
theorem aM.mono {g g' : Heap} (k : g.StaysIn g') {v : List Value} {d : List PyData} (h : aM S g v d) : aM S g' v d := fG.mpr ((fG.mp h).imp fun _ _ => RD.mono k)
theorem dJ.mono {g g' : Heap} (k : g.StaysIn g') {v : List (Str × Value)} {d : List (PyData × PyData)} (h : dJ S g v d) : dJ S g' v d := oU.mpr ((oU.mp h).imp fun _ _ q => ⟨q.1, RD.mono k q.2⟩)
theorem RD.reads {g : Heap} {v : Value} {d : PyData} (h : RD S g v d) (hc : d.canLay0 = true) : ∃ as, Reads g v d as :=
 PyData.rec (motive_1 := fun d => ∀ v, RD S g v d -> d.canLay0 = true -> ∃ as, Reads g v d as) (motive_2 := fun d => ∀ v, aM S g v d -> PyData.canLayAll0 d = true -> ∃ as, ReadsAll g v d as) (motive_3 := fun _ => True) (motive_4 := fun _ => True)
  (fun _ h _ => (show _ = _ from h) ▸ ⟨_, .none⟩) (fun b _ h _ => (show _ = _ from h) ▸ ⟨_, .bool b⟩) (fun i _ h _ => h.elim fun t q => q ▸ ⟨_, .int i t⟩) (fun x _ h _ => h.elim fun t q => q ▸ ⟨_, .str x t⟩)
  (fun _ ih _ h hc => h.elim fun a h => h.elim fun vs q => q.2.1.elim fun o z => z.2.2.2.elim fun n z4 => (ih _ q.2.2 hc).elim fun _ y => q.1 ▸ ⟨_, .list z.1 z.2.1 z4 y⟩)
  (fun _ ih _ h hc => h.elim fun a h => h.elim fun vs q => q.2.1.elim fun o z => z.2.2.elim fun n z4 => (ih _ q.2.2 hc).elim fun _ y => q.1 ▸ ⟨_, .tuple z.1 z.2.1 z4 y⟩)
  (fun _ _ _ _ hc => bK hc)
  (fun vs => List.casesOn vs (fun _ _ => ⟨_, .nil⟩) fun _ _ h => h.elim)
  (fun d ds i1 i2 vs => List.casesOn vs (fun h => h.elim) fun v vs h hc => (i1 v h.1 (aA (show (_ && _) = true from hc)).1).elim fun _ q => (i2 vs h.2 (aA (show (_ && _) = true from hc)).2).elim fun _ q' => ⟨_, .cons q q'⟩)
  trivial (fun _ _ _ _ => trivial) (fun _ _ _ _ => trivial) d v h hc
theorem aM.length {g : Heap} {v : List Value} {d : List PyData} (h : aM S g v d) : v.length = d.length := (fG.mp h).length
theorem aM.at {g : Heap} {v : List Value} {d : List PyData} (h : aM S g v d) {i : Nat} {x : PyData} (e : d[i]? = some x) : ∃ pv, v[i]? = some pv /\ RD S g pv x := (fG.mp h).at e
theorem aM.append {g : Heap} {v v' : List Value} {d d' : List PyData} (h : aM S g v d) (q : aM S g v' d') : aM S g (v ++ v') (d ++ d') := fG.mpr ((fG.mp h).append (fG.mp q))
theorem aM.drop {g : Heap} {v : List Value} {d : List PyData} (i : Nat) (h : aM S g v d) : aM S g (v.drop i) (d.drop i) := fG.mpr ((fG.mp h).drop i)
theorem aM.take {g : Heap} {v : List Value} {d : List PyData} (i : Nat) (h : aM S g v d) : aM S g (v.take i) (d.take i) := fG.mpr ((fG.mp h).take i)
theorem aM.set {g : Heap} {v : List Value} {d : List PyData} (i : Nat) {pv : Value} {x : PyData} (h : aM S g v d) (q : RD S g pv x) : aM S g (v.set i pv) (d.set i x) := fG.mpr ((fG.mp h).set q i)
theorem aM.rep {g : Heap} {v : List Value} {d : List PyData} (h : aM S g v d) (k : Nat) : aM S g (List.replicate k v).flatten (List.replicate k d).flatten := fG.mpr ((fG.mp h).rep k)
theorem dJ.keys {g : Heap} {v : List (Str × Value)} {d : List (PyData × PyData)} (h : dJ S g v d) : v.map (fun p => PyData.str p.1) = d.map (·.1) :=
 (oU.mp h).ind (G := fun v d => v.map (fun p => PyData.str p.1) = d.map (·.1)) rfl fun _ _ _ _ h _ q => by rw [List.map_cons, List.map_cons, q, h.1]
theorem dJ.length {g : Heap} {v : List (Str × Value)} {d : List (PyData × PyData)} (h : dJ S g v d) : v.length = d.length := (oU.mp h).length
variable (S)
noncomputable def fad (f : Nat) : Option Addr := (jO[f]?).bind (iN S.K)
noncomputable def aC0 : Option Addr := iN S.K "Misused"
inductive wS (g : Heap) (ρ : List Addr) (pv : Value) (l : Nat) : Prop
 | mk (a b o D : Addr) (m : Str -> Option Value) : iN S.K "Tongue" = some o -> ρ[l]? = some b -> pv = .ref a -> g.get? a = some (instObj o D) -> g.Ns D m -> m "types" = some (.ref b) -> wS g ρ pv l
inductive wQ (g : Heap) (pv : Value) (wy : Str) : Prop
 | mk (e : Addr) (oe : Obj) (C D : Addr) (m : Str -> Option Value) (t : Tok) : aC0 S = some C -> pv = .ref e -> g.get? e = some oe -> oe.cls = .ref C -> oe.dict = some D -> (∃ vs, oe.data = .fields vs) -> g.Ns D m -> m "why" = some (.str wy t) -> wQ g pv wy
noncomputable def VR (g : Heap) (ρ : List Addr) (pv : Value) (v : aB) : Prop := aB.casesOn v (RD S g pv) (fun l => ∃ a, ρ[l]? = some a /\ pv = .ref a) (fun f => ∃ a, fad S f = some a /\ pv = .ref a) (wS S g ρ pv) (wQ S g pv)
noncomputable def cR (g : Heap) (ρ : List Addr) : List Value -> List aB -> Prop := aY (VR S g ρ)
noncomputable def cQ (g : Heap) (ρ : List Addr) : List (Str × Value) -> List (Str × aB) -> Prop := aY fun p q => p.1 = q.1 /\ VR S g ρ p.2 q.2
noncomputable def StR (g h : Heap) (ρ : List Addr) (a : Addr) : bN -> Prop
 | .lst xs => ∃ vs, h.PlainList a vs /\ aM S g vs.toList xs
 | .dct kvs => ∃ pvs, h.DictOf (PySem.strKind S.prog S.w) a pvs /\ (a == sysModules) = false /\ cQ S g ρ pvs kvs
variable {S}
noncomputable def aQ (ρ ρ' : List Addr) : Prop := ∀ (l : Nat) (a : Addr), ρ[l]? = some a -> ρ'[l]? = some a
theorem aQ.refl (ρ : List Addr) : aQ ρ ρ := fun _ _ e => e
theorem aQ.trans {a b c : List Addr} (x : aQ a b) (y : aQ b c) : aQ a c := fun l v e => y l v (x l v e)
theorem aQ.app (ρ : List Addr) (a : Addr) : aQ ρ (ρ ++ [a]) := fun l v e => by
 have := (List.getElem?_eq_some_iff.mp e).1
 rw [List.getElem?_append_left this]; exact e
theorem aDa {h h' : Heap} {a : Addr} {m : Str -> Option Value} (k : h.StaysIn h') (x : h.Ns a m) : h'.Ns a m := x.keeps k
theorem VR.mono {g g' : Heap} {ρ ρ' : List Addr} (k : g.StaysIn g') (kr : aQ ρ ρ') {pv : Value} {v : aB} (h : VR S g ρ pv v) : VR S g' ρ' pv v := by
 cases v with
 | d x => exact RD.mono k h
 | loc l => exact h.elim fun a q => ⟨a, kr _ _ q.1, q.2⟩
 | fn f => exact h
 | inst l => cases h with | mk a b o D m h1 h2 h3 h4 h5 h6 => exact ⟨a, b, o, D, m, h1, kr _ _ h2, h3, k _ _ h4, aDa k h5, h6⟩
 | exc w => cases h with | mk e oe C D m t h0 h1 h2 h3 h4 hf h5 h6 => exact ⟨e, oe, C, D, m, t, h0, h1, k _ _ h2, h3, h4, hf, aDa k h5, h6⟩
section
variable {g g' : Heap} {ρ ρ' : List Addr} {pvs : List Value} {vs : List aB}
theorem cR.mono (k : g.StaysIn g') (kr : aQ ρ ρ') (h : cR S g ρ pvs vs) : cR S g' ρ' pvs vs := aY.imp (fun _ _ => VR.mono k kr) h
theorem cQ.mono {pvs : List (Str × Value)} {vs : List (Str × aB)} (k : g.StaysIn g') (kr : aQ ρ ρ') (h : cQ S g ρ pvs vs) : cQ S g' ρ' pvs vs := aY.imp (fun _ _ q => ⟨q.1, q.2.mono k kr⟩) h
theorem cR.length (h : cR S g ρ pvs vs) : pvs.length = vs.length := aY.length h
theorem cQ.length {pvs : List (Str × Value)} {vs : List (Str × aB)} (h : cQ S g ρ pvs vs) : pvs.length = vs.length := aY.length h
theorem cR.datas (h : cR S g ρ pvs vs) : ∀ {ds : List PyData}, lA vs = some ds -> aM S g pvs ds :=
 aY.ind (R := VR S g ρ) (G := fun pvs vs => ∀ {ds : List PyData}, lA vs = some ds -> aM S g pvs ds) h (fun e => jI (G := aM S g []) e trivial)
  (fun a b l m h _ q {ds} e => aL (f := fun x => (lA m).map (x :: ·)) e fun x e1 e => vJ (G := aM S g (a :: l)) e fun xs e2 => ⟨by rw [qZ e1] at h; exact h, q e2⟩)
theorem aM.vrs {ds : List PyData} (h : aM S g pvs ds) : cR S g ρ pvs (ds.map .d) :=
 (fG.mp h).ind (G := fun pvs ds => cR S g ρ pvs (ds.map .d)) trivial fun _ _ _ _ h _ q => ⟨h, q⟩
theorem aMz (x : Str) : valueAt ([] : List (Str × Value)) x = none := rfl
theorem aED (x k : Str) (v : Value) (r : List (Str × Value)) : valueAt ((k, v) :: r) x = if k = x then some v else valueAt r x := by
 unfold valueAt
 rw [List.find?_cons]
 by_cases h : k = x <;> simp [h]
theorem aH5 (x k : Str) (v : aB) (r : List (Str × aB)) : fD x ((k, v) :: r) = if k = x then some v else fD x r := rfl
theorem cQ.look (x : Str) {pvs : List (Str × Value)} {kvs : List (Str × aB)} (h : cQ S g ρ pvs kvs) :
  (∀ v, fD x kvs = some v -> ∃ pv, valueAt pvs x = some pv /\ VR S g ρ pv v) /\ (valueAt pvs x).isSome = (fD x kvs).isSome :=
 aY.ind (G := fun (pvs : List (Str × Value)) (kvs : List (Str × aB)) => (∀ v, fD x kvs = some v -> ∃ pv, valueAt pvs x = some pv /\ VR S g ρ pv v) /\ (valueAt pvs x).isSome = (fD x kvs).isSome) h ⟨fun _ e => (nomatch e), rfl⟩
  (fun p q l m h _ ih => by
   rw [show p = (p.1, p.2) from rfl, aED, show q = (q.1, q.2) from rfl, aH5, <- h.1]
   by_cases hk : p.1 = x
   ·rw [if_pos hk, if_pos hk]; exact ⟨fun v e => jI (G := fun v => ∃ pv, some p.2 = some pv /\ VR S g ρ pv v) e ⟨_, rfl, h.2⟩, rfl⟩
   ·rw [if_neg hk, if_neg hk]; exact ih)
theorem dJ.look (x : Str) {pvs : List (Str × Value)} {kvs : List (PyData × PyData)} (h : dJ S g pvs kvs) :
  (∀ v, fS x kvs = some v -> ∃ pv, valueAt pvs x = some pv /\ RD S g pv v) /\ (valueAt pvs x).isSome = (fS x kvs).isSome :=
 (oU.mp h).ind (G := fun (pvs : List (Str × Value)) (kvs : List (PyData × PyData)) => (∀ v, fS x kvs = some v -> ∃ pv, valueAt pvs x = some pv /\ RD S g pv v) /\ (valueAt pvs x).isSome = (fS x kvs).isSome) ⟨fun _ e => (nomatch e), rfl⟩
  (fun p q l m h _ ih => by
   have hq : fS x (q :: m) = if p.1 = x then some q.2 else fS x m := by
    show (dH q.1).bind _ = _
    rw [h.1]; rfl
   rw [show p = (p.1, p.2) from rfl, aED, hq]
   by_cases hk : p.1 = x
   ·rw [if_pos hk, if_pos hk]; exact ⟨fun v e => jI (G := fun v => ∃ pv, some p.2 = some pv /\ RD S g pv v) e ⟨_, rfl, h.2⟩, rfl⟩
   ·rw [if_neg hk, if_neg hk]; exact ih)
end
end
end PQ
namespace PQ
structure Cx where
 env : Env
 own : Bool
 hs : List Addr
 bg : Heap
 base : Heap
 fenv : Env
 outer : List Env
noncomputable def Cx.oc (c : Cx) : List Addr := if c.own then c.env.cells.map (·.2) else []
noncomputable def Cx.mut (c : Cx) (ρ : List Addr) : List Addr := ρ ++ c.env.locals :: c.oc
noncomputable def Cx.hid (c : Cx) (ρ : List Addr) : List Addr := c.mut ρ ++ c.hs
section
variable (S : SP)
structure Gd (g : Heap) : Prop where
 k : S.K.In g
 t : TopRead S.p S.loose S.mg S.mb g
noncomputable def jR (n : Nat) : aB -> Prop
 | .loc l => l < n
 | .d _ => True
 | .fn _ => True
 | _ => False
structure Frm (c : Cx) (g : Heap) : Prop where
 ek : c.env.scope.kind = .function
 eg : c.env.globals = mainGlobals
 eb : c.env.builtins = builtinsNs
 fk : c.fenv.scope.kind = .function
 ffr : c.fenv.frame = some c.fenv.locals
 fe : c.env.frame = some c.fenv.locals
 fown : c.own = true -> c.fenv = c.env
 fbg : c.own = false -> ∃ o, c.bg.get? c.fenv.locals = some o /\ ∀ vs, o.data ≠ .fields vs
 fh : c.base.get? c.fenv.locals = none
 bs : c.base.StaysIn g
 ff : c.bg.FunFrames c.base c.outer
structure aF (c : Cx) (g h : Heap) (mv : Str -> Option Value) (ρ : List Addr) (σ : aG) : Prop where
 stays : g.StaysIn h
 bgs : c.bg.StaysIn h
 gd : Gd S g
 fr : Frm c g
 ns : ∃ m, h.Ns c.env.locals m /\ ∀ x, c.env.kindOf x = some .local -> m x = mv x
 cl : c.own = true -> ∀ x, c.env.kindOf x = some .cell -> ∃ a, c.env.cells.lookup x = some a /\ h.IsCell a (mv x)
 cf : c.own = false -> ∀ x, c.env.kindOf x = some .cell -> ∃ a, c.env.cells.lookup x = some a /\ c.bg.IsCell a (mv x)
 hidn : ∀ a ∈ c.hid ρ, g.get? a = none
 live : ∀ a ∈ c.hid ρ, ∃ o, h.get? a = some o
 nd : (c.mut ρ).Nodup
 bgn : ∀ a ∈ c.mut ρ, c.bg.get? a = none
 len : ρ.length = σ.length
 st : ∀ (l : Nat) o a, σ[l]? = some o -> ρ[l]? = some a -> StR S g h ρ a o
 wf : ∀ (l : Nat) kvs, σ[l]? = some (.dct kvs) -> ∀ kv ∈ kvs, jR l kv.2
variable {S}
theorem Gd.mono {g g' : Heap} (k : g.StaysIn g') (G : Gd S g) : Gd S g' := ⟨fun a o e => k a o (G.k a o e), G.t.keeps k⟩
theorem Frm.mono {c : Cx} {g g' : Heap} (k : g.StaysIn g') (F : Frm c g) : Frm c g' := { F with bs := fun a o e => k a o (F.bs a o e) }
theorem gS {h h' : Heap} {a : Addr} {v : Option Value} (k : ∀ o, h.get? a = some o -> h'.get? a = some o) (x : h.IsCell a v) : h'.IsCell a v := let ⟨o, ho, r⟩ := x; ⟨o, k o ho, r⟩
theorem StR.keeps {g g' h h' : Heap} {ρ ρ' : List Addr} {a : Addr} (kg : g.StaysIn g') (kr : aQ ρ ρ') (k : ∀ o, h.get? a = some o -> h'.get? a = some o) {o : bN} (x : StR S g h ρ a o) : StR S g' h' ρ' a o := by
 cases o with
 | lst => exact x.elim fun vs y => y.1.elim fun n e => ⟨vs, ⟨n, k _ e⟩, aM.mono kg y.2⟩
 | dct => exact x.elim fun pvs y => y.1.elim fun o z => z.elim fun es z => z.elim fun ep z => ⟨pvs, ⟨o, es, ep, k _ z.1, z.2⟩, y.2.1, cQ.mono kg kr y.2.2⟩
theorem bQ {c : Cx} {ρ : List Addr} {a : Addr} : a ∈ c.mut ρ ↔ a ∈ ρ \/ a = c.env.locals \/ a ∈ c.oc := by
 unfold Cx.mut; simp
theorem bJ {c : Cx} {ρ : List Addr} {a : Addr} : a ∈ c.hid ρ ↔ a ∈ c.mut ρ \/ a ∈ c.hs := by
 unfold Cx.hid; simp
theorem eZ {c : Cx} {ρ : List Addr} {a : Addr} (h : a ∈ c.mut ρ) : a ∈ c.hid ρ := bJ.mpr (.inl h)
theorem oC {c : Cx} {ρ : List Addr} : c.env.locals ∈ c.mut ρ := bQ.mpr (.inr (.inl rfl))
theorem mR {ρ : List Addr} {l : Nat} {a : Addr} (e : ρ[l]? = some a) : a ∈ ρ := List.mem_of_getElem? e
section
variable {c : Cx} {g h h' : Heap} {mv : Str -> Option Value} {ρ : List Addr} {σ : aG}
theorem aF.at {l : Nat} {o : bN} (I : aF S c g h mv ρ σ) (e : σ[l]? = some o) : ∃ a, ρ[l]? = some a /\ StR S g h ρ a o := by
 have hl : l < ρ.length := by rw [I.len]; exact (List.getElem?_eq_some_iff.mp e).1
 exact ⟨ρ[l], List.getElem?_eq_getElem hl, I.st l o _ e (List.getElem?_eq_getElem hl)⟩
theorem aF.grow (I : aF S c g h mv ρ σ) (k : h.StaysIn h') :
  aF S c (hideAll h' (c.hid ρ)) h' mv ρ σ /\ g.StaysIn (hideAll h' (c.hid ρ)) := by
 have kg : g.StaysIn (hideAll h' (c.hid ρ)) := fun a o e => hideAll_get _ (k a o (I.stays a o e)) fun hm => by
  rw [I.hidn a hm] at e; cases e
 refine ⟨?_, kg⟩
 obtain ⟨m, hn, hm⟩ := I.ns
 exact {
  stays := fun a o e => of_hideAll _ e
  bgs := fun a o e => k a o (I.bgs a o e)
  gd := I.gd.mono kg
  fr := I.fr.mono kg
  ns := ⟨m, hn.keeps k, hm⟩
  cl := fun ho x hx => let ⟨a, h1, h2⟩ := I.cl ho x hx; ⟨a, h1, gS (fun o => k a o) h2⟩
  cf := I.cf
  hidn := fun a ha => hideAll_none _ ha
  live := fun a ha => let ⟨o, ho⟩ := I.live a ha; ⟨o, k a o ho⟩
  nd := I.nd
  bgn := I.bgn
  len := I.len
  st := fun l o a e e' => (I.st l o a e e').keeps kg (aQ.refl _) fun o => k a o
  wf := I.wf }
theorem aF.new (I : aF S c g h mv ρ σ) {a : Addr} {o : Obj} (e : h'.get? a = some o) (e0 : h.get? a = none) : (hideAll h' (c.hid ρ)).get? a = some o :=
 hideAll_get _ e fun hm => by obtain ⟨o', ho⟩ := I.live a hm; rw [e0] at ho; cases ho
theorem aF.later (I : aF S c g h mv ρ σ) (k : h.StaysIn h') : aF S c g h' mv ρ σ :=
 { (I.grow k).1 with stays := fun a o e => k a o (I.stays a o e), gd := I.gd, fr := I.fr, hidn := I.hidn, st := fun l o a e1 e2 => (I.st l o a e1 e2).keeps (fun _ _ e => e) (aQ.refl _) fun o => k a o }
theorem aF.adopt {a : Addr} {ob : Obj} {o : bN} (I : aF S c g h mv ρ σ) (ha : a ∉ c.hid ρ) (hg : g.get? a = none) (hbg : c.bg.get? a = none) (e : h.get? a = some ob)
  (ho : StR S g h (ρ ++ [a]) a o) (hw : ∀ kvs, o = .dct kvs -> ∀ kv ∈ kvs, jR σ.length kv.2) : aF S c g h mv (ρ ++ [a]) (σ ++ [o]) := by
 have hmem : ∀ b, b ∈ c.hid (ρ ++ [a]) -> b = a \/ b ∈ c.hid ρ := fun b hb => by
  rw [bJ, bQ] at hb; rw [bJ, bQ]
  simp only [List.mem_append, List.mem_singleton] at hb
  rcases hb with ((h | h) | h | h) | h
  ·exact .inr (.inl (.inl h))
  ·exact .inl h
  ·exact .inr (.inl (.inr (.inl h)))
  ·exact .inr (.inl (.inr (.inr h)))
  ·exact .inr (.inr h)
 obtain ⟨m, hn, hm⟩ := I.ns
 exact {
  stays := I.stays
  bgs := I.bgs
  gd := I.gd
  fr := I.fr
  ns := I.ns
  cl := I.cl
  cf := I.cf
  hidn := fun b hb => by
   rcases hmem b hb with q | q
   ·rw [q]; exact hg
   ·exact I.hidn b q
  live := fun b hb => by
   rcases hmem b hb with q | q
   ·exact ⟨ob, q ▸ e⟩
   ·exact I.live b q
  nd := by
   have hnd := I.nd
   have hna : ∀ b ∈ c.mut ρ, b ≠ a := fun b hb q => ha (q ▸ eZ hb)
   unfold Cx.mut at hnd hna ⊢
   rw [List.append_assoc, List.nodup_append] at *
   simp only [List.mem_append, List.singleton_append, List.nodup_cons, List.mem_cons] at *
   refine ⟨hnd.1, ⟨fun q => ?_, hnd.2.1⟩, fun x hx y hy => ?_⟩
   ·rcases q with q | q
    ·exact hna a (.inr (.inl q)) rfl
    ·exact hna a (.inr (.inr q)) rfl
   ·rcases hy with q | q
    ·rw [q]; exact hna x (.inl hx)
    ·exact hnd.2.2 x hx y q
  bgn := fun b hb => by
   rcases bQ.mp hb with q | q | q
   ·rcases List.mem_append.mp q with q | q
    ·exact I.bgn b (bQ.mpr (.inl q))
    ·obtain rfl : b = a := by simpa using q
     exact hbg
   ·exact I.bgn b (bQ.mpr (.inr (.inl q)))
   ·exact I.bgn b (bQ.mpr (.inr (.inr q)))
  len := by simp [I.len]
  st := fun l o' b e1 e2 => by
   by_cases hl : l < σ.length
   ·rw [List.getElem?_append_left hl] at e1
    rw [List.getElem?_append_left (by rw [I.len]; exact hl)] at e2
    exact (I.st l o' b e1 e2).keeps (fun _ _ e => e) (aQ.app _ _) fun o e => e
   ·have h1 := (List.getElem?_eq_some_iff.mp e1).1
    have : l = σ.length := by simp at h1; omega
    subst this
    rw [List.getElem?_append_right (Nat.le_refl _)] at e1
    rw [<- I.len, List.getElem?_append_right (Nat.le_refl _)] at e2
    simp at e1 e2
    subst e1; subst e2
    exact ho
  wf := fun l kvs e1 kv hkv => by
   by_cases hl : l < σ.length
   ·rw [List.getElem?_append_left hl] at e1; exact I.wf l kvs e1 kv hkv
   ·have h1 := (List.getElem?_eq_some_iff.mp e1).1
    have : l = σ.length := by simp at h1; omega
    subst this
    rw [List.getElem?_append_right (Nat.le_refl _)] at e1
    simp at e1
    exact hw kvs e1 kv hkv }
theorem aF.alloc (I : aF S c g h mv ρ σ) (k : h.StaysIn h') {a : Addr} {ob : Obj} {o : bN} (e0 : h.get? a = none) (e : h'.get? a = some ob)
  (ho : ∀ g', g.StaysIn g' -> StR S g' h' (ρ ++ [a]) a o) (hw : ∀ kvs, o = .dct kvs -> ∀ kv ∈ kvs, jR σ.length kv.2) :
  aF S c (hideAll h' (c.hid (ρ ++ [a]))) h' mv (ρ ++ [a]) (σ ++ [o]) /\ g.StaysIn (hideAll h' (c.hid (ρ ++ [a]))) :=
 have nn : ∀ {f : Heap}, (∀ o, f.get? a = some o -> h.get? a = some o) -> f.get? a = none := fun {f} k => by
  cases q : f.get? a with
  | none => rfl
  | some o => rw [k o q] at e0; cases e0
 ((I.later k).adopt (fun hm => by obtain ⟨o', ho'⟩ := I.live a hm; rw [e0] at ho'; cases ho') (nn fun o => I.stays a o) (nn fun o => I.bgs a o) e (ho g fun _ _ e => e) hw).grow fun _ _ e => e
theorem dN {a b : Addr} (hs : Heap.SameBut a h h') (hb : b ≠ a) (o : Obj) (e : h.get? b = some o) : h'.get? b = some o := (hs.2 b hb).trans e
theorem aF.put (I : aF S c g h mv ρ σ) {l : Nat} {a : Addr} {ob : Obj} {o : bN} (ha : ρ[l]? = some a) (hs : Heap.SameBut a h h') (e : h'.get? a = some ob)
  (ho : StR S g h' ρ a o) (hw : ∀ kvs, o = .dct kvs -> ∀ kv ∈ kvs, jR l kv.2) : aF S c g h' mv ρ (σ.set l o) := by
 have hmut : a ∈ c.mut ρ := bQ.mpr (.inl (mR ha))
 have ne : ∀ b, (b = c.env.locals \/ b ∈ c.oc) -> b ≠ a := fun b hb q => by
  have := I.nd
  unfold Cx.mut at this
  rw [List.nodup_append] at this
  exact this.2.2 a (mR ha) b (by simpa using hb) q.symm
 obtain ⟨m, hn, hm⟩ := I.ns
 exact {
  stays := fun b o' e' => dN hs (fun q => by rw [q, I.hidn a (eZ hmut)] at e'; cases e') o' (I.stays b o' e')
  bgs := fun b o' e' => dN hs (fun q => by rw [q, I.bgn a hmut] at e'; cases e') o' (I.bgs b o' e')
  gd := I.gd
  fr := I.fr
  ns := ⟨m, hn.sameBut hs (ne _ (.inl rfl)), hm⟩
  cl := fun hw x hx => by
   obtain ⟨b, h1, h2⟩ := I.cl hw x hx
   refine ⟨b, h1, gS (fun o => dN hs (ne b (.inr ?_)) o) h2⟩
   unfold Cx.oc
   rw [if_pos hw]
   exact List.mem_map.mpr ⟨(x, b), mem_of_lookup' h1, rfl⟩
  cf := I.cf
  hidn := I.hidn
  live := fun b hb => by
   by_cases q : b = a
   ·exact ⟨ob, q ▸ e⟩
   ·obtain ⟨o', ho'⟩ := I.live b hb; exact ⟨o', dN hs q o' ho'⟩
  nd := I.nd
  bgn := I.bgn
  len := by simp [I.len]
  st := fun j o' b e1 e2 => by
   by_cases hj : j = l
   ·subst hj
    rw [ha] at e2; cases e2
    have hl : j < σ.length := by
     have := (List.getElem?_eq_some_iff.mp e1).1; simpa using this
    rw [List.getElem?_set_self hl] at e1; cases e1
    exact ho
   ·rw [List.getElem?_set_ne (Ne.symm hj)] at e1
    have hba : b ≠ a := fun q => by
     subst q
     have hnd : ρ.Nodup := by
      have := I.nd
      unfold Cx.mut at this
      rw [List.nodup_append] at this
      exact this.1
     exact hj ((List.getElem?_inj (List.getElem?_eq_some_iff.mp e2).1 hnd).mp (e2.trans ha.symm))
    exact (I.st j o' b e1 e2).keeps (fun _ _ e => e) (aQ.refl _) fun o => dN hs hba o
  wf := fun j kvs e1 kv hkv => by
   by_cases hj : j = l
   ·subst hj
    have hl : j < σ.length := by
     have := (List.getElem?_eq_some_iff.mp e1).1; simpa using this
    rw [List.getElem?_set_self hl] at e1; cases e1
    exact hw kvs rfl kv hkv
   ·rw [List.getElem?_set_ne (Ne.symm hj)] at e1
    exact I.wf j kvs e1 kv hkv }
where
 mem_of_lookup' {x : Str} {b : Addr} : ∀ {l : List (Str × Addr)}, l.lookup x = some b -> (x, b) ∈ l
  | (y, d) :: r, e => by
   rw [List.lookup_cons] at e
   cases hb : x == y with
   | true => rw [hb] at e; cases e; rw [eq_of_beq hb]; exact .head _
   | false => rw [hb] at e; exact .tail _ (mem_of_lookup' e)
end
end
end PQ
namespace PQ
noncomputable def upd (mv : Str -> Option Value) (x : Str) (pv : Value) : Str -> Option Value := fun y => if y = x then some pv else mv y
theorem tG (mv : Str -> Option Value) (x : Str) (pv : Value) : upd mv x pv x = some pv := if_pos rfl
theorem oQ (mv : Str -> Option Value) {x y : Str} (pv : Value) (h : y ≠ x) : upd mv x pv y = mv y := if_neg h
theorem aL9 : bP.Nodup := by decide +kernel
theorem tH {i j : Nat} {x : Str} (hi : bP[i]? = some x) (hj : bP[j]? = some x) : i = j :=
 (List.getElem?_inj (List.getElem?_eq_some_iff.mp hi).1 aL9).mp (hi.trans hj.symm)
theorem jF {x : Str} {b : Addr} : ∀ {l : List (Str × Addr)}, l.lookup x = some b -> (x, b) ∈ l
 | (y, d) :: r, e => by
  rw [List.lookup_cons] at e
  cases hb : x == y with
  | true => rw [hb] at e; cases e; rw [eq_of_beq hb]; exact .head _
  | false => rw [hb] at e; exact .tail _ (jF e)
theorem aCV {x y : Str} {a b : Addr} (hxy : x ≠ y) : ∀ {l : List (Str × Addr)}, (l.map (·.2)).Nodup -> l.lookup x = some a -> l.lookup y = some b -> a ≠ b
 | (z, d) :: r, hn, hx, hy => by
  rw [List.map_cons, List.nodup_cons] at hn
  rw [List.lookup_cons] at hx hy
  cases h1 : x == z with
  | true =>
   cases h2 : y == z with
   | true => exact absurd ((eq_of_beq h1).trans (eq_of_beq h2).symm) hxy
   | false =>
    rw [h1] at hx; rw [h2] at hy; cases hx
    intro q; subst q
    exact hn.1 (List.mem_map.mpr ⟨_, jF hy, rfl⟩)
  | false =>
   cases h2 : y == z with
   | true =>
    rw [h1] at hx; rw [h2] at hy; cases hy
    intro q; subst q
    exact hn.1 (List.mem_map.mpr ⟨_, jF hx, rfl⟩)
   | false => rw [h1] at hx; rw [h2] at hy; exact aCV hxy hn.2 hx hy
section
variable {S : SP}
noncomputable def aV (S : SP) (g : Heap) (ρ : List Addr) (mv : Str -> Option Value) (ρv : aJ) : Prop :=
 ∀ (i : Nat) x v, bP[i]? = some x -> ρv i = some v -> ∃ pv, mv x = some pv /\ VR S g ρ pv v
theorem aV.mono {g g' : Heap} {ρ ρ' : List Addr} {mv : Str -> Option Value} {ρv : aJ} (k : g.StaysIn g') (kr : aQ ρ ρ') (R : aV S g ρ mv ρv) : aV S g' ρ' mv ρv :=
 fun i x v hi e => let ⟨pv, h1, h2⟩ := R i x v hi e; ⟨pv, h1, h2.mono k kr⟩
theorem aV.set {g : Heap} {ρ : List Addr} {mv : Str -> Option Value} {ρv : aJ} {i : Nat} {x : Str} {pv : Value} {v : aB} (R : aV S g ρ mv ρv) (hx : bP[i]? = some x) (h : VR S g ρ pv v) :
  aV S g ρ (upd mv x pv) (ρv.set i v) := fun j y u hj e => by
 rw [aJ.set_if] at e
 by_cases q : j = i
 ·subst q
  rw [if_pos rfl] at e; cases e
  obtain rfl : x = y := Option.some.inj (hx.symm.trans hj)
  exact ⟨pv, tG .., h⟩
 ·rw [if_neg q] at e
  have : y ≠ x := fun z => q (tH hj (z ▸ hx))
  obtain ⟨pv', h1, h2⟩ := R j y u hj e
  exact ⟨pv', (oQ mv pv this).trans h1, h2⟩
variable {c : Cx} {g : Heap} {mv : Str -> Option Value} {ρ : List Addr} {σ : aG} {A : Around} {E : Value -> Shared -> Prop} {s : Shared}
theorem aI1 {h : Heap} (I : aF S c g h mv ρ σ) (ho : c.own = true) : (c.env.cells.map (·.2)).Nodup := by
 have := I.nd
 unfold Cx.mut Cx.oc at this
 rw [if_pos ho, List.nodup_append] at this
 exact (List.nodup_cons.mp this.2.1).2
theorem aF.setL {h h' : Heap} {x : Str} {pv : Value} {m : Str -> Option Value} (I : aF S c g h mv ρ σ) (hx : c.env.kindOf x = some .local) (hm : h.Ns c.env.locals m)
  (hn : h'.Ns c.env.locals (fun y => if y = x then some pv else m y)) (hs : Heap.SameBut c.env.locals h h') : aF S c g h' (upd mv x pv) ρ σ := by
 have hmut : c.env.locals ∈ c.mut ρ := oC
 have ne : ∀ b, (b ∈ ρ \/ b ∈ c.oc) -> b ≠ c.env.locals := fun b hb q => by
  have := I.nd
  unfold Cx.mut at this
  rw [List.nodup_append, List.nodup_cons] at this
  rcases hb with hb | hb
  ·exact this.2.2 b hb c.env.locals (.head _) q
  ·exact this.2.1.1 (q ▸ hb)
 obtain ⟨m₀, hn₀, hm₀⟩ := I.ns
 have hmm : ∀ y, m y = m₀ y := fun y => Heap.Ns.agree hm hn₀ y
 exact {
  stays := fun b o' e' => dN hs (fun q => by rw [q, I.hidn _ (eZ hmut)] at e'; cases e') o' (I.stays b o' e')
  bgs := fun b o' e' => dN hs (fun q => by rw [q, I.bgn _ hmut] at e'; cases e') o' (I.bgs b o' e')
  gd := I.gd
  fr := I.fr
  ns := ⟨_, hn, fun y hy => by
   unfold upd
   by_cases q : y = x
   ·simp only [if_pos q]
   ·simp only [if_neg q]; exact (hmm y).trans (hm₀ y hy)⟩
  cl := fun ho y hy => by
   obtain ⟨b, h1, h2⟩ := I.cl ho y hy
   have : y ≠ x := fun q => by rw [q, hx] at hy; cases hy
   rw [oQ mv pv this]
   refine ⟨b, h1, gS (fun o => dN hs (ne b (.inr ?_)) o) h2⟩
   unfold Cx.oc
   rw [if_pos ho]
   exact List.mem_map.mpr ⟨(y, b), jF h1, rfl⟩
  cf := fun ho y hy => by
   have : y ≠ x := fun q => by rw [q, hx] at hy; cases hy
   rw [oQ mv pv this]; exact I.cf ho y hy
  hidn := I.hidn
  live := fun b hb => by
   by_cases q : b = c.env.locals
   ·obtain ⟨o, _, _, ho, _⟩ := hn; exact ⟨o, q ▸ ho⟩
   ·obtain ⟨o', ho'⟩ := I.live b hb; exact ⟨o', dN hs q o' ho'⟩
  nd := I.nd
  bgn := I.bgn
  len := I.len
  st := fun l o a e1 e2 => (I.st l o a e1 e2).keeps (fun _ _ e => e) (aQ.refl _) fun o => dN hs (ne a (.inl (mR e2))) o
  wf := I.wf }
theorem aF.setC {h h' : Heap} {x : Str} {pv : Value} {a : Addr} (I : aF S c g h mv ρ σ) (ho : c.own = true) (hx : c.env.kindOf x = some .cell) (ha : c.env.cells.lookup x = some a)
  (hc : h'.IsCell a (some pv)) (hs : Heap.SameBut a h h') : aF S c g h' (upd mv x pv) ρ σ := by
 have hoc : a ∈ c.oc := by
  unfold Cx.oc; rw [if_pos ho]; exact List.mem_map.mpr ⟨(x, a), jF ha, rfl⟩
 have hmut : a ∈ c.mut ρ := bQ.mpr (.inr (.inr hoc))
 have ne : ∀ b, (b ∈ ρ \/ b = c.env.locals) -> b ≠ a := fun b hb q => by
  have := I.nd
  unfold Cx.mut at this
  rw [List.nodup_append, List.nodup_cons] at this
  rcases hb with hb | hb
  ·exact this.2.2 b hb a (.tail _ hoc) q
  ·exact this.2.1.1 (hb ▸ q ▸ hoc)
 obtain ⟨m, hn, hm⟩ := I.ns
 exact {
  stays := fun b o' e' => dN hs (fun q => by rw [q, I.hidn _ (eZ hmut)] at e'; cases e') o' (I.stays b o' e')
  bgs := fun b o' e' => dN hs (fun q => by rw [q, I.bgn _ hmut] at e'; cases e') o' (I.bgs b o' e')
  gd := I.gd
  fr := I.fr
  ns := ⟨m, hn.sameBut hs (ne _ (.inr rfl)), fun y hy => by
   have : y ≠ x := fun q => by rw [q, hx] at hy; cases hy
   rw [oQ mv pv this]; exact hm y hy⟩
  cl := fun _ y hy => by
   by_cases q : y = x
   ·subst q; rw [tG]; exact ⟨a, ha, hc⟩
   ·rw [oQ mv pv q]
    obtain ⟨b, h1, h2⟩ := I.cl ho y hy
    exact ⟨b, h1, gS (fun o => dN hs (aCV q (aI1 I ho) h1 ha) o) h2⟩
  cf := fun ho' => by rw [ho] at ho'; cases ho'
  hidn := I.hidn
  live := fun b hb => by
   by_cases q : b = a
   ·obtain ⟨o, ho, _⟩ := hc; exact ⟨o, q ▸ ho⟩
   ·obtain ⟨o', ho'⟩ := I.live b hb; exact ⟨o', dN hs q o' ho'⟩
  nd := I.nd
  bgn := I.bgn
  len := I.len
  st := fun l o b e1 e2 => (I.st l o b e1 e2).keeps (fun _ _ e => e) (aQ.refl _) fun o => dN hs (ne b (.inl (mR e2))) o
  wf := I.wf }
theorem aBj {x : Str} (h : cP c.env.scope x = true) : (c.env.kindOf x = some .local \/ c.env.kindOf x = some .cell) /\ (x == ("__debug__" : Str)) = false := by
 unfold cP at h
 simp only [Bool.and_eq_true, Bool.or_eq_true, beq_iff_eq, bne_iff_ne] at h
 exact ⟨h.1, beq_eq_false_iff_ne.mpr h.2⟩
theorem aJW {x : Str} {pos : Pos} {pv : Value} {Q : Value -> Shared -> Prop} (I : aF S c g s.heap mv ρ σ) (hx : cP c.env.scope x = true) (hv : mv x = some pv) (h : Q pv s) :
  wpAny (model S.prog S.w) A (eval (.Name x pos) c.env) Q E s := by
 obtain ⟨hk, hd⟩ := aBj hx
 rcases hk with hk | hk
 ·obtain ⟨m, hn, hm⟩ := I.ns
  exact wpAny_Name (wpAny_loadName_local I.fr.ek hk hn ((hm x hk).trans hv) h) hd
 ·cases ho : c.own with
  | true =>
   obtain ⟨a, h1, h2⟩ := I.cl ho x hk
   rw [hv] at h2
   exact wpAny_Name (wpAny_loadName_cell I.fr.ek hk h1 h2 h) hd
  | false =>
   obtain ⟨a, h1, h2⟩ := I.cf ho x hk
   rw [hv] at h2
   exact wpAny_Name (wpAny_loadName_cell I.fr.ek hk h1 (gS (fun o => I.bgs a o) h2) h) hd
theorem kS {x : Str} {pv : Value} {Q : Unit -> Shared -> Prop} (I : aF S c g s.heap mv ρ σ) (hx : cP c.env.scope x = true) (ho : c.own = true \/ c.env.kindOf x = some .local)
  (h : ∀ h' tk, aF S c g h' (upd mv x pv) ρ σ -> Q () { s with heap := h', toks := tk }) : wpAny (model S.prog S.w) A (storeName c.env x pv) Q E s := by
 obtain ⟨hk, hd⟩ := aBj hx
 have loc : c.env.kindOf x = some .local -> wpAny (model S.prog S.w) A (storeName c.env x pv) Q E s := fun hk => by
  obtain ⟨m, hn, hm⟩ := I.ns
  exact wpAny_storeName_local hk hn (fun h' hn' hs' => h h' _ (I.setL hk hn hn' hs')) (by rw [I.fr.ek]; rfl)
 rcases hk with hk | hk
 ·exact loc hk
 ·rcases ho with ho | ho
  ·obtain ⟨a, h1, h2⟩ := I.cl ho x hk
   exact wpAny_storeName_cell I.fr.ek hk h1 h2 fun h' hc hs' => h h' s.toks (I.setC ho hk h1 hc hs')
  ·exact loc ho
end
end PQ
namespace PQ
section
variable (S : SP)
noncomputable def iY (B : Heap) (e : Addr) (wy : Str) (h : Heap) (vs : Array Value) : Prop := ∃ C oe D m t, aC0 S = some C /\ h.get? e = some oe /\ oe.cls = .ref C /\ oe.dict = some D /\ oe.data = .fields vs /\ (∃ a0, vs[0]? = some a0) /\ vs[2]? = some .none /\
 B.Ns D m /\ m "why" = some (.str wy t)
noncomputable def nJ (B : Heap) (e : Addr) (h : Heap) (T : Addr) (fl : Value) : Prop := B.get? T = none /\ T ≠ e /\ ∃ oT ts, h.get? T = some oT /\ oT.data = .fields ts /\ ts[3]? = some fl
structure qQ (B : Heap) (l : List Env) (e : Addr) (wy : Str) (h : Heap) : Prop where
 stays : B.StaysIn h
 new : B.get? e = none
 frames : h.FunFrames B l
 there : ∃ vs, iY S B e wy h vs /\ (vs[1]? = some .none \/ ∃ T fl, vs[1]? = some (.ref T) /\ nJ B e h T fl)
noncomputable def fA (c : Cx) (g : Heap) (mv : Str -> Option Value) (wy : Str) (e : Addr) (h' : Heap) : Prop :=
 (∃ m, h'.Ns c.env.locals m /\ ∀ x, c.env.kindOf x = some .local -> m x = mv x) /\
 (c.own = true -> ∀ x, c.env.kindOf x = some .cell -> ∃ a, c.env.cells.lookup x = some a /\ h'.IsCell a (mv x)) /\
 c.bg.UpToSlots h' /\ ∃ B, g.StaysIn B /\ c.base.StaysIn B /\ (∀ a ∈ c.hid [], B.get? a = none) /\ qQ S B (c.fenv :: c.outer) e wy h'
variable {S}
theorem fA.mono {c : Cx} {g g' : Heap} {mv : Str -> Option Value} {wy : Str} {e : Addr} {h' : Heap} (k : g.StaysIn g') (x : fA S c g' mv wy e h') : fA S c g mv wy e h' := by
 obtain ⟨x1, x0, x2, B, x3, x4⟩ := x
 exact ⟨x1, x0, x2, B, fun a o q => x3 a o (k a o q), x4⟩
variable (S)
noncomputable def aH {α β : Type} (R : Heap -> List Addr -> β -> α -> Prop) (c : Cx) (g : Heap) (mv : Str -> Option Value) (ρ : List Addr) (s : Shared) (Q : β -> Shared -> Prop) (E : Value -> Shared -> Prop) : aI α -> Prop
 | .stuck => False
 | .ok a σ => 0 < s.toks /\ ∀ g' ρ' b h' tk, s.toks <= tk -> g.StaysIn g' -> aQ ρ ρ' -> aF S c g' h' mv ρ' σ -> R g' ρ' b a -> Q b { s with heap := h', toks := tk }
 | .exc wy => 0 < s.toks /\ ∀ e h' tk, s.toks <= tk -> fA S c g mv wy e h' -> E (.ref e) { s with heap := h', toks := tk }
noncomputable def RB : Heap -> List Addr -> Bool -> Bool -> Prop := fun _ _ b a => b = a
variable {S}
section
variable {α β γ δ : Type} {R : Heap -> List Addr -> β -> α -> Prop} {R' : Heap -> List Addr -> δ -> γ -> Prop} {c : Cx} {g g' : Heap} {mv : Str -> Option Value} {ρ ρ' : List Addr} {s : Shared} {Q : β -> Shared -> Prop} {E : Value -> Shared -> Prop}
theorem aH.shift {o : aI α} {h' : Heap} {tk : Nat} (x : aH S R c g mv ρ s Q E o) (kt : s.toks <= tk) (kg : g.StaysIn g') (kr : aQ ρ ρ') : aH S R c g' mv ρ' { s with heap := h', toks := tk } Q E o := by
 cases o with
 | stuck => exact x
 | ok a σ => exact ⟨Nat.lt_of_lt_of_le x.1 kt, fun g₂ ρ₂ b h₂ tk₂ t k r I q => x.2 g₂ ρ₂ b h₂ tk₂ (Nat.le_trans kt t) (fun a o e => k a o (kg a o e)) (kr.trans r) I q⟩
 | exc wy => exact ⟨Nat.lt_of_lt_of_le x.1 kt, fun e h₂ tk₂ t f => x.2 e h₂ tk₂ (Nat.le_trans kt t) (f.mono kg)⟩
theorem aH.pos {o : aI α} (x : aH S R c g mv ρ s Q E o) : 0 < s.toks := by
 cases o with
 | stuck => exact x.elim
 | ok a σ => exact x.1
 | exc wy => exact x.1
theorem aH.bind {x : aI γ} {f : γ -> aG -> aI α} {Q' : δ -> Shared -> Prop} (h : aH S R c g mv ρ s Q E (x.bind f))
  (k : ∀ a σ₁ g₁ ρ₁ b h₁ tk, x = .ok a σ₁ -> s.toks <= tk -> g.StaysIn g₁ -> aQ ρ ρ₁ -> aF S c g₁ h₁ mv ρ₁ σ₁ -> R' g₁ ρ₁ b a ->
   aH S R c g₁ mv ρ₁ { s with heap := h₁, toks := tk } Q E (f a σ₁) -> Q' b { s with heap := h₁, toks := tk }) : aH S R' c g mv ρ s Q' E x := by
 cases x with
 | stuck => exact h
 | ok a σ₁ => exact ⟨aH.pos h, fun g₁ ρ₁ b h₁ tk t kg kr I q => k a σ₁ g₁ ρ₁ b h₁ tk rfl t kg kr I q (aH.shift h t kg kr)⟩
 | exc wy => exact h
theorem aH.ret {a : α} {σ : aG} {b : β} {h : Heap} {tk : Nat} {s₀ : Shared} (x : aH S R c g mv ρ { s₀ with heap := h, toks := tk } Q E (.ok a σ)) {h' : Heap} {tk' : Nat} (kt : tk <= tk') (kg : g.StaysIn g') (kr : aQ ρ ρ')
  (I : aF S c g' h' mv ρ' σ) (q : R g' ρ' b a) : Q b { s₀ with heap := h', toks := tk' } := x.2 g' ρ' b h' tk' kt kg kr I q
theorem aH.lift {o : Option α} {σ : aG} (x : aH S R c g mv ρ s Q E (PQ.lift o σ)) : ∃ a, o = some a /\ aH S R c g mv ρ s Q E (.ok a σ) := by
 cases o with
 | none => exact x.elim
 | some a => exact ⟨a, rfl, x⟩
end
theorem bU (g : Heap) : g.StaysIn g := fun _ _ e => e
theorem cH {a b c : Heap} (x : a.StaysIn b) (y : b.StaysIn c) : a.StaysIn c := fun p o e => y p o (x p o e)
theorem dO (h : Heap) (o : Obj) : h.StaysIn (h.push o) := fun a o' e => Heap.get?_push_of_some o e
noncomputable def FrL (c : Cx) : Prop := ∀ en ∈ c.fenv :: c.outer, ∀ L, en.frame = some L -> L = c.env.locals \/ L ∈ c.hs
theorem FrL.more {c : Cx} {l : List Addr} {b : Heap} (x : FrL c) : FrL { c with hs := l ++ c.hs, bg := b } := fun en he L hL => (x en he L hL).imp id fun z => List.mem_append_right _ z
structure aX (hb : Bool) (n : Nat) (A : Around) (c : Cx) (g : Heap) : Prop where
 depth : A.depth + n < recursionLimit
 units : A.units + 12 * n + 300 < cLine
 guards : A.guards = some []
 frames : A.frames = some (c.fenv :: c.outer)
 fl : FrL c
 hand : if hb then ∃ e oe vs, A.handled = some (.ref e) /\ g.get? e = some oe /\ oe.data = .fields vs /\ vs[2]? = some .none else A.handled = none
theorem aX.mono {hb : Bool} {n : Nat} {A : Around} {c : Cx} {g g' : Heap} (k : g.StaysIn g') (x : aX hb n A c g) : aX hb n A c g' := by
 refine ⟨x.depth, x.units, x.guards, x.frames, x.fl, ?_⟩
 have := x.hand
 cases hb
 ·exact this
 ·obtain ⟨e, oe, vs, h1, h2, h3, h4⟩ := this
  exact ⟨e, oe, vs, h1, k _ _ h2, h3, h4⟩
theorem aX.le {hb : Bool} {n m : Nat} {A : Around} {c : Cx} {g : Heap} (h : m <= n) (x : aX hb n A c g) : aX hb m A c g :=
 ⟨by have := x.depth; omega, by have := x.units; omega, x.guards, x.frames, x.fl, x.hand⟩
end
end PQ
namespace PQ
section
variable {S : SP} {c : Cx} {g : Heap} {mv : Str -> Option Value} {ρ : List Addr} {σ σ' : aG} {A : Around} {E : Value -> Shared -> Prop} {s : Shared} {Q : Value -> Shared -> Prop} {hb : Bool} {n : Nat}
theorem toks {α : Type} {M : Model} {t : Sem α} {Q : α -> Shared -> Prop} (h : wpAny M A t (fun a s' => s.toks <= s'.toks -> Q a s') (fun e s' => s.toks <= s'.toks -> E e s') s) : wpAny M A t Q E s :=
 wpAny_with_toks (Nat.le_refl _) h
theorem aH.same {v : aB} {pv : Value} {tk : Nat} (P : aH S (VR S) c g mv ρ s Q E (.ok v σ)) (I : aF S c g s.heap mv ρ σ) (r : VR S g ρ pv v) (kt : s.toks <= tk) : Q pv { s with toks := tk } :=
 P.2 g ρ pv s.heap tk kt (bU _) (aQ.refl _) I r
theorem aH.more {v : aB} {pv : Value} {tk : Nat} {h' : Heap} (P : aH S (VR S) c g mv ρ s Q E (.ok v σ)) (I : aF S c g s.heap mv ρ σ) (k : s.heap.StaysIn h')
  (r : ∀ g', g.StaysIn g' -> (∀ a o, h'.get? a = some o -> s.heap.get? a = none -> g'.get? a = some o) -> VR S g' ρ pv v) (kt : s.toks <= tk) : Q pv { s with heap := h', toks := tk } :=
 have q := I.grow k
 P.2 _ ρ pv h' tk kt q.2 (aQ.refl _) q.1 (r _ q.2 fun a o e e0 => I.new e e0)
theorem eR (h : Heap) : h.get? h.objs.size = none := by
 cases q : h.get? h.objs.size with
 | none => rfl
 | some o => exact absurd (Heap.lt_size q) (Nat.lt_irrefl _)
theorem aH.newList {vs : Array Value} {ds : List PyData} {tk : Nat} {h' : Heap} (P : aH S (VR S) c g mv ρ s Q E (.ok (.d (.list ds)) σ)) (I : aF S c g s.heap mv ρ σ)
  (k : s.heap.StaysIn h') {a : Addr} (e0 : s.heap.get? a = none) (hl : IsL h' a vs) (r : aM S g vs.toList ds) (kt : s.toks <= tk) : Q (.ref a) { s with heap := h', toks := tk } :=
 P.more I k (fun g' kg new => by
  obtain ⟨o, ho, hr⟩ := hl
  exact RD.list ⟨o, new _ _ ho e0, hr⟩ (aM.mono kg r)) kt
theorem aH.newTuple {vs : Array Value} {ds : List PyData} {tk : Nat} {h' : Heap} (P : aH S (VR S) c g mv ρ s Q E (.ok (.d (.tuple ds)) σ)) (I : aF S c g s.heap mv ρ σ)
  (k : s.heap.StaysIn h') {a : Addr} (e0 : s.heap.get? a = none) (hl : h'.IsTuple a vs) (r : aM S g vs.toList ds) (kt : s.toks <= tk) : Q (.ref a) { s with heap := h', toks := tk } :=
 P.more I k (fun g' kg new => by
  obtain ⟨o, ho, hc, m, hd⟩ := hl
  exact RD.tuple ⟨o, new _ _ ho e0, hc, m, hd⟩ (aM.mono kg r)) kt
theorem aH.pushList {vs : Array Value} {ds : List PyData} (P : aH S (VR S) c g mv ρ s Q E (.ok (.d (.list ds)) σ)) (I : aF S c g s.heap mv ρ σ) (r : aM S g vs.toList ds) :
  Q (.ref s.heap.objs.size) { s with heap := s.heap.push { cls := .type "list", data := .seq vs } } :=
 P.newList (tk := s.toks) I (dO _ _) (eR _) ⟨_, Heap.get?_push_size _ rfl, rfl, rfl, _, rfl⟩ r (Nat.le_refl _)
theorem aH.pushTuple {vs : Array Value} {ds : List PyData} (P : aH S (VR S) c g mv ρ s Q E (.ok (.d (.tuple ds)) σ)) (I : aF S c g s.heap mv ρ σ) (r : aM S g vs.toList ds) :
  Q (.ref s.heap.objs.size) { s with heap := s.heap.push { cls := .type "tuple", data := .seq vs } } :=
 P.newTuple (tk := s.toks) I (dO _ _) (eR _) ⟨_, Heap.get?_push_size _ rfl, rfl, _, rfl⟩ r (Nat.le_refl _)
theorem sz : (65536 : Nat) <= sizeLine := by decide
theorem rY (I : aF S c g s.heap mv ρ σ) {a : Addr} {vs : Array Value} (h : IsL g a vs) : s.heap.IsList a vs := (uY h I.stays).isList
theorem aHT {l b : Addr} {vs ws : Array Value} (hl : s.heap.IsList l vs) (hb : s.heap.IsList b ws)
  (h : Q (.ref s.heap.objs.size) { s with heap := s.heap.push { cls := .type "list", data := .seq (vs ++ ws) } })
  (hsz : vs.size + ws.size <= sizeLine) : wpAny (model S.prog S.w) A (binaryOp .Add (.ref l) (.ref b)) Q E s := by
 obtain ⟨⟨cls, dd, data, sl⟩, ho, hc, n, hd⟩ := id hl
 obtain ⟨⟨cls2, dd2, data2, sl2⟩, ho2, hc2, n2, hd2⟩ := id hb
 simp only at hc hd hc2 hd2
 subst hc hd hc2 hd2
 exact concat_meets ⟨_, ho, rfl⟩ ⟨_, ho2, rfl⟩ noFill_list_add seq_list_add PySem.F.slot_list_add PySem.F.entry_list_add (PySem.F.args_list_add_2 _ _) (list_addW l b vs ws n n2 dd dd2 sl sl2 hsz) ⟨ho, ho2, h⟩
theorem aHV {l : Addr} {vs : List Value} {x : Int} {u : Tok} (hl : s.heap.IsList l vs.toArray)
  (hlo : -(2 ^ 63 : Int) <= x) (hhi : x < 2 ^ 63) (hsz : vs.length * x.toNat <= 2 ^ 24)
  (h : Q (.ref s.heap.objs.size) { s with heap := s.heap.push { cls := .type "list", data := .seq (List.replicate x.toNat vs).flatten.toArray } }) :
  wpAny (model S.prog S.w) A (binaryOp .Mult (.ref l) (.int x u)) Q E s := by
 obtain ⟨⟨cls, d, data, sl⟩, ho, hcl, k, hd⟩ := id hl
 simp only at hcl hd
 subst hcl hd
 have hsz' : vs.toArray.size * x.toNat <= 2 ^ 24 := by simpa using hsz
 refine wpAny_binaryOp_repeat_ref (T := "list") (U := "int") (by decide) ⟨_, ho, rfl⟩ (fun s' => typeIs_int s' x u) noFill_list_mul PySem.F.fills_int_mul PySem.F.slot_int_rmul repeat_list PySem.F.slot_int_index.lookup
  (call_meets PySem.F.slot_int_rmul (typeIs_int s x u) PySem.F.entry_int_rmul (PySem.F.args_int_rmul_2 _ _) (lm_int_rmul_list_any x u l vs.toArray k d sl)
   ⟨ho, rfl, ⟨_, ho, rfl⟩, call_meets PySem.F.slot_list_mul ⟨_, ho, rfl⟩ PySem.F.entry_list_mul (PySem.F.args_list_mul_2 _ _)
    (lm_list_mul_any l vs.toArray k d sl x u (by simp [Builtin.List.listFitsIndex]; omega) (by omega) (by simp [Builtin.List.listTooLong, sizeLine]; omega))
    ⟨ho, ?_⟩⟩)
 rw [listMul_foldl_if]
 exact h
theorem aBL {k : Int} (h : k.natAbs < 2 ^ 256) : Builtin.Int.intBits k <= 2 ^ 20 := by
 unfold Builtin.Int.intBits
 split
 ·exact Nat.zero_le _
 ·have : k.natAbs.log2 < 256 := by
   rcases Nat.eq_zero_or_pos k.natAbs with h0 | hp
   ·rw [h0]; decide
   ·exact (Nat.log2_lt (by omega)).mpr h
  omega
theorem aH1 {k : Int} (h : k.natAbs < 2 ^ 256) : k.natAbs.log2 < 9000 := by
 rcases Nat.eq_zero_or_pos k.natAbs with h0 | hp
 ·rw [h0]; decide
 ·have : k.natAbs.log2 < 256 := (Nat.log2_lt (by omega)).mpr h
  omega
theorem gT {h h' : Heap} (k : h.StaysIn h') {a : Addr} (e : h'.get? a = none) : h.get? a = none := by
 cases q : h.get? a with
 | none => rfl
 | some o => rw [k a o q] at e; cases e
theorem VR.none : VR S g ρ .none (.d .none) := rfl
theorem VR.bool (b) : VR S g ρ (.bool b) (.d (.bool b)) := rfl
theorem VR.int (i t) : VR S g ρ (.int i t) (.d (.int i)) := ⟨t, rfl⟩
theorem VR.str (x t) : VR S g ρ (.str x t) (.d (.str x)) := ⟨t, rfl⟩
theorem VR.int' {i j : Int} {t : Tok} (h : i = j) : VR S g ρ (.int i t) (.d (.int j)) := ⟨t, h ▸ rfl⟩
theorem RD.int' {i j : Int} {t : Tok} (h : i = j) : RD S g (.int i t) (.int j) := ⟨t, h ▸ rfl⟩
theorem aH.of {d z : PyData} (P : aH S (VR S) c g mv ρ s Q E (.ok (.d z) σ)) (e : some d = some z) : aH S (VR S) c g mv ρ s Q E (.ok (.d d) σ) := Option.some.inj e ▸ P
section
variable {α β : Type} {R : Heap -> List Addr -> β -> α -> Prop} {Q : β -> Shared -> Prop} {o : Option α} {P' : Prop}
theorem aH.lift_r (x : aH S R c g mv ρ s Q E (PQ.lift o σ)) (k : ∀ a, o = some a -> aH S R c g mv ρ s Q E (.ok a σ) -> P') : P' := by
 cases o with
 | none => exact x.elim
 | some a => exact k a rfl x
theorem aH.lift2_r {o : Option (aB × aG)} {R : Heap -> List Addr -> β -> aB -> Prop} (x : aH S R c g mv ρ s Q E (cU o)) (k : ∀ v σ', o = some (v, σ') -> aH S R c g mv ρ s Q E (.ok v σ') -> P') : P' := by
 cases o with
 | none => exact x.elim
 | some a => exact k a.1 a.2 rfl x
theorem aH.liftB_r {γ : Type} {o : Option γ} {f : γ -> aG -> aI α} (x : aH S R c g mv ρ s Q E ((PQ.lift o σ).bind f)) (k : ∀ a, o = some a -> aH S R c g mv ρ s Q E (f a σ) -> P') : P' := by
 cases o with
 | none => exact x.elim
 | some a => exact k a rfl x
theorem cV {f : α -> β} {z : β} (e : o.map f = some z) (k : ∀ a, o = some a -> f a = z -> P') : P' := by
 cases o with
 | none => exact dL e
 | some a => exact k a rfl (Option.some.inj e)
end
section
variable {β : Type} {x y : PyData} {pa pb : Value} {z : β} {G : Value -> Value -> Prop}
@[elab_as_elim] theorem kK {f : Int -> Int -> Option β} (e : ii f x y = some z) (ra : RD S g pa x) (rb : RD S g pb y) (k : ∀ a b t u, f a b = some z -> G (.int a t) (.int b u)) : G pa pb :=
 aL e fun a h e => aL e fun b h' e => jL (G := fun p => G p pb) ra h fun t => jL (G := G (.int a t)) rb h' fun u => k a b t u e
@[elab_as_elim] theorem aAZ {f : Str -> Str -> Option β} (e : ss f x y = some z) (ra : RD S g pa x) (rb : RD S g pb y) (k : ∀ a b t u, f a b = some z -> G (.str a t) (.str b u)) : G pa pb :=
 aL e fun a h e => aL e fun b h' e => kC (G := fun p => G p pb) ra h fun t => kC (G := G (.str a t)) rb h' fun u => k a b t u e
@[elab_as_elim] theorem aHY {f : List PyData -> List PyData -> Option β} (e : ll f x y = some z) (ra : RD S g pa x) (rb : RD S g pb y) (k : ∀ a b l m vs ws, IsL g l vs -> aM S g vs.toList a -> IsL g m ws -> aM S g ws.toList b -> f a b = some z -> G (.ref l) (.ref m)) : G pa pb :=
 aL e fun a h e => aL e fun b h' e => oX (G := fun p => G p pb) ra h fun l vs h1 h2 => oX (G := G (.ref l)) rb h' fun m ws h3 h4 => k a b l m vs ws h1 h2 h3 h4 e
@[elab_as_elim] theorem aHR {f : List PyData -> Int -> Option β} (e : li f x y = some z) (ra : RD S g pa x) (rb : RD S g pb y) (k : ∀ a b l vs u, IsL g l vs -> aM S g vs.toList a -> f a b = some z -> G (.ref l) (.int b u)) : G pa pb :=
 aL e fun a h e => aL e fun b h' e => oX (G := fun p => G p pb) ra h fun l vs h1 h2 => jL (G := G (.ref l)) rb h' fun u => k a b l vs u h1 h2 e
@[elab_as_elim] theorem aBt {z : PyData} (e : wZ x y = some z) (ra : RD S g pa x) (rb : RD S g pb y) (k1 : ∀ a b t u, some (.int (a + b)) = some z -> G (.int a t) (.int b u))
  (k2 : ∀ a b t u, a.length + b.length <= 65536 -> some (.str (a ++ b)) = some z -> G (.str a t) (.str b u)) : G pa pb :=
 dR e (fun e => kK e ra rb k1) fun e => aAZ e ra rb fun a b t u e => bO e (k2 a b t u)
end
theorem aBG {op : BOp} {x y z : PyData} {pa pb : Value} (e : tY op x y = some z) (I : aF S c g s.heap mv ρ σ)
  (ra : RD S g pa x) (rb : RD S g pb y) (P : aH S (VR S) c g mv ρ s Q E (.ok (.d z) σ)) : wpAny (model S.prog S.w) A (binaryOp (pB op) pa pb) Q E s := by
 refine toks ?_
 cases op with
 | add =>
  exact dR e (fun e => aBt e ra rb (fun a b t u e => PyProof.Rows.add_int fun kt => (P.of e).same I (.int _ _) kt) fun a b t u hl e => PyProof.Rows.add_str (hsz := Nat.le_trans hl sz) fun t' tk kt => (P.of e).same I (.str _ _) kt)
   fun e => aHY e ra rb fun a b l m vs ws h1 h2 h3 h4 e => bO e fun hl e => aHT (rY I h1) (rY I h3) (fun kt => (P.of e).pushList I (by simpa using aM.append h2 h4))
    (Nat.le_trans (Nat.le_of_eq (congr (congrArg _ (aM.length h2)) (aM.length h4))) (Nat.le_trans hl (by decide)))
 | sub => exact kK e ra rb fun a b t u e => PyProof.Rows.sub_int fun kt => (P.of e).same I (.int _ _) kt
 | mul =>
  refine dR e (fun e => kK e ra rb fun a b t u e => bO e fun hl e => PyProof.Rows.mul_int (hm := IntMulOk.of_bits (aBL hl.1) (aBL hl.2)) fun kt => (P.of e).same I (.int _ _) kt)
   fun e => aHR e ra rb fun a b l vs u h1 h2 e => bO e fun hl e => aHV (vs := vs.toList) (by simpa using rY I h1) (by omega) (by omega) ?_ fun kt => (P.of e).pushList I (by simpa using aM.rep h2 _)
  exact Nat.le_trans (Nat.mul_le_mul (Nat.le_trans (Nat.le_of_eq (aM.length h2)) hl.2.2) (show b.toNat <= 1000 by omega)) (by decide)
 | mod => exact kK e ra rb fun a b t u e => bO e fun hl e => PyProof.Rows.mod_int' hl fun kt => (P.of e).same I (.int _ _) kt
 | fdiv => exact kK e ra rb fun a b t u e => bO e fun hl e => PyProof.Rows.floordiv_int hl.1 (fun kt => (P.of e).same I (.int _ _) kt) (.inl (PyProof.noPylong_of_log2 (aH1 hl.2)))
 | pow => exact kK e ra rb fun a b t u e => bO e fun hl e => PyProof.Rows.pow_int_small hl.1 hl.2.1 hl.2.2 fun kt => (P.of e).same I (.int _ _) kt
 | shr => exact kK e ra rb fun a b t u e => bO e fun hl e => PyProof.Rows.rshift_int hl fun kt => (P.of e).same I (.int _ _) kt
 | band => exact kK e ra rb fun a b t u e => PyProof.Rows.and_int fun kt => (P.of e).same I (.int _ _) kt
end
end PQ
namespace PQ
section
variable {S : SP} {c : Cx} {g h : Heap} {mv : Str -> Option Value} {ρ : List Addr} {σ σ' : aG} {A : Around} {E : Value -> Shared -> Prop} {s : Shared} {Q : Value -> Shared -> Prop} {hb : Bool} {n : Nat}
inductive RH (S : SP) (g h : Heap) (pv : Value) (x : PyData) : Prop
 | d : asL x = none -> RD S g pv x -> RH S g h pv x
 | l (a : Addr) (vs : Array Value) (xs : List PyData) : x = .list xs -> pv = .ref a -> IsL h a vs -> aM S g vs.toList xs -> RH S g h pv x
section
variable {pv : Value} {x : PyData} {G : Value -> Prop}
theorem RH.nl {xs : List PyData} (r : RH S g h pv x) (e : asL x = none) : RD S g pv x := by
 cases r with
 | d _ r => exact r
 | l a vs xs e1 => rw [e1] at e; cases e
@[elab_as_elim] theorem lW {xs : List PyData} (r : RH S g h pv x) (e : asL x = some xs) (k : ∀ a vs, IsL h a vs -> aM S g vs.toList xs -> G (.ref a)) : G pv := by
 cases r with
 | d n _ => rw [n] at e; exact dL e
 | l a vs ys e1 e2 e3 e4 => rw [e1] at e; rw [e2]; exact k a vs e3 (Option.some.inj e ▸ e4)
@[elab_as_elim] theorem aAN {i : Int} (r : RH S g h pv x) (e : asI x = some i) (k : ∀ t, G (.int i t)) : G pv := jL (r.nl (xs := []) (by rw [qX e]; rfl)) e k
@[elab_as_elim] theorem iW {i : Str} (r : RH S g h pv x) (e : dH x = some i) (k : ∀ t, G (.str i t)) : G pv := kC (r.nl (xs := []) (by rw [xL e]; rfl)) e k
@[elab_as_elim] theorem tA {xs : List PyData} (r : RH S g h pv x) (e : asT x = some xs) (k : ∀ a vs, g.IsTuple a vs -> aM S g vs.toList xs -> G (.ref a)) : G pv := xN (r.nl (xs := []) (by rw [xM e]; rfl)) e k
@[elab_as_elim] theorem aAO {kvs : List (PyData × PyData)} (r : RH S g h pv x) (e : asM x = some kvs) (k : ∀ a pvs, g.DictOf (PySem.strKind S.prog S.w) a pvs -> (a == sysModules) = false -> dJ S g pvs kvs -> G (.ref a)) : G pv := tT (r.nl (xs := []) (by rw [xK e]; rfl)) e k
theorem RH.of (k : g.StaysIn h) (r : RD S g pv x) : RH S g h pv x := by
 cases q : asL x with
 | none => exact .d q r
 | some xs =>
  obtain rfl := xI q
  exact r.elim fun a r => r.elim fun vs y => .l a vs xs rfl y.1 (uY y.2.1 k) y.2.2
theorem RH.rd (k : g.StaysIn h) (r : RH S g h pv x) : RD S h pv x := by
 cases r with
 | d _ r => exact RD.mono k r
 | l a vs xs e1 e2 e3 e4 => rw [e1, e2]; exact .list e3 (aM.mono k e4)
end
@[elab_as_elim] theorem aBz {G : Value -> Prop} {v : aB} {pv : Value} {xs : List PyData} (I : aF S c g s.heap mv ρ σ) (r : VR S g ρ pv v) (e : xJ σ v = some xs)
  (k : ∀ a vs, s.heap.PlainList a vs -> aM S g vs.toList xs -> G (.ref a)) : G pv :=
 aL e fun l h e => (show VR S g ρ pv (.loc l) from qY h ▸ r).elim fun a y => (I.st l _ a (sM e) y.1).elim fun vs z => y.2 ▸ k a vs z.1 z.2
@[elab_as_elim] theorem xH {G : Value -> Prop} {v : aB} {pv : Value} {kvs : List (Str × aB)} (I : aF S c g s.heap mv ρ σ) (r : VR S g ρ pv v) (e : tS σ v = some kvs)
  (k : ∀ a pvs, s.heap.DictOf (PySem.strKind S.prog S.w) a pvs -> (a == sysModules) = false -> cQ S g ρ pvs kvs -> G (.ref a)) : G pv :=
 aL e fun l h e => (show VR S g ρ pv (.loc l) from qY h ▸ r).elim fun a y => (I.st l _ a (pE e) y.1).elim fun pvs z => y.2 ▸ k a pvs z.1 z.2.1 z.2.2
theorem qG {v : aB} {pv : Value} {d : PyData} (I : aF S c g s.heap mv ρ σ) (r : VR S g ρ pv v) (e : iF σ v = some d) : RH S g s.heap pv d :=
 dR e (fun e => RH.of I.stays (show VR S g ρ pv (.d d) from qZ e ▸ r)) fun e => cV e fun xs h q => aBz I r h fun a vs h1 h2 => .l a vs xs q.symm rfl (aHw h1) h2
theorem aDO {v : aB} {pv : Value} {d : PyData} (I : aF S c g s.heap mv ρ σ) (r : VR S g ρ pv v) (e : iF σ v = some d) : RD S s.heap pv d := (qG I r e).rd I.stays
theorem fO {v : aB} {pv : Value} {d : PyData} (r : VR S g ρ pv v) (e : cS v = some d) : RD S g pv d := show VR S g ρ pv (.d d) from qZ e ▸ r
theorem aH.bool {b b' : Bool} (P : aH S (VR S) c g mv ρ s Q E (.ok (bV b') σ)) (I : aF S c g s.heap mv ρ σ) (e : b = b') {tk : Nat} (kt : s.toks <= tk) : Q (.bool b) { s with toks := tk } := P.same I (e ▸ .bool b) kt
theorem aGD {x y : PyData} {P : Prop} (h : (fC x && fC y) = true) (k : x.canLay0 = true -> x.depth <= 20 -> y.canLay0 = true -> y.depth <= 20 -> P) : P :=
 k (aA (aA h).1).1 (of_decide_eq_true (aA (aA h).1).2) (aA (aA h).2).1 (of_decide_eq_true (aA (aA h).2).2)
theorem aB8 {x y : PyData} {b : Bool} {pa pb : Value} (e : eqD x y = some b) (ra : RD S s.heap pa x) (rb : RD S s.heap pb y) (hu : A.units + 100 < cLine) :
  (Q (.bool b) s -> wpAny (model S.prog S.w) A (compareOp .Eq pa pb) Q E s) /\ (Q (.bool (!b)) s -> wpAny (model S.prog S.w) A (compareOp .NotEq pa pb) Q E s) := by
 refine dR e (fun e => aAZ e ra rb fun a b' t u e => jI e ⟨fun h => PyProof.Rows.eq_str h, fun h => PyProof.Rows.ne_str h⟩) fun e => dR e (fun e => kK e ra rb fun a b' t u e => jI e ⟨fun h => PyProof.Rows.eq_int h, fun h => P.ne_int h⟩) fun e => ?_
 exact bO e fun h e => aGD h fun h1 h2 h3 h4 => (ra.reads h1).elim fun _ r1 => (rb.reads h3).elim fun _ r2 => jI e ⟨fun h => SeqAt.compareEq_reads r1 r2 h1 h3 (by omega) h, fun h => SeqAt.compareNe_reads r1 r2 h1 h3 (by omega) h⟩
theorem aCA {x y : PyData} {b : Bool} {pa pb : Value} (e : inD x y = some b) (ra : RD S s.heap pa x) (rb : RD S s.heap pb y) (hu : A.units + 100 < cLine) :
  ((∀ tk, s.toks <= tk -> Q (.bool b) { s with toks := tk }) -> wpAny (model S.prog S.w) A (compareOp .In pa pb) Q E s) /\
  ((∀ tk, s.toks <= tk -> Q (.bool (!b)) { s with toks := tk }) -> wpAny (model S.prog S.w) A (compareOp .NotIn pa pb) Q E s) := by
 refine dR e (fun e => aAZ e rb ra fun a b' t u e => jI e ⟨fun h => P.in_str (h _ (Nat.le_refl _)), fun h => P.notIn_str (h _ (Nat.le_refl _))⟩) fun e => dR e (fun e => aL e fun kvs h e => vJ e fun x' h' => ?m) fun e => dR e (fun e => aL e fun xs h e => ?l) fun e => aL e fun xs h e => ?t
 case m =>
  refine tT rb h fun a pvs h1 h2 h3 => kC ra h' fun t => ?_
  have q := (dJ.look x' h3).2
  exact ⟨fun h => wpAny_in_of (strKind_is _ _ _ _) h2 h1.mapOf (q ▸ h _ (Nat.le_succ _)), fun h => wpAny_notIn_of (strKind_is _ _ _ _) h2 h1.mapOf (q ▸ h _ (Nat.le_succ _))⟩
 case l =>
  obtain rfl := xI h
  exact bO e fun h e => (ra.reads (aA (aA h).1).1).elim fun _ r1 => (rb.reads (aA (aA h).2).1).elim fun _ r2 => jI e
   ⟨fun k => SeqAt.in_list_reads r2 r1 (aA (aA h).2).1 (aA (aA h).1).1 (by have h1 := of_decide_eq_true (aA (aA h).1).2; have h2 := of_decide_eq_true (aA (aA h).2).2; omega) (k _ (Nat.le_refl _)),
    fun k => SeqAt.notIn_list_reads r2 r1 (aA (aA h).2).1 (aA (aA h).1).1 (by have h1 := of_decide_eq_true (aA (aA h).1).2; have h2 := of_decide_eq_true (aA (aA h).2).2; omega) (k _ (Nat.le_refl _))⟩
 case t =>
  obtain rfl := xM h
  exact bO e fun h e => (ra.reads (aA (aA h).1).1).elim fun _ r1 => (rb.reads (aA (aA h).2).1).elim fun _ r2 => jI e
   ⟨fun k => SeqAt.in_tuple_reads r2 r1 (aA (aA h).2).1 (aA (aA h).1).1 (by have h1 := of_decide_eq_true (aA (aA h).1).2; have h2 := of_decide_eq_true (aA (aA h).2).2; omega) (k _ (Nat.le_refl _)),
    fun k => SeqAt.notIn_tuple_reads r2 r1 (aA (aA h).2).1 (aA (aA h).1).1 (by have h1 := of_decide_eq_true (aA (aA h).1).2; have h2 := of_decide_eq_true (aA (aA h).2).2; omega) (k _ (Nat.le_refl _))⟩
theorem aCJ {v : aB} (h : eX v = true) : v = .d .none := by
 cases v with
 | d x => cases x <;> first | rfl | exact bK h
 | _ => exact bK h
theorem aEF {v : aB} {pv : Value} (r : VR S g ρ pv v) : (pv == Value.none) = eX v := by
 cases v with
 | d x => cases x with
  | none => rw [show pv = .none from r]; rfl
  | bool b => rw [show pv = .bool b from r]; rfl
  | int | str => exact r.elim fun t q => q ▸ rfl
  | list | tuple | dict => exact r.elim fun a r => r.elim fun vs q => q.1 ▸ rfl
 | loc l => exact r.elim fun a q => q.2 ▸ rfl
 | fn f => exact r.elim fun a q => q.2 ▸ rfl
 | inst l => cases r with | mk a b o D m _ _ e => exact e ▸ rfl
 | exc w => cases r with | mk e oe C D m t _ q => exact q ▸ rfl
theorem mI {op : COp} {va vb v : aB} {pa pb : Value} {P' : Prop} (e : lF op va vb σ = some v) (I : aF S c g s.heap mv ρ σ) (ra : VR S g ρ pa va) (rb : VR S g ρ pb vb) (P : aH S (VR S) c g mv ρ s Q E (.ok v σ))
  (k : ∀ x y b, yH op x y = some b -> RD S s.heap pa x -> RD S s.heap pb y -> aH S (VR S) c g mv ρ s Q E (.ok (bV b) σ) -> P') : P' :=
 aL e fun x h1 e => aL e fun y h2 e => cV e fun b h3 q => k x y b h3 (aDO I ra h1) (aDO I rb h2) (q ▸ P)
theorem aFL {op : COp} {va vb v : aB} {pa pb : Value} (e : bR op va vb σ = some v) (I : aF S c g s.heap mv ρ σ)
  (ra : VR S g ρ pa va) (rb : VR S g ρ pb vb) (hu : A.units + 100 < cLine) (P : aH S (VR S) c g mv ρ s Q E (.ok v σ)) : wpAny (model S.prog S.w) A (compareOp (yK op) pa pb) Q E s := by
 have ord : ∀ {f : Int -> Int -> Bool} {x y b} {o : CmpOp}, ii (fun a b => some (f a b)) x y = some b -> RD S s.heap pa x -> RD S s.heap pb y -> aH S (VR S) c g mv ρ s Q E (.ok (bV b) σ) ->
   (∀ a b t u, Q (.bool (f a b)) s -> wpAny (model S.prog S.w) A (compareOp o (.int a t) (.int b u)) Q E s) -> wpAny (model S.prog S.w) A (compareOp o pa pb) Q E s :=
  fun e r1 r2 P k => kK e r1 r2 fun a b t u e => k a b t u (P.bool I (Option.some.inj e) (Nat.le_refl _))
 have isin : ∀ {b}, inS va vb σ = some b -> ((Q (.bool b) { s with toks := s.toks + 1 }) -> wpAny (model S.prog S.w) A (compareOp .In pa pb) Q E s) /\ ((Q (.bool (!b)) { s with toks := s.toks + 1 }) -> wpAny (model S.prog S.w) A (compareOp .NotIn pa pb) Q E s) :=
  fun e => aL e fun kvs h1 e => cV e fun y h2 q => aL h2 fun d h3 h4 => xH I rb h1 fun a pvs d1 d2 d3 => kC (fO ra h3) h4 fun t =>
   ⟨fun h => wpAny_in_of (strKind_is _ _ _ _) d2 d1.mapOf ((cQ.look _ d3).2 ▸ q ▸ h), fun h => wpAny_notIn_of (strKind_is _ _ _ _) d2 d1.mapOf ((cQ.look _ d3).2 ▸ q ▸ h)⟩
 cases op with
 | eq => exact mI e I ra rb P fun x y b e r1 r2 P => (aB8 e r1 r2 hu).1 (P.bool I rfl (Nat.le_refl _))
 | ne => exact mI e I ra rb P fun x y b e r1 r2 P => cV e fun b' e q => (aB8 e r1 r2 hu).2 (P.bool I q (Nat.le_refl _))
 | lt => exact mI e I ra rb P fun x y b e r1 r2 P => ord e r1 r2 P fun _ _ _ _ => PySem.P.lt_int
 | le => exact mI e I ra rb P fun x y b e r1 r2 P => ord e r1 r2 P fun _ _ _ _ => PySem.P.le_int
 | gt => exact mI e I ra rb P fun x y b e r1 r2 P => ord e r1 r2 P fun _ _ _ _ => PySem.P.gt_int
 | ge => exact mI e I ra rb P fun x y b e r1 r2 P => ord e r1 r2 P fun _ _ _ _ => PySem.P.ge_int
 | isIn => exact dR e (fun e => cV e fun b h q => (isin h).1 ((q ▸ P : aH S (VR S) c g mv ρ s Q E (.ok (bV b) σ)).bool I rfl (Nat.le_succ _))) fun e => mI e I ra rb P fun x y b e r1 r2 P => (aCA e r1 r2 hu).1 fun tk kt => P.bool I rfl kt
 | notIn => exact dR e (fun e => cV e fun b h q => (isin h).2 ((q ▸ P : aH S (VR S) c g mv ρ s Q E (.ok (bV (!b)) σ)).bool I rfl (Nat.le_succ _))) fun e => mI e I ra rb P fun x y b e r1 r2 P => cV e fun b' e q => (aCA e r1 r2 hu).2 fun tk kt => P.bool I q kt
 | isNone =>
  refine bO e fun h e => ?_
  obtain rfl := aCJ h
  obtain rfl : pb = .none := rb
  exact is_none (by rw [aEF ra]; exact (Option.some.inj e ▸ P : aH S (VR S) c g mv ρ s Q E (.ok (bV (eX va)) σ)).bool I rfl (Nat.le_refl _))
 | notNone =>
  refine bO e fun h e => ?_
  obtain rfl := aCJ h
  obtain rfl : pb = .none := rb
  exact isNot_none (by rw [aEF ra]; exact (Option.some.inj e ▸ P : aH S (VR S) c g mv ρ s Q E (.ok (bV (!eX va)) σ)).bool I rfl (Nat.le_refl _))
end
end PQ
namespace PQ
section
variable {S : SP} {c : Cx} {g h : Heap} {mv : Str -> Option Value} {ρ : List Addr} {σ σ' : aG} {A : Around} {E : Value -> Shared -> Prop} {s : Shared} {Q : Value -> Shared -> Prop} {hb : Bool} {n : Nat}
theorem aBA {xs : List PyData} {i : Int} {x : PyData} (h : atD xs i = some x) :
  (0 <= i /\ xs[i.toNat]? = some x) \/ (i < 0 /\ 0 <= i + xs.length /\ xs[(i + xs.length).toNat]? = some x) := by
 unfold atD at h
 split at h
 ·exact .inl ⟨by assumption, h⟩
 ·split at h
  ·exact .inr ⟨by omega, by assumption, h⟩
  ·cases h
theorem aEX {xs : List PyData} {i : Int} {x : PyData} (h : atD xs i = some x) : ∃ j, seqIndex? i xs.length = some j /\ xs[j]? = some x := by
 rcases aBA h with ⟨h0, h1⟩ | ⟨h0, h1, h2⟩
 ·have := (List.getElem?_eq_some_iff.mp h1).1
  refine ⟨i.toNat, ?_, h1⟩
  unfold seqIndex?
  simp only [if_neg (show ¬ i < 0 by omega)]
  rw [if_pos (by simp; omega)]
 ·have := (List.getElem?_eq_some_iff.mp h2).1
  refine ⟨(i + xs.length).toNat, ?_, h2⟩
  unfold seqIndex?
  simp only [if_pos h0]
  rw [if_pos (by simp; omega)]
theorem aB3 {a : Addr} {pvs : List (Str × Value)} (h : s.heap.DictOf (PySem.strKind S.prog S.w) a pvs) : s.TypeIs (.ref a) "dict" := by
 obtain ⟨o, es, ep, ho, hc, hd, _⟩ := h; exact ⟨o, ho, hc.1⟩
theorem aEo {slice : Expr} (hns : pP slice = false) (o i : Value) : subscripted slice false o i = operate [o, i] (getItem o i) := by
 cases slice <;> first | rfl | exact bK hns.symm
theorem aHd {xs : List PyData} {y : PyData} {i : Int} {a : Addr} {vs : Array Value} {t : Tok} (e : atD xs i = some y) (hi : i.natAbs < 2 ^ 62) (h1 : s.heap.IsList a vs) (h2 : aM S g vs.toList xs)
  (h : ∀ pv tk, s.toks <= tk -> RD S g pv y -> Q pv { s with toks := tk }) : wpAny (model S.prog S.w) A (getItem (.ref a) (.int i t)) Q E s := by
 have hn : vs.size = xs.length := aM.length h2
 rcases aBA e with ⟨q0, q1⟩ | ⟨q0, q1, q2⟩
 ·exact (aM.at h2 q1).elim fun pv q => wpAny_getItem_list h1 q0 (by have := (List.getElem?_eq_some_iff.mp q1).1; omega) (by simpa using q.1) (h _ _ (Nat.le_refl _) q.2)
 ·exact (aM.at h2 q2).elim fun pv q => wpAny_getItem_list_neg h1 q0 (by omega) (by omega) (by rw [hn]; simpa using q.1) (h _ _ (Nat.le_refl _) q.2)
theorem aHg {xs : List PyData} {y : PyData} {i : Int} {a : Addr} {vs : Array Value} {t : Tok} (e : atD xs i = some y) (hi : i.natAbs < 2 ^ 62) (h1 : PyProof.Rows.IsTup s.heap a vs) (h2 : aM S g vs.toList xs)
  (h : ∀ pv tk, s.toks <= tk -> RD S g pv y -> Q pv { s with toks := tk }) : wpAny (model S.prog S.w) A (getItem (.ref a) (.int i t)) Q E s := by
 have hn : vs.size = xs.length := aM.length h2
 obtain ⟨j, q0, q1⟩ := aEX e
 exact (aM.at h2 q1).elim fun pv q => PyProof.Rows.getItem_tuple h1 (by omega) (by omega) (by rw [hn]; exact q0) (by simpa using q.1) (h _ _ (Nat.le_refl _) q.2)
theorem aHf {x : Str} {z : Nat} {i : Int} {t u : Tok} (e : x.cps[i.toNat]? = some z) (hi : 0 <= i /\ i < 2 ^ 62) (h : ∀ t tk, s.toks <= tk -> Q (.str ⟨#[z]⟩ t) { s with toks := tk }) :
  wpAny (model S.prog S.w) A (getItem (.str x t) (.int i u)) Q E s := by
 have hlt := (Array.getElem?_eq_some_iff.mp e).1
 refine PySem.P.getItem_str (c := z) (by simp; omega) ?_ (h _ _ (Nat.le_succ _))
 unfold seqIndex?
 simp only [if_neg (show ¬ i < (0 : Int) by omega)]
 rw [if_pos (by simp only [Bool.and_eq_true, decide_eq_true_eq]; refine ⟨hi.1, ?_⟩; show i < ((x.cps.size : Nat) : Int); omega)]
 exact e
theorem aG9 {x y i : PyData} {value slice : Expr} {pa pi : Value} (e : zF x i = some y) (hns : pP slice = false) (I : aF S c g s.heap mv ρ σ) (ra : RH S g s.heap pa x) (ri : RD S g pi i)
  (h : ∀ pv tk, s.toks <= tk -> RD S g pv y -> Q pv { s with toks := tk }) : wpAny (model S.prog S.w) A (PyProof.Rows.subscriptTail value slice pa pi) Q E s := by
 have hs := aEo hns
 refine dR e (fun e => aL e fun xs e1 e => aL e fun j e2 e => bO e fun hj e => lW ra e1 fun a vs h0 h2 => jL ri e2 fun t => ?_) fun e => dR e (fun e => aL e fun xs e1 e => aL e fun j e2 e => bO e fun hj e => tA ra e1 fun a vs h1 h2 => jL ri e2 fun t => ?_) fun e =>
  dR e (fun e => aL e fun xs e1 e => aL e fun j e2 e => bO e fun hj e => cV e fun z hz q => iW ra e1 fun t => jL ri e2 fun u => ?_) fun e => aL e fun kvs e1 e => aL e fun k e2 e => aAO ra e1 fun a pvs h1 h2 h3 => kC ri e2 fun t => ?_
 ·exact PyProof.Rows.tail_any h0.isList.typeIs PySem.F.slot_list_getitem.lookup (aHd e hj h0.isList h2 h) (hs _ _)
 ·have h1' : PyProof.Rows.IsTup s.heap _ _ := lN h1 I.stays
  exact PyProof.Rows.tail_any h1'.typeIs PySem.F.slot_tuple_getitem.lookup (aHg e hj h1' h2 h) (hs _ _)
 ·exact PyProof.Rows.tail_any (typeIs_str _ _ _) PySem.F.slot_str_getitem.lookup (aHf hz hj fun t tk kt => h _ _ kt (q ▸ .str _ _)) (hs _ _)
 ·have h1' := nS h1 I.stays
  exact ((dJ.look _ h3).1 _ e).elim fun pv q => PyProof.Rows.tail_any (aB3 h1') PySem.F.slot_dict_getitem.lookup (wpAny_getItem_of (strKind_is _ _ _ _) h1'.mapOf q.1 (h _ _ (Nat.le_succ _) q.2)) (hs _ _)
theorem aHe {va vi v : aB} {pa pi : Value} {value slice : Expr} (e : dW σ va vi = some v) (hns : pP slice = false) (I : aF S c g s.heap mv ρ σ)
  (ra : VR S g ρ pa va) (ri : VR S g ρ pi vi) (P : aH S (VR S) c g mv ρ s Q E (.ok v σ)) : wpAny (model S.prog S.w) A (PyProof.Rows.subscriptTail value slice pa pi) Q E s :=
 aL e fun i e1 e => dR e (fun e => aL e fun kvs e2 e => aL e fun k e3 e => xH I ra e2 fun a pvs h1 h2 h3 => kC (fO ri e1) e3 fun t => ((cQ.look _ h3).1 _ e).elim fun pv q =>
   PyProof.Rows.tail_any (aB3 h1) PySem.F.slot_dict_getitem.lookup (wpAny_getItem_of (strKind_is _ _ _ _) h1.mapOf q.1 (P.same I q.2 (Nat.le_succ _))) (aEo hns _ _))
  fun e => aL e fun x e2 e => cV e fun y hy q => aG9 hy hns I (qG I ra e2) (fO ri e1) fun pv tk kt r => P.same I (q ▸ r) kt
theorem mZ {v : aB} {o : Option Int} {pv : Value} (e : (cS v).bind oL = some o) (r : VR S g ρ pv v) : IsPart pv o := aL e fun d e1 e => by
 have r := fO r e1
 cases d with
 | none => rw [show pv = .none from r, <- show none = o from Option.some.inj e]; exact .none
 | int i => rw [<- show some i = o from Option.some.inj e]; exact r.elim fun t q => q ▸ .int _ _
 | _ => exact dL e
theorem aLg {xx : Str} {t : Tok} {pl ph : Value} {l h : Option Int} {Q : Value -> Shared -> Prop} (pl' : IsPart pl l) (ph' : IsPart ph h) (hz : xx.length <= sizeLine) (fin : ∀ h' t' k, s.heap.StaysIn h' -> Q (.str (Txt.slice xx l h) t') { s with heap := h', toks := k }) :
  ItemOn (model S.prog S.w) A E (.str xx t) (.ref s.heap.objs.size) Q { s with heap := s.heap.push { cls := .type "slice", data := .fields #[pl, ph, .none] } } := by
 have hP : KeptH (s.heap.StaysIn ·) := fun h ob k => cH k (dO _ _)
 cases pl' <;> cases ph'
 ·exact SBH.sliceItem_nn (P := (s.heap.StaysIn ·)) hP (bU _) fin hz
 ·exact SBH.sliceItem_ns (P := (s.heap.StaysIn ·)) hP (bU _) fin hz
 ·exact SBH.sliceItem_sn (P := (s.heap.StaysIn ·)) hP (bU _) fin hz
 ·exact SBH.sliceItem_ss (P := (s.heap.StaysIn ·)) hP (bU _) fin hz
section
variable {pl ph : Value} {value slice : Expr} {a : Addr} {vs : Array Value} {xs : List PyData} {j : Int}
theorem aLl (I : aF S c g s.heap mv ρ σ) (hs : ∀ o i, subscripted slice false o i = operate [i, o] (getItem o i)) (pl' : IsPart pl none) (ph' : IsPart ph (some j)) (h0 : IsL s.heap a vs) (h2 : aM S g vs.toList xs) (hj : 0 <= j) (hl : xs.length <= 65536)
  (P : aH S (VR S) c g mv ρ s Q E (.ok (.d (.list (xs.take j.toNat))) σ)) :
  wpAny (model S.prog S.w) A (PyProof.Rows.subscriptTail value slice (.ref a) (.ref s.heap.objs.size)) Q E { s with heap := s.heap.push { cls := .type "slice", data := .fields #[pl, ph, .none] } } := by
 have hn : vs.size = xs.length := aM.length h2
 have k1 := dO s.heap { cls := .type "slice", data := .fields #[pl, ph, .none] }
 have h1' := rZ h0.isList k1
 obtain ⟨j, rfl⟩ : ∃ m : Nat, j = m := ⟨j.toNat, by omega⟩
 refine PyProof.Rows.tail_any h1'.typeIs PySem.F.slot_list_getitem.lookup (wpAny_getItem_list_slice h1' (Heap.IsSliceOf.new _ _ _ _) pl' ph' .none (by simp) ?_ (by have := sz; omega)) (hs _ _)
 rw [slicePick_upto']
 exact P.newList I (cH k1 (dO _ _)) (gT k1 (eR _)) ⟨_, Heap.get?_push_size _ rfl, rfl, rfl, _, rfl⟩ (by simpa using aM.take _ h2) (Nat.le_refl _)
theorem aLf (I : aF S c g s.heap mv ρ σ) (hs : ∀ o i, subscripted slice false o i = operate [i, o] (getItem o i)) (pl' : IsPart pl (some j)) (ph' : IsPart ph none) (h0 : IsL s.heap a vs) (h2 : aM S g vs.toList xs) (hj : 0 <= j) (hl : xs.length <= 65536)
  (P : aH S (VR S) c g mv ρ s Q E (.ok (.d (.list (xs.drop j.toNat))) σ)) :
  wpAny (model S.prog S.w) A (PyProof.Rows.subscriptTail value slice (.ref a) (.ref s.heap.objs.size)) Q E { s with heap := s.heap.push { cls := .type "slice", data := .fields #[pl, ph, .none] } } := by
 have hn : vs.size = xs.length := aM.length h2
 have k1 := dO s.heap { cls := .type "slice", data := .fields #[pl, ph, .none] }
 have h1' := rZ h0.isList k1
 obtain ⟨j, rfl⟩ : ∃ m : Nat, j = m := ⟨j.toNat, by omega⟩
 refine PyProof.Rows.tail_any h1'.typeIs PySem.F.slot_list_getitem.lookup (wpAny_getItem_list_slice h1' (Heap.IsSliceOf.new _ _ _ _) pl' ph' .none (by simp) ?_ (by have := sz; omega)) (hs _ _)
 rw [slicePick_from']
 exact P.newList I (cH k1 (dO _ _)) (gT k1 (eR _)) ⟨_, Heap.get?_push_size _ rfl, rfl, rfl, _, rfl⟩ (by simpa using aM.drop _ h2) (Nat.le_refl _)
theorem aLk (I : aF S c g s.heap mv ρ σ) (hs : ∀ o i, subscripted slice false o i = operate [i, o] (getItem o i)) (pl' : IsPart pl (some j)) (ph' : IsPart ph none) (h0 : g.IsTuple a vs) (h2 : aM S g vs.toList xs) (hj : 1 <= j /\ j <= xs.length /\ xs.length <= 65536)
  (P : aH S (VR S) c g mv ρ s Q E (.ok (.d (.tuple (xs.drop j.toNat))) σ)) :
  wpAny (model S.prog S.w) A (PyProof.Rows.subscriptTail value slice (.ref a) (.ref s.heap.objs.size)) Q E { s with heap := s.heap.push { cls := .type "slice", data := .fields #[pl, ph, .none] } } := by
 have hn : vs.size = xs.length := aM.length h2
 have k1 := dO s.heap { cls := .type "slice", data := .fields #[pl, ph, .none] }
 have h1' : PyProof.Rows.IsTup _ _ _ := lN (lN h0 I.stays) k1
 obtain ⟨j, rfl⟩ : ∃ m : Nat, j = m := ⟨j.toNat, by omega⟩
 cases pl'; cases ph'
 refine PyProof.Rows.tail_any h1'.typeIs PySem.F.slot_tuple_getitem.lookup (PyProof.Rows.getItem_tuple_from h1' (Heap.IsSliceOf.new _ _ _ _) (by omega) (by omega) ?_ (by have := sz; omega)) (hs _ _)
 exact P.newTuple I (cH k1 (dO _ _)) (gT k1 (eR _)) ⟨_, Heap.get?_push_size _ rfl, rfl, _, rfl⟩ (by simpa using aM.drop _ h2) (Nat.le_refl _)
end
theorem aLi {va vl vh v : aB} {pa pl ph : Value} {value slice : Expr} (e : gH σ va vl vh = some v) (I : aF S c g s.heap mv ρ σ)
  (hs : ∀ o i, subscripted slice false o i = operate [i, o] (getItem o i)) (ra : VR S g ρ pa va) (rl : VR S g ρ pl vl) (rh : VR S g ρ ph vh) (P : aH S (VR S) c g mv ρ s Q E (.ok v σ)) :
  wpAny (model S.prog S.w) A (PyProof.Rows.subscriptTail value slice pa (.ref s.heap.objs.size)) Q E { s with heap := s.heap.push { cls := .type "slice", data := .fields #[pl, ph, .none] } } := by
 refine aL e fun x hx e => aL e fun l hl e => aL e fun h hh e => cV e fun y hy q => ?_
 have P : aH S (VR S) c g mv ρ s Q E (.ok (.d y) σ) := q ▸ P
 have rx := qG I ra hx
 refine dR hy (fun e => aL e fun xx e1 e => bO e fun hle e => iW rx e1 fun t => ?_) fun e => dR e (fun e => aL e fun xs e1 e => aL e fun j e2 e => bO e fun hle e => lW rx e1 fun a vs h0 h2 => ?_) fun e =>
  dR e (fun e => aL e fun xs e1 e => aL e fun j e2 e => bO e fun hle e => lW rx e1 fun a vs h0 h2 => ?_) fun e => aL e fun xs e1 e => aL e fun j e2 e => bO e fun hle e => tA rx e1 fun a vs h0 h2 => ?_
 ·obtain ⟨T, id, q1, q2, q3⟩ := aLg (S := S) (A := A) (E := E) (Q := fun a s' => s.toks <= s'.toks -> Q a s') (t := t) (mZ hl rl) (mZ hh rh) (Nat.le_trans hle sz) fun h' t' k kh kt => (P.of e).more I kh (fun g' _ _ => VR.str _ t') kt
  exact PyProof.Rows.tail_any q2 q1 (wpAny_with_toks (n := s.toks) (Nat.le_refl _) (wpAny_mono q3 (fun _ _ h kt => h kt) fun _ _ h _ => h)) (hs _ _)
 ·exact aLl I hs (Option.isNone_iff_eq_none.mp hle.1 ▸ mZ hl rl) (e2 ▸ mZ hh rh) h0 h2 hle.2.1 hle.2.2 (P.of e)
 ·exact aLf I hs (e2 ▸ mZ hl rl) (Option.isNone_iff_eq_none.mp hle.1 ▸ mZ hh rh) h0 h2 hle.2.1 hle.2.2 (P.of e)
 ·exact aLk I hs (e2 ▸ mZ hl rl) (Option.isNone_iff_eq_none.mp hle.1 ▸ mZ hh rh) h0 h2 hle.2 (P.of e)
end
end PQ
namespace PQ
open PySem.NumText in
theorem aG7 {c x : Nat} (h : mN c = some x) (p : Array Nat × Bool) : NumText.step 16 p c = some (p.1.push x, true) := by
 unfold mN at h
 unfold NumText.step digit?
 split at h
 ·cases h
  rename_i hc
  rw [if_neg (by simp; omega), if_pos (by simp; omega)]
  simp; omega
 ·split at h
  ·cases h
   rename_i hc
   rw [if_neg (by simp; omega), if_neg (by simp; omega), if_pos (by simp; omega)]
   simp; omega
  ·cases h
open PySem.NumText in
theorem aG1 : ∀ (cs : List Nat) (a n : Nat) (ds : Array Nat) (b : Bool), iS a cs = some n -> ds.foldl (fun acc d => acc * 16 + d) 0 = a ->
  ∃ ds' b', cs.foldlM (NumText.step 16) (ds, b) = some (ds', b') /\ ds'.foldl (fun acc d => acc * 16 + d) 0 = n /\ (cs ≠ [] -> b' = true) /\ (cs = [] -> b' = b) := by
 intro cs
 induction cs with
 | nil => intro a n ds b h hd; exact ⟨ds, b, rfl, hd.trans (Option.some.inj h), fun q => absurd rfl q, fun _ => rfl⟩
 | cons c cs ih =>
  intro a n ds b h hd
  refine aL h fun x hx h => ?_
  obtain ⟨ds', b', h1, h2, h3, h4⟩ := ih (a * 16 + x) n (ds.push x) true h (by rw [Array.foldl_push, hd])
  refine ⟨ds', b', by rw [List.foldlM_cons, aG7 hx]; exact h1, h2, fun _ => ?_, fun q => nomatch q⟩
  by_cases q : cs = []
  ·exact h4 q
  ·exact h3 q
theorem aG0 {c x : Nat} (h : mN c = some x) : (48 <= c /\ c <= 57) \/ (97 <= c /\ c <= 102) := by
 unfold mN at h
 split at h
 ·exact .inl ‹_›
 ·split at h
  ·exact .inr ‹_›
  ·exact dL h
theorem aCw : ∀ {cs : List Nat} {a n : Nat}, iS a cs = some n -> ∀ c ∈ cs, (48 <= c /\ c <= 57) \/ (97 <= c /\ c <= 102) := by
 intro cs
 induction cs with
 | nil => intro a n h d hd; cases hd
 | cons c cs ih => intro a n h d hd; exact aL h fun x hx h => (List.mem_cons.mp hd).elim (fun q => q ▸ aG0 hx) (ih h d)
open PySem.NumText in
theorem aG5 {cs : List Nat} {n : Nat} (h : iS 0 cs = some n) (hne : cs ≠ []) : (int_private% "readNumeral") 0 16 cs = (int_private% "Numeral.value") n := by
 have hm := aCw h
 have hb : ∀ c ∈ cs, blank c = false := fun c hc => by
  have := hm c hc
  unfold blank; simp; omega
 have hd : ∀ l : List Nat, (∀ c ∈ l, blank c = false) -> l.dropWhile blank = l := fun l hl => by
  cases l with
  | nil => rfl
  | cons c r => rw [List.dropWhile_cons, if_neg (by rw [hl c (.head _)]; simp)]
 rw [readNumeral_eq, hd cs hb]
 have hs : sign cs = (false, cs) := by
  cases cs with
  | nil => rfl
  | cons c r =>
   have := hm c (.head _)
   unfold sign
   split
   ·rename_i q; cases q; omega
   ·rename_i q; cases q; omega
   ·rfl
 rw [hs]
 have hba : based 16 cs = (16, false, cs) := by
  unfold based
  split
  ·rename_i p hp
   have : p ≠ 16 := by
    unfold prefix? at hp
    split at hp
    ·rename_i c r
     have := hm c (.tail _ (.head _))
     rw [if_neg (by simp; omega)] at hp
     split at hp
     ·cases hp; decide
     ·split at hp
      ·cases hp; decide
      ·cases hp
    ·cases hp
   rw [if_neg (by simp; exact fun q => this q.symm)]
  ·rfl
 rw [hba]
 rw [hd cs.reverse fun c hc => hb c (List.mem_reverse.mp hc), List.reverse_reverse]
 obtain ⟨ds, b, h1, h2, h3, _⟩ := aG1 cs 0 n #[] false h rfl
 unfold digits?
 rw [h1]
 simp only [h3 hne]
 unfold judge
 simp [h2]
theorem aLH (cs : List Nat) (h : ∀ c ∈ cs, c ≠ 0) : cs.takeWhile (· != 0) = cs := by
 induction cs with
 | nil => rfl
 | cons c r ih =>
  rw [List.takeWhile_cons, if_pos (by simpa using h c (.head _)), ih fun d hd => h d (.tail _ hd)]
theorem aMo {M : Model} {A : Around} {E : Value -> Shared -> Prop} {s : Shared} {Q : Value -> Shared -> Prop} {v : Value} {text : List Nat} {n : Int}
  (hs : (text.takeWhile (· != 0)).length <= 640) (hr : (int_private% "readNumeral") 0 16 (text.takeWhile (· != 0)) = (int_private% "Numeral.value") n)
  (ha : ((text.takeWhile (· != 0)).length == text.length) = true) (h : Q (.int n s.toks) { s with toks := s.toks + 1 }) :
  wpAny M A ((int_private% "intFromText") v text 16) Q E s := by
 obtain ⟨hp, g, d, tk, os⟩ := s
 repeat (any_goals (first
  | assumption
  | (with_reducible refine wpAny_ite_true (decide_eq_true hs) ?_)
  | (with_reducible refine wpAny_ite_true (decide_eq_true ha) ?_)
  | wp_step))
 all_goals (try rw [hr])
 all_goals (try dsimp only)
 repeat (any_goals (first
  | assumption
  | (with_reducible refine wpAny_ite_true (decide_eq_true hs) ?_)
  | (with_reducible refine wpAny_ite_true (decide_eq_true ha) ?_)
  | wp_step))
theorem aLV (a b : Value) : checkTypeCall "int" ⟨[a, b], []⟩ = pure () := by kernel_rfl
theorem aIM (a b : Value) : checkBuiltinCall "int.__new__" ⟨[.type "int", a, b], []⟩ = pure () := by kernel_rfl
structure Hid (p : Prop) : Prop where
 out : p
set_option maxHeartbeats 4000000 in
theorem aGT {x : PySem.Str} {u v : Tok} {n : Nat} (h0 : 0 < x.length) (hl : x.length <= 8) (hn : iS 0 x.cps.toList = some n) : Gives (Builtin.«int.__new__» ⟨[.type "int", .str x u, .int 16 v], []⟩) (.int n) :=
 .of_wp fun M A E s Q h => by
  obtain ⟨hp, g, d, tk, os⟩ := s
  have f1 := F.conv_sub_int
  have f2 := F.madeHere_int
  have hm := aCw hn
  have hne : x.cps.toList ≠ [] := fun q => by
   have : x.cps.toList.length = 0 := by rw [q]; rfl
   simp at this
   unfold PySem.Str.length at h0
   simp [this] at h0
  have ht : x.cps.toList.takeWhile (· != 0) = x.cps.toList := aLH _ fun c hc => by have := hm c hc; omega
  have e1 : numTextOf x = x.cps.toList := by
   unfold numTextOf
   rw [if_pos]
   rw [Array.all_eq_true]
   intro i hi
   have := hm x.cps[i] (by simp)
   simp; omega
  have hs : ((numTextOf x).takeWhile (· != 0)).length <= 640 := by
   rw [e1, ht]; show x.cps.toList.length <= 640
   rw [Array.length_toList]; unfold PySem.Str.length at hl; omega
  have hr : (int_private% "readNumeral") 0 16 ((numTextOf x).takeWhile (· != 0)) = (int_private% "Numeral.value") n := by rw [e1, ht]; exact aG5 hn hne
  have ha : (((numTextOf x).takeWhile (· != 0)).length == (numTextOf x).length) = true := by rw [e1, ht]; simp
  have hk := Hid.mk (And.intro hs (And.intro hr ha))
  clear hs hr ha ht e1 hne hm hn h0 hl
  repeat (any_goals (first
   | assumption
   | ((with_reducible show wpAny _ _ ((int_private% "intFromText") _ _ _) _ _ _); refine aMo hk.out.1 hk.out.2.1 hk.out.2.2 ?_)
   | wp_step))
  all_goals first | exact ⟨_, rfl, h⟩ | skip
section
variable {S : SP} {c : Cx} {g h : Heap} {mv : Str -> Option Value} {ρ : List Addr} {σ σ' : aG} {A : Around} {E : Value -> Shared -> Prop} {s : Shared} {Q : Value -> Shared -> Prop} {hb : Bool} {n : Nat}
noncomputable def RHs (S : SP) (g h : Heap) : List Value -> List PyData -> Prop := aY (RH S g h)
theorem aAP {vs : List aB} {pvs : List Value} (I : aF S c g s.heap mv ρ σ) (r : cR S g ρ pvs vs) : ∀ {ds : List PyData}, oW σ vs = some ds -> RHs S g s.heap pvs ds :=
 aY.ind (R := VR S g ρ) (G := fun pvs vs => ∀ {ds : List PyData}, oW σ vs = some ds -> RHs S g s.heap pvs ds) r (fun e => jI (G := RHs S g s.heap []) e trivial)
  fun a b l m h _ q {ds} e => aL (f := fun x => (oW σ m).map (x :: ·)) e fun x e1 e => vJ (G := RHs S g s.heap (a :: l)) e fun xs e2 => ⟨qG I h e1, q e2⟩
section
variable {α β γ : Type} {R : α -> β -> Prop}
@[elab_as_elim] theorem aAz {G : List α -> Prop} {l : List α} {m : List β} {b : β} (r : aY R l m) (e : hd1 m = some b) (k : ∀ a, R a b -> G [a]) : G l :=
 (zA (G := fun m => aY R l m -> G l) e fun r => aY.cons_r r fun a l h r => aY.nil_r r (k a h)) r
@[elab_as_elim] theorem aBe {G : List α -> Prop} {l : List α} {m : List β} {p : β × β} (r : aY R l m) (e : hd2 m = some p) (k : ∀ a b, R a p.1 -> R b p.2 -> G [a, b]) : G l :=
 (aCs (G := fun m => aY R l m -> G l) e fun r => aY.cons_r r fun a l h r => aY.cons_r r fun b l h' r => aY.nil_r r (k a b h h')) r
@[elab_as_elim] theorem iV {G : List α -> Prop} {l : List α} {m : List β} {f : β -> Option γ} {z : γ} (r : aY R l m) (e : (hd1 m).bind f = some z) (k : ∀ a b, R a b -> f b = some z -> G [a]) : G l :=
 aL e fun b h e => aAz r h fun a h => k a b h e
end
theorem aCE {ds : List PyData} {pvs : List Value} (r : aM S g pvs ds) : ∀ {ns : List Int}, iT ds = some ns -> ∃ xs : List (Int × Tok), pvs = xs.map (fun p => Value.int p.1 p.2) /\ xs.map (·.1) = ns :=
 (fG.mp r).ind (G := fun pvs ds => ∀ {ns : List Int}, iT ds = some ns -> ∃ xs : List (Int × Tok), pvs = xs.map (fun p => Value.int p.1 p.2) /\ xs.map (·.1) = ns) (fun e => ⟨[], rfl, Option.some.inj e⟩)
  fun a b l m h _ q {ns} e => aL (f := fun i => (iT m).map (i :: ·)) e fun i e1 e => cV e fun ms e2 z => (q e2).elim fun xs y => jL h e1 fun t => ⟨(i, t) :: xs, by rw [y.1]; rfl, z ▸ congrArg (i :: ·) y.2⟩
theorem aCC {vs : Array Value} {xs : List (Int × Tok)} (h : vs.toList = xs.map (fun p => Value.int p.1 p.2)) : vs = intItems xs.toArray := by
 apply Array.ext'
 rw [h]; simp [intItems]
theorem aCY : ∀ (r : List Int) (m i : Int), jS m (r ++ [i]) = if i > jS m r then i else jS m r
 | [], m, i => rfl
 | j :: r, m, i => by
  show jS _ (r ++ [i]) = _
  rw [aCY r]; rfl
theorem aBy (xs : List (Int × Tok)) : ∀ (k : Nat), k < xs.length -> ∃ i r, (xs.map (·.1)).take (k + 1) = i :: r /\ numAt xs.toArray (argBest (fun i j => decide (numAt xs.toArray i > numAt xs.toArray j)) k) = jS i r /\
  argBest (fun i j => decide (numAt xs.toArray i > numAt xs.toArray j)) k <= k
 | 0, h => by
  cases xs with
  | nil => simp at h
  | cons p r => exact ⟨p.1, [], rfl, rfl, Nat.le_refl _⟩
 | k + 1, h => by
  obtain ⟨i, r, h1, h2, h3⟩ := aBy xs k (by omega)
  have hk : (xs.map (·.1))[k + 1]? = some (numAt xs.toArray (k + 1)) := by
   simp [numAt, List.getElem?_eq_getElem h]
  refine ⟨i, r ++ [numAt xs.toArray (k + 1)], ?_, ?_, ?_⟩
  ·rw [List.take_add_one, h1, hk]; rfl
  ·rw [aCY]
   unfold argBest
   rw [h2]
   by_cases q : numAt xs.toArray (k + 1) > jS i r
   ·rw [if_pos (by simpa using q), if_pos q]
   ·rw [if_neg (by simpa using q), if_neg q]; exact h2
  ·unfold argBest
   split <;> omega
theorem aDI (xs : List (Int × Tok)) : ∀ k, k <= xs.length -> preSum (numAt xs.toArray) k = ((xs.map (·.1)).take k).sum
 | 0, _ => rfl
 | k + 1, h => by
  have hk : (xs.map (·.1))[k]? = some (numAt xs.toArray k) := by
   simp [numAt, List.getElem?_eq_getElem (show k < xs.length by omega)]
  show preSum _ k + _ = _
  rw [aDI xs k (by omega), List.take_add_one, hk, List.sum_append]
  simp
theorem lI {hb : Bool} {n : Nat} {A : Around} {c : Cx} {g : Heap} (x : aX hb n A c g) (h : hb = false) : A.handled = none := by
 have := x.hand; rw [h] at this; exact this
section
variable {pv : Value} {x : PyData} {xs : List PyData} {is : List Int}
theorem aFa {k : Nat} (I : aF S c g s.heap mv ρ σ) (r : RH S g s.heap pv x) (h : aCT x = some k) (hk : k < 2 ^ 62) (P : aH S (VR S) c g mv ρ s Q E (.ok (.d (.int k)) σ)) : wpAny (model S.prog S.w) A (call (.builtin "len") [pv]) Q E s := by
 refine toks (dR h (fun h => cV h fun xs e q => lW r e fun a vs h0 h2 => ?_) fun h => dR h (fun h => cV h fun xs e q => tA r e fun a vs h0 h2 => ?_) fun h => cV h fun xs e q => iW r e fun t => ?_)
 ·have hn : vs.size = xs.length := aM.length h2
  exact call_len_list h0.isList (by omega) fun kt => P.same I (VR.int' (by rw [hn, q])) kt
 ·have hn : vs.size = xs.length := aM.length h2
  exact PyProof.Rows.len_tuple (lN h0 I.stays) (by omega) fun kt => P.same I (VR.int' (by rw [hn, q])) kt
 ·exact PySem.P.len_str (by omega) fun kt => P.same I (VR.int' (by rw [q])) kt
theorem aFb {i : Int} {a : Addr} {vs : Array Value} (hh : A.handled = none) (I : aF S c g s.heap mv ρ σ) (h0 : IsL s.heap a vs) (h2 : aM S g vs.toList xs) (e : iT xs = some (i :: is)) (P : aH S (VR S) c g mv ρ s Q E (.ok (.d (.int (jS i is))) σ)) :
  wpAny (model S.prog S.w) A (call (.builtin "max") [.ref a]) Q E s := by
 obtain ⟨xs, hx1, hx2⟩ := aCE h2 e
 obtain rfl := aCC hx1
 have hlen : 0 < xs.length := by
  have : (xs.map (·.1)).length = is.length + 1 := by rw [hx2]; rfl
  rw [List.length_map] at this; omega
 refine toks (max_intList hh h0.isList (by simpa using hlen) fun v h' tk hv hk kt => ?_)
 obtain ⟨j, r', q1, q2, q3⟩ := aBy xs (xs.length - 1) (by omega)
 rw [show xs.length - 1 + 1 = xs.length by omega, List.take_of_length_le (by simp), hx2] at q1
 obtain ⟨rfl, rfl⟩ := List.cons.inj q1
 simp only [List.size_toArray] at hv
 obtain ⟨t, rfl⟩ := intItems_at hv
 rw [q2]
 exact P.more I (fun a o e => hk a o e) (fun _ _ _ => VR.int _ t) kt
theorem aFe {a : Addr} {vs : Array Value} (hh : A.handled = none) (I : aF S c g s.heap mv ρ σ) (h0 : IsL s.heap a vs) (h2 : aM S g vs.toList xs) (e : iT xs = some is) (P : aH S (VR S) c g mv ρ s Q E (.ok (.d (.int is.sum)) σ)) :
  wpAny (model S.prog S.w) A (call (.builtin "sum") [.ref a]) Q E s := by
 obtain ⟨xs, hx1, hx2⟩ := aCE h2 e
 obtain rfl := aCC hx1
 refine toks (sum_intListG hh h0.isList fun h' tk t hk kt => ?_)
 rw [show xs.toArray.size = xs.length from by simp, aDI xs _ (Nat.le_refl _), List.take_of_length_le (by simp), hx2]
 exact P.more I (fun a o e => hk a o e) (fun _ _ _ => VR.int _ t) kt
theorem aFc {a : Addr} {vs : Array Value} (H : aX hb n A c g) (I : aF S c g s.heap mv ρ σ) (h0 : g.IsTuple a vs) (h2 : aM S g vs.toList xs) (hs : PyData.showableAll xs = true) (hf : nX xs = true) (hd : PyData.hasDictAll xs = false) (hl : (PyData.shown (.tuple xs)).length <= 65536)
  (P : aH S (VR S) c g mv ρ s Q E (.ok (.d (.str (PyData.shown (.tuple xs)))) σ)) : wpAny (model S.prog S.w) A (call (.builtin "repr") [.ref a]) Q E s := by
 have hu := H.units
 have hdp := of_decide_eq_true (aA hf).2
 obtain ⟨as, R3⟩ := (RD.mono I.stays (RD.tuple h0 h2)).reads (aA hf).1
 refine toks (repr_of_reads' R3 hs (fun q => ?_) H.guards ?_ (fun _ _ e => e) (fun h' u tk hk kt => ?_) (Nat.le_trans hl sz))
 ·rw [show PyData.hasDict (.tuple xs) = PyData.hasDictAll xs from rfl, hd] at q; cases q
 ·have : PyData.depth (.tuple xs) = PyData.depthAll xs + 1 := by simp [PyData.depth]
  omega
 ·exact P.more I (fun a o e => hk a o e) (fun _ _ _ => VR.str _ u) kt
theorem aE8 {b : Int} {x : Str} {k : Nat} {t u : Tok} (I : aF S c g s.heap mv ρ σ) (hl : b = 16 /\ 0 < x.length /\ x.length <= 8) (e : iS 0 x.cps.toList = some k) (P : aH S (VR S) c g mv ρ s Q E (.ok (.d (.int (k : Int))) σ)) :
  wpAny (model S.prog S.w) A (call (.type "int") [.str x t, .int b u]) Q E s := by
 obtain ⟨rfl, h1, h2⟩ := hl
 exact toks (callType_new F.called_int F.newNe_int (aLV _ _) (aIM _ _) (fun obj => F.args_object_init_3 obj _ _) F.entry_int_new (aGT h1 h2 e).meets
  (show (Made.int _).post _ s from ⟨rfl, fun kt => P.same I (VR.int _ _) kt⟩))
end
theorem aFd {b : Bi} {vs : List aB} {pvs : List Value} {v : aB} (e : dT hb b vs σ = some v) (hnv : b ≠ .vals) (I : aF S c g s.heap mv ρ σ) (r : cR S g ρ pvs vs) (H : aX hb n A c g)
  (P : aH S (VR S) c g mv ρ s Q E (.ok v σ)) : wpAny (model S.prog S.w) A (call (nL b) pvs) Q E s := by
 refine bO e fun hbb e => aL e fun ds hds e => cV e fun z hz q => ?_
 have P : aH S (VR S) c g mv ρ s Q E (.ok (.d z) σ) := q ▸ P
 have R := aAP I r hds
 have hh : quiet b = false -> A.handled = none := fun q => lI H (by rw [q, Bool.or_false] at hbb; exact fE hbb)
 clear e hbb q
 cases b with
 | len => exact aL hz fun x e1 e => aAz R e1 fun pv r => aL e fun k e2 e => bO e fun hk e => aFa I r e2 hk (P.of e)
 | str => exact aL hz fun a e1 e => iV R e1 fun pv x r e2 => bO e fun hl e => aAN r e2 fun t => toks (PySem.P.str_of_int hl fun kt => (P.of e).same I (VR.str _ _) kt)
 | int =>
  exact dR hz (fun e => aL e fun x e1 e => iV R e1 fun pv y r e2 => bO e fun hl e => cV e fun i e3 q => iW r e2 fun t => toks (KIN.call_text e3 hl fun kt => (P.of (congrArg some q)).same I (VR.int _ _) kt))
   fun e => aL e fun p e1 e => aL e fun x e2 e => aL e fun b e3 e => bO e fun hl e => cV e fun k e4 q => aBe R e1 fun pv pw r1 r2 => iW r1 e2 fun t => aAN r2 e3 fun u => aE8 I hl e4 (P.of (congrArg some q))
 | max =>
  refine aL hz fun xs e1 e => iV R e1 fun pv y r e2 => aL e fun is e3 e => lW r e2 fun a vs h0 h2 => ?_
  cases is with
  | nil => exact dL e
  | cons i is => exact aFb (hh rfl) I h0 h2 e3 (P.of e)
 | sum => exact aL hz fun xs e1 e => iV R e1 fun pv y r e2 => cV e fun is e3 q => lW r e2 fun a vs h0 h2 => aFe (hh rfl) I h0 h2 e3 (P.of (congrArg some q))
 | tuple =>
  refine aL hz fun xs e1 e => iV R e1 fun pv y r e2 => bO e fun hl e => lW r e2 fun a vs h0 h2 => toks (call_tuple_list h0.isList (fun h' hk kt => ?_) (by have := sz; have : vs.size = xs.length := aM.length h2; omega))
  exact (P.of e).newTuple I (fun a o e => Heap.get?_push_of_some _ (hk a o e)) (gT (fun a o e => hk a o e) (eR h')) ⟨_, Heap.get?_push_size _ rfl, rfl, _, rfl⟩ h2 kt
 | repr => exact aL hz fun xs e1 e => iV R e1 fun pv y r e2 => bO e fun hl e => tA r e2 fun a vs h0 h2 => aFc H I h0 h2 (aA (aA (aA hl).1).1).1 (aA (aA (aA hl).1).1).2 (fE (aA (aA hl).1).2) (of_decide_eq_true (aA hl).2) (P.of e)
 | vals => exact absurd rfl hnv
end
end PQ
namespace PQ
noncomputable def sO : Me -> String
 | .strip => "str.strip" | .split => "str.split" | .find => "str.find" | .replace => "str.replace" | .join => "str.join"
 | .append => "list.append" | .pop => "list.pop" | .index => "list.index" | .get => "dict.get" | .update => "dict.update"
noncomputable def sP (m : Me) : String := match zX m with
 | .str => "str" | .list => "list" | .dict => "dict"
theorem aIi : ∀ m, PlainAttrs (sP m)
 | .strip | .split | .find | .replace | .join => PySem.F.plainAttrs_str
 | .append | .pop | .index => PySem.F.plainAttrs_list
 | .get | .update => PySem.F.plainAttrs_dict
theorem aIk : ∀ m, Slot (sP m) (vK m) (sO m)
 | .strip => PySem.F.slot_str_strip | .split => PySem.F.slot_str_split | .find => PySem.F.slot_str_find | .replace => PySem.F.slot_str_replace | .join => PySem.F.slot_str_join
 | .append => PySem.F.slot_list_append | .pop => PySem.F.slot_list_pop | .index => PySem.F.slot_list_index | .get => PySem.F.slot_dict_get | .update => PySem.F.slot_dict_update
theorem aIl : ∀ m, typeOf (.builtin (sO m)) = pure (.type "method_descriptor")
 | .strip => PySem.F.type_str_strip | .split => PySem.F.type_str_split | .find => PySem.F.type_str_find | .replace => PySem.F.type_str_replace | .join => PySem.F.type_str_join
 | .append => PySem.F.type_list_append | .pop => PySem.F.type_list_pop | .index => PySem.F.type_list_index | .get => PySem.F.type_dict_get | .update => PySem.F.type_dict_update
section
variable {S : SP} {c : Cx} {g h : Heap} {mv : Str -> Option Value} {ρ : List Addr} {σ σ' : aG} {A : Around} {E : Value -> Shared -> Prop} {s : Shared} {Q : Value -> Shared -> Prop} {hb : Bool} {n : Nat}
theorem wH : (16777216 : Nat) <= sizeLine := by decide
theorem mO {α : Type} {P : Prop} {o : Option α} (h : o.isSome = true) (k : ∀ a, o = some a -> P) : P := by
 cases o with
 | none => exact bK h
 | some a => exact k a rfl
theorem iB {P : Prop} {a b : Bool} (h : (a || b) = true) (l : a = true -> P) (r : b = true -> P) : P := (Bool.or_eq_true_iff.mp h).elim l r
theorem aGA {m : Me} {vo : aB} {pa : Value} (f : mK m vo σ = true) (I : aF S c g s.heap mv ρ σ) (ra : VR S g ρ pa vo) :
  s.TypeIs pa (sP m) /\ ∀ a, pa = .ref a -> ∃ ob, s.heap.get? a = some ob /\ ob.dict = none := by
 have dic : ∀ {a pvs}, s.heap.DictOf (PySem.strKind S.prog S.w) a pvs -> s.TypeIs (.ref a) "dict" /\ ∀ b, Value.ref a = .ref b -> ∃ ob, s.heap.get? b = some ob /\ ob.dict = none :=
  fun x => x.elim fun o x => x.elim fun es x => x.elim fun ep x => ⟨⟨o, x.1, x.2.1.1⟩, fun b e => Value.ref.inj e ▸ ⟨o, x.1, x.2.1.2.1⟩⟩
 unfold mK at f
 unfold sP
 cases hk : zX m <;> rw [hk] at f
 ·exact mO f fun x e => aL e fun d e1 e2 => kC (fO ra e1) e2 fun t => ⟨typeIs_str _ _ _, fun a e => nomatch e⟩
 ·exact iB f (fun f => mO f fun x e => aL e fun d e1 e2 => oX (fO ra e1) e2 fun a vs h _ => (uY h I.stays).elim fun o x => ⟨⟨o, x.1, x.2.1⟩, fun b e => Value.ref.inj e ▸ ⟨o, x.1, x.2.2.1⟩⟩)
   fun f => mO f fun x e => aBz I ra e fun a vs h _ => h.elim fun k e => ⟨⟨_, e, rfl⟩, fun b q => Value.ref.inj q ▸ ⟨_, e, rfl⟩⟩
 ·exact iB f (fun f => mO f fun x e => aL e fun d e1 e2 => tT (fO ra e1) e2 fun a vs h _ _ => dic (nS h I.stays)) fun f => mO f fun x e => xH I ra e fun a pvs h _ _ => dic h
theorem aIp {m : Me} {vo : aB} {pa : Value} {pos : Pos} {trees : List (Bool × Sem Value)} (f : mK m vo σ = true) (I : aF S c g s.heap mv ρ σ) (ra : VR S g ρ pa vo)
  (h : wpAny (model S.prog S.w) A (callWith pos (.builtin (sO m)) [pa] trees []) Q E s) : MethodOn S.prog S.w A (vK m) pos pa trees Q E s :=
 have q := aGA f I ra
 ⟨sP m, sO m, aIi m, aIk m, aIl m, q.1, q.2, h⟩
theorem aA0 {ds : List PyData} {pvs : List Value} (r : aM S g pvs ds) : ∀ {ns : List Str}, kT ds = some ns -> ∃ xs : List (Str × Tok), pvs = strValues xs /\ xs.map (·.1) = ns :=
 (fG.mp r).ind (G := fun pvs ds => ∀ {ns : List Str}, kT ds = some ns -> ∃ xs : List (Str × Tok), pvs = strValues xs /\ xs.map (·.1) = ns) (fun e => ⟨[], rfl, Option.some.inj e⟩)
  fun a b l m h _ q {ns} e => aL (f := fun i => (kT m).map (i :: ·)) e fun i e1 e => cV e fun ms e2 z => (q e2).elim fun xs y => kC h e1 fun t => ⟨(i, t) :: xs, by rw [y.1]; rfl, z ▸ congrArg (i :: ·) y.2⟩
theorem aLC : ∀ (xs : List (Str × Tok)), aM S g (strValues xs) ((xs.map (·.1)).map .str) := fun xs => by
 induction xs with
 | nil => trivial
 | cons p r ih => exact ⟨⟨p.2, rfl⟩, ih⟩
theorem aLp {x y : Str} {t u : Tok} (hy : y.length ≠ 0) (hl : x.length <= 65536)
  (h : ∀ (l : List (Str × Tok)) tk, l.map (·.1) = Txt.split x y -> s.toks <= tk -> Q (.ref s.heap.objs.size) { s with toks := tk, heap := s.heap.push { cls := .type "list", data := .seq (strValues l).toArray } }) :
  wpAny (model S.prog S.w) A (call (.builtin "str.split") [.str x t, .str y u]) Q E s := by
 have hsz := Nat.le_trans hl sz
 have hy' : (y.length == 0) = false := beq_eq_false_iff_ne.mpr hy
 have hsz2 : (Builtin.Str.partsBetween x (Builtin.Str.occurrences x y 0 x.length (x.length + 1)) y.length).length <= sizeLine := by
  rw [length_partsBetween]
  have := StrLaws.occ_length_le x y 0 x.length (x.length + 1)
  have : (16777216 : Nat) <= sizeLine := by decide
  omega
 cases h1 : (decide (x.length < y.length) || decide (PySem.Builtin.Str.strKind x < PySem.Builtin.Str.strKind y))
 ·cases hf : (Builtin.Str.occurrences x y 0 x.length (x.length + 1)).isEmpty
  ·refine call_meets PySem.F.slot_str_split (typeIs_str _ _ _) PySem.F.entry_str_split (PySem.F.args_str_split_2 _ _) (meets_str_split_sep x y t u h1 hy' hf hsz hsz2) ?_
   rw [strsFrom_eq]
   exact h (numbered s.toks _) _ ((numbered_texts _ _).trans ((if_neg (Bool.eq_false_iff.mp h1)).trans (if_neg (Bool.eq_false_iff.mp hf))).symm) (Nat.le_add_right _ _)
  ·exact call_meets PySem.F.slot_str_split (typeIs_str _ _ _) PySem.F.entry_str_split (PySem.F.args_str_split_2 _ _) (meets_str_split_not_found x y t u h1 hy' hf)
    (h [(x, t)] _ ((if_neg (Bool.eq_false_iff.mp h1)).trans (if_pos hf)).symm (Nat.le_refl _))
 ·exact call_meets PySem.F.slot_str_split (typeIs_str _ _ _) PySem.F.entry_str_split (PySem.F.args_str_split_2 _ _) (meets_str_split_cannot_occur x y t u h1)
   (h [(x, t)] _ (if_pos h1).symm (Nat.le_refl _))
theorem aJX {x y z : Str} {t u v : Tok} (hu : u ≠ 0) (hv : v ≠ 0) (huv : u ≠ v) (hl : (y == z) = false /\ x.length <= 65536 /\ z.length <= 14) (I : aF S c g s.heap mv ρ σ)
  (P : aH S (VR S) c g mv ρ s Q E (.ok (.d (.str (Txt.replace x y z))) σ)) : wpAny (model S.prog S.w) A (call (.builtin "str.replace") [.str x t, .str y u, .str z v]) Q E s := by
 refine toks (SC.replace hu hv huv hl.1 ?_ fun t' k kt => P.same I (VR.str _ t') kt)
 have : (x.length + 1) * z.length <= 65537 * 14 := Nat.mul_le_mul (by omega) hl.2.2
 omega
theorem aH.put {v : aB} {pv : Value} {tk l : Nat} {a : Addr} {ob : Obj} {o : bN} {h' : Heap} (P : aH S (VR S) c g mv ρ s Q E (.ok v (σ.set l o))) (I : aF S c g s.heap mv ρ σ)
  (ha : ρ[l]? = some a) (hs : Heap.SameBut a s.heap h') (e : h'.get? a = some ob) (ho : StR S g h' ρ a o) (hw : ∀ kvs, o = .dct kvs -> ∀ kv ∈ kvs, jR l kv.2)
  (r : VR S g ρ pv v) (kt : s.toks <= tk) : Q pv { s with heap := h', toks := tk } :=
 P.2 g ρ pv h' tk kt (bU _) (aQ.refl _) (I.put ha hs e ho hw) r
theorem aHb {y : Str} : ∀ {ts : List Str} {i k : Nat}, lJ y ts i = some k -> ∃ j, k = i + j /\ ts[j]? = some y /\ ∀ m, m < j -> ts[m]? ≠ some y := by
 intro ts
 induction ts with
 | nil => intro i k e; exact dL e
 | cons x r ih =>
  intro i k e
  unfold lJ at e
  by_cases hx : x = y
  ·rw [if_pos hx] at e; exact ⟨0, (Option.some.inj e).symm, congrArg some hx, fun m hm => absurd hm (Nat.not_lt_zero m)⟩
  ·rw [if_neg hx] at e
   obtain ⟨j, h1, h2, h3⟩ := ih e
   exact ⟨j + 1, by omega, h2, fun m hm => Nat.casesOn (motive := fun m => m < j + 1 -> (x :: r)[m]? ≠ some y) m (fun _ q => hx (Option.some.inj q)) (fun m hm => h3 m (by omega)) hm⟩
theorem aEl {l : List (Str × Value)} {k : Str} {pv : Value} (h : (valueAt l k).isSome = false) : PySem.stored l k pv = l ++ [(k, pv)] := by
 unfold PySem.stored
 have : (l.any fun kv => decide (kv.1 = k)) = false := by
  cases q : (l.any fun kv => decide (kv.1 = k)) with
  | false => rfl
  | true =>
   rw [List.any_eq_true] at q
   obtain ⟨x, hx, hk⟩ := q
   unfold valueAt at h
   rw [Option.isSome_map] at h
   have : (l.find? fun kv => decide (kv.1 = k)).isSome = true := List.find?_isSome.mpr ⟨x, hx, hk⟩
   rw [h] at this; cases this
 rw [this]; rfl
theorem cQ.stored {k : Str} {pv : Value} {v : aB} (hv : VR S g ρ pv v) {pvs : List (Str × Value)} {kvs : List (Str × aB)} (h : cQ S g ρ pvs kvs) (hn : (pvs.map (·.1)).Nodup) : cQ S g ρ (PySem.stored pvs k pv) (kR k v kvs) := by
 have key : ∀ (l : List (Str × Value)), k ∉ l.map (·.1) -> l.map (fun kv => if kv.1 = k then (kv.1, pv) else kv) = l := fun l hl => by
  induction l with
  | nil => rfl
  | cons q l ih' =>
   rw [List.map_cons, List.mem_cons, not_or] at hl
   rw [List.map_cons, if_neg (Ne.symm hl.1), ih' hl.2]
 unfold PySem.stored
 refine aY.ind (R := fun (p : Str × Value) (q : Str × aB) => p.1 = q.1 /\ VR S g ρ p.2 q.2) (G := fun pvs kvs => (pvs.map (·.1)).Nodup -> cQ S g ρ (if (pvs.any fun kv => decide (kv.1 = k)) = true then pvs.map fun kv => if kv.1 = k then (kv.1, pv) else kv else pvs ++ [(k, pv)]) (kR k v kvs)) h (fun _ => ⟨⟨rfl, hv⟩, trivial⟩) (fun p q l m h hr ih hn => ?_) hn
 rw [List.map_cons, List.nodup_cons] at hn
 show cQ S g ρ (if (decide (p.1 = k) || l.any fun kv => decide (kv.1 = k)) = true then _ else _) (if q.1 = k then (q.1, v) :: m else q :: kR k v m)
 rw [<- h.1]
 by_cases hx : p.1 = k
 ·rw [if_pos hx, decide_eq_true hx, Bool.true_or, if_pos rfl, List.map_cons, if_pos hx, key l (hx ▸ hn.1)]
  exact ⟨⟨rfl, hv⟩, hr⟩
 ·rw [if_neg hx, decide_eq_false hx, Bool.false_or]
  have z := ih hn.2
  by_cases q' : (l.any fun kv => decide (kv.1 = k)) = true
  ·rw [if_pos q'] at z ⊢; rw [List.map_cons, if_neg hx]; exact ⟨h, z⟩
  ·rw [if_neg q'] at z ⊢; exact ⟨h, z⟩
theorem cQ.merge {jvs : List (Str × aB)} {qvs : List (Str × Value)} (q : cQ S g ρ qvs jvs) : ∀ {kvs r : List (Str × aB)} {pvs : List (Str × Value)}, nF kvs jvs = some r -> cQ S g ρ pvs kvs -> cQ S g ρ (merged pvs qvs) r :=
 aY.ind (R := fun (p : Str × Value) (q : Str × aB) => p.1 = q.1 /\ VR S g ρ p.2 q.2) (G := fun qvs jvs => ∀ {kvs r : List (Str × aB)} {pvs : List (Str × Value)}, nF kvs jvs = some r -> cQ S g ρ pvs kvs -> cQ S g ρ (merged pvs qvs) r) q
  (fun e h => jI (G := cQ S g ρ _) e h) fun p q l m h _ ih {kvs r pvs} e hk => bO (o := nF (kvs ++ [q]) m) e fun hs e => by
   show cQ S g ρ (merged (PySem.stored pvs p.1 p.2) l) r
   have hs' : (valueAt pvs p.1).isSome = false := by rw [(cQ.look p.1 hk).2, h.1]; exact Option.isSome_eq_false_iff.mpr hs
   rw [aEl hs']
   exact ih e (aY.append hk ⟨h, trivial⟩)
theorem aL2 : ∀ {jvs kvs r : List (Str × aB)} {p : Str × aB}, nF kvs jvs = some r -> p ∈ r -> p ∈ kvs \/ p ∈ jvs := by
 intro jvs
 induction jvs with
 | nil => intro kvs r p e h; exact .inl (Option.some.inj e ▸ h)
 | cons q jr ih =>
  intro kvs r p e h
  refine bO (o := nF (kvs ++ [q]) jr) e fun _ e => (ih e h).elim (fun y => (List.mem_append.mp y).elim .inl fun y => .inr ?_) fun y => .inr (.tail _ y)
  rw [List.mem_singleton.mp y]; exact .head _
theorem aIQ {v : aB} {n : Nat} (h : aAk v = true) : jR n v := by
 cases v <;> first | trivial | exact bK h
theorem aAD {h : Heap} {l : Addr} {items : Array Value} {n : Nat} (e : h.get? l = some { cls := .type "list", data := .seq items n }) (f : Array Value -> Array Value) :
  (h.update l (Obj.mapSeq f)).PlainList l (f items) /\ Heap.SameBut l h (h.update l (Obj.mapSeq f)) := by
 obtain ⟨n', hd'⟩ := Obj.data_mapSeq (o := { cls := .type "list", data := .seq items n }) rfl f
 refine ⟨⟨n', ?_⟩, Heap.SameBut.update ..⟩
 rw [Heap.get?_update_self _ e (Obj.isFreed_of_seq hd')]
 congr 1
 have : (Obj.mapSeq f { cls := .type "list", data := .seq items n }).data = .seq (f items) n' := hd'
 generalize q : Obj.mapSeq f { cls := .type "list", data := .seq items n } = ob at this ⊢
 have h1 : ob.cls = .type "list" := by rw [<- q]; rfl
 have h2 : ob.dict = none := by rw [<- q]; rfl
 have h3 : ob.slots = #[] := by rw [<- q]; rfl
 obtain ⟨c, d, dt, sl⟩ := ob
 simp only at this h1 h2 h3
 subst this h1 h2 h3; rfl
theorem aGS {k : Str} {z : PyData} {pw : Value} {pus : List (Str × Value)} {kvs : List (PyData × PyData)} (h3 : dJ S g pus kvs) (R2 : RD S g pw z) : RD S g ((valueAt pus k).getD pw) ((fS k kvs).getD z) := by
 have q := dJ.look k h3
 cases hk : fS k kvs with
 | none =>
  rw [hk] at q
  rw [show valueAt pus k = none by simpa using q.2]; exact R2
 | some v => exact (q.1 v hk).elim fun pv y => by rw [y.1]; exact y.2
section
variable {l : Nat} {a : Addr} {x : PyData} {xs : List PyData} {pv : Value}
theorem aIf (I : aF S c g s.heap mv ρ σ) (hx : fZ σ l = some xs) (ha : ρ[l]? = some a) (rx : RD S g pv x) (hl : xs.length <= 100000) (P : aH S (VR S) c g mv ρ s Q E (.ok (.d .none) (σ.set l (.lst (xs ++ [x]))))) :
  wpAny (model S.prog S.w) A (call (.builtin "list.append") [.ref a, pv]) Q E s := by
 refine (I.st _ _ _ (sM hx) ha).elim fun us y => y.1.elim fun k he => ?_
 have hn : us.size = xs.length := aM.length y.2
 have q := aAD he (fun x_1 => x_1.push pv)
 refine toks (call_meets PySem.F.slot_list_append ⟨_, he, rfl⟩ PySem.F.entry_list_append (PySem.F.args_list_append_2 _ _) (AutoListH.list_append_list_val_0 a us k pv (by have := wH; omega)) ⟨he, fun kt => ?_⟩)
 exact q.1.elim fun k' e => P.put I ha q.2 e ⟨_, q.1, by simpa using aM.append y.2 (aM.cons rx aM.nil)⟩ (fun _ q => nomatch q) VR.none kt
theorem aIj {t : Tok} (I : aF S c g s.heap mv ρ σ) (hx : fZ σ l = some (x :: xs)) (ha : ρ[l]? = some a) (hl : xs.length <= 100000) (P : aH S (VR S) c g mv ρ s Q E (.ok (.d x) (σ.set l (.lst xs)))) :
  wpAny (model S.prog S.w) A (call (.builtin "list.pop") [.ref a, .int 0 t]) Q E s := by
 refine (I.st _ _ _ (sM hx) ha).elim fun us y => y.1.elim fun k he => ?_
 obtain ⟨ul⟩ := us
 refine aY.cons_r (G := fun ul => s.heap.get? a = some { cls := .type "list", data := .seq ⟨ul⟩ k } -> wpAny (model S.prog S.w) A (call (.builtin "list.pop") [.ref a, .int 0 t]) Q E s) (fG.mp y.2) (fun y ys hy hys he => ?_) he
 have hn : ys.length = xs.length := hys.length
 have q := aAD he (fun x_1 => x_1.eraseIdxIfInBounds 0)
 refine toks (call_meets PySem.F.slot_list_pop ⟨_, he, rfl⟩ PySem.F.entry_list_pop (PySem.F.args_list_pop_2 _ _) (MeetsSeq.list_pop_at a _ k 0 _ 0 y (by decide) (seqIndex_of (by decide) (by simp)) rfl (by have := wH; simp; omega)) ⟨he, fun kt => ?_⟩)
 refine q.1.elim fun k' e => P.put I ha q.2 e ⟨_, q.1, ?_⟩ (fun _ q => nomatch q) hy kt
 simpa [Array.eraseIdxIfInBounds] using fG.mpr hys
theorem aIm {kvs jvs r : List (Str × aB)} {j : Nat} {b : Addr} (I : aF S c g s.heap mv ρ σ) (hx : hZ σ l = some kvs) (hj : hZ σ j = some jvs) (ha : ρ[l]? = some a) (hb : ρ[j]? = some b)
  (hl : l ≠ j /\ (jvs.all fun p => aAk p.2) = true /\ kvs.length + jvs.length <= 1000) (hz : nF kvs jvs = some r) (P : aH S (VR S) c g mv ρ s Q E (.ok (.d .none) (σ.set l (.dct r)))) :
  wpAny (model S.prog S.w) A (call (.builtin "dict.update") [.ref a, .ref b]) Q E s := by
 refine (I.st _ _ _ (pE hx) ha).elim fun pus y => (I.st _ _ _ (pE hj) hb).elim fun qus z => ?_
 have hab : a ≠ b := fun q => hl.1 ((List.getElem?_inj (List.getElem?_eq_some_iff.mp ha).1 (List.nodup_append.mp I.nd).1).mp (ha.trans (q ▸ hb.symm)))
 have n1 := cQ.length y.2.2
 have n2 := cQ.length z.2.2
 refine toks (call_meetsIn PySem.F.slot_dict_update y.1.typeIs PySem.F.entry_dict_update (PySem.F.args_dict_update_2 _ _) (meets_dict_update (strKind S.prog S.w) a b hab z.2.1) ⟨pus, qus, y.1, z.1, (by have := wH; omega), fun h' k1 k2 k3 kt => ?_⟩)
 exact k1.elim fun ob e => e.elim fun _ e => e.elim fun _ e => P.put I ha k3 e.1 ⟨_, k1, y.2.1, cQ.merge z.2.2 hz y.2.2⟩ (fun kvs' q p hp => (aL2 hz (bN.dct.inj q ▸ hp)).elim (I.wf _ _ (pE hx) p) fun q => aIQ (List.all_eq_true.mp hl.2.1 p q)) VR.none kt
theorem aIh {x : Str} {ts : List Str} {xs : List (Str × Tok)} {t : Tok} (I : aF S c g s.heap mv ρ σ) (h0 : s.heap.IsTuple a (strValues xs).toArray) (hl : JoinOk x (xs.map (·.1)) = true) (P : aH S (VR S) c g mv ρ s Q E (.ok (.d (.str (Txt.join x (xs.map (·.1))))) σ)) :
  wpAny (model S.prog S.w) A (call (.builtin "str.join") [.str x t, .ref a]) Q E s := by
 unfold JoinOk at hl
 rw [Bool.not_eq_true'] at hl
 exact h0.elim fun o y => y.2.2.elim fun n hd => toks (call_meets PySem.F.slot_str_join (typeIs_str _ _ _) PySem.F.entry_str_join (PySem.F.args_str_join_2 _ _) (meets_str_join_tuple _ _ _ xs hl) ⟨⟨o, n, y.1, y.2.1, hd⟩, post_join xs ⟨joinFit_length hl, fun t' k kt => P.same I (VR.str _ t') kt⟩⟩)
theorem aIg {y : Str} {xs : List (Str × Tok)} {j : Nat} {t : Tok} (I : aF S c g s.heap mv ρ σ) (h0 : IsL s.heap a (strValues xs).toArray) (hl : xs.length <= 65536) (hj : lJ y (xs.map (·.1)) 0 = some j) (P : aH S (VR S) c g mv ρ s Q E (.ok (.d (.int (j : Int))) σ)) :
  wpAny (model S.prog S.w) A (call (.builtin "list.index") [.ref a, .str y t]) Q E s := by
 obtain ⟨j', hj', q1, q2⟩ := aHb hj
 obtain rfl : j = j' := by omega
 obtain ⟨⟨cls, dd, data, sl⟩, ho, hc, hd0, n, hd⟩ := h0
 simp only at hc hd hd0
 subst hc hd hd0
 have hjs : j < xs.length := by have := (List.getElem?_eq_some_iff.mp q1).1; simpa using this
 have hAt : ∀ i (hi : i < xs.length), (strValues xs).toArray[i]'(by simpa [strValues] using hi) = .str xs[i].1 xs[i].2 := fun i hi => by simp [strValues]
 refine toks (call_meets PySem.F.slot_list_index ⟨_, ho, rfl⟩ PySem.F.entry_list_index (PySem.F.args_list_index_2 _ _)
  (SeqAt.list_indexAt a _ n none sl (.str y t) (isStrOf y) j (by simpa [strValues] using hjs) (by have := wH; omega) ?_ ?_) ⟨ho, fun w hw => ?_, fun kt => P.same I (VR.int _ _) kt⟩)
 ·rw [hAt j hjs]
  have : xs[j].1 = y := by have := (List.getElem?_eq_some_iff.mp q1).2; simpa using this
  simp [isStrOf, this]
 ·intro i hi hlt
  have hi' : i < xs.length := by simpa [strValues] using hi
  rw [hAt i hi']
  have := q2 i hlt
  rw [List.getElem?_map, List.getElem?_eq_getElem hi'] at this
  simp only [Option.map_some, ne_eq, Option.some.injEq] at this
  simp [isStrOf, this]
 ·have : w ∈ strValues xs := by simpa using hw
  unfold strValues at this
  obtain ⟨p, _, rfl⟩ := List.mem_map.mp this
  have q := (eqGives_str p.1 y p.2 t).at A.in1 s
  simpa [isStrOf] using q
end
theorem pU {m : Me} {vo v : aB} {vs : List aB} {pa : Value} {pvs : List Value} {P' : Prop} (e : mS m vo vs σ = some (v, σ')) (I : aF S c g s.heap mv ρ σ) (ra : VR S g ρ pa vo) (r : cR S g ρ pvs vs) (P : aH S (VR S) c g mv ρ s Q E (.ok v σ'))
  (k : ∀ x ds z, aCZ m x ds = some z -> RH S g s.heap pa x -> RHs S g s.heap pvs ds -> aH S (VR S) c g mv ρ s Q E (.ok (.d z) σ) -> P') : P' :=
 aL e fun x e1 e => aL e fun ds e2 e => cV e fun z e3 q => k x ds z e3 (qG I ra e1) (aAP I r e2) ((Prod.mk.inj q).1 ▸ (Prod.mk.inj q).2 ▸ P)
@[elab_as_elim] theorem aAQ {x : PyData} {ds : List PyData} {f : Str -> Str -> Option PyData} {z : PyData} {pa : Value} {pvs : List Value} {G : Value -> List Value -> Prop} (e : s1 x ds f = some z) (r0 : RH S g h pa x) (R : RHs S g h pvs ds)
  (k : ∀ a b t u, f a b = some z -> G (.str a t) [.str b u]) : G pa pvs :=
 aL e fun a e1 e => aL e fun b e2 e => iW (G := fun p => G p pvs) r0 e1 fun t => iV (G := G (.str a t)) R e2 fun pv d r e3 => iW (G := fun p => G (.str a t) [p]) r e3 fun u => k a b t u e
theorem aIr {m : Me} {vo v : aB} {vs : List aB} {pa : Value} {pvs : List Value} (e : eY m vo vs σ = some (v, σ')) (hnr : m ≠ .replace) (I : aF S c g s.heap mv ρ σ) (ra : VR S g ρ pa vo)
  (r : cR S g ρ pvs vs) (P : aH S (VR S) c g mv ρ s Q E (.ok v σ')) : wpAny (model S.prog S.w) A (call (.builtin (sO m)) (pa :: pvs)) Q E s := by
 have lo : ∀ {v : aB} {l : Nat} {p : Value}, kA v = some l -> VR S g ρ p v -> ∃ a, ρ[l]? = some a /\ p = .ref a := fun {v l p} e r => show VR S g ρ p (.loc l) from qY e ▸ r
 have at' : ∀ {o : aB × aG}, some o = some (v, σ') -> aH S (VR S) c g mv ρ s Q E (.ok o.1 o.2) := fun e => (Option.some.inj e).symm ▸ P
 cases m with
 | append => exact aL e fun l e1 e => aL e fun xs e2 e => aL e fun x e3 e => bO e fun hl e => (lo e1 ra).elim fun a y => y.2 ▸ iV r e3 fun pv b rb e4 => aIf I e2 y.1 (fO rb e4) hl (at' e)
 | pop =>
  refine aL e fun l e1 e => aL e fun xs e2 e => aL e fun i e3 e => ?_
  cases xs with
  | nil => exact dL e
  | cons x xs => exact bO e fun hl e => (lo e1 ra).elim fun a y => y.2 ▸ aL e3 fun d e3 e4 => iV r e3 fun pv b rb e5 => jL (fO rb e5) e4 fun t => hl.1 ▸ aIj I e2 y.1 hl.2 (at' e)
 | update => exact aL e fun l e1 e => aL e fun kvs e2 e => aL e fun j e3 e => aL e fun jvs e4 e => bO e fun hl e => cV e fun z hz q => (lo e1 ra).elim fun a y => y.2 ▸ iV r e3 fun pv b rb e5 => (lo e5 rb).elim fun b' y' => y'.2 ▸ aIm I e2 e4 y.1 y'.1 hl hz (at' (congrArg some q))
 | strip => exact pU e I ra r P fun x ds z e r0 R P => aAQ e r0 R fun a b t u e => bO e fun hl e => toks (SC.stripChars (fun t' k kt => (P.of e).same I (VR.str _ t') kt) (Nat.le_trans hl sz))
 | split =>
  refine pU e I ra r P fun x ds z e r0 R P => aAQ e r0 R fun a b t u e => bO e fun hl e => toks (aLp hl.2 hl.1 fun l tk h1 h2 kt => (P.of e).newList (tk := tk) I (dO _ _) (eR _) ⟨_, Heap.get?_push_size _ rfl, rfl, rfl, _, rfl⟩ ?_ kt)
  rw [<- h1]
  exact aLC l
 | find =>
  exact pU e I ra r P fun x ds z e r0 R P => dR e (fun e => aAQ e r0 R fun a b t u e => toks (SC.find fun kt => (P.of e).same I (VR.int _ _) kt))
   fun e => aL e fun a e1 e => aL e fun p e2 e => aL e fun b e3 e => aL e fun i e4 e => iW r0 e1 fun t => aBe R e2 fun pv pw r1 r2 => iW r1 e3 fun u => aAN r2 e4 fun w => toks (SC.find3 fun kt => (P.of e).same I (VR.int _ _) kt)
 | join =>
  refine pU e I ra r P fun x ds z e r0 R P => aL e fun a e1 e => iW r0 e1 fun t => dR e (fun e => aL e fun ys e2 e => iV R e2 fun pv y r e3 => aL e fun ts e4 e => bO e fun hl e => lW r e3 fun b vs h0 h2 => ?_)
   fun e => aL e fun ys e2 e => iV R e2 fun pv y r e3 => aL e fun ts e4 e => bO e fun hl e => tA r e3 fun b vs h0 h2 => ?_
  ·exact (aA0 h2 e4).elim fun xs q => toks (SC.join (l := xs) (by rw [<- q.1]; simpa using h0.isList) q.2 hl fun t' k kt => (P.of e).same I (VR.str _ t') kt)
  ·refine (aA0 h2 e4).elim fun xs q => ?_
   obtain ⟨q1, rfl⟩ := q
   exact aIh (ts := []) I (by rw [<- q1]; simpa using lN h0 I.stays) hl (P.of e)
 | replace => exact absurd rfl hnr
 | index =>
  refine pU e I ra r P fun x ds z e r0 R P => aL e fun xs e1 e => aL e fun y e2 e => aL e fun ts e3 e => bO e fun hl e => cV e fun j hj q => iV R e2 fun pv d r e4 => iW r e4 fun t => lW r0 e1 fun a us h0 h2 => (aA0 h2 e3).elim fun zs w => ?_
  obtain ⟨w1, rfl⟩ := w
  exact aIg I (by rw [<- w1]; exact h0) (by have n1 := aM.length h2; rw [w1] at n1; simp [strValues] at n1; omega) hj (P.of (congrArg some q))
 | get =>
  refine pU e I ra r P fun x ds z e r0 R P => aL e fun kvs e1 e => aL e fun p e2 e => aL e fun k e3 e => bO e fun hl e => aBe R e2 fun pv pw r1 r2 => iW r1 e3 fun t => aAO r0 e1 fun a pvs h1 h2 h3 => ?_
  have h1' := nS h1 I.stays
  have r2' : RD S g pw p.2 := r2.nl (xs := []) (iB hl (fun q => mO q fun i q => by rw [qX q]; rfl) fun q => mO q fun i q => by rw [xK q]; rfl)
  exact toks (call_meetsIn PySem.F.slot_dict_get h1'.typeIs PySem.F.entry_dict_get (PySem.F.args_dict_get_3 _ _ _) (meets_dict_get_default (strKind S.prog S.w) _ (strKind_is _ _ _ _) h2 pw) ⟨_, h1'.mapOf, fun kt => (P.of e).same I (aGS h3 r2') kt⟩)
end
end PQ
namespace PQ
section
variable (S : SP) (hb : Bool) (n : Nat)
noncomputable def SE : Prop := ∀ {k : Nat} {c : Cx} {g : Heap} {mv : Str -> Option Value} {ρ : List Addr} {σ : aG} {ρv : aJ} {A : Around} {s : Shared} {e : Expr} {x : aK} {Q : Value -> Shared -> Prop} {E : Value -> Shared -> Prop},
 aR k c.env.scope e x = true -> aF S c g s.heap mv ρ σ -> aV S g ρ mv ρv -> aX hb n A c g -> aH S (VR S) c g mv ρ s Q E (aP FT hb n x ρv σ) -> wpAny (model S.prog S.w) A (eval e c.env) Q E s
noncomputable def SO : Prop := ∀ {k : Nat} {c : Cx} {g : Heap} {mv : Str -> Option Value} {ρ : List Addr} {σ : aG} {ρv : aJ} {A : Around} {s : Shared} {e : Option Expr} {x : Option aK} {Q : Value -> Shared -> Prop} {E : Value -> Shared -> Prop},
 hY k c.env.scope e x = true -> aF S c g s.heap mv ρ σ -> aV S g ρ mv ρv -> aX hb n A c g -> aH S (VR S) c g mv ρ s Q E (evO FT hb n x ρv σ) -> wpAny (model S.prog S.w) A (valueOrNone (evalOpt e c.env)) Q E s
noncomputable def SEs : Prop := ∀ {k : Nat} {c : Cx} {g : Heap} {mv : Str -> Option Value} {ρ : List Addr} {σ : aG} {ρv : aJ} {A : Around} {s : Shared} {es : List Expr} {xs : List aK} {pos : Pos} {Q : List Value -> Shared -> Prop} {E : Value -> Shared -> Prop},
 cT k c.env.scope es xs = true -> aF S c g s.heap mv ρ σ -> aV S g ρ mv ρv -> aX hb n A c g -> aH S (cR S) c g mv ρ s Q E (eW FT hb n xs ρv σ) -> wpAny (model S.prog S.w) A (spliced (backTo pos (starEach es c.env))) Q E s
noncomputable def SBs : Prop := ∀ {k : Nat} {c : Cx} {g : Heap} {mv : Str -> Option Value} {ρ : List Addr} {σ : aG} {ρv : aJ} {A : Around} {s : Shared} {es : List Expr} {xs : List aK} {b : Bool} {op : BoolOp} {pos : Pos} {Q : Value -> Shared -> Prop} {E : Value -> Shared -> Prop},
 cT k c.env.scope es xs = true -> tZ b op = true -> aF S c g s.heap mv ρ σ -> aV S g ρ mv ρv -> aX hb n A c g -> aH S (VR S) c g mv ρ s Q E (pI FT hb n b xs ρv σ) -> wpAny (model S.prog S.w) A (boolOp pos op (evalEach es c.env)) Q E s
noncomputable def ST : Prop := ∀ {k : Nat} {c : Cx} {g : Heap} {mv : Str -> Option Value} {ρ : List Addr} {σ : aG} {ρv : aJ} {A : Around} {s : Shared} {e : Expr} {x : aK} {Q : Bool -> Shared -> Prop} {E : Value -> Shared -> Prop},
 aR k c.env.scope e x = true -> aF S c g s.heap mv ρ σ -> aV S g ρ mv ρv -> aX hb n A c g -> aH S RB c g mv ρ s Q E (dF FT hb n x ρv σ) -> wpAny (model S.prog S.w) A (isTrue e c.env (eval e c.env)) Q E s
noncomputable def STs : Prop := ∀ {k : Nat} {c : Cx} {g : Heap} {mv : Str -> Option Value} {ρ : List Addr} {σ : aG} {ρv : aJ} {A : Around} {s : Shared} {es : List Expr} {xs : List aK} {b : Bool} {op : BoolOp} {Q : Bool -> Shared -> Prop} {E : Value -> Shared -> Prop},
 cT k c.env.scope es xs = true -> tZ b op = true -> aF S c g s.heap mv ρ σ -> aV S g ρ mv ρv -> aX hb n A c g -> aH S RB c g mv ρ s Q E (pJ FT hb n b xs ρv σ) -> wpAny (model S.prog S.w) A (allTrue op es c.env) Q E s
noncomputable def oV : Prop := ∀ {c : Cx} {g : Heap} {mv : Str -> Option Value} {ρ : List Addr} {σ : aG} {A : Around} {s : Shared} {f : Nat} {a : Addr} {vs : List aB} {pvs : List Value} {Q : Value -> Shared -> Prop} {E : Value -> Shared -> Prop},
 fad S f = some a -> aF S c g s.heap mv ρ σ -> cR S g ρ pvs vs -> aX hb n A c g -> aH S (VR S) c g mv ρ s Q E (kG FT hb n f vs σ) -> wpAny (model S.prog S.w) A (call (.ref a) pvs) Q E s
end
section
variable {S : SP} {c : Cx} {g : Heap} {mv : Str -> Option Value} {ρ : List Addr} {σ : aG} {A : Around} {E : Value -> Shared -> Prop} {s : Shared} {hb : Bool} {n k : Nat} {ρv : aJ}
theorem aKy {cst : Const} {kd : Nat} {pos : Pos} {d : PyData} {Q : Value -> Shared -> Prop} (hc : lG cst d = true) (I : aF S c g s.heap mv ρ σ) (P : aH S (VR S) c g mv ρ s Q E (.ok (.d d) σ)) :
  wpAny (model S.prog S.w) A (eval (.Constant cst kd pos) c.env) Q E s := by
 have e := eq_of_beq hc
 cases d with
 | none => exact Option.some.inj e ▸ wpAny_Constant_none (P.same I VR.none (Nat.le_refl _))
 | bool b => exact Option.some.inj e ▸ wpAny_Constant_bool (P.same I (VR.bool _) (Nat.le_refl _))
 | int i => exact Option.some.inj e ▸ wpAny_Constant_int (P.same I (VR.int _ _) (Nat.le_succ _))
 | str x => exact Option.some.inj e ▸ wpAny_Constant_str (P.same I (VR.str _ _) (Nat.le_succ _))
 | _ => exact dL e
theorem aKL {i : Int} {kd : Nat} {p pos : Pos} {Q : Value -> Shared -> Prop} (I : aF S c g s.heap mv ρ σ) (P : aH S (VR S) c g mv ρ s Q E (.ok (.d (.int (-i))) σ)) :
  wpAny (model S.prog S.w) A (eval (.UnaryOp .USub (.Constant (.int i) kd p) pos) c.env) Q E s := by
 refine wpAny_UnaryOp (wpAny_Constant_int ?_)
 exact PySem.P.neg_int (P.same I (VR.int _ _) (Nat.le_add_right _ 2))
theorem aBv {x : Str} {f : Nat} {a : Addr} (hx : jO[f]? = some x) (ha : fad S f = some a) : nsIn S.K mainGlobals x = some (some (.ref a)) := by
 unfold fad at ha
 rw [hx] at ha
 exact aL (show iN S.K x = some a from ha) fun v h e => aL e fun w e1 e2 => by rw [h, e1, sZ e2]
theorem vX {x : Str} {pos : Pos} {v : Value} {Q : Value -> Shared -> Prop} (hx : dK c.env.scope x = true) (he : nsIn S.K mainGlobals x = some (some v)) (I : aF S c g s.heap mv ρ σ) (h : Q v s) :
  wpAny (model S.prog S.w) A (eval (.Name x pos) c.env) Q E s := by
 unfold dK at hx
 simp only [Bool.and_eq_true, beq_iff_eq, bne_iff_ne] at hx
 have T := I.gd.t.keeps I.stays
 exact Name_function_global I.fr.ek hx.1 (loadGlobal_global (env := c.env) (by rw [I.fr.eg]; exact T.g) (mg_of I.gd.k I.gd.t.g he) h) (beq_eq_false_iff_ne.mpr hx.2)
theorem vW {x : Str} {pos : Pos} {v : Value} {Q : Value -> Shared -> Prop} (hx : dK c.env.scope x = true) (he : nsIn S.K mainGlobals x = some none) (hv : bootBuiltins x = some v) (hn : x ≠ "__name__") (I : aF S c g s.heap mv ρ σ) (h : Q v s) :
  wpAny (model S.prog S.w) A (eval (.Name x pos) c.env) Q E s := by
 unfold dK at hx
 simp only [Bool.and_eq_true, beq_iff_eq, bne_iff_ne] at hx
 have T := I.gd.t.keeps I.stays
 exact Name_function_global I.fr.ek hx.1 (loadGlobal_builtin (env := c.env) (by rw [I.fr.eg]; exact T.g) (mg_none_of I.gd.k I.gd.t.g he) (by rw [I.fr.eb]; exact T.b) ((T.builtins x hn).trans hv) h) (beq_eq_false_iff_ne.mpr hx.2)
section
variable {Q : Value -> Shared -> Prop} {a b d : aK} {l r t x y v : Expr} {pos p : Pos} {es : List Expr} {xs : List aK}
theorem aKo {op : BOp} (ih : SE S hb n) (h1 : aR k c.env.scope l a = true) (h2 : aR k c.env.scope r b = true)
  (I : aF S c g s.heap mv ρ σ) (R : aV S g ρ mv ρv) (H : aX hb n A c g) (P : aH S (VR S) c g mv ρ s Q E (aP FT hb (n + 1) (.bin op a b) ρv σ)) :
  wpAny (model S.prog S.w) A (eval (.BinOp l (pB op) r pos) c.env) Q E s :=
 wpAny_BinOp (ih h1 I R H (aH.bind P fun va σ₁ g₁ ρ₁ pa h₁ tk e t kg kr I₁ ra P₁ =>
  ih h2 I₁ (R.mono kg kr) (H.mono kg) (aH.bind P₁ fun vb σ₂ g₂ ρ₂ pb h₂ tk₂ e t kg₂ kr₂ I₂ rb P₂ =>
   P₂.lift_r fun v e P₃ => aL e fun x e1 e => aL e fun y e2 e => cV e fun z e q => aBG e I₂ (fO (ra.mono kg₂ kr₂) e1) (fO rb e2) (q ▸ P₃))))
theorem aHy {op : CmpOp} {r : Expr} (h : jQ r = false) : behindInMarks op r = false := by
 cases r <;> first | rfl | exact bK h.symm
theorem aKu {op : COp} (ih : SE S hb n) (hs : jQ r = false) (h1 : aR k c.env.scope l a = true) (h2 : aR k c.env.scope r b = true)
  (I : aF S c g s.heap mv ρ σ) (R : aV S g ρ mv ρv) (H : aX hb n A c g) (P : aH S (VR S) c g mv ρ s Q E (aP FT hb (n + 1) (.cmp op a b) ρv σ)) :
  wpAny (model S.prog S.w) A (eval (.Compare l [yK op] [r] pos) c.env) Q E s :=
 wpAny_Compare1 (hm := aHy hs) (ih h1 I R H (aH.bind P fun va σ₁ g₁ ρ₁ pa h₁ tk e t kg kr I₁ ra P₁ =>
  ih h2 I₁ (R.mono kg kr) (H.mono kg) (aH.bind P₁ fun vb σ₂ g₂ ρ₂ pb h₂ tk₂ e t kg₂ kr₂ I₂ rb P₂ =>
   P₂.lift_r fun v e P₃ => aFL e I₂ (ra.mono kg₂ kr₂) rb (Nat.lt_of_le_of_lt (by omega) H.units) P₃)))
theorem aKI (ih : SE S hb n) (iht : ST S hb n) (h1 : aR k c.env.scope t a = true) (h2 : aR k c.env.scope x b = true) (h3 : aR k c.env.scope y d = true)
  (I : aF S c g s.heap mv ρ σ) (R : aV S g ρ mv ρv) (H : aX hb n A c g) (P : aH S (VR S) c g mv ρ s Q E (aP FT hb (n + 1) (.ite a b d) ρv σ)) :
  wpAny (model S.prog S.w) A (eval (.IfExp t x y pos) c.env) Q E s := by
 refine wpAny_IfExp (iht h1 I R H (aH.bind P fun va σ₁ g₁ ρ₁ pa h₁ tk e t kg kr I₁ ra P₁ => ?_))
 obtain rfl : pa = va := ra
 cases pa
 ·exact ih h3 I₁ (R.mono kg kr) (H.mono kg) P₁
 ·exact ih h2 I₁ (R.mono kg kr) (H.mono kg) P₁
theorem aKN (ih : SE S hb n) (h1 : aR k c.env.scope x a = true)
  (I : aF S c g s.heap mv ρ σ) (R : aV S g ρ mv ρv) (H : aX hb n A c g) (P : aH S (VR S) c g mv ρ s Q E (aP FT hb (n + 1) (.not a) ρv σ)) :
  wpAny (model S.prog S.w) A (eval (.UnaryOp .Not x pos) c.env) Q E s :=
 wpAny_UnaryOp (ih h1 I R H (aH.bind P fun va σ₁ g₁ ρ₁ pa h₁ tk e t kg kr I₁ ra P₁ =>
  P₁.lift_r fun v e P₂ => cV e fun b e q => aL e fun x e1 e2 => xG (fO ra e1) e2 (not_value (wpAny_truthy_bool ((q ▸ P₂ : aH S (VR S) c _ mv _ _ Q E (.ok (bV (!b)) _)).same I₁ (VR.bool _) (Nat.le_refl _))))))
theorem aKG {i : Expr} (ih : SE S hb n) (hs : pP i = false) (h1 : aR k c.env.scope v a = true) (h2 : aR k c.env.scope i b = true)
  (I : aF S c g s.heap mv ρ σ) (R : aV S g ρ mv ρv) (H : aX hb n A c g) (P : aH S (VR S) c g mv ρ s Q E (aP FT hb (n + 1) (.idx a b) ρv σ)) :
  wpAny (model S.prog S.w) A (eval (.Subscript v i pos) c.env) Q E s :=
 Subscript_ (ih h1 I R H (aH.bind P fun va σ₁ g₁ ρ₁ pa h₁ tk e t kg kr I₁ ra P₁ =>
  ih h2 I₁ (R.mono kg kr) (H.mono kg) (aH.bind P₁ fun vb σ₂ g₂ ρ₂ pb h₂ tk₂ e t kg₂ kr₂ I₂ rb P₂ =>
   P₂.lift_r fun w e P₃ => aHe e hs I₂ (ra.mono kg₂ kr₂) rb P₃)))
theorem aKR {l u : Option Expr} {lo hi : Option aK} (ih : SE S hb n) (iho : SO S hb n) (h1 : aR k c.env.scope v a = true) (h2 : hY k c.env.scope l lo = true) (h3 : hY k c.env.scope u hi = true)
  (I : aF S c g s.heap mv ρ σ) (R : aV S g ρ mv ρv) (H : aX hb n A c g) (P : aH S (VR S) c g mv ρ s Q E (aP FT hb (n + 1) (.slice a lo hi) ρv σ)) :
  wpAny (model S.prog S.w) A (eval (.Subscript v (.Slice l u none p) pos) c.env) Q E s := by
 refine Subscript_ (ih h1 I R H (aH.bind P fun va σ₁ g₁ ρ₁ pa h₁ tk e t kg kr I₁ ra P₁ => ?_))
 refine wpAny_bind (m := valueOrNone (evalOpt l c.env)) (iho h2 I₁ (R.mono kg kr) (H.mono kg) (aH.bind P₁ fun vl σ₂ g₂ ρ₂ pl h₂ tk₂ e t kg₂ kr₂ I₂ rl P₂ => ?_))
 have kg12 := cH kg kg₂
 refine wpAny_bind (wpAny_holding (iho h3 I₂ (R.mono kg12 (kr.trans kr₂)) (H.mono kg12) (aH.bind P₂ fun vh σ₃ g₃ ρ₃ ph h₃ tk₃ e t kg₃ kr₃ I₃ rh P₃ => ?_)))
 exact P₃.lift_r fun w hw P₄ => wpAny_bind (wpAny_holding (wpAny_pure (wpAny_newObj_type (aLi hw I₃ (fun _ _ => rfl) (ra.mono (cH kg₂ kg₃) (kr₂.trans kr₃)) (rl.mono kg₃ kr₃) rh P₄))))
theorem mF {P : Prop} {sc : Scope} {m : aK} {ms : List aK} (h : cT (k + 1) sc es (m :: ms) = true) (z : ∀ e r, es = e :: r -> mP e = false -> aR k sc e m = true -> cT k sc r ms = true -> P) : P :=
 (gF (G := fun es' => es = es' -> P) h fun e r h q => z e r q (fE (aA h).1) (aA (aA h).2).1 (aA (aA h).2).2) rfl
theorem nO {sc : Scope} (h : cT (k + 1) sc es [] = true) : es = [] := List.isEmpty_iff.mp h
theorem nP {P : Prop} {sc : Scope} (h : cT k sc es xs = true) (z : ∀ j, k = j + 1 -> P) : P := by
 cases k with
 | zero => exact bK h
 | succ j => exact z j rfl
theorem yC {sc : Scope} (h : cT k sc es xs = true) : es.length = xs.length := by
 induction xs generalizing k es with
 | nil => cases k with
  | zero => exact bK h
  | succ k => rw [nO h]; rfl
 | cons m ms ih => cases k with
  | zero => exact bK h
  | succ k => exact mF h fun e r q _ _ h => by rw [q]; exact congrArg (· + 1) (ih h)
theorem xU {α β : Type} {x : aI α} {f : α -> aG -> aI β} {b : β} {σ' : aG} {P : Prop} (h : x.bind f = .ok b σ') (z : ∀ a σ₁, x = .ok a σ₁ -> f a σ₁ = .ok b σ' -> P) : P := by
 cases x with
 | ok a σ₁ => exact z a σ₁ rfl h
 | _ => cases h
theorem aGh {σ σ' : aG} {vs : List aB} (h : eW FT hb n xs ρv σ = .ok vs σ') : vs.length = xs.length := by
 induction xs generalizing n σ σ' vs with
 | nil => cases n with
  | zero => cases h
  | succ n => rw [<- (aI.ok.inj h).1]; rfl
 | cons x xs ih => cases n with
  | zero => cases h
  | succ n => exact xU h fun v σ₁ _ h => xU h fun vs σ₂ e h => by rw [<- (aI.ok.inj h).1]; exact congrArg (· + 1) (ih e)
theorem yS {pvs : List Value} {vs : List aB} {σ' : aG} {sc : Scope} (ra : cR S g ρ pvs vs) (e : eW FT hb n xs ρv σ = .ok vs σ') (h1 : cT k sc es xs = true) (hl : es.length <= 1000) : pvs.length <= sizeLine := by
 rw [cR.length ra, aGh e, <- yC h1]
 exact Nat.le_trans hl (by decide)
theorem aKU {kd : Nat} (ih : SEs S hb n) (h1 : cT k c.env.scope es xs = true) (hl : es.length <= 1000)
  (I : aF S c g s.heap mv ρ σ) (R : aV S g ρ mv ρv) (H : aX hb n A c g) (P : aH S (VR S) c g mv ρ s Q E (aP FT hb (n + 1) (.tup xs) ρv σ)) :
  wpAny (model S.prog S.w) A (eval (.Tuple es kd pos) c.env) Q E s :=
 wpAny_Tuple (ih h1 I R H (aH.bind P fun vs σ₁ g₁ ρ₁ pvs h₁ tk e t kg kr I₁ ra P₁ =>
  P₁.lift_r fun v e2 P₂ => cV e2 fun ds hds q => ⟨yS ra e h1 hl, (q ▸ P₂ : aH S (VR S) c _ mv _ _ Q E (.ok (.d (.tuple ds)) _)).pushTuple I₁ (by simpa using cR.datas ra hds)⟩))
theorem aH.allocL {o : bN} {a : Addr} {ob : Obj} {h' : Heap} {tk : Nat} (P : aH S (VR S) c g mv ρ s Q E (.ok (.loc σ.length) (σ ++ [o]))) (I : aF S c g s.heap mv ρ σ) (ks : s.heap.StaysIn h')
  (e0 : s.heap.get? a = none) (e : h'.get? a = some ob) (ho : ∀ g', g.StaysIn g' -> StR S g' h' (ρ ++ [a]) a o) (hw : ∀ kvs, o = .dct kvs -> ∀ kv ∈ kvs, jR σ.length kv.2) (kt : s.toks <= tk) :
  Q (.ref a) { s with heap := h', toks := tk } :=
 have q := I.alloc ks e0 e ho hw
 P.2 _ _ _ _ tk kt q.2 (aQ.app _ _) q.1 ⟨a, by rw [<- I.len]; simp, rfl⟩
theorem aKJ {m : Bool} (ih : SEs S hb n) (h1 : cT k c.env.scope es xs = true) (hl : es.length <= 1000)
  (I : aF S c g s.heap mv ρ σ) (R : aV S g ρ mv ρv) (H : aX hb n A c g) (P : aH S (VR S) c g mv ρ s Q E (aP FT hb (n + 1) (.list m xs) ρv σ)) :
  wpAny (model S.prog S.w) A (eval (.List es pos) c.env) Q E s := by
 refine wpAny_List (ih h1 I R H (aH.bind P fun vs σ₁ g₁ ρ₁ pvs h₁ tk e t kg kr I₁ ra P₁ => P₁.liftB_r fun ds hds P₂ => ⟨yS ra e h1 hl, ?_⟩))
 have rs := cR.datas ra hds
 cases m
 ·exact aH.pushList P₂ I₁ (by simpa using rs)
 ·exact aH.allocL (tk := tk) P₂ I₁ (dO _ _) (eR _) (Heap.get?_push_size _ rfl) (fun g' kg' => ⟨_, ⟨_, Heap.get?_push_size _ rfl⟩, by simpa using aM.mono kg' rs⟩) (fun _ q => nomatch q) (Nat.le_refl _)
theorem aKp {m : Bool} {op : BoolOp} (ih : SBs S hb n) (h1 : cT k c.env.scope es xs = true) (hop : tZ m op = true)
  (I : aF S c g s.heap mv ρ σ) (R : aV S g ρ mv ρv) (H : aX hb n A c g) (P : aH S (VR S) c g mv ρ s Q E (aP FT hb (n + 1) (.boolop m xs) ρv σ)) :
  wpAny (model S.prog S.w) A (eval (.BoolOp op es pos) c.env) Q E s := by
 rw [arm_eval_BoolOp]
 exact ih h1 hop I R H P
end
theorem fP {α β : Type} {R : Heap -> List Addr -> β -> α -> Prop} {Q : β -> Shared -> Prop} {P' : Prop} (P : aH S R c g mv ρ s Q E .stuck) : P' := P.elim
theorem wF {e : Expr} {es : List Expr} {env : Env} (h : mP e = false) : starEach (e :: es) env = (false, eval e env) :: starEach es env := by
 cases e <;> first | rfl | exact bK h.symm
theorem aKq (ihE : SE S hb n) (ihB : SBs S hb n) : SBs S hb (n + 1) := by
 intro k c g mv ρ σ ρv A s es xs m op pos Q E h1 hop I R H P
 have H' := H.le (Nat.le_succ n)
 obtain rfl := eq_of_beq hop
 cases xs with
 | nil => exact fP P
 | cons x xs =>
 refine nP h1 fun k q => ?_
 subst q
 refine mF h1 fun e es q _ hx h2 => ?_
 subst q
 cases xs with
 | nil =>
  refine nP h2 fun k q => ?_
  subst q
  rw [nO h2]
  exact ihE hx I R H' P
 | cons x2 xs =>
  refine nP h2 fun k q => ?_
  subst q
  refine mF h2 fun e2 es' q _ _ _ => ?_
  subst q
  show wpAny _ A (do
   let v <- eval e c.env
   standAt pos
   let t <- holding [v] (truthy v)
   match (bif m then BoolOp.And else .Or), t with
   | .And, false | .Or, true => pure v
   | _, _ => boolOp pos (bif m then BoolOp.And else .Or) (evalEach (e2 :: es') c.env)) Q E s
  refine wpAny_bind (ihE hx I R H' (aH.bind P fun va σ₁ g₁ ρ₁ pa h₁ tk e t kg kr I₁ ra P₁ => P₁.liftB_r fun bv hv P₂ => aL hv fun d e1 e2 => xG (fO ra e1) e2 ?_))
  refine wpAny_bind (wpAny_standAt (wpAny_bind (wpAny_holding (wpAny_truthy_bool ?_))))
  have go := fun (P : aH S (VR S) c g₁ mv ρ₁ { s with heap := h₁, toks := tk } Q E _) => ihB (pos := pos) h2 hop I₁ (R.mono kg kr) (H'.mono kg) P
  have ret := fun (P : aH S (VR S) c g₁ mv ρ₁ { s with heap := h₁, toks := tk } Q E (.ok (bV bv) σ₁)) => P.same I₁ (VR.bool bv) (Nat.le_refl _)
  cases m <;> cases bv <;> first | exact go P₂ | exact wpAny_pure (ret P₂)
theorem aKC (ihE : SE S hb n) (ihs : SEs S hb n) : SEs S hb (n + 1) := by
 intro k c g mv ρ σ ρv A s es xs pos Q E h1 I R H P
 have H' := H.le (Nat.le_succ n)
 refine nP h1 fun k q => ?_
 subst q
 cases xs with
 | nil =>
  rw [nO h1]
  exact wpAny_items_nil (P.2 g ρ [] s.heap s.toks (Nat.le_refl _) (bU _) (aQ.refl _) I trivial)
 | cons x xs =>
  refine mF h1 fun e es q hs hx h2 => ?_
  subst q
  exact wpAny_items_cons (he := wF hs) (ihE hx I R H' (aH.bind P fun va σ₁ g₁ ρ₁ pa h₁ tk e t kg kr I₁ ra P₁ =>
   ihs h2 I₁ (R.mono kg kr) (H'.mono kg) (aH.bind P₁ fun vs σ₂ g₂ ρ₂ pvs h₂ tk₂ e t₂ kg₂ kr₂ I₂ rb P₂ => P₂.2 g₂ ρ₂ _ _ _ (Nat.le_refl _) (bU _) (aQ.refl _) I₂ ⟨ra.mono kg₂ kr₂, rb⟩)))
theorem s_o (ihE : SE S hb n) : SO S hb (n + 1) := by
 intro k c g mv ρ σ ρv A s e x Q E h1 I R H P
 cases k with
 | zero => exact bK h1
 | succ k =>
 cases x with
 | none => exact aAm h1 (wpAny_pure (P.same I VR.none (Nat.le_refl _)))
 | some x => exact mY h1 fun e h1 => ihE h1 I R (H.le (Nat.le_succ n)) P
theorem aKT (ihT : ST S hb n) (ihs : STs S hb n) : STs S hb (n + 1) := by
 intro k c g mv ρ σ ρv A s es xs m op Q E h1 hop I R H P
 have H' := H.le (Nat.le_succ n)
 obtain rfl := eq_of_beq hop
 refine nP h1 fun k q => ?_
 subst q
 cases xs with
 | nil =>
  rw [nO h1]
  have z := P.2 g ρ m s.heap s.toks (Nat.le_refl _) (bU _) (aQ.refl _) I rfl
  cases m <;> exact wpAny_pure z
 | cons x xs =>
  refine mF h1 fun e es q _ hx h2 => ?_
  subst q
  show wpAny _ A (do match (bif m then BoolOp.And else .Or), <- isTrue e c.env (eval e c.env) with | .And, false => pure false | .Or, true => pure true | _, _ => allTrue (bif m then BoolOp.And else .Or) es c.env) Q E s
  refine wpAny_bind (ihT hx I R H' (aH.bind P fun bv σ₁ g₁ ρ₁ pa h₁ tk e t kg kr I₁ ra P₁ => ?_))
  obtain rfl : pa = bv := ra
  have go := fun (P : aH S RB c g₁ mv ρ₁ { s with heap := h₁, toks := tk } Q E _) => ihs h2 hop I₁ (R.mono kg kr) (H'.mono kg) P
  have ret := fun (P : aH S RB c g₁ mv ρ₁ { s with heap := h₁, toks := tk } Q E (.ok pa σ₁)) => P.2 g₁ ρ₁ pa _ _ (Nat.le_refl _) (bU _) (aQ.refl _) I₁ rfl
  cases m <;> cases pa <;> first | exact go P₁ | exact wpAny_pure (ret P₁)
end
end PQ
namespace PQ
section
variable {S : SP} {c : Cx} {g : Heap} {mv : Str -> Option Value} {ρ : List Addr} {σ : aG} {A : Around} {E : Value -> Shared -> Prop} {s : Shared} {hb : Bool} {n k : Nat} {ρv : aJ}
noncomputable def Cx.cold (c : Cx) (h : Heap) (ρ : List Addr) (l : List Addr) : Cx := { c with hs := l ++ c.hs, bg := hideAll h (c.mut ρ) }
theorem lC {h : Heap} (I : aF S c g h mv ρ σ) : c.bg.StaysIn (hideAll h (c.mut ρ)) := fun a o e => hideAll_get _ (I.bgs a o e) fun hm => by
 rw [I.bgn a hm] at e; cases e
theorem aF.cold {h : Heap} {l : List Addr} (I : aF S c g h mv ρ σ) (hl : ∀ a ∈ l, g.get? a = none /\ ∃ o, h.get? a = some o) : aF S (c.cold h ρ l) g h mv ρ σ where
 stays := I.stays
 bgs := fun a o e => of_hideAll _ e
 gd := I.gd
 fr := { ek := I.fr.ek, eg := I.fr.eg, eb := I.fr.eb, fk := I.fr.fk, ffr := I.fr.ffr, fe := I.fr.fe, fown := I.fr.fown, fbg := fun ho => let ⟨o, h1, h2⟩ := I.fr.fbg ho; ⟨o, lC I _ _ h1, h2⟩, fh := I.fr.fh, bs := I.fr.bs, ff := I.fr.ff.of_keeps fun b o e _ => ⟨o, lC I b o e, rfl⟩ }
 ns := I.ns
 cl := I.cl
 cf := fun ho x hx => let ⟨a, h1, h2⟩ := I.cf ho x hx; ⟨a, h1, gS (fun o => lC I a o) h2⟩
 hidn := fun a ha => by
  rw [bJ] at ha
  rcases ha with ha | ha
  ·exact I.hidn a (bJ.mpr (.inl ha))
  ·rcases List.mem_append.mp ha with ha | ha
   ·exact (hl a ha).1
   ·exact I.hidn a (bJ.mpr (.inr ha))
 live := fun a ha => by
  rw [bJ] at ha
  rcases ha with ha | ha
  ·exact I.live a (bJ.mpr (.inl ha))
  ·rcases List.mem_append.mp ha with ha | ha
   ·exact (hl a ha).2
   ·exact I.live a (bJ.mpr (.inr ha))
 nd := I.nd
 bgn := fun a ha => hideAll_none _ ha
 len := I.len
 st := I.st
 wf := I.wf
theorem aF.warm {h bg' : Heap} {hs' : List Addr} (I : aF S { c with hs := hs', bg := bg' } g h mv ρ σ) (hh : ∀ a ∈ c.hs, a ∈ hs') (kb : c.bg.StaysIn bg')
  (fbg : c.own = false -> ∃ o, c.bg.get? c.fenv.locals = some o /\ ∀ vs, o.data ≠ .fields vs) (ff : c.bg.FunFrames c.base c.outer)
  (cf : c.own = false -> ∀ x, c.env.kindOf x = some .cell -> ∃ a, c.env.cells.lookup x = some a /\ c.bg.IsCell a (mv x)) : aF S c g h mv ρ σ :=
 have hm : ∀ a ∈ c.hid ρ, a ∈ Cx.hid { c with hs := hs', bg := bg' } ρ := fun a ha => bJ.mpr ((bJ.mp ha).imp id (hh a))
 { I with
  bgs := fun a o e => I.bgs a o (kb a o e)
  fr := { I.fr with fbg := fbg, ff := ff }
  cf := cf
  hidn := fun a ha => I.hidn a (hm a ha)
  live := fun a ha => I.live a (hm a ha)
  bgn := fun a ha => gT kb (I.bgn a ha) }
theorem aF.thaw {h h₁ : Heap} {l ρ₁ : List Addr} {g₁ : Heap} {σ₁ : aG} (I : aF S c g h mv ρ σ) (I₁ : aF S (c.cold h ρ l) g₁ h₁ mv ρ₁ σ₁) : aF S c g₁ h₁ mv ρ₁ σ₁ :=
 I₁.warm (fun a ha => List.mem_append_right _ ha) (lC I) I.fr.fbg I.fr.ff I.cf
theorem fA.warm {g₁ bg' : Heap} {hs' : List Addr} {wy : Str} {e : Addr} {h' : Heap} (x : fA S { c with hs := hs', bg := bg' } g₁ mv wy e h') (hh : ∀ a ∈ c.hs, a ∈ hs') (kb : c.bg.StaysIn bg') : fA S c g₁ mv wy e h' :=
 ⟨x.1, x.2.1, (Heap.UpToSlots.of_keeps kb).trans x.2.2.1, x.2.2.2.elim fun B y => ⟨B, y.1, y.2.1, fun a ha => y.2.2.1 a (bJ.mpr ((bJ.mp ha).imp id (hh a))), y.2.2.2⟩⟩
theorem fA.thaw {h : Heap} {l : List Addr} {g₁ : Heap} {wy : Str} {e : Addr} {h' : Heap} (I : aF S c g h mv ρ σ) (x : fA S (c.cold h ρ l) g₁ mv wy e h') : fA S c g₁ mv wy e h' :=
 x.warm (fun a ha => List.mem_append_right _ ha) (lC I)
theorem aH.thaw {α β : Type} {R : Heap -> List Addr -> β -> α -> Prop} {Q : β -> Shared -> Prop} {h : Heap} {l : List Addr} {o : aI α} {σ₀ : aG} {g₀ : Heap} {ρ₀ : List Addr} (I : aF S c g₀ h mv ρ₀ σ₀) (P : aH S R c g mv ρ s Q E o) : aH S R (c.cold h ρ₀ l) g mv ρ s Q E o := by
 cases o with
 | stuck => exact P
 | ok a σ => exact ⟨P.1, fun g' ρ' b h' tk t kg kr I' r => P.2 g' ρ' b h' tk t kg kr (I.thaw I') r⟩
 | exc wy => exact ⟨P.1, fun e h' tk t f => P.2 e h' tk t (f.thaw I)⟩
theorem aH.bindC {α β γ δ : Type} {R : Heap -> List Addr -> β -> α -> Prop} {R' : Heap -> List Addr -> δ -> γ -> Prop} {Q : β -> Shared -> Prop} {h : Heap} {l : List Addr} {σ₀ : aG} {g₀ : Heap} {ρ₀ : List Addr} {x : aI γ} {f : γ -> aG -> aI α} {Q' : δ -> Shared -> Prop}
  (I : aF S c g₀ h mv ρ₀ σ₀) (P : aH S R c g mv ρ s Q E (x.bind f))
  (k : ∀ a σ₁ g₁ ρ₁ b h₁ tk, x = .ok a σ₁ -> s.toks <= tk -> g.StaysIn g₁ -> aQ ρ ρ₁ -> aF S (c.cold h ρ₀ l) g₁ h₁ mv ρ₁ σ₁ -> R' g₁ ρ₁ b a ->
   aH S R c g₁ mv ρ₁ { s with heap := h₁, toks := tk } Q E (f a σ₁) -> Q' b { s with heap := h₁, toks := tk }) : aH S R' (c.cold h ρ₀ l) g mv ρ s Q' E x := by
 cases x with
 | stuck => exact P
 | ok a σ₁ => exact ⟨aH.pos P, fun g₁ ρ₁ b h₁ tk t kg kr I' q => k a σ₁ g₁ ρ₁ b h₁ tk rfl t kg kr I' q (aH.shift P t kg kr)⟩
 | exc wy => exact aH.thaw I P
theorem aX.cold {h : Heap} {l : List Addr} (x : aX hb n A c g) : aX hb n A (c.cold h ρ l) g := ⟨x.depth, x.units, x.guards, x.frames, x.fl.more, x.hand⟩
noncomputable def KV : List Str -> List (Value × Value) -> Prop := aY fun k p => ∃ t, p.1 = .str k t
theorem KV.carries {ks : List Str} {ps : List (Value × Value)} (h : KV ks ps) : Carries (PySem.strKind S.prog S.w) ps (ks.zip (ps.map (·.2))) :=
 aY.ind (R := fun k (p : Value × Value) => ∃ t, p.1 = .str k t) (G := fun ks ps => Carries (PySem.strKind S.prog S.w) ps (ks.zip (ps.map (·.2)))) h trivial fun k p l m e _ q => by
  obtain ⟨p1, p2⟩ := p
  exact e.elim fun t e => ⟨(show p1 = _ from e) ▸ strKind_is _ _ _ _, rfl, q⟩
theorem cR.vrk {ks : List Str} {pvs : List Value} {vs : List aB} (h : cR S g ρ pvs vs) : cQ S g ρ (ks.zip pvs) (ks.zip vs) :=
 aY.ind (R := VR S g ρ) (G := fun pvs vs => ∀ ks : List Str, cQ S g ρ (ks.zip pvs) (ks.zip vs)) h (fun ks => by rw [List.zip_nil_right, List.zip_nil_right]; trivial) (fun a b l m e _ q ks => List.casesOn ks trivial fun k ks => ⟨⟨rfl, e⟩, q ks⟩) ks
theorem aM.rdk {ks : List Str} {pvs : List Value} {ds : List PyData} (h : aM S g pvs ds) : dJ S g (ks.zip pvs) ((ks.map .str).zip ds) :=
 (fG.mp h).ind (G := fun pvs ds => ∀ ks : List Str, dJ S g (ks.zip pvs) ((ks.map .str).zip ds)) (fun ks => by rw [List.zip_nil_right, List.zip_nil_right]; trivial) (fun a b l m e _ q ks => List.casesOn ks trivial fun k ks => ⟨⟨rfl, e⟩, q ks⟩) ks
theorem aIo : ∀ {more kvs : List (Str × Value)}, ((kvs ++ more).map (·.1)).Nodup -> merged kvs more = kvs ++ more := by
 intro more
 induction more with
 | nil => intro kvs _; exact (List.append_nil _).symm
 | cons p r ih =>
  intro kvs h
  have h1 : (valueAt kvs p.1).isSome = false := by
   cases q : valueAt kvs p.1 with
   | none => rfl
   | some u =>
    obtain ⟨x, hx, _⟩ := Option.map_eq_some_iff.mp (show (kvs.find? fun kv => decide (kv.1 = p.1)).map _ = _ from q)
    rw [List.map_append, List.nodup_append] at h
    exact absurd rfl (h.2.2 p.1 (of_decide_eq_true (p := x.1 = p.1) (List.find?_some (p := fun (kv : Str × Value) => decide (kv.1 = p.1)) hx) ▸ List.mem_map_of_mem (List.mem_of_find?_eq_some hx)) p.1 (.head _))
  show merged (PySem.stored kvs p.1 p.2) r = _
  rw [aEl h1, ih (by rwa [List.append_assoc]), List.append_assoc]; rfl
theorem aEp {h : Heap} (G : Gd S h) : (h.objs.size == sysModules) = false := by
 obtain ⟨o, _, _, ho, _⟩ := G.t.g
 have : mainGlobals < h.objs.size := Heap.lt_size ho
 have h3 : mainGlobals = 3 := rfl
 have h1 : sysModules = 1 := rfl
 rw [h3] at this
 rw [h1]
 refine beq_eq_false_iff_ne.mpr (fun q => ?_)
 have q' : (h.objs.size : Nat) = 1 := q
 have t' : (3 : Nat) < h.objs.size := this
 omega
theorem aBR {P : Prop} {ko : Option Expr} {kos : List (Option Expr)} {ks : List Str} (h : nQ (ko :: kos) ks = true) (z : ∀ x kd kp r, ko = some (.Constant (.str x) kd kp) -> ks = x :: r -> nQ kos r = true -> P) : P :=
 (mY (G := fun k => k = ko -> P) h fun e h q => (gF (G := fun l => l = ks -> P) h fun x r h q' => (kO (G := fun e => some e = ko -> P) (aA h).1 fun c kd kp hc q => z x kd kp r (by rw [<- q, eq_of_beq hc]) q'.symm (aA h).2) q) rfl) rfl
theorem aFH {kos : List (Option Expr)} : ∀ {ks : List Str}, nQ kos ks = true -> kos.all (·.isSome) = true := by
 induction kos with
 | nil => intro _ _; rfl
 | cons ko kos ih => intro ks h; exact aBR h fun x kd kp r q _ h => by rw [q]; exact ih h
noncomputable def aEQ (S : SP) (ks : List Str) (g : Heap) (ρ : List Addr) (ps : List (Value × Value)) (vs : List aB) : Prop := KV ks ps /\ cR S g ρ (ps.map (·.2)) vs
theorem aKO {pos : Pos} {kos : List (Option Expr)} : ∀ {n : Nat} (ihE : ∀ m, m < n -> SE S hb m) {k : Nat} {c : Cx} {g : Heap} {ρ : List Addr} {σ : aG} {s : Shared} {vs : List Expr} {ks : List Str} {xs : List aK} {Q : List (Value × Value) -> Shared -> Prop},
  nQ kos ks = true -> kos.length = vs.length -> cT k c.env.scope vs xs = true -> aF S c g s.heap mv ρ σ -> aV S g ρ mv ρv -> aX hb n A c g -> aH S (aEQ S ks) c g mv ρ s Q E (eW FT hb n xs ρv σ) -> wpAny (model S.prog S.w) A (evalPairs (pairTrees kos vs c.env pos)) Q E s := by
 induction kos with
 | nil =>
  intro n ihE k c g ρ σ s vs ks xs Q hk hl h1 I R H P
  obtain rfl := List.length_eq_zero_iff.mp hl.symm
  obtain rfl : xs = [] := List.length_eq_zero_iff.mp (yC h1).symm
  obtain rfl := List.isEmpty_iff.mp hk
  cases n with
  | zero => exact fP P
  | succ n => exact evalPairs_nil (P.2 g ρ [] s.heap s.toks (Nat.le_refl _) (bU _) (aQ.refl _) I ⟨trivial, trivial⟩)
 | cons ko kos ih =>
  intro n ihE k c g ρ σ s vs ks xs Q hk hl h1 I R H P
  refine nP h1 fun k q => ?_
  subst q
  cases n with
  | zero => exact fP P
  | succ n =>
  cases xs with
  | nil => rw [nO h1] at hl; cases hl
  | cons x xs =>
  refine mF h1 fun v vs' q _ hx h2 => ?_
  subst q
  refine aBR hk fun y kd kp ks' q1 q2 hk2 => ?_
  subst q1; subst q2
  have P0 := aH.shift (h' := s.heap) (tk := s.toks + 1) P (Nat.le_succ _) (bU g) (aQ.refl ρ)
  refine pairTrees_cons_walk (wpAny_Constant_str (ihE n (Nat.lt_succ_self n) hx (s := { s with toks := s.toks + 1 }) I R (H.le (Nat.le_succ n)) (aH.bind P0 fun va σ₁ g₁ ρ₁ pa h₁ tk e t kg kr I₁ ra P₁ => ?_)))
  refine ih (fun m hm => ihE m (Nat.lt_succ_of_lt hm)) hk2 (Nat.succ.inj hl) h2 I₁ (R.mono kg kr) ((H.le (Nat.le_succ n)).mono kg) (aH.bind P₁ fun vals σ₂ g₂ ρ₂ ps h₂ tk₂ e t₂ kg₂ kr₂ I₂ rb P₂ => ?_)
  exact P₂.2 g₂ ρ₂ _ _ _ (Nat.le_refl _) (bU _) (aQ.refl _) I₂ ⟨⟨⟨_, rfl⟩, rb.1⟩, ra.mono kg₂ kr₂, rb.2⟩
theorem aKA {b : Bool} {pos : Pos} {Q : Value -> Shared -> Prop} (I : aF S c g s.heap mv ρ σ) (P : aH S (VR S) c g mv ρ s Q E (aP FT hb (n + 1) (.dict b [] []) ρv σ)) :
  wpAny (model S.prog S.w) A (eval (.Dict [] [] pos) c.env) Q E s := by
 have hsy : (s.heap.objs.size == sysModules) = false := aEp (I.gd.mono I.stays)
 have d0 : (s.heap.push { cls := .type "dict", data := .dict #[] }).DictOf (PySem.strKind S.prog S.w) s.heap.objs.size [] := Heap.DictOf.new _
 refine wpAny_Dict_empty ?_
 cases n with
 | zero => exact fP P
 | succ n =>
 cases b
 ·refine aH.more (v := .d (.dict [])) (tk := s.toks) P I (dO _ _) (fun g' kg new => ?_) (Nat.le_refl _)
  exact d0.elim fun o x => x.elim fun es x => x.elim fun ep x => RD.dict (pvs := []) ⟨o, es, ep, new _ _ x.1 (eR _), x.2⟩ hsy trivial
 ·exact aH.allocL (tk := s.toks) (o := .dct []) P I (dO _ _) (eR _) (Heap.get?_push_size _ rfl) (fun g' kg' => ⟨[], d0, hsy, trivial⟩) (fun kvs q kv hkv => by cases q; cases hkv) (Nat.le_refl _)
theorem aId {n : Nat} {v : aB} (h : zU n v = true) : jR n v := by
 cases v with
 | loc l => exact (of_decide_eq_true h : l < n)
 | d | fn => trivial
 | _ => exact bK h
theorem aF.other {h h' : Heap} {a : Addr} (I : aF S c g h mv ρ σ) (hs : Heap.SameBut a h h') (ha : a ∉ c.hid ρ) (hg : g.get? a = none) (hbg : c.bg.get? a = none) : aF S c g h' mv ρ σ := by
 have kk : ∀ b o, b ≠ a -> h.get? b = some o -> h'.get? b = some o := fun b o hn q => (hs.2 b hn).trans q
 have hne : ∀ b ∈ c.hid ρ, b ≠ a := fun b hb q => ha (q ▸ hb)
 obtain ⟨m, hn, hm⟩ := I.ns
 exact {
  stays := fun b o q => kk b o (fun z => by rw [z, hg] at q; cases q) (I.stays b o q)
  bgs := fun b o q => kk b o (fun z => by rw [z, hbg] at q; cases q) (I.bgs b o q)
  gd := I.gd
  fr := I.fr
  ns := ⟨m, hn.sameBut hs (hne _ (eZ oC)), hm⟩
  cl := fun ho x hx => let ⟨b, q1, q2⟩ := I.cl ho x hx; ⟨b, q1, gS (fun o => kk b o (hne b (eZ (bQ.mpr (.inr (.inr (by unfold Cx.oc; rw [if_pos ho]; exact List.mem_map.mpr ⟨(x, b), jF q1, rfl⟩))))))) q2⟩
  cf := I.cf
  hidn := I.hidn
  live := fun b hb => let ⟨o, ho⟩ := I.live b hb; ⟨o, kk b o (hne b hb) ho⟩
  nd := I.nd
  bgn := I.bgn
  len := I.len
  st := fun l o b q1 q2 => (I.st l o b q1 q2).keeps (bU _) (aQ.refl _) fun o => kk b o (hne b (eZ (bQ.mpr (.inl (mR q2)))))
  wf := I.wf }
theorem aKz {kos : List (Option Expr)} {vs : List Expr} {ks : List Str} {xs : List aK} {b : Bool} {pos : Pos} {Q : Value -> Shared -> Prop} (ihE : ∀ m, m < n + 1 -> SE S hb m) (hk : nQ kos ks = true) (hl : kos.length = vs.length) (hlen : kos.length <= 15) (hlk : ks.length = kos.length) (hnd : ks.Nodup)
  (h1 : cT k c.env.scope vs xs = true) (I : aF S c g s.heap mv ρ σ) (R : aV S g ρ mv ρv) (H : aX hb n A c g)
  (P : aH S (VR S) c g mv ρ s Q E (aP FT hb (n + 1) (.dict b ks xs) ρv σ)) : wpAny (model S.prog S.w) A (eval (.Dict kos vs pos) c.env) Q E s := by
 by_cases h0 : kos = []
 ·subst h0
  obtain rfl := List.length_eq_zero_iff.mp hl.symm
  obtain rfl := List.length_eq_zero_iff.mp hlk
  obtain rfl := List.length_eq_zero_iff.mp (yC h1).symm
  exact aKA I P
 have hsy : (s.heap.objs.size == sysModules) = false := aEp (I.gd.mono I.stays)
 have e0 : s.heap.get? s.heap.objs.size = none := eR _
 have k0 : s.heap.StaysIn (s.heap.push { cls := .type "dict", data := .dict #[] }) := dO _ _
 have hnm : s.heap.objs.size ∉ c.hid ρ := fun hm => by obtain ⟨o, ho⟩ := I.live _ hm; rw [e0] at ho; cases ho
 obtain ⟨od, es0, ep0, hod, rd0⟩ : (s.heap.push { cls := .type "dict", data := .dict #[] }).DictOf (PySem.strKind S.prog S.w) s.heap.objs.size [] := Heap.DictOf.new _
 have I1 := I.later k0
 have I2 := I1.cold (l := [s.heap.objs.size]) fun a ha => List.mem_singleton.mp ha ▸ ⟨gT I.stays e0, _, hod⟩
 have P2 := aH.shift (h' := s.heap.push { cls := .type "dict", data := .dict #[] }) (tk := s.toks) P (Nat.le_refl _) (bU g) (aQ.refl ρ)
 refine wpAny_Dict_walk (knd := PySem.strKind S.prog S.w) (aFH hk) hl h0 hlen ?_
 refine aKO (c := c.cold _ ρ [s.heap.objs.size]) (fun m hm => ihE m (Nat.lt_succ_of_lt hm)) hk hl h1 I2 R H.cold (aH.bindC I1 P2 fun vals σ₁ g₁ ρ₁ ps h₁ tk e t kg kr I₁ rp P₁ => ?_)
 have hbg := hideAll_get (c.mut ρ) hod fun hm => hnm (eZ hm)
 refine ⟨ks.zip (ps.map (·.2)), rp.1.carries, ⟨od, es0, ep0, I₁.bgs _ _ hbg, rd0⟩, fun h₂ hd2 hs2 => ?_⟩
 rw [aIo (kvs := []) (by rw [List.nil_append, List.map_fst_zip (by rw [List.length_map, aY.length rp.1]; exact Nat.le_refl _)]; exact hnd), List.nil_append] at hd2
 exact s_dict2 hsy e0 hnm hbg I (I1.thaw I₁) (fun a ha q => by have := I₁.bgn a ha; rw [q] at this; exact nomatch hbg.symm.trans this) (I₁.hidn _ (bJ.mpr (.inr (by simp [Cx.cold])))) hd2 hs2 rp.2 P₁
where
 s_dict2 {s : Shared} {Q : Value -> Shared -> Prop} {a : Addr} {od : Obj} {g₁ h₁ h₂ : Heap} {ρ₁ : List Addr} {σ₁ : aG} {vals : List aB} {pvs : List Value} {b : Bool} {ks : List Str} {h0 : Heap} {tk : Nat} (hsy : (a == sysModules) = false) (e0 : s.heap.get? a = none) (hnm : a ∉ c.hid ρ) (hbg : (hideAll h0 (c.mut ρ)).get? a = some od)
  (I : aF S c g s.heap mv ρ σ) (Iw : aF S c g₁ h₁ mv ρ₁ σ₁) (hne : ∀ x ∈ c.mut ρ₁, x ≠ a) (hng : g₁.get? a = none) (hd2 : h₂.DictOf (PySem.strKind S.prog S.w) a (ks.zip pvs)) (hs2 : Heap.SameBut a h₁ h₂) (rp : cR S g₁ ρ₁ pvs vals)
  (P₁ : aH S (VR S) c g₁ mv ρ₁ { s with heap := h₁, toks := tk } Q E (uN b ks vals σ₁)) {tk' : Nat} (kt : tk <= tk' := by first | exact Nat.le_refl _ | exact Nat.le_add_right _ _) : Q (.ref a) { s with heap := h₂, toks := tk' } := by
  have hnl : a ∉ c.hid ρ₁ := fun ha => (bJ.mp ha).elim (fun ha => hne _ ha rfl) fun ha => hnm (bJ.mpr (.inr ha))
  have I3 := Iw.other hs2 hnl hng (gT I.bgs e0)
  cases b
  ·have I4 := I3.grow (bU h₂)
   exact aH.lift_r P₁ fun v e P₂ => cV e fun ds hds q => (q ▸ P₂).2 _ ρ₁ _ h₂ _ kt I4.2 (aQ.refl _) I4.1
    (hd2.elim fun o x => x.elim fun es x => x.elim fun ep x => RD.dict ⟨o, es, ep, hideAll_get _ x.1 hnl, x.2⟩ hsy (dJ.mono I4.2 (aM.rdk (cR.datas rp hds))))
  ·refine aH.lift2_r P₁ fun v σ' e P₂ => bO e fun hlow e => ?_
   obtain ⟨rfl, rfl⟩ := Prod.mk.inj (Option.some.inj e)
   refine P₂.2 g₁ (ρ₁ ++ [a]) _ h₂ _ kt (bU _) (aQ.app _ _) (hd2.elim fun od2 x => x.elim fun _ x => x.elim fun _ x => I3.adopt (o := .dct (ks.zip vals)) hnl hng (gT I.bgs e0) x.1 ⟨_, hd2, hsy, cQ.mono (bU _) (aQ.app _ _) (cR.vrk rp)⟩ fun kvs q kv hkv => ?_) ⟨a, by rw [<- Iw.len]; simp, rfl⟩
   exact aId (List.all_eq_true.mp hlow _ (List.of_mem_zip (bN.dct.inj q ▸ hkv)).2)
end
end PQ
namespace PQ
theorem aGM {K : Frag} : ∀ {xs : List Str} {rs : List aW} {f : Nat} {x : Str} {r : aW}, yY K xs rs = true -> xs[f]? = some x -> rs[f]? = some r -> ∃ a, iN K x = some a /\ pL K a r = true := by
 intro xs
 induction xs with
 | nil => intro rs f x r _ h; cases h
 | cons y xs ih =>
  intro rs f x r h
  refine gF h fun r' rs h h1 h2 => ?_
  cases f with
  | zero => rw [<- Option.some.inj h1, <- Option.some.inj h2]; exact mY (aA h).1 fun a h => ⟨a, rfl, h⟩
  | succ f => exact ih (aA h).2 h1 h2
noncomputable def tX (K : Frag) (x nm : Str) (ga : Value) : Bool := cM (iN K x) fun C => cM (clsIn K C) fun cd => cd.hasDict && (findIn K (.ref C) nm == some none && findIn K (.ref C) "__getattribute__" == some (some ga))
structure Wd (S : SP) : Prop where
 ok : aAI S.K = true
 tongue : tX S.K "Tongue" "types" (.builtin "object.__getattribute__") = true
section
variable {S : SP} {c : Cx} {g : Heap} {mv : Str -> Option Value} {ρ : List Addr} {σ : aG} {A : Around} {E : Value -> Shared -> Prop} {s : Shared} {hb : Bool} {n k : Nat} {ρv : aJ} {Q : Value -> Shared -> Prop} {x : Str} {np pos : Pos} {es : List Expr} {xs : List aK}
theorem aGP {f : Nat} (hx : jO[f]? = some x) : ∃ r, FT f = some r := by
 have h : jO.length = FTl.length := by decide +kernel
 exact ⟨FTl[f]'(h ▸ (List.getElem?_eq_some_iff.mp hx).1), List.getElem?_eq_getElem _⟩
theorem uS (W : Wd S) {f : Nat} (hx : jO[f]? = some x) : ∃ a r, fad S f = some a /\ FT f = some r /\ pL S.K a r = true :=
 (aGP hx).elim fun r hr => (aGM (aA W.ok).1 hx hr).elim fun a h => ⟨a, r, by unfold fad; rw [hx]; exact h.1, hr, h.2⟩
theorem aGI (W : Wd S) {f : Nat} {a : Addr} {r : aW} (ha : fad S f = some a) (hr : FT f = some r) : pL S.K a r = true :=
 aL ha fun x hx e => (uS W hx).elim fun b h => h.elim fun r' h => by rw [<- Option.some.inj (hr.symm.trans h.2.1), <- Option.some.inj (ha.symm.trans h.1)] at h; exact h.2.2
theorem dB {α : Type} {x : Option α} {f : α -> Bool} (h : cM x f = true) : ∃ a, x = some a /\ f a = true := mY h fun a h => ⟨a, rfl, h⟩
theorem aGJ {a : Addr} {r : aW} {K : Frag} (h : pL K a r = true) : ∃ o fd, K.lookup a = some o /\ o.data = .func fd :=
 (dB h).elim fun o h => (dB h.2).elim fun fd q => ⟨o, fd, h.1, uU q.1⟩
theorem aBF (W : Wd S) (b : Bi) : nsIn S.K mainGlobals (gO b) = some none /\ bootBuiltins (gO b) = some (nL b) := by
 have h := aA (List.all_eq_true.mp (aA (aA W.ok).2).1 b (by cases b <;> decide))
 exact ⟨eq_of_beq h.1, eq_of_beq h.2⟩
theorem aBE (b : Bi) : gO b ≠ "__name__" := by cases b <;> decide
theorem aE9 (b : Bi) : (∃ i, nL b = .builtin i) \/ (∃ i, nL b = .type i) := by
 cases b <;> first | exact .inl ⟨_, rfl⟩ | exact .inr ⟨_, rfl⟩
theorem wG {env : Env} {sc : Scope} (h : cT k sc es xs = true) : (backTo pos (starEach es env)).any (·.1) = false /\ (backTo pos (starEach es env)).all (fun x => !x.1) = true := by
 induction xs generalizing k es with
 | nil => cases k with
  | zero => exact bK h
  | succ k => rw [nO h]; exact ⟨rfl, rfl⟩
 | cons m ms ih => cases k with
  | zero => exact bK h
  | succ k =>
    refine mF h fun e r q hs _ h => ?_
    rw [q, wF hs]
    show (false || (backTo pos (starEach r env)).any (·.1)) = false /\ (true && (backTo pos (starEach r env)).all (fun x => !x.1)) = true
    rw [Bool.false_or, Bool.true_and]; exact ih h
theorem vY {f : Value} {Q : Args -> Shared -> Prop} (ih : SEs S hb n) (h1 : cT k c.env.scope es xs = true)
  (I : aF S c g s.heap mv ρ σ) (R : aV S g ρ mv ρv) (H : aX hb n A c g) (P : aH S (cR S) c g mv ρ s (fun vs s' => Q ⟨vs, []⟩ s') E (eW FT hb n xs ρv σ)) :
  wpAny (model S.prog S.w) A (evalArgs f true (backTo pos (starEach es c.env)) []) Q E s := by
 refine nP h1 fun j q => ?_
 subst q
 cases xs with
 | nil =>
  rw [nO h1]
  cases n with
  | zero => exact fP P
  | succ n => exact PyProof.Rows.evalArgs_nil3 (P.2 g ρ [] s.heap s.toks (Nat.le_refl _) (bU _) (aQ.refl _) I trivial)
 | cons x xs =>
  refine mF h1 fun e r q hs _ _ => ?_
  have z := ih (pos := pos) h1 I R H P
  rw [q, wF hs] at z ⊢
  exact evalArgs_plain z
theorem aKn {b : Bi} (W : Wd S) (ih : SEs S hb n) (hv : b ≠ .vals) (hg : dK c.env.scope (gO b) = true) (h1 : cT k c.env.scope es xs = true)
  (I : aF S c g s.heap mv ρ σ) (R : aV S g ρ mv ρv) (H : aX hb n A c g) (P : aH S (VR S) c g mv ρ s Q E (aP FT hb (n + 1) (.bi b xs) ρv σ)) :
  wpAny (model S.prog S.w) A (eval (.Call (.Name (gO b) np) es [] pos) c.env) Q E s := by
 have q := aBF W b
 refine wpAny_Call_Name_kw (vW hg q.1 q.2 (aBE b) I ?_)
 have fin : wpAny (model S.prog S.w) A (evalArgs (nL b) true (backTo pos (starEach es c.env)) []) (fun a s₁ => wpAny (model S.prog S.w) A (call (nL b) ([] ++ a.pos) a.kw) Q E s₁) E s :=
  vY ih h1 I R H (aH.bind P fun vs σ₁ g₁ ρ₁ pvs h₁ tk e t kg kr I₁ ra P₁ => P₁.lift_r fun v e P₂ => aFd e hv I₁ ra (H.mono kg) P₂)
 have hpl := (wG (pos := pos) (env := c.env) h1).1
 rcases aE9 b with ⟨i, h⟩ | ⟨i, h⟩
 ·rw [h] at fin ⊢; exact Calls.callWith_builtin hpl fin
 ·rw [h] at fin ⊢; exact PySem.callWith_type hpl fin
theorem aCn {f : Nat} {a : Addr} {s : Shared} {g : Heap} {ρ : List Addr} {σ : aG} (W : Wd S) (ih : SEs S hb n) (ihc : oV S hb n) (ha : fad S f = some a) (h1 : cT k c.env.scope es xs = true)
  (I : aF S c g s.heap mv ρ σ) (R : aV S g ρ mv ρv) (H : aX hb n A c g) (P : aH S (VR S) c g mv ρ s Q E ((eW FT hb n xs ρv σ).bind fun vs σ => kG FT hb n f vs σ)) :
  wpAny (model S.prog S.w) A (callWith pos (.ref a) [] (backTo pos (starEach es c.env)) (backToKw pos (keywordEach [] c.env))) Q E s :=
 aL ha fun x hx e => (uS W hx).elim fun b h => h.elim fun r h => (aGJ h.2.2).elim fun o q => q.elim fun fd q => by
  obtain rfl := Option.some.inj (ha.symm.trans h.1)
  obtain ⟨oc, od, dt, sl⟩ := o
  obtain ⟨q1, q2⟩ := q
  obtain rfl : dt = .func fd := q2
  refine callWith_function (o := ⟨oc, od, .func fd, sl⟩) (fd := fd) (vY ih h1 I R H (aH.bind P fun vs σ₁ g₁ ρ₁ pvs h₁ tk e t kg kr I₁ ra P₁ => ?_))
  exact ⟨⟨I₁.stays _ _ (I₁.gd.k _ _ q1), rfl⟩, ihc ha I₁ ra (H.mono kg) P₁⟩
theorem aKr {f : Nat} (W : Wd S) (ih : SEs S hb n) (ihc : oV S hb n) (hx : jO[f]? = some x) (hg : dK c.env.scope x = true) (h1 : cT k c.env.scope es xs = true)
  (I : aF S c g s.heap mv ρ σ) (R : aV S g ρ mv ρv) (H : aX hb n A c g) (P : aH S (VR S) c g mv ρ s Q E (aP FT hb (n + 1) (.call f xs) ρv σ)) :
  wpAny (model S.prog S.w) A (eval (.Call (.Name x np) es [] pos) c.env) Q E s :=
 (uS W hx).elim fun a h => h.elim fun r h => wpAny_Call_Name_kw (vX hg (aBv hx h.1) I (aCn W ih ihc h.1 h1 I R H P))
theorem aKt {a : aK} {v sl : Expr} {sp : Pos} (W : Wd S) (ihE : SE S hb n) (ih : SEs S hb n) (ihc : oV S hb n) (h0 : aR k c.env.scope (.Subscript v sl sp) a = true) (h1 : cT k c.env.scope es xs = true)
  (I : aF S c g s.heap mv ρ σ) (R : aV S g ρ mv ρv) (H : aX hb n A c g) (P : aH S (VR S) c g mv ρ s Q E (aP FT hb (n + 1) (.callv a xs) ρv σ)) :
  wpAny (model S.prog S.w) A (eval (.Call (.Subscript v sl sp) es [] pos) c.env) Q E s := by
 refine wpAny_bind (m := eval (.Subscript v sl sp) c.env) (ihE h0 I R H (aH.bind P fun va σ₁ g₁ ρ₁ pa h₁ tk e t kg kr I₁ ra P₁ => P₁.liftB_r fun f e P₂ => ?_))
 exact (show VR S g₁ ρ₁ pa (.fn f) from aEV e ▸ ra).elim fun ad q => q.2 ▸ aCn W ih ihc q.1 h1 I₁ (R.mono kg kr) (H.mono kg) P₂
theorem aBC {o : Expr} {nm : Str} {env : Env} (h : ∀ id p q, o = .Call (.Name id p) [] [] q -> (id != "super") = true) : attributeBase o nm env (eval o env) = eval o env := by
 cases o with
 | Call f as ks p =>
  cases f with
  | Name id q =>
   cases as with
   | cons => rfl
   | nil => cases ks with
    | cons => rfl
    | nil =>
     unfold attributeBase
     dsimp only
     rw [h id q p rfl, Bool.true_or]; rfl
  | _ => rfl
 | _ => rfl
theorem aGL : ("super" : Str) ∉ jO := by decide +kernel
theorem aE7 (b : Bi) : gO b ≠ "super" := by cases b <;> decide
theorem aBD {o : Expr} {m : aK} {sc : Scope} (h : aR k sc o m = true) (hs : m ≠ .stuck) : ∀ id p q, o = .Call (.Name id p) [] [] q -> (id != "super") = true := by
 intro id p q z
 refine bne_iff_ne.mpr fun y => ?_
 subst z
 cases k with
 | zero => exact bK h
 | succ k =>
 cases m with
 | stuck => exact hs rfl
 | call f es =>
  have h : (true && (jO[f]? == some id && (dK sc id && cT k sc [] es))) = true := h
  exact aGL (y ▸ List.mem_of_getElem? (eq_of_beq (aA (aA h).2).1))
 | bi b es => exact aE7 b ((eq_of_beq (aA (aA (show (true && (gO b == id && _)) = true from h)).2).1).trans y)
 | newI es => exact absurd ((eq_of_beq (aA (aA (show (true && (("Tongue" : Str) == id && _)) = true from h)).2).1).trans y) (by decide)
 | lit d => exact bK h
 | _ => exact bK h
end
end PQ
namespace PQ
section
variable {S : SP} {c : Cx} {g h : Heap} {mv : Str -> Option Value} {ρ : List Addr} {σ : aG} {A : Around} {E : Value -> Shared -> Prop} {s : Shared} {Q : Value -> Shared -> Prop} {hb : Bool} {n k : Nat} {ρv : aJ}
theorem few {pos : Pos} {env : Env} {sc : Scope} {es : List Expr} {xs : List aK} (h1 : cT k sc es xs = true) (hl : es.length <= 5) :
  ((backTo pos (starEach es env)).all (fun x => !x.1) && (backToKw pos (keywordEach [] env)).all (fun x => x.1.isSome)
   && decide (es.length + ([] : List Keyword).length + (if ([] : List Keyword).isEmpty then 0 else 1) < 30)) = true := by
 rw [(wG (pos := pos) (env := env) h1).2, Bool.true_and]
 exact decide_eq_true (Nat.lt_of_le_of_lt hl (by decide))
theorem aBY {cst : Const} {d : PyData} {y : Str} (h : lG cst d = true) (e : dH d = some y) : cst = .str y := by
 rw [xL e] at h
 exact (Option.some.inj (eq_of_beq h)).symm
theorem aB9 {n : Nat} {σ : aG} : aP FT hb n .stuck ρv σ = .stuck := by cases n <;> rfl
theorem aGi {n : Nat} {d1 d2 : PyData} {σ : aG} : eW FT hb n [.lit d1, .lit d2] ρv σ = .stuck \/ eW FT hb n [.lit d1, .lit d2] ρv σ = .ok [.d d1, .d d2] σ := by
 rcases n with _ | _ | _ | n <;> first | exact .inl rfl | exact .inr rfl
theorem aIq {s : Shared} {vo v : aB} {σ' : aG} {pa : Value} {Q : Value -> Shared -> Prop} {d1 d2 : PyData} {c1 c2 : Const} {k1 k2 : Nat} {p1 p2 pos : Pos} (e : eY .replace vo [.d d1, .d d2] σ = some (v, σ')) (q1 : lG c1 d1 = true) (q2 : lG c2 d2 = true) (I : aF S c g s.heap mv ρ σ) (ra : VR S g ρ pa vo)
  (P : aH S (VR S) c g mv ρ s Q E (.ok v σ')) :
  wpAny (model S.prog S.w) A (callWith pos (.builtin "str.replace") [pa] [(false, eval (.Constant c1 k1 p1) c.env), (false, eval (.Constant c2 k2 p2) c.env)] []) Q E s :=
 aL e fun x e1 e => aL e fun ds e2 e => cV e fun z e q => aL e fun xx e3 e => aL e fun p e4 e => aL e fun y e5 e => aL e fun zz e6 e => bO e fun hl ee => iW (qG I ra e1) e3 fun t => by
  obtain rfl := Option.some.inj (show some [d1, d2] = some ds from e2)
  obtain rfl := Option.some.inj (show some (d1, d2) = some p from e4)
  rw [aBY q1 e5, aBY q2 e6]
  have P : aH S (VR S) c g mv ρ s Q E (.ok (.d z) σ) := (Prod.mk.inj q).1 ▸ (Prod.mk.inj q).2 ▸ P
  have hpos := P.pos
  refine Calls.callWith_builtin rfl (evalArgs_plain (spliced_cons (wpAny_Constant_str (spliced_cons (wpAny_Constant_str (spliced_nil ?_))))))
  exact aJX (s := { s with toks := s.toks + 1 + 1 }) (u := s.toks) (v := s.toks + 1) (Nat.ne_of_gt hpos) (Nat.succ_ne_zero _) (Nat.ne_of_lt (Nat.lt_succ_self _)) hl I (aH.shift (h' := s.heap) (tk := s.toks + 1 + 1) (P.of ee) (Nat.le_add_right _ 2) (bU _) (aQ.refl _))
theorem aKK {o : Expr} {m : Me} {ox : aK} {apos pos : Pos} {es : List Expr} {xs : List aK} {Q : Value -> Shared -> Prop} (ihE : SE S hb n) (ih : SEs S hb n) (h0 : aR k c.env.scope o ox = true) (h1 : cT k c.env.scope es xs = true) (hl : es.length <= 5)
  (hline : (apos.endLine == pos.line) = true) (hr : m = .replace -> aBc es xs = true)
  (I : aF S c g s.heap mv ρ σ) (R : aV S g ρ mv ρv) (H : aX hb n A c g) (P : aH S (VR S) c g mv ρ s Q E (aP FT hb (n + 1) (.meth ox m xs) ρv σ)) :
  wpAny (model S.prog S.w) A (eval (.Call (.Attribute o (vK m) apos) es [] pos) c.env) Q E s := by
 by_cases hst : ox = .stuck
 ·subst hst
  exact fP (aB9 (hb := hb) (ρv := ρv) (n := n) (σ := σ) ▸ (show aH S (VR S) c g mv ρ s Q E ((aP FT hb n .stuck ρv σ).bind _) from P))
 refine wpAny_Call_method_late (aBC (aBD h0 hst)) (few h1 hl) hline rfl (ihE h0 I R H (aH.bind P fun va σ₁ g₁ ρ₁ pa h₁ tk e t kg kr I₁ ra P₁ => P₁.liftB_r fun _ hf P₂ => bO hf fun hf _ => aIp hf I₁ ra ?_))
 by_cases hm : m = .replace
 ·subst hm
  refine aLU (hr rfl) fun c1 k1 p1 c2 k2 p2 d1 d2 q3 q4 w1 w2 => ?_
  subst q3 q4
  rcases aGi (hb := hb) (ρv := ρv) (n := n) (d1 := d1) (d2 := d2) (σ := σ₁) with z | z
  ·rw [z] at P₂; exact fP P₂
  ·rw [z] at P₂; exact aH.lift2_r P₂ fun v σ' hv P₄ => aIq (k1 := k1) (k2 := k2) (p1 := p1) (p2 := p2) hv w1 w2 I₁ ra P₄
 ·exact Calls.callWith_builtin (wG h1).1 (vY ih h1 I₁ (R.mono kg kr) (H.mono kg) (aH.bind P₂ fun vs σ₂ g₂ ρ₂ pvs h₂ tk e t kg₂ kr₂ I₂ rb P₃ => P₃.lift2_r fun v σ' hv P₄ => aIr hv hm I₂ (ra.mono kg₂ kr₂) rb P₄))
end
end PQ
namespace PQ
section
variable {S : SP} {c : Cx} {g h : Heap} {mv : Str -> Option Value} {ρ : List Addr} {σ : aG} {A : Around} {E : Value -> Shared -> Prop} {s : Shared} {Q : Value -> Shared -> Prop} {hb : Bool} {n k : Nat} {ρv : aJ}
theorem aL4 {pvs : List (Str × Value)} {kvs : List (PyData × PyData)} (h : dJ S g pvs kvs) : aM S g (pvs.map (·.2)) (kvs.map (·.2)) :=
 aY.ind (R := RK S g) (G := fun pvs kvs => aM S g (pvs.map fun (p : Str × Value) => p.2) (kvs.map fun (p : PyData × PyData) => p.2)) (oU.mp h) trivial fun _ _ _ _ h _ q => ⟨h.2, q⟩
theorem aL3 {pos : Pos} {pa : Value} {va : aB} {v : aB} {Q : Value -> Shared -> Prop} (hv : dT hb .vals [va] σ = some v) (I : aF S c g s.heap mv ρ σ) (ra : VR S g ρ pa va) (H : aX hb n A c g) (P : aH S (VR S) c g mv ρ s Q E (.ok v σ)) :
  MethodOn S.prog S.w A "values" pos pa [] (fun w s' => wpAny (model S.prog S.w) A (call (.type "list") [w]) Q E s') E s := by
 refine bO hv fun hbb e => aL e fun ds hds e => cV e fun z hz q => aL hz fun kvs e1 e => aL e1 fun d e1 e2 => bO e fun hl e => ?_
 have R1 : RH S g s.heap pa d := (aAz (G := fun l => l = [pa] -> RH S g s.heap pa d) (aAP I (show cR S g ρ [pa] [va] from ⟨ra, trivial⟩) hds) e1 fun a h q => (List.cons.inj q).1 ▸ h) rfl
 have P : aH S (VR S) c g mv ρ s Q E (.ok (.d (.list (kvs.map (·.2)))) σ) := (q ▸ P : aH S (VR S) c g mv ρ s Q E (.ok (.d z) σ)).of e
 have hh : A.handled = none := lI H (by rw [show quiet .vals = false from rfl, Bool.or_false] at hbb; exact fE hbb)
 clear hbb hds hz q e e1 hv
 refine aAO R1 e2 fun ad pvs d1 d2 d3 => ?_
 have d1' := nS d1 I.stays
 refine ⟨"dict", "dict.values", PySem.F.plainAttrs_dict, PySem.F.slot_dict_values, PySem.F.type_dict_values, d1'.typeIs, fun a e => d1'.mapOf.noDict a e, ?_⟩
 refine method_meetsIn PySem.F.slot_dict_values PySem.F.entry_dict_values rfl (PyProof.Rows.evalArgs_nil3 ⟨rfl, d1'.typeIs, PySem.F.args_dict_values_1 _, _, meets_dict_values (PySem.strKind S.prog S.w) _ d2, ⟨_, d1'⟩, ?_⟩)
 have k1 := dO s.heap { cls := .type "dict_values", data := .fields #[.ref ad] }
 refine (nS d1' k1).dictAt.elim fun ep hat => ?_
 refine toks (s := { s with heap := s.heap.push { cls := .type "dict_values", data := .fields #[.ref ad] } }) (kdl_call (s := { s with heap := s.heap.push { cls := .type "dict_values", data := .fields #[.ref ad] } }) (kdl_values (knd := PySem.strKind S.prog S.w) (kvs := pvs) (ep := ep)) hh ⟨⟨_, Heap.get?_push_size _ rfl, rfl, rfl⟩, hat⟩ (kdl_size (by rw [dJ.length d3]; exact Nat.le_trans hl (by decide))) fun h' tk' acc' c' hk hD hacc kt => ?_)
 have ha : acc'.toList = pvs.map (·.2) := kdl_vals_eq acc'.toList (by rw [Array.length_toList]; exact hacc.1) fun j v e => hacc.2 j v (by rw [<- Array.getElem?_toList]; exact e)
 exact P.newList (tk := tk') I (fun a o e => hk a o (k1 a o e)) (gT k1 (eR _)) ⟨_, hD, rfl, rfl, _, rfl⟩ (by rw [ha]; exact aL4 d3) kt
theorem aGj {a : aK} : aP FT hb (n + 2) (.bi .vals [a]) ρv σ = (aP FT hb n a ρv σ).bind fun v σ₁ => (eW FT hb n [] ρv σ₁).bind fun vs σ₂ => lift (dT hb .vals (v :: vs) σ₂) σ₂ := by
 show ((aP FT hb n a ρv σ).bind fun v σ₁ => (eW FT hb n [] ρv σ₁).bind fun vs σ₂ => .ok (v :: vs) σ₂).bind (fun vs σ => lift (dT hb .vals vs σ) σ) = _
 cases aP FT hb n a ρv σ with
 | ok v σ₁ => cases n <;> rfl
 | _ => rfl
theorem aKV {o : Expr} {a : aK} {np apos pos q : Pos} {Q : Value -> Shared -> Prop} (W : Wd S) (ihE : SE S hb n) (hg : dK c.env.scope (gO .vals) = true) (h0 : aR k c.env.scope o a = true) (hline : (apos.endLine == q.line) = true)
  (I : aF S c g s.heap mv ρ σ) (R : aV S g ρ mv ρv) (H : aX hb n A c g) (P : aH S (VR S) c g mv ρ s Q E (aP FT hb (n + 2) (.bi .vals [a]) ρv σ)) :
  wpAny (model S.prog S.w) A (eval (.Call (.Name (gO .vals) np) [.Call (.Attribute o "values" apos) [] [] q] [] pos) c.env) Q E s := by
 rw [aGj] at P
 have hst : a ≠ .stuck := fun z => by rw [z, aB9] at P; exact fP P
 have q' := aBF W .vals
 refine Call_name1 rfl (vW hg q'.1 q'.2 (aBE .vals) I (PySem.callWith_type rfl (evalArgs_plain (spliced_cons ?_))))
 refine wpAny_Call_method0_late (aBC (aBD h0 hst)) hline (ihE h0 I R H (aH.bind P fun va σ₁ g₁ ρ₁ pa h₁ tk e t kg kr I₁ ra P₁ => ?_))
 cases n with
 | zero => exact fP P₁
 | succ n =>
  refine aH.lift_r (o := dT hb .vals [va] σ₁) P₁ fun v hv P₂ => ?_
  obtain ⟨T, id, z1, z2, z3, z4, z5, z6⟩ := aL3 (pos := q) hv I₁ ra (H.mono kg) P₂
  exact ⟨T, id, z1, z2, z3, z4, z5, wpAny_mono z6 (fun w s' hw => spliced_nil hw) fun _ _ e => e⟩
theorem aCU {h : Heap} {D : Addr} {m : Str -> Option Value} {x : Str} {v : Value} (hn : h.Ns D m) (hm : m x = some v) : ∃ od, h.get? D = some od /\ lookIn x od = some (some v) := by
 obtain ⟨o, es, ep, ho, hd, hk, hf⟩ := hn
 refine ⟨o, ho, ?_⟩
 unfold lookIn
 rw [hd]
 dsimp only
 rw [<- hf] at hm
 unfold nsFind findBy at hm
 rw [<- Array.find?_toList] at hm
 cases q : es.toList.find? (·.key.isStr x) with
 | none => rw [q] at hm; cases hm
 | some e => rw [q] at hm; cases hm; rfl
theorem aEZ {x nm : Str} {ga : Value} {C : Addr} {K : Frag} (h : tX K x nm ga = true) (hC : iN K x = some C) : ∃ cd, clsIn K C = some cd /\ cd.hasDict = true /\ findIn K (.ref C) nm = some none /\ findIn K (.ref C) "__getattribute__" = some (some ga) := by
 obtain ⟨C', e, h⟩ := dB h
 obtain rfl := Option.some.inj (hC.symm.trans e)
 obtain ⟨cd, e, h⟩ := dB h
 exact ⟨cd, e, (aA h).1, eq_of_beq (aA (aA h).2).1, eq_of_beq (aA (aA h).2).2⟩
theorem aCf {K : Frag} {C : Addr} {od : Obj} {nm : Str} {v : Value} {cd : ClassData} (h1 : clsIn K C = some cd) (h2 : cd.hasDict = true) (h3 : findIn K (.ref C) nm = some none) (h4 : lookIn nm od = some (some v)) : findObj K C (some od) nm = some (.value v) := by
 unfold findObj
 rw [h1, h3]
 simp only [Option.bind_some]
 unfold PySem.W.ownOf
 rw [h2]
 simp only [if_true, h4, Option.bind_some]
theorem aE0 {l : Nat} {pa : Value} {expr : Bool} {Q : Value -> Shared -> Prop} (W : Wd S) (I : aF S c g s.heap mv ρ σ) (ra : VR S g ρ pa (.inst l)) (P : aH S (VR S) c g mv ρ s Q E (.ok (.loc l) σ)) :
  wpAny (model S.prog S.w) A (getAttr pa "types" expr) Q E s := by
 cases (show wS S g ρ pa l from ra) with | mk a b o D m h1 h2 e h3 h4 h5 =>
 obtain ⟨cd, q1, q2, q3, q4⟩ := aEZ W.tongue h1
 obtain ⟨od, r1, r2⟩ := aCU h4 h5
 have X : S.K.In s.heap := fun a o e => I.stays _ _ (I.gd.k a o e)
 rw [e]
 exact get_value X (show InstAt s.heap a (instObj o D) o (some od) from ⟨I.stays _ _ h3, rfl, rfl, I.stays _ _ r1⟩) q4 (aCf q1 q2 q3 r2) rfl (P.same I (show VR S g ρ (.ref b) (.loc l) from ⟨b, h2, rfl⟩) (Nat.le_succ _))
end
end PQ
namespace PQ
theorem aGH {α β : Type} {f g : α -> Option β} {l : List α} (h : ∀ x ∈ l, f x = g x) : l.filterMap f = l.filterMap g := by
 induction l with
 | nil => rfl
 | cons a l ih => rw [List.filterMap_cons, List.filterMap_cons, h a (.head _), ih fun x hx => h x (.tail _ hx)]
theorem aIb {vs : List Value} : ∀ {xs : List Str}, vs.length = xs.length -> xs.Nodup -> xs.filterMap (fun n => ((xs.zip vs).lookup n).map (n, ·)) = xs.zip vs := by
 induction vs with
 | nil => intro xs hl _; rw [List.length_eq_zero_iff.mp hl.symm]; rfl
 | cons v vs ih =>
  intro xs hl hn
  cases xs with
  | nil => cases hl
  | cons x xs =>
  rw [List.nodup_cons] at hn
  have h1 : ((x :: xs).zip (v :: vs)).lookup x = some v := by rw [List.zip_cons_cons, List.lookup_cons, beq_self_eq_true]
  rw [List.filterMap_cons, h1]
  refine congrArg ((x, v) :: ·) (Eq.trans (aGH fun y hy => ?_) (ih (Nat.succ.inj hl) hn.2))
  rw [List.zip_cons_cons, List.lookup_cons, beq_eq_false_iff_ne.mpr (fun q => hn.1 (q ▸ hy) : y ≠ x)]
theorem aIc {vs : List Value} : ∀ {xs : List Str}, vs.length = xs.length -> ∀ n ∈ xs, ((xs.zip vs).lookup n).isNone = false := by
 induction vs with
 | nil => intro xs hl n hn; rw [List.length_eq_zero_iff.mp hl.symm] at hn; cases hn
 | cons v vs ih =>
  intro xs hl n hn
  cases xs with
  | nil => cases hn
  | cons x xs =>
  rw [List.zip_cons_cons, List.lookup_cons]
  cases q : n == x with
  | true => rfl
  | false => exact ih (Nat.succ.inj hl) n ((List.mem_cons.mp hn).elim (fun z => absurd z (beq_eq_false_iff_ne.mp q)) id)
theorem aGN {α β γ : Type} {l : List α} {m : List β} {b : γ} {f : α × β -> γ -> Sem (ForInStep γ)} (h : m = []) : forIn (l.zip m) b f = pure b := by rw [h, List.zip_nil_right]; rfl
theorem aBK {s : Shared} {fd : FuncData} {vals : List Value} (h1 : fd.params.posonlyargs = []) (h2 : fd.params.vararg = none) (h3 : fd.params.kwonlyargs = []) (h4 : fd.params.kwarg = none)
  (hn : (fd.params.args.map (·.arg)).Nodup) (hd : fd.defaults = .none)
  (hl : vals.length = fd.params.args.length) : BindsTo s fd ⟨vals, []⟩ ((fd.params.args.map (·.arg)).zip vals) := by
 intro M A E Q hq
 obtain ⟨_, _, ⟨po, as, va, ko, kd, kw, df⟩, _, _, _, _, dv, _, _, _, _, _, _, _⟩ := fd
 dsimp only at *
 subst h1 h2 h3 h4 hd
 have hl' : vals.length = (as.map (·.arg)).length := by rw [List.length_map]; exact hl
 unfold bindArgs
 refine wpAny_bind (wpAny_of_eq rfl ?_)
 refine wpAny_bind (wpAny_of_eq (a := none) rfl ?_)
 refine wpAny_ite_false (decide_eq_false fun q => absurd hl' (Nat.ne_of_gt (of_decide_eq_true (aA q).1))) ?_
 refine wpAny_ite_false (decide_eq_false fun q => ?_) ?_
 ·have e3 : ∀ k, (List.filter (fun n => (List.lookup n ((as.map (·.arg)).zip vals)).isNone) (List.take k (as.map (·.arg)))) = [] :=
   fun k => List.filter_eq_nil_iff.mpr fun n hn => by rw [aIc hl' n (List.mem_of_mem_take hn)]; exact Bool.false_ne_true
  exact bK ((congrArg (fun l => !List.isEmpty l) (e3 _)).symm.trans q)
 refine wpAny_bind (wpAny_of_eq (a := (as.map (·.arg)).zip vals) (aGN (List.drop_nil ..)) (wpAny_bind (wpAny_of_eq rfl (wpAny_ite_false rfl (wpAny_pure ?_)))))
 show Q (List.filterMap (fun n => (((as.map (·.arg)).zip vals).lookup n).map (n, ·)) (as.map (·.arg) ++ [])) s
 rw [List.append_nil, aIb hl' hn]; exact hq
theorem kN {a b : Str} {v : Value} {l : List (Str × Value)} : ((a, v) :: l).lookup a = some v := by rw [List.lookup_cons, beq_self_eq_true]
theorem sI {a b : Str} {v : Value} {l : List (Str × Value)} (h : a ≠ b) : ((a, v) :: l).lookup b = l.lookup b := by rw [List.lookup_cons, beq_eq_false_iff_ne.mpr (Ne.symm h)]
theorem aCo {α γ : Type} {x : α} {b r : γ} {f : α -> γ -> Sem (ForInStep γ)} (h : f x b = pure (.yield r)) : forIn [x] b f = pure r := by
 show (f x b >>= _) = _
 rw [h]; rfl
theorem aCK {α : Type} {c : Bool} {b : Bool} {x y : α} (h : c = b) : (if c = true then x else y) = (bif b then x else y) := by subst h; cases c <;> rfl
theorem aFg {s : Shared} {fd : FuncData} {v d : Value} {w : List Value} {T : Addr} {o : Obj} {n : Nat} {a b : Arg} (h1 : fd.params.posonlyargs = []) (h2 : fd.params.vararg = none) (h3 : fd.params.kwonlyargs = []) (h4 : fd.params.kwarg = none)
  (ha : fd.params.args = [a, b]) (hn : a.arg ≠ b.arg) (hd : fd.defaults = .ref T) (ho : s.heap.get? T = some o) (hs : o.data = .seq #[d] n) (hw : w.length <= 1) : BindsTo s fd ⟨v :: w, []⟩ [(a.arg, v), (b.arg, w.headD d)] := by
 intro M A E Q hq
 obtain ⟨_, _, ⟨po, as, va, ko, kd, kw, df⟩, _, _, _, _, dv, _, _, _, _, _, _, _⟩ := fd
 dsimp only at *
 subst h1 h2 h3 h4 ha hd
 unfold bindArgs
 refine wpAny_bind (wpAny_of_eq rfl (wpAny_bind (wpAny_seqItems ho hs ?_)))
 refine wpAny_ite_false (decide_eq_false fun q => absurd (of_decide_eq_true (aA q).1) (Nat.not_lt_of_le (Nat.succ_le_succ hw))) ?_
 cases w with
 | nil =>
  refine wpAny_ite_false (decide_eq_false fun q => ?_) (wpAny_bind (wpAny_of_eq (a := [(a.arg, v), (b.arg, d)]) ?_ (wpAny_bind (wpAny_of_eq rfl (wpAny_ite_false rfl (wpAny_pure ?_))))))
  ·exact bK ((congrArg (fun l : List Str => !l.isEmpty) (show (List.filter (fun n => (List.lookup n [(a.arg, v)]).isNone) [a.arg] : List Str) = [] by rw [List.filter_cons, kN (b := a.arg)]; rfl)).symm.trans q)
  ·exact aCo (x := (b.arg, d)) (aCK (b := true) (congrArg Option.isNone (show List.lookup b.arg [(a.arg, v)] = none from sI hn)))
  ·show Q (List.filterMap (fun n => (List.lookup n [(a.arg, v), (b.arg, d)]).map (n, ·)) [a.arg, b.arg]) s
   rw [List.filterMap_cons, kN (b := a.arg), List.filterMap_cons, sI hn, kN (b := a.arg)]; exact hq
 | cons u w =>
  obtain rfl := List.length_eq_zero_iff.mp (Nat.le_zero.mp (Nat.le_of_succ_le_succ hw))
  refine wpAny_ite_false (decide_eq_false fun q => ?_) (wpAny_bind (wpAny_of_eq (a := [(a.arg, v), (b.arg, u)]) ?_ (wpAny_bind (wpAny_of_eq rfl (wpAny_ite_false rfl (wpAny_pure ?_))))))
  ·exact bK ((congrArg (fun l : List Str => !l.isEmpty) (show (List.filter (fun n => (List.lookup n [(a.arg, v), (b.arg, u)]).isNone) [a.arg] : List Str) = [] by rw [List.filter_cons, kN (b := a.arg)]; rfl)).symm.trans q)
  ·exact aCo (x := (b.arg, d)) (aCK (b := false) (congrArg Option.isNone (show List.lookup b.arg [(a.arg, v), (b.arg, u)] = some u from (sI hn).trans (kN (b := a.arg)))))
  ·show Q (List.filterMap (fun n => (List.lookup n [(a.arg, v), (b.arg, u)]).map (n, ·)) [a.arg, b.arg]) s
   rw [List.filterMap_cons, kN (b := a.arg), List.filterMap_cons, sI hn, kN (b := a.arg)]; exact hq
structure qR (K : Frag) (a : Addr) (r : aW) (fd : FuncData) (body : List Stmt) : Prop where
 at_ : ∃ o, K.lookup a = some o /\ o.data = .func fd
 bd : fd.body = .stmts body
 chk : dU 60 fd.scope body r.body = true
 globals : fd.globals = mainGlobals
 closure : fd.closure = []
 builtins : fd.builtins = builtinsNs
 code : codeIn K fd.code fd.qualname = true
 kind : fd.scope.kind = .function
 co : fd.scope.isCoroutine = false
 gen : fd.scope.isGenerator = false
 pos : fd.params.posonlyargs = []
 var : fd.params.vararg = none
 kwo : fd.params.kwonlyargs = []
 kwa : fd.params.kwarg = none
 names : r.params.filterMap (bP[·]?) = fd.params.args.map (·.arg)
 all : ∀ i ∈ r.params, (bP[i]?).isSome = true
 nd : r.params.Nodup
 ok : ∀ p ∈ fd.params.args, cP fd.scope p.arg = true
 dflt : aB2 K fd.defaults r.dflt = true
 cells : ((cellsFrom 0 fd.scope.names []).map (·.1)).Nodup
theorem aGK {K : Frag} {a : Addr} {r : aW} (h : pL K a r = true) : ∃ fd body, qR K a r fd body :=
 (dB h).elim fun o h => (dB h.2).elim fun fd q => (vP (G := fun b => fd.body = b -> ∃ fd body, qR K a r fd body) q.2 fun body z hb => by
  have z1 := aA z
  have z2 := aA z1.2
  have z3 := aA z2.2
  have z4 := aA z3.2
  have z5 := aA z4.2
  have z6 := aA z5.2
  have z7 := aA z6.2
  have z8 := aA z7.2
  have z9 := aA z8.2
  have z10 := aA z9.2
  have z11 := aA z10.2
  have z12 := aA z11.2
  have z13 := aA z12.2
  have z14 := aA z13.2
  have z15 := aA z14.2
  have z16 := aA z15.2
  have z17 := aA z16.2
  exact ⟨fd, body, ⟨o, h.1, uU q.1⟩, hb, z1.1, eq_of_beq z2.1, List.isEmpty_iff.mp z3.1, eq_of_beq z4.1, z5.1, eq_of_beq z6.1, fE z7.1, fE z8.1, List.isEmpty_iff.mp z9.1, Option.isNone_iff_eq_none.mp z10.1, List.isEmpty_iff.mp z11.1, Option.isNone_iff_eq_none.mp z12.1,
   eq_of_beq z14.1, List.all_eq_true.mp z13.1, of_decide_eq_true z15.1, List.all_eq_true.mp z16.1, z17.1, of_decide_eq_true z17.2⟩) rfl
theorem aIa {β : Type} {x : Str} {b : β} {l : List (Str × β)} (e : l.lookup x = some b) : (x, b) ∈ l := by
 induction l with
 | nil => cases e
 | cons p r ih =>
  rw [show p = (p.1, p.2) from rfl, List.lookup_cons] at e
  cases hb : x == p.1 with
  | true => rw [hb] at e; rw [eq_of_beq hb, <- Option.some.inj e]; exact .head _
  | false => rw [hb] at e; exact .tail _ (ih e)
theorem aBJ {x n : Str} {v : Value} {r : List (Str × Value)} {m m' : Str -> Option Value} {f : (Str -> Option Value) -> Option Value} (h : ((n, v) :: r).map (·.1) |>.Nodup) (ih : ∀ m : Str -> Option Value, f m = (r.lookup x).or (m x)) (h1 : x = n -> m' x = some v) (h2 : x ≠ n -> m' x = m x) :
  f m' = (((n, v) :: r).lookup x).or (m x) := by
 rw [List.map_cons, List.nodup_cons] at h
 rw [ih, List.lookup_cons]
 cases q : x == n with
 | true =>
  have q' := eq_of_beq q
  have : r.lookup x = none := by
   cases z : r.lookup x with
   | none => rfl
   | some w => exact absurd (List.mem_map.mpr ⟨(x, w), aIa z, q'⟩) h.1
  rw [this, h1 q']; rfl
 | false => rw [h2 (beq_eq_false_iff_ne.mp q)]
theorem nN {kd : Str -> Option NameKind} {x : Str} (hx : kd x = some .local) {bs : List (Str × Value)} : ∀ {m : Str -> Option Value}, (bs.map (·.1)).Nodup -> bindL kd bs m x = (bs.lookup x).or (m x) := by
 induction bs with
 | nil => intro m _; rfl
 | cons p r ih =>
  intro m h
  refine aBJ (f := fun m => bindL kd r m x) h (fun m => ih (List.nodup_cons.mp h).2) (fun q => ?_) fun q => ?_
  ·subst q; rw [if_pos hx, if_pos rfl]
  ·by_cases z : kd p.1 = some .local
   ·rw [if_pos z]; exact if_neg q
   ·rw [if_neg z]
theorem aBH {kd : Str -> Option NameKind} {x : Str} (hx : kd x = some .cell) {bs : List (Str × Value)} : ∀ {m : Str -> Option Value}, (bs.map (·.1)).Nodup -> bindC kd bs m x = (bs.lookup x).or (m x) := by
 induction bs with
 | nil => intro m _; rfl
 | cons p r ih =>
  intro m h
  refine aBJ (f := fun m => bindC kd r m x) h (fun m => ih (List.nodup_cons.mp h).2) (fun q => ?_) fun q => ?_
  ·subst q; rw [if_neg (by rw [hx]; decide), if_pos rfl]
  ·by_cases z : kd p.1 = some .local
   ·rw [if_pos z]
   ·rw [if_neg z]; exact if_neg q
section
variable {S : SP}
noncomputable def aZ (S : SP) (c : Cx) (g : Heap) (ρ : List Addr) (s : Shared) (Q : Flow -> Shared -> Prop) (E : Value -> Shared -> Prop) : aI Fl -> Prop
 | .stuck => False
 | .ok (.next ρv) σ => 0 < s.toks /\ ∀ g' ρ' mv' h' tk, s.toks <= tk -> g.StaysIn g' -> aQ ρ ρ' -> aF S c g' h' mv' ρ' σ -> aV S g' ρ' mv' ρv -> Q .next { s with heap := h', toks := tk }
 | .ok (.ret v) σ => 0 < s.toks /\ ∀ g' ρ' mv' pv h' tk, s.toks <= tk -> g.StaysIn g' -> aQ ρ ρ' -> aF S c g' h' mv' ρ' σ -> VR S g' ρ' pv v -> Q (.ret pv) { s with heap := h', toks := tk }
 | .exc wy => 0 < s.toks /\ ∀ e mv' h' tk, s.toks <= tk -> fA S c g mv' wy e h' -> E (.ref e) { s with heap := h', toks := tk }
noncomputable def SSs (S : SP) (hb : Bool) (n : Nat) : Prop := ∀ {k : Nat} {c : Cx} {g : Heap} {mv : Str -> Option Value} {ρ : List Addr} {σ : aG} {ρv : aJ} {A : Around} {s : Shared} {ss : List Stmt} {ms : List bH} {Q : Flow -> Shared -> Prop} {E : Value -> Shared -> Prop},
 c.own = true -> dU k c.env.scope ss ms = true -> aF S c g s.heap mv ρ σ -> aV S g ρ mv ρv -> aX hb n A c g -> aZ S c g ρ s Q E (bS FT hb n ms ρv σ) -> wpAny (model S.prog S.w) A (execs ss c.env) Q E s
variable {c c' : Cx} {g g' h h₁ h' : Heap} {mv mv' : Str -> Option Value} {ρ ρ' : List Addr} {σ σ' : aG}
noncomputable def Cx.callee (c : Cx) (h : Heap) (ρ : List Addr) (env : Env) : Cx :=
 { env := env, own := true, hs := c.env.locals :: c.oc ++ c.hs, bg := hideAll h ρ, base := c.base, fenv := env, outer := c.fenv :: c.outer }
theorem rA (I : aF S c g h mv ρ σ) : c.bg.StaysIn (hideAll h ρ) := fun a o e => hideAll_get _ (I.bgs a o e) fun hm => by
 rw [I.bgn a (bQ.mpr (.inl hm))] at e; cases e
theorem vL (I : aF S c g h mv ρ σ) : ∀ a, (a = c.env.locals \/ a ∈ c.oc) -> ∃ o, (hideAll h ρ).get? a = some o := fun a ha => by
 obtain ⟨o, ho⟩ := I.live a (eZ (bQ.mpr (.inr ha)))
 refine ⟨o, hideAll_get _ ho fun hm => ?_⟩
 have := I.nd
 unfold Cx.mut at this
 rw [List.nodup_append] at this
 exact this.2.2 a hm a (by simpa using ha) rfl
theorem aF.enter {env : Env} (I : aF S c g h mv ρ σ) (k1 : h.StaysIn h₁) (hL : h.objs.size <= env.locals) (hcs : ∀ p ∈ env.cells, env.locals < p.2) (hnd : (env.cells.map (·.2)).Nodup)
  (ek : env.scope.kind = .function) (eg : env.globals = mainGlobals) (eb : env.builtins = builtinsNs) (ef : env.frame = some env.locals)
  (ns : ∃ m, h₁.Ns env.locals m /\ ∀ x, env.kindOf x = some .local -> m x = mv' x) (cl : ∀ x, env.kindOf x = some .cell -> ∃ a, env.cells.lookup x = some a /\ h₁.IsCell a (mv' x))
  (live : ∀ p ∈ env.cells, ∃ o, h₁.get? p.2 = some o) : aF S (c.callee h ρ env) g h₁ mv' ρ σ := by
 have big : ∀ a, (a = env.locals \/ a ∈ env.cells.map (·.2)) -> h.objs.size <= a := fun a ha => by
  rcases ha with rfl | ha
  ·exact hL
  ·obtain ⟨p, hp, rfl⟩ := List.mem_map.mp ha
   exact Nat.le_of_lt (Nat.lt_of_le_of_lt hL (hcs p hp))
 have hnone : ∀ a, h.objs.size <= a -> h.get? a = none := fun a ha => by
  cases q : h.get? a with
  | none => rfl
  | some o => exact absurd (Heap.lt_size q) (Nat.not_lt.mpr ha)
 have oc' : (c.callee h ρ env).oc = env.cells.map (·.2) := by simp [Cx.oc, Cx.callee]
 have hm : ∀ a, a ∈ (c.callee h ρ env).mut ρ ↔ a ∈ ρ \/ a = env.locals \/ a ∈ env.cells.map (·.2) := fun a => by
  rw [bQ, oc']; rfl
 have hh : ∀ a, a ∈ (c.callee h ρ env).hid ρ -> a ∈ c.hid ρ \/ (a = env.locals \/ a ∈ env.cells.map (·.2)) := fun a ha => by
  rw [bJ, hm] at ha
  rw [bJ, bQ]
  rcases ha with (ha | ha) | ha
  ·exact .inl (.inl (.inl ha))
  ·exact .inr ha
  ·have ha : a ∈ c.env.locals :: c.oc ++ c.hs := ha
   rw [List.mem_append, List.mem_cons] at ha
   rcases ha with (ha | ha) | ha
   ·exact .inl (.inl (.inr (.inl ha)))
   ·exact .inl (.inl (.inr (.inr ha)))
   ·exact .inl (.inr ha)
 exact {
  stays := cH I.stays k1
  bgs := fun a o e => k1 a o (of_hideAll _ e)
  gd := I.gd
  fr := { ek := ek, eg := eg, eb := eb, fk := ek, ffr := ef, fe := ef, fown := fun _ => rfl, fbg := fun q => nomatch q
          fh := by
           cases q : c.base.get? env.locals with
           | none => exact q
           | some o => have := I.stays _ _ (I.fr.bs _ _ q); rw [hnone _ hL] at this; cases this
          bs := I.fr.bs
          ff := by
           have hr : (hideAll h ρ).FunFrames c.base c.outer := I.fr.ff.of_keeps fun b o e _ => ⟨o, rA I b o e, rfl⟩
           have hL' : ∃ o, (hideAll h ρ).get? c.fenv.locals = some o /\ ∀ vs, o.data ≠ .fields vs := by
            cases ho : c.own with
            | true =>
             rw [I.fr.fown ho]
             obtain ⟨m, ⟨o, es, ep, q, hd, _⟩, _⟩ := I.ns
             obtain ⟨o', q'⟩ := vL I c.env.locals (.inl rfl)
             have := of_hideAll _ q'
             rw [q] at this; cases this
             exact ⟨o, q', fun vs z => by rw [hd] at z; cases z⟩
            | false =>
             obtain ⟨o, q, z⟩ := I.fr.fbg ho
             exact ⟨o, rA I _ _ q, z⟩
           obtain ⟨o, q, z⟩ := hL'
           exact ⟨by rw [I.fr.fk]; decide, ⟨_, o, I.fr.ffr, I.fr.fh, q, z⟩, hr⟩ }
  ns := ns
  cl := fun _ => cl
  cf := fun q => nomatch q
  hidn := fun a ha => by
   rcases hh a ha with q | q
   ·exact I.hidn a q
   ·cases z : g.get? a with
    | none => rfl
    | some o => have := I.stays _ _ z; rw [hnone a (big a q)] at this; cases this
  live := fun a ha => by
   rcases hh a ha with q | rfl | q
   ·obtain ⟨o, ho⟩ := I.live a q; exact ⟨o, k1 a o ho⟩
   ·obtain ⟨m, ⟨o, _, _, q, _⟩, _⟩ := ns; exact ⟨o, q⟩
   ·obtain ⟨p, hp, rfl⟩ := List.mem_map.mp q; exact live p hp
  nd := by
   have hρ : ρ.Nodup := by
    have := I.nd
    unfold Cx.mut at this
    rw [List.nodup_append] at this
    exact this.1
   show (ρ ++ env.locals :: (c.callee h ρ env).oc).Nodup
   rw [oc', List.nodup_append]
   refine ⟨hρ, List.nodup_cons.mpr ⟨fun q => ?_, hnd⟩, fun a ha b hb q => ?_⟩
   ·obtain ⟨p, hp, e⟩ := List.mem_map.mp q
    exact absurd (hcs p hp) (by rw [e]; exact Nat.lt_irrefl _)
   ·subst q
    obtain ⟨o, ho⟩ := I.live a (eZ (bQ.mpr (.inl ha)))
    have := hnone a (big a (List.mem_cons.mp hb))
    rw [ho] at this; cases this
  bgn := fun a ha => by
   rcases (hm a).mp ha with q | q
   ·exact hideAll_none _ q
   ·cases z : (hideAll h ρ).get? a with
    | none => exact z
    | some o => have := of_hideAll _ z; rw [hnone a (big a q)] at this; cases this
  len := I.len
  st := fun l o a e1 e2 => (I.st l o a e1 e2).keeps (bU _) (aQ.refl _) fun o => k1 a o
  wf := I.wf }
theorem aF.leave {env : Env} (I : aF S c g h mv ρ σ) (kr : aQ ρ ρ') (I' : aF S (c.callee h ρ env) g' h' mv' ρ' σ') : aF S c g' h' mv ρ' σ' := by
 have hl : ∀ a, (a = c.env.locals \/ a ∈ c.oc) -> ∀ o, h.get? a = some o -> h'.get? a = some o := fun a ha o e => by
  obtain ⟨o', q⟩ := vL I a ha
  have := of_hideAll _ q
  rw [e] at this; cases this
  exact I'.bgs _ _ q
 obtain ⟨m, hn, hm⟩ := I.ns
 have hid' : ∀ a ∈ c.hid ρ', a ∈ (c.callee h ρ env).hid ρ' := fun a ha => by
  rw [bJ, bQ] at ha ⊢
  rcases ha with (ha | ha) | ha
  ·exact .inl (.inl ha)
  ·refine .inr ?_
   show a ∈ c.env.locals :: c.oc ++ c.hs
   rw [List.mem_append, List.mem_cons]; exact .inl ha
  ·refine .inr ?_
   show a ∈ c.env.locals :: c.oc ++ c.hs
   rw [List.mem_append]; exact .inr ha
 have nd' := I'.nd
 unfold Cx.mut at nd'
 rw [List.nodup_append] at nd'
 exact {
  stays := I'.stays
  bgs := fun a o e => I'.bgs a o (rA I a o e)
  gd := I'.gd
  fr := { ek := I.fr.ek, eg := I.fr.eg, eb := I.fr.eb, fk := I.fr.fk, ffr := I.fr.ffr, fe := I.fr.fe, fown := I.fr.fown, fbg := I.fr.fbg, fh := I.fr.fh, bs := I'.fr.bs, ff := I.fr.ff }
  ns := ⟨m, hn.at' fun o => hl _ (.inl rfl) o, hm⟩
  cl := fun ho x hx => let ⟨a, q1, q2⟩ := I.cl ho x hx; ⟨a, q1, gS (fun o => hl a (.inr (by unfold Cx.oc; rw [if_pos ho]; exact List.mem_map.mpr ⟨(x, a), jF q1, rfl⟩)) o) q2⟩
  cf := I.cf
  hidn := fun a ha => I'.hidn a (hid' a ha)
  live := fun a ha => I'.live a (hid' a ha)
  nd := by
   have nd := I.nd
   unfold Cx.mut at nd ⊢
   rw [List.nodup_append] at nd ⊢
   refine ⟨nd'.1, nd.2.1, fun a ha b hb q => ?_⟩
   subst q
   obtain ⟨o, ho⟩ := vL I a (List.mem_cons.mp hb)
   have := I'.bgn a (bQ.mpr (.inl ha))
   rw [show (c.callee h ρ env).bg = hideAll h ρ from rfl, ho] at this; cases this
  bgn := fun a ha => by
   rcases bQ.mp ha with q | q
   ·cases z : c.bg.get? a with
    | none => rfl
    | some o =>
     have := I'.bgn a (bQ.mpr (.inl q))
     rw [show (c.callee h ρ env).bg = hideAll h ρ from rfl, rA I _ _ z] at this; cases this
   ·exact I.bgn a (bQ.mpr (.inr q))
  len := I'.len
  st := I'.st
  wf := I'.wf }
theorem aMa {n : Nat} {pv : Value} (kr : ∀ l a, l < n -> ρ'[l]? = some a -> ρ[l]? = some a) {v : aB} (hl : jR n v) (r : VR S g ρ' pv v) : VR S g ρ pv v := by
 cases v with
 | loc l => exact r.elim fun a q => ⟨a, kr l a hl q.1, q.2⟩
 | d | fn => exact r
 | _ => exact hl.elim
theorem aMb {n : Nat} (kr : ∀ l a, l < n -> ρ'[l]? = some a -> ρ[l]? = some a) {pvs : List (Str × Value)} {kvs : List (Str × aB)} (h : ∀ kv ∈ kvs, jR n kv.2) (r : cQ S g ρ' pvs kvs) : cQ S g ρ pvs kvs :=
 aY.ind (R := fun (p : Str × Value) (q : Str × aB) => p.1 = q.1 /\ VR S g ρ' p.2 q.2) (G := fun pvs kvs => (∀ kv ∈ kvs, jR n kv.2) -> cQ S g ρ pvs kvs) r (fun _ => trivial)
  (fun p q l m h _ ih hl => ⟨⟨h.1, aMa kr (hl q (.head _)) h.2⟩, ih fun kv hkv => hl kv (.tail _ hkv)⟩) h
theorem aF.trunc (I : aF S c g h mv ρ' σ') (kr : aQ ρ ρ') : aF S c g h mv ρ (σ'.take ρ.length) := by
 have hlt : ∀ l, l < ρ.length -> ρ'[l]? = ρ[l]? := fun l hl => by
  rw [List.getElem?_eq_getElem hl]; exact kr _ _ (List.getElem?_eq_getElem hl)
 have hle : ρ.length <= ρ'.length := by
  rcases Nat.eq_zero_or_pos ρ.length with q | q
  ·omega
  ·have := hlt (ρ.length - 1) (by omega)
   rw [List.getElem?_eq_getElem (show ρ.length - 1 < ρ.length by omega)] at this
   have := (List.getElem?_eq_some_iff.mp this).1
   omega
 have hpre : ρ'.take ρ.length = ρ := by
  apply List.ext_getElem?
  intro i
  by_cases hi : i < ρ.length
  ·rw [List.getElem?_take_of_lt hi, hlt i hi]
  ·rw [List.getElem?_take_eq_none (by omega), List.getElem?_eq_none (by omega)]
 have hmem : ∀ a ∈ ρ, a ∈ ρ' := fun a ha => by rw [<- hpre] at ha; exact List.mem_of_mem_take ha
 have hmm : ∀ a ∈ c.mut ρ, a ∈ c.mut ρ' := fun a ha => by
  rw [bQ] at ha ⊢
  rcases ha with ha | ha
  ·exact .inl (hmem a ha)
  ·exact .inr ha
 have hhm : ∀ a ∈ c.hid ρ, a ∈ c.hid ρ' := fun a ha => by
  rw [bJ] at ha ⊢
  rcases ha with ha | ha
  ·exact .inl (hmm a ha)
  ·exact .inr ha
 exact {
  stays := I.stays
  bgs := I.bgs
  gd := I.gd
  fr := I.fr
  ns := I.ns
  cl := I.cl
  cf := I.cf
  hidn := fun a ha => I.hidn a (hhm a ha)
  live := fun a ha => I.live a (hhm a ha)
  nd := by
   have := I.nd
   unfold Cx.mut at this ⊢
   rw [List.nodup_append] at this ⊢
   exact ⟨hpre ▸ (List.Sublist.nodup (List.take_sublist _ _) this.1), this.2.1, fun a ha b hb => this.2.2 a (hmem a ha) b hb⟩
  bgn := fun a ha => I.bgn a (hmm a ha)
  len := by rw [List.length_take, <- I.len]; omega
  st := fun l o a e1 e2 => by
   have hl := (List.getElem?_eq_some_iff.mp e2).1
   rw [List.getElem?_take_of_lt hl] at e1
   have := I.st l o a e1 (kr _ _ e2)
   cases o with
   | lst xs => exact this
   | dct kvs =>
    obtain ⟨pvs, q1, q2, q3⟩ := this
    refine ⟨pvs, q1, q2, aMb (fun j b hj e => ?_) (I.wf l kvs e1) q3⟩
    rw [<- hlt j (by omega)]; exact e
  wf := fun l kvs e1 => by
   have hl : l < ρ.length := by
    have := (List.getElem?_eq_some_iff.mp e1).1
    rw [List.length_take] at this; omega
   rw [List.getElem?_take_of_lt hl] at e1
   exact I.wf l kvs e1 }
end
end PQ
namespace PQ
noncomputable def wV (S : SP) : Prop := ∀ {c : Cx} {g g₁ h : Heap} {mv mv' : Str -> Option Value} {ρ : List Addr} {σ : aG} {A : Around} {env : Env} {s' : Shared} {e : Addr} {wy : Str} {Q : Unit -> Shared -> Prop} {E : Value -> Shared -> Prop},
 A.frames = some (env :: c.fenv :: c.outer) -> env.frame = some env.locals -> aF S c g h mv ρ σ -> g.StaysIn g₁ -> fA S (c.callee h ρ env) g₁ mv' wy e s'.heap ->
 (∀ h', fA S c g mv wy e h' -> Q () { s' with heap := h' }) -> wpAny (model S.prog S.w) A (leaving env (.ref e)) Q E s'
section
variable {S : SP} {c : Cx} {g h h₁ : Heap} {mv mv' : Str -> Option Value} {ρ : List Addr} {σ : aG} {hb : Bool} {n : Nat}
theorem rQ {ps : List Nat} (ha : ∀ i ∈ ps, (bP[i]?).isSome = true) {p : Nat} {q : List Nat} (h : ps = p :: q) : ∃ y, bP[p]? = some y /\ ps.filterMap (bP[·]?) = y :: q.filterMap (bP[·]?) :=
 (Option.isSome_iff_exists.mp (ha p (h ▸ .head _))).elim fun y hy => ⟨y, hy, by rw [h, List.filterMap_cons, hy]⟩
theorem aBI {ps : List Nat} : ∀ {ds : List PyData} {ρ₀ : aJ} {pvs : List Value} {vs : List aB}, cR S g ρ pvs vs -> hO ps ds vs = some ρ₀ -> vs.length = ps.length -> ps.Nodup -> (∀ i ∈ ps, (bP[i]?).isSome = true) ->
  ∀ (i : Nat) x v, bP[i]? = some x -> ρ₀ i = some v -> ∃ pv, ((ps.filterMap (bP[·]?)).zip pvs).lookup x = some pv /\ VR S g ρ pv v := by
 induction ps with
 | nil =>
  intro ds ρ₀ pvs vs _ e hl _ _ i x v _ h
  rw [List.length_eq_zero_iff.mp hl] at e
  rw [<- Option.some.inj e] at h; exact dL h
 | cons p ps ih =>
  intro ds ρ₀ pvs vs rs e hl hn ha i x v hx h
  cases vs with
  | nil => cases hl
  | cons w ws =>
  refine aY.cons_r rs fun pv pvs r rs => cV (o := hO ps ds ws) e fun ρ₁ e₁ q => ?_
  obtain ⟨y, hy, hf⟩ := rQ ha rfl
  rw [List.nodup_cons] at hn
  rw [hf, List.zip_cons_cons, List.lookup_cons]
  rw [<- q, aJ.set_if] at h
  by_cases q : i = p
  ·rw [if_pos q] at h
   rw [show x = y from Option.some.inj (hx.symm.trans (q ▸ hy)), beq_self_eq_true]
   exact ⟨pv, rfl, Option.some.inj h ▸ r⟩
  ·rw [if_neg q] at h
   rw [beq_eq_false_iff_ne.mpr (fun z => q (tH hx (z ▸ hy)) : x ≠ y)]
   exact ih rs e₁ (Nat.succ.inj hl) hn.2 (fun j hj => ha j (.tail _ hj)) i x v hx h
theorem aFf {ps : List Nat} : ∀ {vs : List aB} {ρ₀ : aJ}, hO ps [] vs = some ρ₀ -> vs.length = ps.length := by
 induction ps with
 | nil => intro vs ρ₀ e; cases vs with
  | nil => rfl
  | cons => exact dL e
 | cons p ps ih => intro vs ρ₀ e; cases vs with
  | nil => exact aL (o := dfP [] (ps.length + 1)) (f := fun d => (hO ps [] []).map fun ρ => ρ.set p (.d d)) e fun d e _ => bO e fun h _ => absurd h (Nat.not_succ_le_zero _)
  | cons v vs => exact cV (o := hO ps [] vs) e fun ρ₁ e₁ _ => congrArg (· + 1) (ih e₁)
theorem aAc {K : Frag} {a : Addr} {r : aW} {fd : FuncData} {body : List Stmt} (F : qR K a r fd body) : (fd.params.args.map (·.arg)).Nodup := by
 rw [<- F.names]
 have hn := F.nd
 have hall := F.all
 generalize r.params = ps at hn hall ⊢
 induction ps with
 | nil => exact List.nodup_nil
 | cons p ps ih =>
  obtain ⟨y, hy, hf⟩ := rQ hall rfl
  rw [List.nodup_cons] at hn
  rw [hf]
  refine List.nodup_cons.mpr ⟨fun hm => ?_, ih hn.2 fun i hi => hall i (.tail _ hi)⟩
  obtain ⟨j, hj, hy'⟩ := List.mem_filterMap.mp hm
  exact hn.1 (tH hy hy' ▸ hj)
theorem aIG {ps : List Nat} (ha : ∀ i ∈ ps, (bP[i]?).isSome = true) : (ps.filterMap (bP[·]?)).length = ps.length := by
 induction ps with
 | nil => rfl
 | cons p ps ih =>
  obtain ⟨y, _, hf⟩ := rQ ha rfl
  rw [hf]; exact congrArg (· + 1) (ih fun i hi => ha i (.tail _ hi))
noncomputable def aBp (S : SP) (g : Heap) (ρ : List Addr) (s : Shared) (fd : FuncData) (pvs : List Value) (ρ₀ : aJ) (binds : List (Str × Value)) : Prop :=
 BindsTo s fd ⟨pvs, []⟩ binds /\ binds.map (·.1) = fd.params.args.map (·.arg) /\ ∀ (i : Nat) x v, bP[i]? = some x -> ρ₀ i = some v -> ∃ pv, binds.lookup x = some pv /\ VR S g ρ pv v
theorem aFi {s : Shared} {K : Frag} {a : Addr} {r : aW} {fd : FuncData} {body : List Stmt} {vs : List aB} {pvs : List Value} {ρ₀ : aJ} {i : Int} {p1 p2 : Nat} (F : qR K a r fd body) (hp : r.params = [p1, p2]) (hdf : r.dflt = [.int i]) (X : K.In s.heap) (rs : cR S g ρ pvs vs) (e : hO r.params r.dflt vs = some ρ₀) :
  ∃ binds, aBp S g ρ s fd pvs ρ₀ binds := by
 have hd := F.dflt
 rw [hdf] at hd
 obtain ⟨T, hT, hd⟩ := dB hd
 obtain ⟨o, ho, hd⟩ := dB hd
 obtain ⟨items, hi, hd⟩ := dB hd
 obtain ⟨m, hi⟩ := aK3 hi
 obtain ⟨ti, hit⟩ : ∃ ti, items = #[.int i ti] := by
  obtain ⟨il⟩ := items
  cases il with
  | nil => exact bK hd
  | cons v vs =>
   have q := aA (show (cM (zJ v) (fun j => asI (.int i) == some j) && zS vs []) = true from hd)
   obtain ⟨j, hj, q1⟩ := dB q.1
   obtain ⟨t, rfl⟩ := aHl hj
   obtain rfl := Option.some.inj (eq_of_beq q1)
   cases vs with
   | nil => exact ⟨t, rfl⟩
   | cons => exact bK q.2
 rw [hit] at hi
 obtain ⟨y1, hy1, hf1⟩ := rQ F.all hp
 obtain ⟨y2, hy2, hf2⟩ := rQ (fun j hj => F.all j (hp ▸ .tail _ hj)) (rfl : [p2] = [p2])
 have hnm := F.names
 rw [hf1, hf2] at hnm
 obtain ⟨a1, a2, ha, n1, n2⟩ : ∃ a1 a2, fd.params.args = [a1, a2] /\ y1 = a1.arg /\ y2 = a2.arg := by
  cases hq : fd.params.args with
  | nil => rw [hq] at hnm; cases hnm
  | cons a1 as =>
   rw [hq] at hnm
   have q := List.cons.inj hnm
   cases as with
   | nil => cases q.2
   | cons a2 as =>
    have q' := List.cons.inj q.2
    cases as with
    | nil => exact ⟨a1, a2, rfl, q.1, q'.1⟩
    | cons => cases q'.2
 have hne : a1.arg ≠ a2.arg := by
  have := aAc F
  rw [ha] at this
  exact fun q => (List.nodup_cons.mp (show [a1.arg, a2.arg].Nodup from this)).1 (by rw [q]; exact .head _)
 have B := fun {v : Value} {w : List Value} (hw : w.length <= 1) => aFg (s := s) (v := v) (w := w) F.pos F.var F.kwo F.kwa ha hne (sZ hT) (X _ _ ho) hi hw
 have hnames : fd.params.args.map (·.arg) = [a1.arg, a2.arg] := by rw [ha]; rfl
 rw [hp, hdf] at e
 have nd := F.nd
 rw [hp] at nd
 clear hT ho hd hi hit hnm hf1 hf2
 cases vs with
 | nil => exact aL (o := dfP [.int i] 2) (f := fun d => (hO [p2] [.int i] []).map fun ρ => ρ.set p1 (.d d)) e fun d e _ => bO e fun h _ => absurd h (Nat.not_succ_le_self 1)
 | cons v vs =>
  refine aY.cons_r rs fun pv pvs r1 rs => ?_
  cases vs with
  | nil =>
   refine aY.nil_r rs ⟨_, B (w := []) (Nat.zero_le _), hnames.symm, fun j x u hx h => ?_⟩
   have e : some ((aJ.set (fun _ => none) p2 (.d (.int i))).set p1 v) = some ρ₀ := e
   rw [<- Option.some.inj e, aJ.set_if, aJ.set_if] at h
   by_cases q1 : j = p1
   ·rw [if_pos q1] at h
    rw [show x = a1.arg from (Option.some.inj (hx.symm.trans (q1 ▸ hy1))).trans n1]
    exact ⟨pv, kN (b := x), Option.some.inj h ▸ r1⟩
   ·rw [if_neg q1] at h
    by_cases q2 : j = p2
    ·rw [if_pos q2] at h
     rw [show x = a2.arg from (Option.some.inj (hx.symm.trans (q2 ▸ hy2))).trans n2]
     exact ⟨.int i ti, (sI hne).trans (kN (b := x)), Option.some.inj h ▸ VR.int _ _⟩
    ·rw [if_neg q2] at h; exact dL h
  | cons w vs =>
   refine aY.cons_r rs fun pw pvs r2 rs => ?_
   cases vs with
   | nil =>
    refine aY.nil_r rs ⟨_, B (w := [pw]) (Nat.le_refl _), hnames.symm, fun j x u hx h => ?_⟩
    have z := aBI (S := S) (g := g) (ρ := ρ) (pvs := [pv, pw]) (vs := [v, w]) ⟨r1, r2, trivial⟩ e rfl nd (fun i hi => F.all i (hp ▸ hi)) j x u hx h
    rw [<- hp, F.names, hnames] at z
    exact z
   | cons => exact dL (a := ρ₀) e
theorem aFh {s : Shared} {K : Frag} {a : Addr} {r : aW} {fd : FuncData} {body : List Stmt} {vs : List aB} {pvs : List Value} {ρ₀ : aJ} (F : qR K a r fd body) (hdf : r.dflt = [] \/ ∃ p1 p2 i, r.params = [p1, p2] /\ r.dflt = [.int i]) (X : K.In s.heap) (rs : cR S g ρ pvs vs) (e : hO r.params r.dflt vs = some ρ₀) :
  ∃ binds, aBp S g ρ s fd pvs ρ₀ binds := by
 rcases hdf with hdf | ⟨p1, p2, i, hp, hdf⟩
 ·have hd := F.dflt
  rw [hdf] at hd e
  have hfull := aFf e
  have hl : pvs.length = fd.params.args.length := by rw [cR.length rs, hfull, <- aIG F.all, F.names, List.length_map]
  refine ⟨_, aBK F.pos F.var F.kwo F.kwa (aAc F) (aC5 hd) hl, List.map_fst_zip (Nat.le_of_eq (by rw [List.length_map, hl])), ?_⟩
  rw [<- F.names]
  exact aBI rs e hfull F.nd F.all
 ·exact aFi F hp hdf X rs e
end
end PQ
namespace PQ
noncomputable def aB1 (r : aW) : Bool := List.casesOn r.dflt true fun d ds => ds.isEmpty && ((asI d).isSome && fL r.params fun _ q => on1 q fun _ => true)
theorem aF4 : FTl.all aB1 = true := by decide +kernel
theorem aF5 {f : Nat} {r : aW} (h : FT f = some r) : r.dflt = [] \/ ∃ p1 p2 i, r.params = [p1, p2] /\ r.dflt = [.int i] := by
 have z := List.all_eq_true.mp aF4 r (List.mem_of_getElem? h)
 unfold aB1 at z
 cases q : r.dflt with
 | nil => exact .inl rfl
 | cons d ds =>
  rw [q] at z
  exact mO (aA (aA z).2).1 fun i hi => gF (G := fun l => r.params = l -> _) (aA (aA z).2).2 (fun p1 l h => gB (G := fun l => r.params = p1 :: l -> _) h fun p2 _ hp => .inr ⟨p1, p2, i, hp, by rw [List.isEmpty_iff.mp (aA z).1, qX hi]⟩) rfl
section
variable {S : SP} {hb : Bool} {n : Nat} {c : Cx} {g h : Heap} {mv : Str -> Option Value} {ρ : List Addr} {σ : aG} {A : Around} {s : Shared} {Q : Value -> Shared -> Prop} {E : Value -> Shared -> Prop}
theorem aH.give {a : aB} {b : Value} {g' h' : Heap} {ρ' : List Addr} {tk t : Nat} (x : aH S (VR S) c g mv ρ s Q E (.ok a σ)) (kt : s.toks <= t) (kt' : t <= tk) (kg : g.StaysIn g') (kr : aQ ρ ρ') (I : aF S c g' h' mv ρ' σ) (q : VR S g' ρ' b a) : Q b { s with heap := h', toks := tk } := x.2 g' ρ' b h' tk (Nat.le_trans kt kt') kg kr I q
theorem aFv {s : Shared} {h₁ : Heap} {tk : Nat} {env : Env} {x : aI Fl} (hX : wV S) (H : A.frames = some (c.fenv :: c.outer)) (hfr : env.frame = some env.locals) (I : aF S c g s.heap mv ρ σ) (kt : s.toks <= tk) (P : aH S (VR S) c g mv ρ s Q E (x.bind (dC σ.length))) :
  aZ S (c.callee s.heap ρ env) g ρ { s with heap := h₁, toks := tk } (fun fl s' => Q (match fl with | .ret v => v | _ => .none) s') (fun e s' => wpAny (model S.prog S.w) (A.deeper env) (leaving env e) (fun _ s' => E e s') E s') x := by
 have hp1 : 0 < tk := Nat.lt_of_lt_of_le P.pos kt
 cases x with
 | stuck => exact fP P
 | exc wy => exact ⟨hp1, fun e mv' h' tk' t fl => hX (s' := { s with heap := h', toks := tk' }) (Around.frames_deeper H) hfr I (bU g) fl fun h'' fl' => P.2 e h'' tk' (Nat.le_trans kt t) fl'⟩
 | ok fl σ₁ =>
  cases fl with
  | next ρ₁ => exact ⟨hp1, fun g' ρ' mv' h' tk' t kg kr I₁ R₁ => aH.give (s := s) (c := c) (mv := mv) (a := aB.d .none) P kt t kg (aQ.refl _) (I.len ▸ (I.leave kr I₁).trunc kr) VR.none⟩
  | ret v =>
   refine ⟨hp1, fun g' ρ' mv' pv h' tk' t kg kr I₁ rv => ?_⟩
   have I₂ := I.leave kr I₁
   cases v with
   | d x => exact aH.give (s := s) (c := c) (mv := mv) (a := aB.d x) P kt t kg (aQ.refl _) (I.len ▸ I₂.trunc kr) rv
   | loc l => exact aH.give (s := s) (c := c) (mv := mv) (a := aB.loc l) P kt t kg kr I₂ rv
   | fn l => exact aH.give (s := s) (c := c) (mv := mv) (a := aB.fn l) P kt t kg kr I₂ rv
   | inst l => exact aH.give (s := s) (c := c) (mv := mv) (a := aB.inst l) P kt t kg kr I₂ rv
   | exc w => exact aH.give (s := s) (c := c) (mv := mv) (a := aB.exc w) P kt t kg kr I₂ rv
theorem aKs (W : Wd S) (hX : wV S) (ih : SSs S hb n) : oV S hb (n + 1) := by
 intro c g mv ρ σ A s f a vs pvs Q E ha I rs H P
 refine aH.liftB_r P fun r hr P => aH.liftB_r P fun ρ₀ he P => ?_
 obtain ⟨fd, body, F⟩ := aGK (aGI W ha hr)
 obtain ⟨⟨oc, od, dt, sl⟩, hK, hdt⟩ := F.at_
 obtain rfl : dt = .func fd := hdt
 have X : S.K.In s.heap := fun b o e => I.stays _ _ (I.gd.k b o e)
 obtain ⟨binds, hB, hBn, hBv⟩ := aFh (S := S) F (aF5 hr) X rs he
 have T := I.gd.t.keeps I.stays
 refine wpAny_call (codeAny_call_function (Nat.lt_of_le_of_lt (Nat.le_add_right _ _) H.depth) (X _ _ hK) rfl F.co F.gen F.bd (codeRec_of X F.code) (hB _ _ _ _ ?_))
 rw [F.closure]
 refine toks (wpAny_newFunctionEnv_cells F.kind (fun x hx => ?_) fun env he' s' x kt1 => ?_)
 ·obtain ⟨p, hp, hpe⟩ := List.mem_map.mp (show x.1 ∈ fd.params.args.map (·.arg) from hBn ▸ List.mem_map_of_mem hx)
  exact iB (aA (hpe ▸ F.ok p hp)).1 (fun q => .inl (eq_of_beq q)) fun q => .inr ⟨eq_of_beq q, cellsFrom_some _ _ _ (.inl (eq_of_beq q))⟩
 ·obtain ⟨h₁, tk, rfl, hk⟩ := x.done
  have hEL : env.locals = s.heap.objs.size := by rw [he']; rfl
  have hEs : env.scope = fd.scope := by rw [he']; rfl
  have hEc : env.cells = cellsFrom (s.heap.objs.size + 1) fd.scope.names [] := by rw [he']; rfl
  have hfr : env.frame = some env.locals := by rw [he']; rfl
  have hEg : env.globals = mainGlobals := by rw [he']; exact F.globals
  have hEb : env.builtins = builtinsNs := by rw [he']; exact F.builtins
  clear he'
  refine ⟨T.nolimit.keeps hk, codeAny_func ?_⟩
  have hnn : (binds.map (·.1)).Nodup := hBn ▸ aAc F
  have I' : aF S (c.callee s.heap ρ env) g h₁ (fun x => binds.lookup x) ρ σ := by
   refine I.enter hk (Nat.le_of_eq hEL.symm) (fun p hp => x.above p.1 p.2 hp) (by rw [List.nodup_iff_pairwise_ne, List.pairwise_map]; exact x.apart) (hEs ▸ F.kind) hEg hEb hfr
    ⟨_, x.toInCall.ns, fun y hy => by rw [nN hy hnn, Option.or_none]⟩ (fun y hy => ?_) (fun p hp => ?_)
   ·obtain ⟨b, hb'⟩ := Option.isSome_iff_exists.mp (show (env.cells.lookup y).isSome = true by rw [hEc]; exact cellsFrom_some _ _ _ (.inl (hEs ▸ hy)))
    have z := x.cell y b hb'
    rw [aBH hy hnn, Option.or_none] at z
    exact ⟨b, hb', z⟩
   ·obtain ⟨o, ho, _⟩ := x.cell p.1 p.2 (lookup_of_mem_nodup (by rw [hEc, cellsFrom_names fd.scope.names (s.heap.objs.size + 1) 0 [] [] rfl]; exact F.cells) hp)
    exact ⟨o, ho⟩
  have H' : aX hb n (A.deeper env) (c.callee s.heap ρ env) g := by
   have hu := H.units
   have hd := H.depth
   refine ⟨by show A.depth + 1 + n < _; omega, by rw [Around.deeper_units]; omega, H.guards, Around.frames_deeper H.frames, fun en hen L hL => ?_, H.hand⟩
   rcases List.mem_cons.mp hen with hen | hen
   ·exact .inl (by rw [show en = env from hen, hfr] at hL; exact (Option.some.inj hL).symm)
   ·exact .inr ((H.fl en hen L hL).elim (fun z => List.mem_append_left _ (z ▸ .head _)) (List.mem_append_right _))
  exact ih (k := 60) (c := c.callee s.heap ρ env) (ss := body) rfl (show dU 60 env.scope body r.body = true from hEs ▸ F.chk) I' hBv H' (aFv hX H.frames hfr I kt1 P)
end
end PQ
namespace PQ
theorem aGe : entryFor table "proto.unchain" = some Builtin.«proto.unchain» := entryFor_of_tree (by kernel_rfl)
noncomputable def jK (A : Around) (h : Heap) : Prop := A.handled = none \/ ∃ e oe vs, A.handled = some (.ref e) /\ h.get? e = some oe /\ oe.data = .fields vs /\ vs[2]? = some .none
section
variable {prog : Program} {w : World} {A : Around} {E : Value -> Shared -> Prop} {s : Shared}
theorem aDL {α : Type} {vs : Array Value} {Q : α -> Shared -> Prop} (H : jK A s.heap) (hnew : s.heap.get? s.heap.objs.size = none)
  (ho : ∀ h', (∀ b o, s.heap.get? b = some o -> h'.get? b = some o) -> (∃ ob, h'.get? s.heap.objs.size = some ob /\ ob.cls = .type "StopIteration") -> E (.ref s.heap.objs.size) { s with heap := h' }) (hv : 2 < vs.size) :
  wpAny (model prog w) A (raiseNew (.ref s.heap.objs.size) : Sem α) Q E { s with heap := s.heap.push { cls := .type "StopIteration", data := .fields vs } } := by
 simp only [raiseNew]
 refine wpAny_bind (wpAny_handled ?_)
 have hg : (s.heap.push { cls := .type "StopIteration", data := .fields vs }).get? s.heap.objs.size = some { cls := .type "StopIteration", data := .fields vs } := Heap.get?_push_size _ rfl
 rcases H with H | ⟨e, oe, ws, H, he, hd, h2⟩
 ·rw [H]
  exact wpAny_bind (wpAny_pure (wpAny_throw (ho _ (fun b o q => Heap.get?_push_of_some _ q) ⟨_, hg, rfl⟩)))
 ·rw [H]
  have hne : e ≠ s.heap.objs.size := fun q => by rw [q, hnew] at he; cases he
  have hne' : (Value.ref e != Value.ref s.heap.objs.size) = true := by simp [hne]
  dsimp only
  rw [if_pos hne']
  refine wpAny_bind ?_
  refine wpAny_holding (wpAny_runValue (codeAny_builtin aGe ?_))
  show wpAny _ _ (field (.ref e) 2 >>= _) _ _ _
  refine wpAny_bind (wpAny_field (Heap.get?_push_of_some _ he) hd h2 ?_)
  refine wpAny_pure ?_
  refine wpAny_bind (m := updateField s.heap.objs.size 2 (.ref e)) ?_
  unfold updateField
  refine wpAny_bind (wpAny_load hg ?_)
  dsimp only
  rw [if_pos hv]
  refine wpAny_update hg (wpAny_throw (ho _ (fun b o q => ?_) ⟨_, Heap.get?_update_self _ hg rfl, rfl⟩))
  rw [Heap.get?_update_other _ _ (fun z => by rw [<- z, hnew] at q; cases q)]
  exact Heap.get?_push_of_some _ q
theorem aHU {it l : Addr} {i : Nat} {items} {Q : Option Value -> Shared -> Prop} (H : jK A s.heap) (hi : ∀ e, A.handled = some (.ref e) -> e ≠ it)
  (hit : s.heap.IsListIter it l i) (hl : s.heap.IsList l items) (hx : items[i]? = none)
  (hQ : ∀ h', Heap.ExtBut it s.heap h' -> Q none { s with heap := h' }) : wpAny (model prog w) A (pyNext (.ref it)) Q E s := by
 obtain ⟨o, ho, hc, hd⟩ := id hit
 obtain ⟨ol, hol, _, nl, hdl⟩ := hl
 unfold pyNext
 refine wpAny_bind (wpAny_attempt (wpAny_callSpecial?_slot (name := Str.ofString "__next__") hit.typeIs slot_listiter_next
  (wpAny_call_entry slot_listiter_next hit.typeIs entry_listiter_next ?_ (args_listiter_next _))))
 show wpAny _ _ (field (.ref it) 0 >>= _) _ _ s
 refine wpAny_bind (wpAny_field ho hd (x := .ref l) rfl ?_)
 show wpAny _ _ (if (Value.ref l == Value.none) = true then _ else _) _ _ s
 rw [if_neg (show ¬ ((Value.ref l == Value.none) = true) from Bool.false_ne_true)]
 show wpAny _ _ (field (.ref it) 1 >>= _) _ _ s
 refine wpAny_bind (wpAny_field ho hd (x := .int i 0) rfl ?_)
 show wpAny _ _ (seqItems? (.ref l) >>= _) _ _ s
 refine wpAny_bind (wpAny_seqItems hol hdl ?_)
 simp only [Int.toNat_natCast, hx]
 refine wpAny_bind (wpAny_rule (wpAny_bind (wpAny_setField ho hd (by simp) ?_)))
 show wpAny _ _ (newExc (.type "StopIteration") [] >>= _) _ _ _
 refine wpAny_bind ?_
 simp only [newExc, newTuple]
 refine wpAny_bind (wpAny_newObj_type ?_ (by size_fits))
 refine wpAny_bind (m := firstArgMember _ _) (wpAny_of_eq (a := Value.none) (by first | rfl | (simp only [firstArgMember]; rfl)) ?_)
 refine wpAny_newObj_type ?_ (by size_fits)
 have H' : jK A.in1 ((s.heap.update it (Obj.mapFields fun x => x.setIfInBounds 0 Value.none)).push { cls := .type "tuple", data := .seq (List.toArray []) }) := by
  rcases H with H | ⟨e, oe, ws, q, he, hde, h2⟩
  ·exact .inl H
  ·refine .inr ⟨e, oe, ws, q, Heap.get?_push_of_some _ ?_, hde, h2⟩
   rw [Heap.get?_update_other _ _ (Ne.symm (hi e q))]; exact he
 refine aDL (s := { s with heap := (s.heap.update it (Obj.mapFields fun x => x.setIfInBounds 0 Value.none)).push { cls := .type "tuple", data := .seq (List.toArray []) } }) H' (eR _) (fun h' hk hcls => ?_) (by simp only [Array.size_append]; show 2 < 6 + _; omega)
 obtain ⟨ob, hob, hobc⟩ := hcls
 refine wpAny_bind (wpAny_isInstance (T := "StopIteration") (b := true) ⟨_, hob, hobc⟩ isSubtype_stop ?_)
 refine wpAny_pure (hQ _ fun b o' hb q => hk b o' (Heap.get?_push_of_some _ ?_))
 rw [Heap.get?_update_other _ _ (Ne.symm hb)]; exact q
theorem aLT {it l : Addr} {i : Nat} {items} {Q : Option Value -> Shared -> Prop} (H : jK A s.heap) (hi : ∀ e, A.handled = some (.ref e) -> e ≠ it)
  (hit : s.heap.IsTupleIter it l i) (hl : s.heap.IsTuple l items) (hx : items[i]? = none)
  (hQ : ∀ h', Heap.ExtBut it s.heap h' -> Q none { s with heap := h' }) : wpAny (model prog w) A (pyNext (.ref it)) Q E s := by
 obtain ⟨o, ho, hc, hd⟩ := id hit
 obtain ⟨ol, hol, _, nl, hdl⟩ := hl
 unfold pyNext
 refine wpAny_bind (wpAny_attempt (wpAny_callSpecial?_slot (name := Str.ofString "__next__") hit.typeIs PySem.F.slot_tuple_iterator_next
  (wpAny_call_entry PySem.F.slot_tuple_iterator_next hit.typeIs PySem.F.entry_tuple_iterator_next ?_ (PySem.F.args_tuple_iterator_next_1 _))))
 show wpAny _ _ (field (.ref it) 0 >>= _) _ _ s
 refine wpAny_bind (wpAny_field ho hd (x := .ref l) rfl ?_)
 show wpAny _ _ (if (Value.ref l == Value.none) = true then _ else _) _ _ s
 rw [if_neg (show ¬ ((Value.ref l == Value.none) = true) from Bool.false_ne_true)]
 show wpAny _ _ (field (.ref it) 1 >>= _) _ _ s
 refine wpAny_bind (wpAny_field ho hd (x := .int i 0) rfl ?_)
 show wpAny _ _ (seqItems? (.ref l) >>= _) _ _ s
 refine wpAny_bind (wpAny_seqItems hol hdl ?_)
 simp only [Int.toNat_natCast, hx]
 refine wpAny_bind (wpAny_rule (wpAny_bind (wpAny_setField ho hd (by simp) ?_)))
 show wpAny _ _ (newExc (.type "StopIteration") [] >>= _) _ _ _
 refine wpAny_bind ?_
 simp only [newExc, newTuple]
 refine wpAny_bind (wpAny_newObj_type ?_ (by size_fits))
 refine wpAny_bind (m := firstArgMember _ _) (wpAny_of_eq (a := Value.none) (by first | rfl | (simp only [firstArgMember]; rfl)) ?_)
 refine wpAny_newObj_type ?_ (by size_fits)
 have H' : jK A.in1 ((s.heap.update it (Obj.mapFields fun x => x.setIfInBounds 0 Value.none)).push { cls := .type "tuple", data := .seq (List.toArray []) }) := by
  rcases H with H | ⟨e, oe, ws, q, he, hde, h2⟩
  ·exact .inl H
  ·refine .inr ⟨e, oe, ws, q, Heap.get?_push_of_some _ ?_, hde, h2⟩
   rw [Heap.get?_update_other _ _ (Ne.symm (hi e q))]; exact he
 refine aDL (s := { s with heap := (s.heap.update it (Obj.mapFields fun x => x.setIfInBounds 0 Value.none)).push { cls := .type "tuple", data := .seq (List.toArray []) } }) H' (eR _) (fun h' hk hcls => ?_) (by simp only [Array.size_append]; show 2 < 6 + _; omega)
 obtain ⟨ob, hob, hobc⟩ := hcls
 refine wpAny_bind (wpAny_isInstance (T := "StopIteration") (b := true) ⟨_, hob, hobc⟩ isSubtype_stop ?_)
 refine wpAny_pure (hQ _ fun b o' hb q => hk b o' (Heap.get?_push_of_some _ ?_))
 rw [Heap.get?_update_other _ _ (Ne.symm hb)]; exact q
noncomputable def iQ (A : Around) : List Addr := match A.handled with
 | some (.ref e) => [e]
 | _ => []
theorem jK.at {h h' : Heap} (H : jK A h) (k : ∀ b ∈ iQ A, ∀ o, h.get? b = some o -> h'.get? b = some o) : jK A h' := by
 rcases H with H | ⟨e, oe, vs, q, he, r⟩
 ·exact .inl H
 ·exact .inr ⟨e, oe, vs, q, k e (by unfold iQ; rw [q]; exact .head _) _ he, r⟩
theorem aCt {e : Addr} (h : A.handled = some (.ref e)) : e ∈ iQ A := by unfold iQ; rw [h]; exact .head _
theorem aEG (I ax : Addr) (hne : ax ≠ I) (hH : ∀ b ∈ iQ A, b ≠ I) (items : Array Value) :
  Walks prog w A I (I :: ax :: iQ A) [I] items.size (fun i v => items[i]? = some v) (fun i h => h.IsListIter I ax i /\ h.IsList ax items /\ jK A h) where
 sub := fun b hb => by simp at hb; simp [hb]
 frame := fun _ _ _ st hk => ⟨st.1.at fun o e => hk I (by simp) o e, st.2.1.at fun o e => hk ax (by simp) o e, st.2.2.at fun b hb o e => hk b (by simp [hb]) o e⟩
 item := fun i s Q E hi st hQ => by
  refine wpAny_pyNext_list_item st.1 st.2.1 (x := items[i]) (by simp [hi]) fun h' hit' hs' => ?_
  exact hQ _ h' s.toks (by simp [hi]) ⟨hit', st.2.1.extBut hs'.extBut hne, st.2.2.at fun b hb o e => hs'.extBut b o (hH b hb) e⟩ fun b o hb e => hs'.extBut b o (fun h => hb (by simp [h])) e
 done := fun s Q E st hQ => aHU st.2.2 (fun e q => hH e (aCt q)) st.1 st.2.1 (by simp) fun h' he' => hQ h' s.toks fun b o hb e => he' b o (fun h => hb (by simp [h])) e
 self := fun _ _ _ _ st hQ => wpAny_pyIter_listiter st.1 hQ
theorem aMe (I ax : Addr) (hne : ax ≠ I) (hH : ∀ b ∈ iQ A, b ≠ I) (items : Array Value) :
  Walks prog w A I (I :: ax :: iQ A) [I] items.size (fun i v => items[i]? = some v) (fun i h => h.IsTupleIter I ax i /\ h.IsTuple ax items /\ jK A h) where
 sub := fun b hb => by simp at hb; simp [hb]
 frame := fun _ _ _ st hk => ⟨st.1.at fun o e => hk I (by simp) o e, st.2.1.at fun o e => hk ax (by simp) o e, st.2.2.at fun b hb o e => hk b (by simp [hb]) o e⟩
 item := fun i s Q E hi st hQ => by
  refine wpAny_pyNext_tuple_item st.1 st.2.1 (x := items[i]) (by simp [hi]) fun h' hit' hs' => ?_
  exact hQ _ h' s.toks (by simp [hi]) ⟨hit', st.2.1.extBut hs'.extBut hne, st.2.2.at fun b hb o e => hs'.extBut b o (hH b hb) e⟩ fun b o hb e => hs'.extBut b o (fun h => hb (by simp [h])) e
 done := fun s Q E st hQ => aLT st.2.2 (fun e q => hH e (aCt q)) st.1 st.2.1 (by simp) fun h' he' => hQ h' s.toks fun b o hb e => he' b o (fun h => hb (by simp [h])) e
 self := fun _ _ _ _ st hQ => wpAny_pyIter_tupleiter st.1 hQ
end
end PQ
namespace PQ
structure Src (S : SP) (A : Around) (c : Cx) (ρ : List Addr) (g h : Heap) (I : Addr) (items : List PyData) : Prop where
 ex : ∃ fp P St, Walks S.prog S.w A I fp [I] items.length P St /\ St 0 h /\ (∀ b ∈ fp, b ∉ c.mut ρ /\ ∃ o, h.get? b = some o) /\ (∀ i v, i < items.length -> P i v -> ∃ d, items[i]? = some d /\ RD S g v d) /\ (∀ i h, St i h -> ∃ o, h.get? I = some o)
 new : g.get? I = none /\ I ∉ c.hid ρ /\ c.bg.get? I = none
section
variable {S : SP} {c : Cx} {g : Heap} {mv : Str -> Option Value} {ρ : List Addr} {σ : aG} {A : Around} {E : Value -> Shared -> Prop} {s : Shared} {hb : Bool} {n k : Nat} {ρv : aJ}
theorem aZ.pos {Q : Flow -> Shared -> Prop} {o : aI Fl} (P : aZ S c g ρ s Q E o) : 0 < s.toks := by
 cases o with
 | stuck => exact P.elim
 | exc w => exact P.1
 | ok fl σ => cases fl <;> exact P.1
theorem aZ.shift {Q : Flow -> Shared -> Prop} {o : aI Fl} {g' h' : Heap} {ρ' : List Addr} {tk : Nat} (P : aZ S c g ρ s Q E o) (kt : s.toks <= tk) (kg : g.StaysIn g') (kr : aQ ρ ρ') : aZ S c g' ρ' { s with heap := h', toks := tk } Q E o := by
 cases o with
 | stuck => exact P
 | exc w => exact ⟨Nat.lt_of_lt_of_le P.1 kt, fun e mv' h₂ tk₂ t f => P.2 e mv' h₂ tk₂ (Nat.le_trans kt t) (f.mono kg)⟩
 | ok fl σ =>
  cases fl with
  | next ρv => exact ⟨Nat.lt_of_lt_of_le P.1 kt, fun g₂ ρ₂ mv₂ h₂ tk₂ t k r I R => P.2 g₂ ρ₂ mv₂ h₂ tk₂ (Nat.le_trans kt t) (cH kg k) (kr.trans r) I R⟩
  | ret v => exact ⟨Nat.lt_of_lt_of_le P.1 kt, fun g₂ ρ₂ mv₂ pv h₂ tk₂ t k r I R => P.2 g₂ ρ₂ mv₂ pv h₂ tk₂ (Nat.le_trans kt t) (cH kg k) (kr.trans r) I R⟩
theorem aF.others {h h' : Heap} {wr : List Addr} (I : aF S c g h mv ρ σ) (hk : ∀ b o, b ∉ wr -> h.get? b = some o -> h'.get? b = some o) (hl : ∀ b ∈ wr, b ∈ c.hid ρ -> ∃ o, h'.get? b = some o) (hw : ∀ b ∈ wr, b ∉ c.mut ρ /\ g.get? b = none /\ c.bg.get? b = none) : aF S c g h' mv ρ σ := by
 have kk : ∀ b o, b ∈ c.mut ρ -> h.get? b = some o -> h'.get? b = some o := fun b o hm q => hk b o (fun z => (hw b z).1 hm) q
 obtain ⟨m, hn, hm⟩ := I.ns
 exact {
  stays := fun b o q => hk b o (fun z => by rw [(hw b z).2.1] at q; cases q) (I.stays b o q)
  bgs := fun b o q => hk b o (fun z => by rw [(hw b z).2.2] at q; cases q) (I.bgs b o q)
  gd := I.gd
  fr := I.fr
  ns := ⟨m, hn.at' fun o => kk _ o oC, hm⟩
  cl := fun ho x hx => let ⟨b, q1, q2⟩ := I.cl ho x hx; ⟨b, q1, gS (fun o => kk b o (bQ.mpr (.inr (.inr (by unfold Cx.oc; rw [if_pos ho]; exact List.mem_map.mpr ⟨(x, b), jF q1, rfl⟩))))) q2⟩
  cf := I.cf
  hidn := I.hidn
  live := fun b hb => by
   by_cases z : b ∈ wr
   ·exact hl b z hb
   ·obtain ⟨o, ho⟩ := I.live b hb; exact ⟨o, hk b o z ho⟩
  nd := I.nd
  bgn := I.bgn
  len := I.len
  st := fun l o b q1 q2 => (I.st l o b q1 q2).keeps (bU _) (aQ.refl _) fun o => kk b o (bQ.mpr (.inl (mR q2)))
  wf := I.wf }
theorem aF.grown {h h' : Heap} (I : aF S c g h mv ρ σ) (k : h.StaysIn h') : aF S c g h' mv ρ σ :=
 I.others (wr := []) (fun b o _ q => k b o q) (fun _ hb => nomatch hb) (fun _ hb => nomatch hb)
theorem aF.hide {h : Heap} {l : List Addr} (I : aF S c g h mv ρ σ) (hl : ∀ a ∈ l, g.get? a = none /\ ∃ o, h.get? a = some o) : aF S { c with hs := l ++ c.hs } g h mv ρ σ :=
 { stays := I.stays, bgs := I.bgs, gd := I.gd, fr := { I.fr with }, ns := I.ns, cl := I.cl, cf := I.cf
   hidn := fun a ha => by
    rw [bJ] at ha
    rcases ha with ha | ha
    ·exact I.hidn a (bJ.mpr (.inl ha))
    ·rcases List.mem_append.mp ha with ha | ha
     ·exact (hl a ha).1
     ·exact I.hidn a (bJ.mpr (.inr ha))
   live := fun a ha => by
    rw [bJ] at ha
    rcases ha with ha | ha
    ·exact I.live a (bJ.mpr (.inl ha))
    ·rcases List.mem_append.mp ha with ha | ha
     ·exact (hl a ha).2
     ·exact I.live a (bJ.mpr (.inr ha))
   nd := I.nd, bgn := I.bgn, len := I.len, st := I.st, wf := I.wf }
theorem aF.unhide {h : Heap} {l : List Addr} (I : aF S { c with hs := l ++ c.hs } g h mv ρ σ) : aF S c g h mv ρ σ :=
 aF.warm (c := c) (hs' := l ++ c.hs) (bg' := c.bg) I (fun a ha => List.mem_append_right _ ha) (bU _) I.fr.fbg I.fr.ff I.cf
theorem aCu (H : aX hb n A c g) {h : Heap} (k : g.StaysIn h) : jK A h /\ ∀ b ∈ iQ A, ∃ o, g.get? b = some o := by
 have := H.hand
 cases hb
 ·exact ⟨.inl this, fun b hbm => by unfold iQ at hbm; rw [this] at hbm; cases hbm⟩
 ·obtain ⟨e, oe, vs, h1, h2, h3, h4⟩ := this
  exact ⟨.inr ⟨e, oe, vs, h1, k _ _ h2, h3, h4⟩, fun b hbm => by
   unfold iQ at hbm
   rw [h1] at hbm
   rw [List.mem_singleton.mp hbm]; exact ⟨_, h2⟩⟩
theorem aF.fresh {h : Heap} {a : Addr} (I : aF S c g h mv ρ σ) (e : h.get? a = none) : a ∉ c.hid ρ /\ c.bg.get? a = none /\ g.get? a = none :=
 ⟨fun hm => (I.live _ hm).elim fun o q => (nomatch e.symm.trans q), gT I.bgs e, gT I.stays e⟩
theorem aF.firm {h : Heap} {a : Addr} {o : Obj} (I : aF S c g h mv ρ σ) (e : g.get? a = some o) : a ∉ c.mut ρ := fun z => nomatch (I.hidn a (eZ z)).symm.trans e
theorem wE {o : Obj} {items : List PyData} {fp : List Addr} {P : Nat -> Value -> Prop} {St : Nat -> Heap -> Prop} (I : aF S c g s.heap mv ρ σ)
  (W : Walks S.prog S.w A s.heap.objs.size (s.heap.objs.size :: fp) [s.heap.objs.size] items.length P St) (hst : St 0 (s.heap.push o)) (ho : o.isFreed = false) (hfp : ∀ b ∈ fp, ∃ o, g.get? b = some o)
  (hP : ∀ i v, i < items.length -> P i v -> ∃ d, items[i]? = some d /\ RD S g v d) (hL : ∀ i h, St i h -> ∃ o, h.get? s.heap.objs.size = some o) : Src S A c ρ g (s.heap.push o) s.heap.objs.size items := by
 have F := I.fresh (eR s.heap)
 refine ⟨⟨_, P, St, W, hst, fun b hbm => ?_, hP, hL⟩, F.2.2, F.1, F.2.1⟩
 rcases List.mem_cons.mp hbm with hbm | hbm
 ·rw [hbm]; exact ⟨fun z => F.1 (eZ z), o, Heap.get?_push_size _ ho⟩
 ·exact (hfp b hbm).elim fun ob q => ⟨I.firm q, ob, Heap.get?_push_of_some _ (I.stays _ _ q)⟩
theorem tV {vs : Array Value} {xs : List PyData} (h2 : aM S g vs.toList xs) {i : Nat} {v : Value} (hv : vs[i]? = some v) : ∃ d, xs[i]? = some d /\ RD S g v d := by
 have hv : vs.toList[i]? = some v := by simpa using hv
 have hi := (List.getElem?_eq_some_iff.mp hv).1
 rw [aM.length h2] at hi
 exact (aM.at h2 (List.getElem?_eq_getElem hi)).elim fun pv q => ⟨_, List.getElem?_eq_getElem hi, Option.some.inj (q.1.symm.trans hv) ▸ q.2⟩
theorem aLt {d : PyData} {items : List PyData} {pv : Value} {Q : Value -> Shared -> Prop} (hx : fY hb .seq d = some items) (I : aF S c g s.heap mv ρ σ) (r : RD S g pv d) (H : aX hb n A c g)
  (hQ : ∀ h' I', s.heap.StaysIn h' -> Src S A c ρ g h' I' items -> Q (.ref I') { s with heap := h' }) : wpAny (model S.prog S.w) A (pyIter pv) Q E s := by
 have hH := aCu H I.stays
 have e0 := eR s.heap
 have ne : ∀ {b o}, g.get? b = some o -> b ≠ s.heap.objs.size := fun z q => by rw [q] at z; exact nomatch (gT I.stays e0).symm.trans z
 have hHn : ∀ b ∈ iQ A, b ≠ s.heap.objs.size := fun b hbm => (hH.2 b hbm).elim fun o z => ne z
 refine dR hx (fun hx => oX r hx fun ax vs h1 h2 => ?_) fun hx => dR hx (fun hx => xN r hx fun ax vs h1 h2 => ?_) fun hx => bO hx fun hbf hx => cV hx fun kvs hx q => tT r hx fun ax pvs h1 h2 h3 => ?_
 ·have hl := rY I h1
  have hlg : ∃ o, g.get? ax = some o := h1.elim fun o z => ⟨o, z.1⟩
  have hW := aEG (prog := S.prog) (w := S.w) (A := A) s.heap.objs.size ax (hlg.elim fun o => ne) hHn vs
  rw [show vs.size = items.length from aM.length h2] at hW
  exact wpAny_pyIter_list hl (hQ _ _ (dO _ _) (wE I hW ⟨⟨_, Heap.get?_push_size _ rfl, rfl, rfl⟩, rZ hl (dO _ _), hH.1.at fun b _ o => Heap.get?_push_of_some _⟩ rfl
   (fun b hbm => (List.mem_cons.mp hbm).elim (fun q => q ▸ hlg) (hH.2 b)) (fun i v _ hv => tV h2 hv) fun i h hst => hst.1.elim fun o z => ⟨o, z.1⟩))
 ·have hl := lN h1 I.stays
  have hlg : ∃ o, g.get? ax = some o := h1.elim fun o z => ⟨o, z.1⟩
  have hW := aMe (prog := S.prog) (w := S.w) (A := A) s.heap.objs.size ax (hlg.elim fun o => ne) hHn vs
  rw [show vs.size = items.length from aM.length h2] at hW
  exact wpAny_pyIter_tuple hl (hQ _ _ (dO _ _) (wE I hW ⟨⟨_, Heap.get?_push_size _ rfl, rfl, rfl⟩, lN hl (dO _ _), hH.1.at fun b _ o => Heap.get?_push_of_some _⟩ rfl
   (fun b hbm => (List.mem_cons.mp hbm).elim (fun q => q ▸ hlg) (hH.2 b)) (fun i v _ hv => tV h2 hv) fun i h hst => hst.1.elim fun o z => ⟨o, z.1⟩))
 ·subst q
  have hd := nS h1 I.stays
  have hlg : ∃ o, g.get? ax = some o := h1.elim fun o z => z.elim fun es z => z.elim fun ep z => ⟨o, z.1⟩
  refine hd.dictAt.elim fun ep hat => ?_
  have hlen : pvs.length = (kvs.map (·.1)).length := by rw [List.length_map]; exact dJ.length h3
  have hW := Walks.dictKeys (prog := S.prog) (w := S.w) (A := A) (knd := PySem.strKind S.prog S.w) (lI H hbf) s.heap.objs.size ax (hlg.elim fun o => ne) pvs ep
  rw [hlen] at hW
  refine wpAny_pyIter_dict h2 hat (hQ _ _ (dO _ _) (wE I hW ⟨⟨_, Heap.get?_push_size _ rfl, rfl, by rw [<- hlen]; rfl⟩, hat.push _⟩ rfl (fun b hbm => List.mem_singleton.mp hbm ▸ hlg) (fun i v _ hv => ?_) fun i h hst => hst.1.elim fun o z => ⟨o, z.1⟩))
  obtain ⟨kk, x, q1, q2⟩ := hv
  obtain ⟨t, rfl⟩ := Value.isStrOf_shape q2
  exact ⟨.str kk, by rw [<- dJ.keys h3, List.getElem?_map, q1]; rfl, .str _ _⟩
theorem aLs {d : PyData} {pv : Value} {items : List PyData} {Q : Value -> Shared -> Prop} (hx : fY hb .range d = some items) (I : aF S c g s.heap mv ρ σ) (r : RD S g pv d) (H : aX hb n A c g)
  (hQ : ∀ h' I' tk, s.toks <= tk -> s.heap.StaysIn h' -> Src S A c ρ g h' I' items -> Q (.ref I') { s with heap := h', toks := tk }) :
  wpAny (model S.prog S.w) A (call (.type "range") [pv]) (fun x s₁ => wpAny (model S.prog S.w) A (pyIter x) Q E s₁) E s := by
 refine bO hx fun hbf hx => aL hx fun m hx q => bO q fun hl q => jL r hx fun t => ?_
 refine call_range_1 (wpAny_pyIter_range (IsRange.new ..) (small_one (by decide) (by decide) (by omega) (by omega)) ?_)
 have hsz : Builtin.Range.rangeSize 0 m 1 = (m.toNat : Int) := by rw [rangeSize_one]; split <;> omega
 generalize hh1 : s.heap.push { cls := .type "range", data := .fields #[.int 0 s.toks, .int m t, .int 1 (s.toks + 1)] } = h₁
 have k1 : s.heap.StaysIn h₁ := hh1 ▸ dO _ _
 have hW := Walks.range (prog := S.prog) (w := S.w) (A := A) (lI H hbf) h₁.objs.size 0 1 m.toNat
 have hlen : m.toNat = items.length := by rw [<- Option.some.inj q, List.length_map, List.length_range]
 rw [hlen] at hW
 refine hQ _ h₁.objs.size _ (Nat.le_add_right _ 2) (cH k1 (dO _ _)) (wE (s := { s with heap := h₁ }) (I.grown k1) hW ?_ rfl (fun _ hbm => nomatch hbm) (fun i v hi hv => ?_) fun i h hst => ⟨_, hst⟩)
 ·rw [<- hlen, show (0 + ((0 : Nat) : Int) * 1) = 0 from rfl, show ((m.toNat : Int) - ((0 : Nat) : Int)) = Builtin.Range.rangeSize 0 m 1 by rw [hsz]; simp]
  exact Heap.get?_push_size _ rfl
 ·obtain ⟨t, rfl⟩ := hv
  rw [<- hlen] at hi
  exact ⟨.int (i : Int), by rw [<- Option.some.inj q, List.getElem?_map, List.getElem?_range hi]; rfl, RD.int' (by omega)⟩
end
end PQ
namespace PQ
noncomputable def Cx.hide (c : Cx) (l : List Addr) : Cx := { c with hs := l ++ c.hs }
structure Drawn (S : SP) (A : Around) (c : Cx) (g : Heap) (t : Expr) (I : Addr) (is : List Nat) (items : List PyData) (fp wr : List Addr) (St : Nat -> Heap -> Prop) : Prop where
 sub : ∀ b ∈ wr, b ∈ fp
 frame : ∀ i h h', St i h -> (∀ b ∈ fp, ∀ o, h.get? b = some o -> h'.get? b = some o) -> St i h'
 next : ∀ {i : Nat} {s' : Shared} {g' : Heap} {ρ' : List Addr} {mv' : Str -> Option Value} {σ' : aG} {ρv' ρ₀ : aJ} {d : PyData} {Q : Unit -> Shared -> Prop} {E : Value -> Shared -> Prop},
  items[i]? = some d -> St i s'.heap -> g.StaysIn g' -> aF S (c.hide wr) g' s'.heap mv' ρ' σ' -> (∀ b ∈ fp, b ∉ c.mut ρ' /\ ∃ o, s'.heap.get? b = some o) -> aV S g' ρ' mv' ρv' -> nM ρv' is d = some ρ₀ ->
  (∀ h₁ h₂ tk₂ mv₂, s'.toks <= tk₂ -> St (i + 1) h₁ -> (∀ b ∈ fp, ∃ o, h₁.get? b = some o) -> aF S (c.hide wr) g' h₁ mv' ρ' σ' -> aF S ((c.hide wr).cold h₁ ρ' []) g' h₂ mv₂ ρ' σ' -> aV S g' ρ' mv₂ ρ₀ -> Q () { s' with heap := h₂, toks := tk₂ }) ->
  wpAny (model S.prog S.w) A (pyNext (.ref I)) (fun r s₁ => match r with
   | none => False
   | some v => wpAny (model S.prog S.w) A (letOwnedTupleGo t (.ref I) v) (fun _ s₁' => wpAny (model S.prog S.w) A (assign t c.env v) Q E s₁') E s₁) E s'
 done : ∀ {s' : Shared} {Q : Option Value -> Shared -> Prop} {E : Value -> Shared -> Prop}, St items.length s'.heap ->
  (∀ h' tk, s'.toks <= tk -> (∀ b o, b ∉ wr -> s'.heap.get? b = some o -> h'.get? b = some o) -> Q none { s' with heap := h', toks := tk }) -> wpAny (model S.prog S.w) A (pyNext (.ref I)) Q E s'
section
variable {S : SP} {c : Cx} {g : Heap} {mv : Str -> Option Value} {ρ : List Addr} {σ : aG} {A : Around} {E : Value -> Shared -> Prop} {s : Shared} {hb : Bool} {n k : Nat} {ρv : aJ}
theorem aZ.giveN {Q : Flow -> Shared -> Prop} {g' h' : Heap} {ρ' : List Addr} {mv' : Str -> Option Value} {tk : Nat} (P : aZ S c g ρ s Q E (.ok (.next ρv) σ)) (kt : s.toks <= tk) (kg : g.StaysIn g') (kr : aQ ρ ρ') (I : aF S c g' h' mv' ρ' σ) (R : aV S g' ρ' mv' ρv) : Q .next { s with heap := h', toks := tk } := P.2 g' ρ' mv' h' tk kt kg kr I R
theorem aZ.giveR {Q : Flow -> Shared -> Prop} {g' h' : Heap} {ρ' : List Addr} {mv' : Str -> Option Value} {tk : Nat} {v : aB} {pv : Value} (P : aZ S c g ρ s Q E (.ok (.ret v) σ)) (kt : s.toks <= tk) (kg : g.StaysIn g') (kr : aQ ρ ρ') (I : aF S c g' h' mv' ρ' σ) (r : VR S g' ρ' pv v) : Q (.ret pv) { s with heap := h', toks := tk } := P.2 g' ρ' mv' pv h' tk kt kg kr I r
inductive wR (S : SP) (c : Cx) (g : Heap) (hb : Bool) (n : Nat) (is : List Nat) (items : List PyData) (b : List bH) (fp wr : List Addr) (St : Nat -> Heap -> Prop) (s : Shared) (Q : Flow -> Shared -> Prop) (E : Value -> Shared -> Prop) (m : Nat) (s' : Shared) : Prop
 | mk (i : Nat) (h : Heap) (tk : Nat) (g' : Heap) (ρ' : List Addr) (mv' : Str -> Option Value) (σ' : aG) (ρv' : aJ) (u : Nat) : s' = { s with heap := h, toks := tk } -> s.toks <= tk -> i <= items.length -> m = items.length + 1 - i -> St i h -> g.StaysIn g' -> aF S (c.hide wr) g' h mv' ρ' σ' ->
   (∀ b ∈ fp, b ∉ c.mut ρ' /\ ∃ o, h.get? b = some o) -> aV S g' ρ' mv' ρv' -> u <= n -> aZ S c g' ρ' { s with heap := h, toks := tk } Q E (evF FT hb u is b (items.drop i) ρv' σ') -> wR S c g hb n is items b fp wr St s Q E m s'
theorem aZ.liftB_r {γ : Type} {o : Option γ} {f : γ -> aG -> aI Fl} {Q : Flow -> Shared -> Prop} {P' : Prop} (x : aZ S c g ρ s Q E ((PQ.lift o σ).bind f)) (k : ∀ a, o = some a -> aZ S c g ρ s Q E (f a σ) -> P') : P' := by
 cases o with
 | none => exact x.elim
 | some a => exact k a rfl x
theorem aZ.bindN_r {γ : Type} {x : aI γ} {f : γ -> aG -> aI Fl} {Q : Flow -> Shared -> Prop} {P' : Prop} (P : aZ S c g ρ s Q E (x.bindN f)) (k : ∀ a σ₁, x = .ok a σ₁ -> aZ S c g ρ s Q E (f a σ₁) -> P') : P' := by
 cases x with
 | ok a σ₁ => exact k a σ₁ rfl P
 | _ => exact P.elim
theorem aCp {t : Expr} {is : List Nat} {items : List PyData} {body : List Stmt} {b : List bH} {I : Addr} {fp wr : List Addr} {St : Nat -> Heap -> Prop} {Q : Flow -> Shared -> Prop} {R : Result -> Shared -> Prop}
  (ihS : ∀ m, m < n -> SSs S hb m) (D : Drawn S A c g t I is items fp wr St) (ho : c.own = true) (hc : dU k c.env.scope body b = true)
  (hR : ∀ f s', Q f s' -> R (.ok f) s') (hw : ∀ b ∈ wr, b ∉ c.hid ρ /\ c.bg.get? b = none /\ g.get? b = none)
  (In : aF S c g s.heap mv ρ σ) (hst : St 0 s.heap) (hfp : ∀ b ∈ fp, b ∉ c.mut ρ /\ ∃ o, s.heap.get? b = some o) (Rv : aV S g ρ mv ρv) (H : aX hb n A c g)
  (P : aZ S c g ρ s Q E (evF FT hb n is b items ρv σ)) :
  codeAny (model S.prog S.w) A (.forLoop t (.ref I) body [] c.env) R s := by
 have In' : aF S (c.hide wr) g s.heap mv ρ σ := In.hide fun a ha => ⟨(hw a ha).2.2, (hfp a (D.sub a ha)).2⟩
 refine codeAny_forLoop_any (wR S c g hb n is items b fp wr St s Q E) ?_ (items.length + 1)
  ⟨0, s.heap, s.toks, g, ρ, mv, σ, ρv, n, rfl, Nat.le_refl _, Nat.zero_le _, rfl, hst, bU _, In', hfp, Rv, Nat.le_refl _, by simpa using P⟩
 intro m s' F
 cases F with | mk i h tk g' ρ' mv' σ' ρv' u e htk hi em hst' kg' I' hfp' R' hu P' =>
 rw [e, em]
 clear e em
 have hpos := P'.pos
 cases u with
 | zero => exact P'.elim
 | succ u =>
 by_cases hlt : i < items.length
 ·rw [List.drop_eq_getElem_cons hlt] at P'
  refine aZ.liftB_r P' fun ρ₀ hbi P' => ?_
  refine wpAny_mono (D.next (s' := { s with heap := h, toks := tk }) (E := notedBy (model S.prog S.w) A c.env fun e s' => R (.error e) s') (Q := fun _ s₂ => wpAny (model S.prog S.w) A (execs body c.env) (fun f s₃ => match f with
      | .next | .cont => ∃ m, m < items.length + 1 - i /\ wR S c g hb n is items b fp wr St s Q E m s₃
      | .brk => R (.ok .next) s₃
      | .ret v => R (.ok (.ret v)) s₃) (notedBy (model S.prog S.w) A c.env fun e s' => R (.error e) s') s₂)
   (List.getElem?_eq_getElem hlt) hst' kg' I' hfp' R' hbi fun h₁ h₂ tk₂ mv₂ t₂ hst₁ hlv I₁ I₂ R₂ => aZ.bindN_r P' fun fl σ₂ q P' => ?_) (fun r s₁ hr => by cases r with | none => exact hr.elim | some v => exact hr) fun _ _ e => e
  refine ihS u (by omega) (c := (c.hide wr).cold h₁ ρ' []) ho hc I₂ R₂ ⟨by have := H.depth; omega, by have := H.units; omega, H.guards, H.frames, FrL.more (c := c.hide wr) (l := []) H.fl.more, (H.mono kg').hand⟩ ?_
  have hbg : ∀ b ∈ fp, ∀ o, h₁.get? b = some o -> ((c.hide wr).cold h₁ ρ' []).bg.get? b = some o := fun b hb o e => hideAll_get _ e (hfp' b hb).1
  have hpos2 : 0 < tk₂ := Nat.lt_of_lt_of_le hpos t₂
  rw [q]
  have back : ∀ {g₃ ρ₃ mv₃ h₃ σ₃}, aF S ((c.hide wr).cold h₁ ρ' []) g₃ h₃ mv₃ ρ₃ σ₃ -> aF S (c.hide wr) g₃ h₃ mv₃ ρ₃ σ₃ := fun I₃ =>
   I₃.warm (fun a ha => List.mem_append_right _ ha) (lC I₁) I'.fr.fbg I'.fr.ff fun ho' => nomatch ho.symm.trans ho'
  cases fl with
  | next ρ₁ =>
   refine ⟨hpos2, fun g₃ ρ₃ mv₃ h₃ tk₃ t₃ kg₃ kr₃ I₃ R₃ => ⟨items.length + 1 - (i + 1), by omega, ⟨i + 1, h₃, tk₃, g₃, ρ₃, mv₃, σ₂, ρ₁, u, rfl, Nat.le_trans htk (Nat.le_trans t₂ t₃), hlt, rfl, D.frame _ _ _ hst₁ fun b hb o e => I₃.bgs b o (hbg b hb o e), cH kg' kg₃, back I₃, fun b hb => ?_, R₃, Nat.le_of_succ_le hu, aZ.shift (s := { s with heap := h, toks := tk }) P' (Nat.le_trans t₂ t₃) kg₃ kr₃⟩⟩⟩
   exact (hlv b hb).elim fun o e => ⟨fun z => (nomatch (I₃.bgn b z).symm.trans (hbg b hb o e)), o, I₃.bgs b o (hbg b hb o e)⟩
  | ret v => exact ⟨hpos2, fun g₃ ρ₃ mv₃ pv h₃ tk₃ t₃ kg₃ kr₃ I₃ rv => hR _ _ (aZ.giveR (s := { s with heap := h, toks := tk }) P' (Nat.le_trans t₂ t₃) kg₃ kr₃ (aF.unhide (l := wr) (back I₃)) rv)⟩
 ·obtain rfl : i = items.length := by omega
  rw [List.drop_length] at P'
  refine D.done hst' fun h₃ tk₃ t₃ hk₃ => wpAny_execs_nil (hR _ _ (aZ.giveN (s := { s with heap := h, toks := tk }) P' t₃ (bU _) (aQ.refl _) ((aF.unhide (l := wr) I').others hk₃ (fun b hb hm => ?_) fun b hb => ⟨(hfp' b (D.sub b hb)).1, I'.hidn b (bJ.mpr (.inr (List.mem_append_left _ hb))), (hw b hb).2.1⟩) R'))
  exact (bJ.mp hm).elim (fun hm => absurd hm (hfp' b (D.sub b hb)).1) fun hm => absurd (bJ.mpr (.inr hm)) (hw b hb).1
theorem aGc {x : Str} {px : Pos} {i₀ : Nat} {items : List PyData} {I : Addr} {h₀ : Heap} (hs : Src S A c ρ g h₀ I items) (ho : c.own = true \/ c.env.kindOf x = some .local) (hx : bP[i₀]? = some x) (hv : cP c.env.scope x = true) :
  ∃ fp St, Drawn S A c g (.Name x px) I [i₀] items fp [I] St /\ St 0 h₀ /\ (∀ b ∈ fp, b ∉ c.mut ρ /\ ∃ o, h₀.get? b = some o) := by
 obtain ⟨⟨fp, P, St, W, hst, hfp, hP, hL⟩, hI1, hI2, hI3⟩ := hs
 refine ⟨fp, St, ⟨W.sub, W.frame, fun {i s' g' ρ' mv' σ' ρv' ρ₀ d Q E} hd hsti kg I' hfp' R' hbi hQ => ?_, fun {s' Q E} hsti hQ => wpAny_with_toks (Nat.le_refl _) (W.done _ _ _ hsti fun h' tk hk kt => hQ h' tk kt hk)⟩, hst, hfp⟩
 have hi : i < items.length := (List.getElem?_eq_some_iff.mp hd).1
 refine wpAny_with_toks (Nat.le_refl _) (W.item i _ _ _ hi hsti fun v h₁ tk₁ hPv hst₁ hk₁ kt₁ => wpAny_of_eq (a := ()) rfl (wpAny_assign_Name ?_))
 have hIw : I ∉ c.mut ρ' := (hfp' I (W.sub I (.head _))).1
 have I₁ : aF S (c.hide [I]) g' h₁ mv' ρ' σ' := I'.others (wr := [I]) hk₁ (fun b hb _ => List.mem_singleton.mp hb ▸ hL _ _ hst₁) fun b hb => by rw [List.mem_singleton.mp hb]; exact ⟨hIw, I'.hidn I (bJ.mpr (.inr (.head _))), hI3⟩
 have hlv : ∀ b ∈ fp, ∃ o, h₁.get? b = some o := fun b hb => by
  by_cases z : b = I
  ·rw [z]; exact hL _ _ hst₁
  ·exact (hfp' b hb).2.elim fun o e => ⟨o, hk₁ b o (fun q => z (List.mem_singleton.mp q)) e⟩
 refine wpAny_with_toks (n := s'.toks) kt₁ (kS (s := { s' with heap := h₁, toks := tk₁ }) (c := (c.hide [I]).cold h₁ ρ' []) (A := A) (E := fun e s₂ => s'.toks <= s₂.toks -> E e s₂) (I₁.cold (l := []) (fun _ h => nomatch h)) hv ho fun h₂ tk₂ I₃ kt₂ => ?_)
 refine hQ h₁ h₂ tk₂ _ kt₂ hst₁ hlv I₁ I₃ (Option.some.inj (show some (ρv'.set i₀ (.d d)) = some ρ₀ from hbi) ▸ R'.set hx (RD.mono kg ?_))
 exact (hP i v hi hPv).elim fun d' q => Option.some.inj (hd.symm.trans q.1) ▸ q.2
end
end PQ
namespace PQ
noncomputable def wL (mv : Str -> Option Value) : List Str -> List Value -> Str -> Option Value
 | [], _ => mv
 | x :: xs, vs => List.casesOn vs mv fun v vs => wL (upd mv x v) xs vs
theorem aBi {x : Str} : ∀ {xs : List Str} {vs : List Value} {mv : Str -> Option Value}, x ∉ xs -> wL mv xs vs x = mv x := by
 intro xs
 induction xs with
 | nil => intro _ _ _; rfl
 | cons y xs ih =>
  intro vs mv h
  rw [List.mem_cons, not_or] at h
  cases vs with
  | nil => rfl
  | cons v vs => exact (ih h.2).trans (oQ _ _ h.1)
theorem aEC {x : Str} {w : Value} : ∀ {xs : List Str} {vs : List Value} {mv : Str -> Option Value}, xs.Nodup -> (x, w) ∈ xs.zip vs -> wL mv xs vs x = some w := by
 intro xs
 induction xs with
 | nil => intro _ _ _ h; cases h
 | cons y xs ih =>
  intro vs mv hn h
  rw [List.nodup_cons] at hn
  cases vs with
  | nil => cases h
  | cons v vs =>
   rw [List.zip_cons_cons, List.mem_cons] at h
   refine h.elim (fun h => ?_) (ih hn.2)
   obtain ⟨rfl, rfl⟩ := Prod.mk.inj h
   exact (aBi hn.1).trans (tG ..)
noncomputable def gN : List Nat -> List Str -> Prop := aY fun i x => bP[i]? = some x
theorem gN.mem {is : List Nat} {xs : List Str} {x : Str} (h : gN is xs) : x ∈ xs -> ∃ i ∈ is, bP[i]? = some x :=
 aY.ind (R := fun i x => bP[i]? = some x) (G := fun is xs => x ∈ xs -> ∃ i ∈ is, bP[i]? = some x) h (fun h => nomatch h) fun a b l m h _ ih hm => (List.mem_cons.mp hm).elim (fun q => ⟨a, .head _, q ▸ h⟩) fun q => (ih q).elim fun i z => ⟨i, .tail _ z.1, z.2⟩
theorem gN.len {is : List Nat} {xs : List Str} (h : gN is xs) : xs.length = is.length := (aY.length h).symm
theorem gN.nodup {is : List Nat} {xs : List Str} (h : gN is xs) : is.Nodup -> xs.Nodup :=
 aY.ind (R := fun i x => bP[i]? = some x) (G := fun is xs => is.Nodup -> xs.Nodup) h (fun _ => List.nodup_nil) fun a b l m h r ih hn => by
  rw [List.nodup_cons] at hn ⊢
  exact ⟨fun hm => (gN.mem r hm).elim fun j z => hn.1 (tH h z.2 ▸ z.1), ih hn.2⟩
section
variable {S : SP} {c : Cx} {g : Heap} {mv : Str -> Option Value} {ρ : List Addr} {σ : aG} {A : Around} {E : Value -> Shared -> Prop} {s : Shared} {hb : Bool} {n k : Nat} {ρv : aJ}
theorem aV.setAll : ∀ {is : List Nat} {xs : List Str} {pvs : List Value} {vs : List aB} {ρ₁ : aJ} {mv mv' : Str -> Option Value} {ρv : aJ}, aV S g ρ mv ρv -> PQ.setAll ρv is vs = some ρ₁ -> gN is xs -> is.Nodup -> cR S g ρ pvs vs ->
  (∀ x w, (x, w) ∈ xs.zip pvs -> mv' x = some w) -> (∀ x, x ∉ xs -> mv' x = mv x) -> aV S g ρ mv' ρ₁ := by
 intro is
 induction is with
 | nil =>
  intro xs pvs vs ρ₁ mv mv' ρv R e hN hn hv h1 h2
  cases vs with
  | cons => exact dL e
  | nil =>
   have hx : xs = [] := List.length_eq_zero_iff.mp hN.len
   intro i x v hi hv'
   rw [h2 x (by rw [hx]; exact List.not_mem_nil)]; exact R i x v hi (Option.some.inj (show some ρv = some ρ₁ from e) ▸ hv')
 | cons i is ih =>
  intro xs pvs vs ρ₁ mv mv' ρv R e hN hn hv h1 h2
  cases xs with
  | nil => exact hN.elim
  | cons x xs =>
  cases vs with
  | nil => exact dL e
  | cons v vs =>
  cases pvs with
  | nil => exact hv.elim
  | cons pv pvs =>
  have hxn : x ∉ xs := (List.nodup_cons.mp (gN.nodup hN hn)).1
  refine ih (mv := upd mv x pv) (R.set hN.1 hv.1) e hN.2 (List.nodup_cons.mp hn).2 hv.2 (fun y w hy => h1 y w (.tail _ hy)) fun y hy => ?_
  by_cases q : y = x
  ·rw [q, tG]; exact h1 x pv (.head _)
  ·rw [oQ _ _ q]; exact h2 y fun z => (List.mem_cons.mp z).elim q hy
theorem aD0 : ∀ {is : List Nat} {vs : List aB} {ρv ρ₁ : aJ}, PQ.setAll ρv is vs = some ρ₁ -> is.length = vs.length := by
 intro is
 induction is with
 | nil => intro vs _ _ e; cases vs with
  | nil => rfl
  | cons => exact dL e
 | cons i is ih => intro vs _ _ e; cases vs with
  | nil => exact dL e
  | cons v vs => exact congrArg (· + 1) (ih e)
theorem yD {sc : Scope} : ∀ {ts : List Expr} {is : List Nat}, mG sc ts is = true -> ∃ xs ps, ts = (xs.zip ps).map (fun p => Expr.Name p.1 p.2) /\ xs.length = ps.length /\ gN is xs /\ ∀ x ∈ xs, cP sc x = true := by
 intro ts
 induction ts with
 | nil => intro is h; rw [List.isEmpty_iff.mp h]; exact ⟨[], [], rfl, rfl, trivial, fun _ h => nomatch h⟩
 | cons t ts ih =>
  intro is h
  refine gF h fun i is h => ?_
  obtain ⟨xs, ps, e1, e2, e3, e4⟩ := ih (aA h).2
  exact fM (aA h).1 fun x p h => ⟨x :: xs, p :: ps, by rw [e1]; rfl, congrArg (· + 1) e2, ⟨eq_of_beq (aA h).1, e3⟩, fun y hy => (List.mem_cons.mp hy).elim (fun q => q ▸ (aA h).2) (e4 y)⟩
theorem xO {env : Env} : ∀ {xs : List Str} {ps : List Pos}, xs.length = ps.length -> assignEach ((xs.zip ps).map fun p => Expr.Name p.1 p.2) env = (xs.zip ps).map fun p => (false, assign (.Name p.1 p.2) env) := by
 intro xs
 induction xs with
 | nil => intro _ _; rfl
 | cons x xs ih => intro ps h; cases ps with
  | nil => cases h
  | cons p ps => exact congrArg ((false, assign (.Name x p) env) :: ·) (ih (Nat.succ.inj h))
theorem aEk {f : Str × Pos -> Value -> Sem Unit} : ∀ {xs : List Str} {ps : List Pos} {pvs : List Value} {mv : Str -> Option Value} {s : Shared} {Q : Unit -> Shared -> Prop}, (∀ p v (s : Shared) (Q : Unit -> Shared -> Prop), wpAny (model S.prog S.w) A (storeName c.env p.1 v) Q E s -> wpAny (model S.prog S.w) A (f p v) Q E s) ->
  xs.length = ps.length -> xs.length = pvs.length -> c.own = true -> (∀ x ∈ xs, cP c.env.scope x = true) -> aF S c g s.heap mv ρ σ -> (∀ h' tk, aF S c g h' (wL mv xs pvs) ρ σ -> Q () { s with heap := h', toks := tk }) ->
  wpAny (model S.prog S.w) A (assignInOrder ((xs.zip ps).map f) pvs) Q E s := by
 intro xs
 induction xs with
 | nil => intro ps pvs mv s Q hf h1 h2 ho hv I hQ; rw [List.length_eq_zero_iff.mp h2.symm]; exact assignInOrder_nil (hQ s.heap s.toks I)
 | cons x xs ih =>
  intro ps pvs mv s Q hf h1 h2 ho hv I hQ
  cases ps with
  | nil => cases h1
  | cons p ps =>
  cases pvs with
  | nil => cases h2
  | cons v pvs => exact assignInOrder_cons (hf (x, p) v _ _ (kS I (hv x (.head _)) (.inl ho) fun h' tk I' => ih hf (Nat.succ.inj h1) (Nat.succ.inj h2) ho (fun y hy => hv y (.tail _ hy)) I' fun h'' tk' I'' => hQ h'' tk' I''))
theorem xP {xs : List Str} {ps : List Pos} {is : List Nat} {vs : List aB} {pvs : Array Value} {a : Addr} {kd : Nat} {tpos : Pos} {ρ₁ : aJ} {Q : Unit -> Shared -> Prop} (hh : A.handled = none) (hlen : xs.length = ps.length) (hN : gN is xs) (hn : is.Nodup) (hv : ∀ x ∈ xs, cP c.env.scope x = true) (ho : c.own = true)
  (I : aF S c g s.heap mv ρ σ) (R : aV S g ρ mv ρv) (ht : s.heap.IsTuple a pvs) (rs : cR S g ρ pvs.toList vs) (e : PQ.setAll ρv is vs = some ρ₁)
  (hQ : ∀ h' tk mv', s.toks <= tk -> aF S c g h' mv' ρ σ -> aV S g ρ mv' ρ₁ -> Q () { s with heap := h', toks := tk }) :
  wpAny (model S.prog S.w) A (assign (.Tuple ((xs.zip ps).map fun p => Expr.Name p.1 p.2) kd tpos) c.env (.ref a)) Q E s := by
 have hl1 := gN.len hN
 have hl2 := aD0 e
 have hl3 := cR.length rs
 have hpl : xs.length = pvs.toList.length := by omega
 refine toks (wpAny_assign_Tuple hh ht (by rw [xO hlen, List.length_map, List.length_zip]; simp at hpl; omega) ?_ fun h' he => ?_)
 ·rw [xO hlen, List.findIdx?_eq_none_iff]
  intro p hp
  obtain ⟨q, _, rfl⟩ := List.mem_map.mp hp
  rfl
 ·rw [xO hlen, List.map_map]
  have hk : s.heap.StaysIn h' := fun b o q => he b o (Nat.ne_of_lt (Heap.lt_size q)) q
  refine aEk (f := fun p => assign (.Name p.1 p.2) c.env) (fun p v s Q h => wpAny_assign_Name h) hlen hpl ho hv (I.grown hk) fun h'' tk I'' kt => ?_
  exact hQ h'' tk _ kt I'' (R.setAll e hN hn rs (fun x w hx => aEC (gN.nodup hN hn) hx) fun x hx => aBi hx)
theorem aEW {xs : List Str} {is : List Nat} {vs : List aB} {pvs : Array Value} {a : Addr} {ρ₁ : aJ} {Q : Unit -> Shared -> Prop} (hh : A.handled = none) (hN : gN is xs) (hn : is.Nodup) (hv : ∀ x ∈ xs, cP c.env.scope x = true) (ho : c.own = true)
  (I : aF S c g s.heap mv ρ σ) (R : aV S g ρ mv ρv) (ht : s.heap.IsTuple a pvs) (rs : cR S g ρ pvs.toList vs) (e : PQ.setAll ρv is vs = some ρ₁)
  (hQ : ∀ h' tk mv', s.toks <= tk -> aF S c g h' mv' ρ σ -> aV S g ρ mv' ρ₁ -> Q () { s with heap := h', toks := tk }) :
  wpAny (model S.prog S.w) A (unpackItems (.ref a) xs.length none) (fun items s₂ => wpAny (model S.prog S.w) A (assignInOrder (xs.reverse.map fun n => bindName c.env n) items.reverse) Q E s₂) E s := by
 have hl1 := gN.len hN
 have hl2 := aD0 e
 have hl3 := cR.length rs
 have hpl : xs.length = pvs.toList.length := by omega
 have hsz : xs.length = pvs.size := by simpa using hpl
 rw [hsz]
 refine wpAny_unpackItems_tuple hh ht fun h' he => toks ?_
 have hk : s.heap.StaysIn h' := fun b o q => he b o (Nat.ne_of_lt (Heap.lt_size q)) q
 have hz : xs.reverse.map (fun n => bindName c.env n) = ((xs.reverse.zip (List.replicate xs.length (⟨0, 0, 0, 0⟩ : Pos))).map fun p => bindName c.env p.1) := by
  rw [show (fun p : Str × Pos => bindName c.env p.1) = (fun n => bindName c.env n) ∘ Prod.fst from rfl, <- List.map_map, List.map_fst_zip (by simp)]
 rw [hz]
 refine aEk (f := fun p => bindName c.env p.1) (s := { s with heap := h' }) (fun p v s Q h => wpAny_bindName h) (by simp) (by simpa using hpl) ho (fun x hx => hv x (List.mem_reverse.mp hx)) (I.grown hk) fun h'' tk I'' kt => ?_
 refine hQ h'' tk _ kt I'' (R.setAll e hN hn rs (fun x w hx => aEC (by have := gN.nodup hN hn; rw [List.nodup_iff_pairwise_ne] at this ⊢; rw [List.pairwise_reverse]; exact this.imp Ne.symm) ?_) fun x hx => aBi (fun z => hx (List.mem_reverse.mp z)))
 have hz2 : xs.reverse.zip pvs.toList.reverse = (xs.zip pvs.toList).reverse := (List.reverse_zipWith hpl).symm
 rw [hz2]; exact List.mem_reverse.mpr hx
end
end PQ
namespace PQ
section
variable {S : SP} {c : Cx} {g : Heap} {mv : Str -> Option Value} {ρ : List Addr} {σ : aG} {A : Around} {E : Value -> Shared -> Prop} {s : Shared} {hb : Bool} {n k : Nat} {ρv : aJ}
theorem aBd {P : Addr -> Prop} {a b : Addr} (ha : P a) (hb : P b) : ∀ x ∈ [a, b], P x := fun x hx => (List.mem_cons.mp hx).elim (fun q => q ▸ ha) fun hx => List.mem_singleton.mp hx ▸ hb
theorem aEx {P : Addr -> Prop} {a b c : Addr} (ha : P a) (hb : P b) (hc : P c) : ∀ x ∈ [a, b, c], P x := fun x hx => (List.mem_cons.mp hx).elim (fun q => q ▸ ha) (aBd hb hc x)
theorem aB7 {e i l : Addr} {k : Nat} {vs : Array Value} {h : Heap} (x : (∃ old, IsEnum h e i k old) /\ h.IsListIter i l k /\ h.IsList l vs) : ∀ b ∈ [e, i, l], ∃ o, h.get? b = some o :=
 aEx (P := fun b => ∃ o, h.get? b = some o) (x.1.elim fun old q => ⟨_, q⟩) (x.2.1.elim fun o q => ⟨o, q.1⟩) (x.2.2.elim fun o q => ⟨o, q.1⟩)
theorem aGf {xs : List PyData} {i : Nat} {d : PyData} (h : (xs.zipIdx.map fun p => PyData.tuple [.int (p.2 : Nat), p.1])[i]? = some d) : ∃ x, xs[i]? = some x /\ d = .tuple [.int (i : Nat), x] := by
 rw [List.getElem?_map, List.getElem?_zipIdx] at h
 cases q : xs[i]? with
 | none => rw [q] at h; cases h
 | some x => rw [q] at h; exact ⟨x, rfl, by rw [<- Option.some.inj h]; simp⟩
theorem aGV {α : Type} {l : List α} {a : α} (h : hd1 l = some a) : l.length = 1 := zA h rfl
theorem aGb {ts : List Expr} {is : List Nat} {kd : Nat} {tpos : Pos} {d : PyData} {items : List PyData} {pv : Value} {Q : Value -> Shared -> Prop}
  (hx : fY hb .enum d = some items) (ho : c.own = true) (hc : mG c.env.scope ts is = true) (h2 : is.length = 2) (hn : is.Nodup) (I : aF S c g s.heap mv ρ σ) (r : RD S g pv d) (H : aX hb n A c g)
  (hQ : ∀ h' I' fp wr St, s.heap.StaysIn h' -> Drawn S A c g (.Tuple ts kd tpos) I' is items fp wr St -> St 0 h' -> (∀ b ∈ fp, b ∉ c.mut ρ /\ ∃ o, h'.get? b = some o) -> (∀ b ∈ wr, b ∉ c.hid ρ /\ c.bg.get? b = none /\ g.get? b = none) -> Q (.ref I') { s with heap := h' }) :
  wpAny (model S.prog S.w) A (call (.type "enumerate") [pv]) (fun x s₁ => wpAny (model S.prog S.w) A (pyIter x) Q E s₁) E s := by
 refine bO hx fun hbf hx => aL hx fun xs hx q => bO q fun _ q => oX r hx fun l vs h1 hr => ?_
 obtain rfl := Option.some.inj q
 clear hx r
 have hl := rY I h1
 have hnl : vs.size = xs.length := aM.length hr
 have hh : A.handled = none := lI H hbf
 have fresh : ∀ a, s.heap.objs.size <= a -> a ∉ c.hid ρ /\ c.bg.get? a = none /\ g.get? a = none := fun a ha => I.fresh (by
  cases q : s.heap.get? a with
  | none => rfl
  | some o => exact absurd (Heap.lt_size q) (Nat.not_lt.mpr ha))
 have F0 := fresh _ (Nat.le_refl _)
 have F1 := fresh _ (Nat.le_succ _)
 have hlt : l < s.heap.objs.size := hl.elim fun o z => Heap.lt_size z.1
 refine call_enumerate_list hl fun h' he hit hsz hk => wpAny_pyIter_enum he ?_
 have W := WalksT.enumerate (prog := S.prog) (w := S.w) (A := A) hh (s.heap.objs.size + 1) s.heap.objs.size l (Nat.succ_ne_self _) (Nat.ne_of_lt (Nat.lt_succ_of_lt hlt)) (Nat.ne_of_lt hlt) vs
 have hlen : vs.size = (xs.zipIdx.map fun p => PyData.tuple [.int (p.2 : Nat), p.1]).length := by rw [List.length_map, List.length_zipIdx, hnl]
 obtain ⟨nm, ps, rfl, hps, hN, hv⟩ := yD hc
 refine hQ h' (s.heap.objs.size + 1) [s.heap.objs.size + 1, s.heap.objs.size, l] [s.heap.objs.size + 1, s.heap.objs.size] _ hk ⟨W.sub, W.frame, fun {i s' g' ρ' mv' σ' ρv' ρ₀ d Q E} hd hsti kg I' hfp' R' hbi hQ => ?_, fun {s' Q E} hsti hQ => wpAny_with_toks (Nat.le_refl _) (W.done _ _ _ (hlen ▸ hsti) fun h' tk hk kt => hQ h' tk kt hk)⟩
  ⟨⟨_, he⟩, hit, rZ hl hk⟩ (aEx (P := fun b => b ∉ c.mut ρ /\ ∃ o, h'.get? b = some o) ⟨fun z => F1.1 (eZ z), _, he⟩ (hit.elim fun o q => ⟨fun z => F0.1 (eZ z), _, q.1⟩) (h1.elim fun o z => ⟨I.firm z.1, _, hk _ _ (I.stays _ _ z.1)⟩)) (aBd (P := fun b => b ∉ c.hid ρ /\ c.bg.get? b = none /\ g.get? b = none) F1 F0)
 have hi : i < vs.size := by rw [hlen]; exact (List.getElem?_eq_some_iff.mp hd).1
 refine wpAny_with_toks (Nat.le_refl _) (W.item i _ _ _ hi hsti fun T vals h₁ tk₁ hPt hTs hT hMid hk₁ kt₁ => wpAny_with_toks (n := s'.toks) kt₁ (W.go _ kd tpos i T _ _ _ hMid fun h₂ hst₂ hk₂ kt₂ => ?_))
 have hw' : ∀ b ∈ [s.heap.objs.size + 1, s.heap.objs.size], b ∉ c.mut ρ' /\ g'.get? b = none /\ c.bg.get? b = none := fun b hb =>
  ⟨(hfp' b (W.sub b hb)).1, I'.hidn b (bJ.mpr (.inr (List.mem_append_left _ hb))), (aBd (P := fun b => c.bg.get? b = none) F1.2.1 F0.2.1) b hb⟩
 have I₁ : aF S (c.hide [s.heap.objs.size + 1, s.heap.objs.size]) g' h₂ mv' ρ' σ' := I'.others (wr := [s.heap.objs.size + 1, s.heap.objs.size]) (fun b o hb q => hk₂ b o hb (hk₁ b o hb q)) (fun b hb _ => aB7 hst₂ b (W.sub b hb)) hw'
 obtain ⟨t, x, hx1, rfl⟩ := hPt
 have hT₂ : h₂.IsTuple T #[.int i t, x] := hT.elim fun o z => ⟨o, hk₂ T o (W.apart _ _ _ hMid) z.1, z.2⟩
 obtain ⟨y, hy, rfl⟩ := aGf hd
 have hbi' : PQ.setAll ρv' is [.d (.int (i : Nat)), .d y] = some ρ₀ := dR hbi (fun e => cV e fun j hj _ => by rw [aGV hj] at h2; cases h2) fun e => bO e fun _ e => e
 have hxr : RD S g' x y := (tV hr hx1).elim fun d z => RD.mono kg (Option.some.inj (z.1.symm.trans hy) ▸ z.2)
 exact xP (c := (c.hide [s.heap.objs.size + 1, s.heap.objs.size]).cold h₂ ρ' []) (s := { s' with heap := h₂, toks := tk₁ }) hh hps hN hn hv ho (I₁.cold (l := []) (fun _ h => nomatch h)) R' hT₂ (vs := [.d (.int (i : Nat)), .d y]) ⟨VR.int _ _, hxr, trivial⟩ hbi'
  fun h₃ tk₃ mv₃ t₃ I₃ R₃ => hQ h₂ h₃ tk₃ mv₃ (Nat.le_trans kt₁ t₃) hst₂ (aB7 hst₂) I₁ I₃ R₃
end
end PQ
namespace PQ
section
variable {S : SP} {c : Cx} {g : Heap} {mv : Str -> Option Value} {ρ : List Addr} {σ : aG} {A : Around} {E : Value -> Shared -> Prop} {s : Shared} {hb : Bool} {n k : Nat} {ρv : aJ} {Q : Flow -> Shared -> Prop}
noncomputable def SS (S : SP) (hb : Bool) (n : Nat) : Prop := ∀ {k : Nat} {c : Cx} {g : Heap} {mv : Str -> Option Value} {ρ : List Addr} {σ : aG} {ρv : aJ} {A : Around} {s : Shared} {st : Stmt} {m : bH} {Q : Flow -> Shared -> Prop} {E : Value -> Shared -> Prop},
 c.own = true -> uA k c.env.scope st m = true -> aF S c g s.heap mv ρ σ -> aV S g ρ mv ρv -> aX hb n A c g -> aZ S c g ρ s Q E (dD FT hb n m ρv σ) -> wpAny (model S.prog S.w) A (exec st c.env) Q E s
theorem aZ.bindE {γ δ : Type} {x : aI γ} {f : γ -> aG -> aI Fl} {R' : Heap -> List Addr -> δ -> γ -> Prop} {Q' : δ -> Shared -> Prop} (P : aZ S c g ρ s Q E (x.bind f))
  (kk : ∀ a σ₁ g₁ ρ₁ b h₁ tk, x = .ok a σ₁ -> s.toks <= tk -> g.StaysIn g₁ -> aQ ρ ρ₁ -> aF S c g₁ h₁ mv ρ₁ σ₁ -> R' g₁ ρ₁ b a -> aZ S c g₁ ρ₁ { s with heap := h₁, toks := tk } Q E (f a σ₁) -> Q' b { s with heap := h₁, toks := tk }) :
  aH S R' c g mv ρ s Q' E x := by
 cases x with
 | stuck => exact P.elim
 | exc wy => exact ⟨P.1, fun e h' tk t fl => P.2 e mv h' tk t fl⟩
 | ok a σ₁ => exact ⟨aZ.pos (o := f a σ₁) P, fun g₁ ρ₁ b h₁ tk t kg kr I q => kk a σ₁ g₁ ρ₁ b h₁ tk rfl t kg kr I q (aZ.shift P t kg kr)⟩
theorem oG {value : Expr} {t : Option Expr} {l : Nat} {env : Env} (h : jD value = false) : swapsWith value t l env = pure false := by
 cases value <;> first | rfl | exact bK h.symm
theorem aIT {value : Expr} {env : Env} {ts : List Expr} {kd : Nat} {tp : Pos} (h : zN value = false) : swappedStores [.Tuple ts kd tp] value env = pure none := by
 cases value <;> first | rfl | exact bK h.symm
theorem aKS (ih : SS S hb n) (ihs : SSs S hb n) : SSs S hb (n + 1) := by
 intro k c g mv ρ σ ρv A s ss ms Q E ho hc I R H P
 have H' := H.le (Nat.le_succ n)
 cases k with
 | zero => exact bK hc
 | succ k =>
 cases ms with
 | nil => exact nil_r hc (wpAny_execs_nil (P.2 g ρ mv s.heap s.toks (Nat.le_refl _) (bU _) (aQ.refl _) I R))
 | cons m ms =>
 refine gF hc fun st ss hc => wpAny_execs_cons (ih ho (aA hc).1 I R H' ?_)
 have P : aZ S c g ρ s Q E ((dD FT hb n m ρv σ).bind _) := P
 cases q : dD FT hb n m ρv σ with
 | stuck => rw [q] at P; exact P.elim
 | exc wy => rw [q] at P; exact P
 | ok fl σ₁ =>
  rw [q] at P
  cases fl with
  | next ρ₁ => exact ⟨aZ.pos (o := bS FT hb n ms ρ₁ σ₁) P, fun g₁ ρ' mv₁ h₁ tk t kg kr I₁ R₁ => ihs ho (aA hc).2 I₁ R₁ (H'.mono kg) (aZ.shift (o := bS FT hb n ms ρ₁ σ₁) P t kg kr)⟩
  | ret v => exact P
section
variable {ts vs : List Expr} {is : List Nat} {kd kd2 : Nat} {tpos vpos pos np : Pos} {e : Expr} {m : aK} {xs : List aK} {x : Str} {i : Nat}
theorem aDV (ihE : SE S hb n) (hx : bP[i]? = some x) (hv : cP c.env.scope x = true) (hsw : swapsWith e (some (.Name x np)) pos.line c.env = pure false) (h1 : aR k c.env.scope e m = true) (ho : c.own = true)
  (I : aF S c g s.heap mv ρ σ) (R : aV S g ρ mv ρv) (H : aX hb n A c g) (P : aZ S c g ρ s Q E (dD FT hb (n + 1) (.asg i m) ρv σ)) :
  wpAny (model S.prog S.w) A (exec (.Assign [.Name x np] e pos) c.env) Q E s :=
 wpAny_Assign_Name (ihE h1 I R H (aZ.bindE P fun v σ₁ g₁ ρ₁ pv h₁ tk _ t kg kr I₁ rv P₁ => wpAny_with_toks (Nat.le_refl _) (kS I₁ hv (.inl ho) fun h' tk' I' kt => P₁.2 g₁ ρ₁ _ h' tk' kt (bU _) (aQ.refl _) I' ((R.mono kg kr).set hx rv)))) hsw
theorem aZ.lift_r {o : Option Fl} {P' : Prop} (x : aZ S c g ρ s Q E (PQ.lift o σ)) (k : ∀ a, o = some a -> aZ S c g ρ s Q E (.ok a σ) -> P') : P' := by
 cases o with
 | none => exact x.elim
 | some a => exact k a rfl x
theorem aKk (ihE : SE S hb n) (hc : mG c.env.scope ts is = true) (hn : is.Nodup) (hnc : jD e = false) (hnt : zN e = false) (h1 : aR k c.env.scope e m = true) (ho : c.own = true)
  (I : aF S c g s.heap mv ρ σ) (R : aV S g ρ mv ρv) (H : aX hb n A c g) (P : aZ S c g ρ s Q E (dD FT hb (n + 1) (.asgT is m) ρv σ)) :
  wpAny (model S.prog S.w) A (exec (.Assign [.Tuple ts kd tpos] e pos) c.env) Q E s := by
 obtain ⟨nm, ps, rfl, hps, hN, hv⟩ := yD hc
 refine Assign_Tuple (ihE h1 I R H (aZ.bindE P fun v σ₁ g₁ ρ₁ pv h₁ tk _ t kg kr I₁ rv P₁ => aZ.lift_r P₁ fun fl e P₂ => bO e fun hbf e => cV e fun ρ' e q => aL e fun d e1 e => aL e fun xs e2 he => ?_)) (by unfold swapsWithSole; exact oG hnc) (aIT hnt)
 subst q
 exact xN (fO rv e1) e2 fun a vs h2 h3 => xP (lI H hbf) hps hN hn hv ho I₁ (R.mono kg kr) (lN h2 I₁.stays) (aM.vrs h3) he fun h' tk' mv' kt I' R' => P₂.2 g₁ ρ₁ mv' h' tk' kt (bU _) (aQ.refl _) I' R'
theorem aIH {xs : List Str} {ps : List Pos} {env : Env} {line : Nat} (hlen : xs.length = ps.length) {names : List Str}
  (h : ((xs.zip ps).map fun p => Expr.Name p.1 p.2).filterMap (fun
   | .Name id pos => if env.kindOf id == some .local && pos.line == line then some id else none
   | _ => none) = names) (hl : names.length = ((xs.zip ps).map fun p => Expr.Name p.1 p.2).length) : names = xs := by
 induction xs generalizing ps names with
 | nil => cases ps <;> simp_all
 | cons x xs ih =>
  cases ps with
  | nil => cases hlen
  | cons p ps =>
  simp only [List.zip_cons_cons, List.map_cons, List.filterMap_cons] at h hl
  split at h
  ·rename_i q
   exfalso
   have hle : names.length <= ((xs.zip ps).map fun p => Expr.Name p.1 p.2).length := by rw [<- h]; exact List.length_filterMap_le _ _
   simp only [List.length_cons] at hl
   omega
  ·rename_i b q
   split at q
   ·cases q
    subst h
    rw [ih (by simpa using hlen) rfl (by simpa using hl)]
   ·cases q
theorem aLG {nm : List Str} {ps : List Pos} {env : Env} (hps : nm.length = ps.length) (hf : (vs.all (foldedForSure 8) || !vs.all (constantsAlone 8)) = true) :
  swappedStores [.Tuple ((nm.zip ps).map fun p => Expr.Name p.1 p.2) kd tpos] (.Tuple vs kd2 vpos) env = pure none \/ swappedStores [.Tuple ((nm.zip ps).map fun p => Expr.Name p.1 p.2) kd tpos] (.Tuple vs kd2 vpos) env = pure (some nm) := by
 unfold swappedStores
 dsimp only
 split
 ·exact .inl rfl
 split
 ·exact .inl rfl
 split
 ·exact .inl rfl
 rename_i hq
 split
 ·exact .inl rfl
 rename_i hff
 rw [show vs.all (constantsAlone 8) = false from iB hf (fun q => absurd q hff) fE]
 refine .inr (congrArg (fun z => (pure (some z) : Sem (Option (List Str)))) (aIH (env := env) hps rfl ?_))
 simp only [Bool.or_eq_true, not_or, bne_iff_ne, ne_eq, Decidable.not_not] at hq
 exact hq.1
theorem aKj (ihs : SEs S hb n) (hc : mG c.env.scope ts is = true) (hn : is.Nodup) (h1 : cT k c.env.scope vs xs = true) (hl : ts.length = vs.length) (hl2 : vs.length <= 1000) (hf : (vs.all (foldedForSure 8) || !vs.all (constantsAlone 8)) = true) (ho : c.own = true)
  (I : aF S c g s.heap mv ρ σ) (R : aV S g ρ mv ρv) (H : aX hb n A c g) (P : aZ S c g ρ s Q E (dD FT hb (n + 1) (.asgN is xs) ρv σ)) :
  wpAny (model S.prog S.w) A (exec (.Assign [.Tuple ts kd tpos] (.Tuple vs kd2 vpos) pos) c.env) Q E s := by
 obtain ⟨nm, ps, rfl, hps, hN, hv⟩ := yD hc
 have core : ∀ {Q' : Value -> Shared -> Prop}, (∀ g₁ ρ₁ h₁ tk σ₁ vals ρ' a (pvs : Array Value), hb = false -> g.StaysIn g₁ -> aQ ρ ρ₁ -> aF S c g₁ h₁ mv ρ₁ σ₁ -> cR S g₁ ρ₁ pvs.toList vals -> PQ.setAll ρv is vals = some ρ' -> h₁.IsTuple a pvs ->
   aZ S c g₁ ρ₁ { s with heap := h₁, toks := tk } Q E (.ok (.next ρ') σ₁) -> Q' (.ref a) { s with heap := h₁, toks := tk }) -> wpAny (model S.prog S.w) A (eval (.Tuple vs kd2 vpos) c.env) Q' E s := by
  intro Q' hQ'
  refine wpAny_Tuple (ihs h1 I R H (aZ.bindE P fun vals σ₁ g₁ ρ₁ pvs h₁ tk e t kg kr I₁ rv P₁ => aZ.lift_r P₁ fun fl e' P₂ => bO e' fun hbf e' => cV e' fun ρ' he q => ⟨yS rv e h1 hl2, ?_⟩))
  subst q
  exact hQ' g₁ ρ₁ _ tk σ₁ vals ρ' _ pvs.toArray hbf kg kr (I₁.grown (dO h₁ _)) (by simpa using rv) he ⟨_, Heap.get?_push_size _ rfl, rfl, _, rfl⟩ (aZ.shift (s := { s with heap := h₁, toks := tk }) P₂ (Nat.le_refl _) (bU _) (aQ.refl _))
 rcases aLG (kd := kd) (kd2 := kd2) (tpos := tpos) (vpos := vpos) (env := c.env) hps hf with hw | hw
 ·exact Assign_Tuple (core fun g₁ ρ₁ h₁ tk σ₁ vals ρ' a pvs hbf kg kr I₁ rv he ht P₁ => xP (s := { s with heap := h₁, toks := tk }) (lI H hbf) hps hN hn hv ho I₁ (R.mono kg kr) ht rv he fun h' tk' mv' kt I' R' => P₁.2 g₁ ρ₁ mv' h' tk' kt (bU _) (aQ.refl _) I' R') rfl hw
 ·exact Assign_Tuple_swapped (core fun g₁ ρ₁ h₁ tk σ₁ vals ρ' a pvs hbf kg kr I₁ rv he ht P₁ => aEW (s := { s with heap := h₁, toks := tk }) (lI H hbf) hN hn hv ho I₁ (R.mono kg kr) ht rv he fun h' tk' mv' kt I' R' => P₁.2 g₁ ρ₁ mv' h' tk' kt (bU _) (aQ.refl _) I' R') rfl hw
end
end
end PQ
namespace PQ
section
variable {S : SP} {c : Cx} {g : Heap} {mv : Str -> Option Value} {ρ : List Addr} {σ : aG} {A : Around} {E : Value -> Shared -> Prop} {s : Shared} {hb : Bool} {n k : Nat} {ρv : aJ} {Q : Flow -> Shared -> Prop}
theorem aHW {prog : Program} {w : World} {l : Addr} {items : Array Value} {ne : Nat} {k : Int} {t : Tok} {v : Value} {Q : Unit -> Shared -> Prop} (ho : s.heap.get? l = some { cls := .type "list", data := .seq items ne })
  (h0 : 0 <= k) (hfit : k < 2 ^ 63) (hn : k < items.size)
  (hQ : Q () { s with heap := s.heap.update l (Obj.mapSeq (·.setIfInBounds k.toNat v)) }) :
  wpAny (model prog w) A (setItem (.ref l) (.int k t) v) Q E s := by
 have hT : s.TypeIs (.ref l) "list" := ⟨_, ho, rfl⟩
 unfold setItem
 try with_reducible refine wpAny_holding ?_
 first | refine wpAny_bind (wpAny_pure ?_) | skip
 refine wpAny_bind (wpAny_sequenceKey hT (by decide) ?_)
 refine wpAny_bind (wpAny_callSpecial?_slot (name := Str.ofString "__setitem__") hT slot_list_setitem
  (wpAny_call_entry slot_list_setitem hT entry_list_setitem ?_ (args_list_setitem _ _ _)))
 show wpAny _ _ (Builtin.List.listSubscript? (.int k t) >>= _) _ _ s
 refine wpAny_bind (wpAny_listSubscript_int (fitsIndex_of h0 hfit) ?_)
 clear hfit
 obtain ⟨j, rfl⟩ := Int.eq_ofNat_of_zero_le h0
 have hj : j < items.size := by omega
 have hx' : items[j]? = some items[j] := Array.getElem?_eq_getElem hj
 show wpAny _ _ ((seqItemAt l j >>= fun r => pure (r.map (j, ·))) >>= _) _ _ s
 refine wpAny_bind (wpAny_bind (wpAny_seqItemAt ho rfl (wpAny_pure ?_)))
 rw [hx']
 show wpAny _ _ (setSeqItemAt l j v >>= _) _ _ s
 refine wpAny_bind (wpAny_setSeqItemAt ho rfl ?_)
 first
  | exact wpAny_bind (wpAny_pure (wpAny_pure ⟨.none, rfl, wpAny_pure hQ⟩))
  | exact wpAny_pure ⟨.none, rfl, wpAny_pure hQ⟩
theorem aHZ {x : Str} {pv : Value} {Q : Value -> Shared -> Prop} (I : aF S c g s.heap mv ρ σ) (hx : cP c.env.scope x = true) (hv : mv x = some pv) (h : Q pv s) :
  wpAny (model S.prog S.w) A (loadName c.env x) Q E s := by
 obtain ⟨hk, hd⟩ := aBj hx
 rcases hk with hk | hk
 ·obtain ⟨m, hn, hm⟩ := I.ns
  exact wpAny_loadName_local I.fr.ek hk hn ((hm x hk).trans hv) h
 ·cases ho : c.own with
  | true =>
   obtain ⟨a, h1, h2⟩ := I.cl ho x hk
   rw [hv] at h2
   exact wpAny_loadName_cell I.fr.ek hk h1 h2 h
  | false =>
   obtain ⟨a, h1, h2⟩ := I.cf ho x hk
   rw [hv] at h2
   exact wpAny_loadName_cell I.fr.ek hk h1 (gS (fun o => I.bgs a o) h2) h
theorem aIn {k : Str} {v : aB} {kvs : List (Str × aB)} {p : Str × aB} (h : p ∈ kR k v kvs) : p.2 = v \/ p ∈ kvs := by
 induction kvs with
 | nil => exact .inl (by rw [List.mem_singleton.mp h])
 | cons q r ih =>
  unfold kR at h
  by_cases hq : q.1 = k
  ·rw [if_pos hq] at h; exact (List.mem_cons.mp h).imp (fun z => by rw [z]) (.tail _)
  ·rw [if_neg hq] at h; exact (List.mem_cons.mp h).elim (fun z => .inr (z ▸ .head _)) fun z => (ih z).imp id (.tail _)
theorem aK4 {vo vi v : aB} {po pi pv : Value} {σ' : aG} {Q : Unit -> Shared -> Prop} (hσ : qI vo vi v σ = some σ') (I : aF S c g s.heap mv ρ σ) (ro : VR S g ρ po vo) (ri : VR S g ρ pi vi) (rv : VR S g ρ pv v)
  (hQ : ∀ h' tk, s.toks <= tk -> aF S c g h' mv ρ σ' -> Q () { s with heap := h', toks := tk }) : wpAny (model S.prog S.w) A (setItem po pi pv) Q E s := by
 refine aL hσ fun l e1 e => aL e fun d e2 e => aL e fun x e3 e => ?_
 have rv' := fO rv e3
 refine (show VR S g ρ po (.loc l) from qY e1 ▸ ro).elim fun a y => y.2 ▸ dR e (fun e => aL e fun i e4 e => aL e fun xs hx e => bO e fun hl e => jL (fO ri e2) e4 fun ti => ?_) fun e => aL e fun kk e4 e => aL e fun kvs hx e => bO e fun hl e => kC (fO ri e2) e4 fun ti => ?_
 ·refine (I.st _ _ _ (sM hx) y.1).elim fun us z => z.1.elim fun kn he => ?_
  have hn : us.size = xs.length := aM.length z.2
  have q := aAD he (fun x_1 => x_1.setIfInBounds i.toNat pv)
  refine aHW he hl.1 (by omega) (by omega) (hQ _ s.toks (Nat.le_refl _) (Option.some.inj e ▸ I.put y.1 q.2 q.1.choose_spec ⟨_, q.1, by simpa using aM.set i.toNat z.2 rv'⟩ fun _ q => nomatch q))
 ·refine (I.st _ _ _ (pE hx) y.1).elim fun us z => ?_
  have hlen := cQ.length z.2.2
  refine wpAny_setItem_pairs (knd := PySem.strKind S.prog S.w) (strKind_is _ _ _ _) z.1 (fun h' q1 q2 => hQ h' _ (Nat.le_succ _) (Option.some.inj e ▸ q1.elim fun ob w => w.elim fun _ w => w.elim fun _ w => I.put y.1 q2 w.1 ⟨_, q1, z.2.1, cQ.stored (show VR S g ρ pv (.d x) from rv') z.2.2 (dict_nd z.1)⟩ fun kvs' q p hp => ?_)) (by have := sz; omega)
  exact (aIn (bN.dct.inj q ▸ hp)).elim (fun q => by rw [q]; trivial) (I.wf _ _ (pE hx) p)
where
 dict_nd {h : Heap} {a : Addr} {us : List (Str × Value)} (d : h.DictOf (PySem.strKind S.prog S.w) a us) : (us.map (·.1)).Nodup := d.elim fun _ x => x.elim fun _ x => x.elim fun _ x => x.2.2.2.2.2
section
variable {e m o i : aK} {ve ox ix t : Expr} {pos tpos np : Pos}
theorem aKQ (ihE : SE S hb n) (hnc : jD ve = false) (h1 : aR k c.env.scope ve e = true) (h2 : aR k c.env.scope ox o = true) (h3 : aR k c.env.scope ix i = true)
  (I : aF S c g s.heap mv ρ σ) (R : aV S g ρ mv ρv) (H : aX hb n A c g) (P : aZ S c g ρ s Q E (dD FT hb (n + 1) (.setI o i e) ρv σ)) :
  wpAny (model S.prog S.w) A (exec (.Assign [.Subscript ox ix tpos] ve pos) c.env) Q E s := by
 refine wpAny_Assign_Subscript (ihE h1 I R H (aZ.bindE P fun v σ₁ g₁ ρ₁ pv h₁ tk e1 t kg kr I₁ rv P₁ => ?_)) (oG hnc)
 refine ihE h2 I₁ (R.mono kg kr) (H.mono kg) (aZ.bindE P₁ fun vo σ₂ g₂ ρ₂ po h₂ tk₂ e2 t₂ kg₂ kr₂ I₂ ro P₂ => ?_)
 have kg12 := cH kg kg₂
 have kr12 := kr.trans kr₂
 refine ihE h3 I₂ (R.mono kg12 kr12) (H.mono kg12) (aZ.bindE P₂ fun vi σ₃ g₃ ρ₃ pi h₃ tk₃ e3 t₃ kg₃ kr₃ I₃ ri P₃ => aZ.liftB_r P₃ fun σ₄ hσ P₄ => ?_)
 exact aK4 (s := { s with heap := h₃, toks := tk₃ }) hσ I₃ (ro.mono kg₃ kr₃) ri (rv.mono (cH kg₂ kg₃) (kr₂.trans kr₃)) fun h' tk kt I' => P₄.2 g₃ ρ₃ mv h' tk kt (bU _) (aQ.refl _) I' (R.mono (cH kg12 kg₃) (kr12.trans kr₃))
theorem aKm {x : Str} {i : Nat} {op : BOp} (ihE : SE S hb n) (hx : bP[i]? = some x) (hv : cP c.env.scope x = true) (h1 : aR k c.env.scope ve m = true) (ho : c.own = true)
  (I : aF S c g s.heap mv ρ σ) (R : aV S g ρ mv ρv) (H : aX hb n A c g) (P : aZ S c g ρ s Q E (dD FT hb (n + 1) (.aug i op m) ρv σ)) :
  wpAny (model S.prog S.w) A (exec (.AugAssign (.Name x np) .Add ve pos) c.env) Q E s := by
 refine aZ.liftB_r P fun d hd P => aL hd fun v0 hv0 hd => (R i x _ hx hv0).elim fun pv0 r => wpAny_AugAssign_Name (aHZ I hv r.1 ?_)
 refine ihE h1 I R H (aZ.bindE P fun v σ₁ g₁ ρ₁ pv h₁ tk _ t kg kr I₁ rv P₁ => aZ.lift_r P₁ fun fl e P₂ => cV e fun w e q => aL e fun y e1 e => cV e fun z ee q' => ?_)
 subst q q'
 have fin : ∀ {pr : Value} {tk' : Nat}, tk <= tk' -> RD S g₁ pr z -> wpAny (model S.prog S.w) A (storeName c.env x pr) (fun _ => Q .next) E { s with heap := h₁, toks := tk' } := fun {pr tk'} kt rr =>
  wpAny_with_toks (n := tk) kt (kS (s := { s with heap := h₁, toks := tk' }) I₁ hv (.inl ho) fun h'' tk'' I'' kt'' => P₂.2 g₁ ρ₁ _ h'' tk'' kt'' (bU _) (aQ.refl _) I'' ((R.mono kg kr).set hx (show VR S g₁ ρ₁ pr (.d z) from rr)))
 refine aBt ee (fO (r.2.mono kg kr) hd) (fO rv e1) (fun a b t u e => ?_) fun a b t u hl e => ?_
 ·exact wpAny_iadd_int (fin (Nat.le_succ _) (Option.some.inj e ▸ RD.int _ _))
 ·exact wpAny_with_toks (n := tk) (Nat.le_refl _) (SB.iadd (hsz := Nat.le_trans hl sz) fun t' k' kt => fin kt (Option.some.inj e ▸ RD.str _ _))
theorem aKD (ihE : SE S hb n) (hnc : jD ve = false) (h1 : aR k c.env.scope ve m = true)
  (I : aF S c g s.heap mv ρ σ) (R : aV S g ρ mv ρv) (H : aX hb n A c g) (P : aZ S c g ρ s Q E (dD FT hb (n + 1) (.ex m) ρv σ)) :
  wpAny (model S.prog S.w) A (exec (.Expr ve pos) c.env) Q E s :=
 wpAny_Expr_any (ihE h1 I R H (aZ.bindE P fun v σ₁ g₁ ρ₁ pv h₁ tk _ t kg kr I₁ rv P₁ => P₁.2 g₁ ρ₁ mv h₁ tk (Nat.le_refl _) (bU _) (aQ.refl _) I₁ (R.mono kg kr))) (by unfold interactive; rw [I.fr.ek]; rfl) (oG hnc)
theorem aKP (ihE : SE S hb n) (h1 : aR k c.env.scope ve m = true)
  (I : aF S c g s.heap mv ρ σ) (R : aV S g ρ mv ρv) (H : aX hb n A c g) (P : aZ S c g ρ s Q E (dD FT hb (n + 1) (.ret m) ρv σ)) :
  wpAny (model S.prog S.w) A (exec (.Return (some ve) pos) c.env) Q E s :=
 wpAny_Return_some (ihE h1 I R H (aZ.bindE P fun v σ₁ g₁ ρ₁ pv h₁ tk _ t kg kr I₁ rv P₁ => P₁.2 g₁ ρ₁ mv pv h₁ tk (Nat.le_refl _) (bU _) (aQ.refl _) I₁ rv))
theorem aKH {bt bf : List Stmt} {mt mf : List bH} (ihT : ST S hb n) (ihs : SSs S hb n) (h1 : aR k c.env.scope t m = true) (h2 : dU k c.env.scope bt mt = true) (h3 : dU k c.env.scope bf mf = true) (ho : c.own = true)
  (I : aF S c g s.heap mv ρ σ) (R : aV S g ρ mv ρv) (H : aX hb n A c g) (P : aZ S c g ρ s Q E (dD FT hb (n + 1) (.ite m mt mf) ρv σ)) :
  wpAny (model S.prog S.w) A (exec (.If t bt bf pos) c.env) Q E s := by
 refine wpAny_If (ihT h1 I R H (aZ.bindE (R' := RB) P fun v σ₁ g₁ ρ₁ pv h₁ tk _ t kg kr I₁ rv P₁ => ?_))
 obtain rfl : pv = v := rv
 cases pv
 ·exact ihs ho h3 I₁ (R.mono kg kr) (H.mono kg) P₁
 ·exact ihs ho h2 I₁ (R.mono kg kr) (H.mono kg) P₁
inductive aBr (S : SP) (c : Cx) (g : Heap) (hb : Bool) (n : Nat) (a : aK) (b : List bH) (s : Shared) (Q : Flow -> Shared -> Prop) (E : Value -> Shared -> Prop) (m : Nat) (s' : Shared) : Prop
 | mk (h : Heap) (tk : Nat) (g' : Heap) (ρ' : List Addr) (mv' : Str -> Option Value) (σ' : aG) (ρv' : aJ) : s' = { s with heap := h, toks := tk } -> s.toks <= tk -> g.StaysIn g' -> aF S c g' h mv' ρ' σ' -> aV S g' ρ' mv' ρv' -> m <= n ->
   aZ S c g' ρ' { s with heap := h, toks := tk } Q E (evW FT hb m a b ρv' σ') -> aBr S c g hb n a b s Q E m s'
theorem aKY {body : List Stmt} {mb : List bH} (ihT : ∀ m, m < n -> ST S hb m) (ihs : ∀ m, m < n -> SSs S hb m) (h1 : aR k c.env.scope t m = true) (h2 : dU k c.env.scope body mb = true) (ho : c.own = true)
  (I : aF S c g s.heap mv ρ σ) (R : aV S g ρ mv ρv) (H : aX hb n A c g) (P : aZ S c g ρ s Q E (dD FT hb (n + 1) (.wh m mb) ρv σ)) :
  wpAny (model S.prog S.w) A (exec (.While t body [] pos) c.env) Q E s := by
 refine wpAny_While (codeAny_whileLoop (aBr S c g hb n m mb s Q E) ?_ n ⟨s.heap, s.toks, g, ρ, mv, σ, ρv, rfl, Nat.le_refl _, bU _, I, R, Nat.le_refl _, P⟩)
 intro j s' W
 cases W with | mk h tk g' ρ' mv' σ' ρv' es htk kg' I' R' hm P' =>
 rw [es]
 clear es
 cases j with
 | zero => exact P'.elim
 | succ j =>
 have hA : aX hb j A c g' := (H.mono kg').le (Nat.le_of_succ_le hm)
 refine aZ.bindN_r P' fun b σ₁ q P₁ => ihT j hm h1 I' R' hA ?_
 rw [q]
 refine ⟨P'.pos, fun g₁ ρ₁ pb h₁ tk₁ t₁ kg₁ kr₁ I₁ rb => ?_⟩
 obtain rfl : pb = b := rb
 cases pb with
 | false => exact wpAny_execs_nil (aZ.giveN (s := { s with heap := h, toks := tk }) P₁ t₁ kg₁ kr₁ I₁ (R'.mono kg₁ kr₁))
 | true =>
  refine aZ.bindN_r P₁ fun fl σ₂ q2 P₂ => ihs j hm ho h2 I₁ (R'.mono kg₁ kr₁) (hA.mono kg₁) ?_
  rw [q2]
  have hp : 0 < tk₁ := Nat.lt_of_lt_of_le P'.pos t₁
  cases fl with
  | next ρ₂ => exact ⟨hp, fun g₂ ρ₃ mv₂ h₂ tk₂ t₂ kg₂ kr₂ I₂ R₂ => ⟨j, Nat.lt_succ_self j, h₂, tk₂, g₂, ρ₃, mv₂, σ₂, ρ₂, rfl, Nat.le_trans htk (Nat.le_trans t₁ t₂), cH kg' (cH kg₁ kg₂), I₂, R₂, Nat.le_of_succ_le hm, aZ.shift (s := { s with heap := h, toks := tk }) P₂ (Nat.le_trans t₁ t₂) (cH kg₁ kg₂) (kr₁.trans kr₂)⟩⟩
  | ret v => exact ⟨hp, fun g₂ ρ₃ mv₂ pv h₂ tk₂ t₂ kg₂ kr₂ I₂ rv => aZ.giveR (s := { s with heap := h, toks := tk }) P₂ (Nat.le_trans t₁ t₂) (cH kg₁ kg₂) (kr₁.trans kr₂) I₂ rv⟩
end
end
end PQ
namespace PQ
section
variable {S : SP} {c : Cx} {g : Heap} {mv : Str -> Option Value} {ρ : List Addr} {σ : aG} {A : Around} {E : Value -> Shared -> Prop} {s : Shared} {hb : Bool} {n k : Nat} {ρv : aJ} {Q : Flow -> Shared -> Prop}
theorem aC9 {e : Expr} (h : jQ e = false) {env : Env} (x : Value) : foldedSetIterable e env x = pure x := by
 cases e <;> first | rfl | exact bK h.symm
theorem aDM (W : Wd S) : nsIn S.K mainGlobals "range" = some none /\ nsIn S.K mainGlobals "enumerate" = some none := ⟨eq_of_beq (aA (aA (aA W.ok).2).2).1, eq_of_beq (aA (aA (aA W.ok).2).2).2⟩
theorem aFo : bootBuiltins "range" = some (.type "range") := by decide +kernel
theorem aFm : bootBuiltins "enumerate" = some (.type "enumerate") := by decide +kernel
theorem aEh {a : Expr} {env : Env} (h : mP a = false) : starEach [a] env = [(false, eval a env)] := wF h
@[elab_as_elim] theorem aBN {G : Expr -> Prop} {e : Expr} {sc : Scope} {w : Str} {m : aK} (h : (iU e fun g args _ => onN g fun x => on1 args fun a => w == x && (dK sc x && (!mP a && aR k sc a m))) = true)
  (z : ∀ a p q, dK sc w = true -> mP a = false -> aR k sc a m = true -> G (.Call (.Name w p) [a] [] q)) : G e :=
 gC h fun g as q h => fM (G := fun g => G (.Call g as [] q)) h fun x p h => gB (G := fun as => G (.Call (.Name x p) as [] q)) h fun a h => dZ (G := fun x => dK sc x = true -> G (.Call (.Name x p) [a] [] q)) (aA h).1 (fun hg => z a p q hg (fE (aA (aA (aA h).2).2).1) (aA (aA (aA h).2).2).2) (aA (aA h).2).1
noncomputable def mB (S : SP) (hb : Bool) (n : Nat) (kd : IK) (m : aK) (c : Cx) (g : Heap) (mv : Str -> Option Value) (ρ : List Addr) (ρv : aJ) (σ : aG) (s : Shared) (E : Value -> Shared -> Prop) : Prop :=
 ∀ {δ : Type} {R' : Heap -> List Addr -> δ -> aB -> Prop} {Q'' : δ -> Shared -> Prop}, (∀ d σ₁ items g₁ ρ₁ b h₁ tk, aP FT hb n m ρv σ = .ok (.d d) σ₁ -> fY hb kd d = some items -> s.toks <= tk -> g.StaysIn g₁ -> aQ ρ ρ₁ -> aF S c g₁ h₁ mv ρ₁ σ₁ -> R' g₁ ρ₁ b (.d d) -> Q'' b { s with heap := h₁, toks := tk }) ->
   aH S R' c g mv ρ s Q'' E (aP FT hb n m ρv σ)
theorem aAR {itx : Expr} {m : aK} {kd : IK} {Q' : Value -> Shared -> Prop} (W : Wd S) (ihE : SE S hb n) (hc : kE k c.env.scope kd itx m = true) (hkd : kd ≠ .enum)
  (I : aF S c g s.heap mv ρ σ) (R : aV S g ρ mv ρv) (H : aX hb n A c g) (B : mB S hb n kd m c g mv ρ ρv σ s E)
  (hQ : ∀ d σ₁ items g₁ ρ₁ h₁ tk I', aP FT hb n m ρv σ = .ok (.d d) σ₁ -> fY hb kd d = some items -> s.toks <= tk -> g.StaysIn g₁ -> aQ ρ ρ₁ -> aF S c g₁ h₁ mv ρ₁ σ₁ -> Src S A c ρ₁ g₁ h₁ I' items -> Q' (.ref I') { s with heap := h₁, toks := tk }) :
  wpAny (model S.prog S.w) A (eval itx c.env) (fun x s₁ => wpAny (model S.prog S.w) A (pyIter x) Q' E s₁) E s := by
 cases k with
 | zero => exact bK hc
 | succ k =>
 cases kd with
 | seq => exact ihE (show aR k c.env.scope itx m = true from hc) I R H (B fun d σ₁ items g₁ ρ₁ b h₁ tk q hi t kg kr I₁ r => aLt (s := { s with heap := h₁, toks := tk }) hi I₁ r (H.mono kg) fun h' I' k' src => hQ d σ₁ items g₁ ρ₁ h' tk I' q hi t kg kr (I₁.grown k') src)
 | range => exact aBN hc fun a p q hg hs h1 => Call_name1 (aEh hs) (vW hg (aDM W).1 aFo (by decide) I (PySem.callWith_type1 (ihE h1 I R H (B fun d σ₁ items g₁ ρ₁ b h₁ tk q hi t kg kr I₁ r =>
   aLs (s := { s with heap := h₁, toks := tk }) hi I₁ r (H.mono kg) fun h' I' tk' kt k' src => hQ _ σ₁ items g₁ ρ₁ h' tk' I' q hi (Nat.le_trans t kt) kg kr (I₁.grown k') src))))
 | enum => exact absurd rfl hkd
theorem aKF {t itx : Expr} {is : List Nat} {kd : IK} {m : aK} {body : List Stmt} {b : List bH} {pos : Pos} (W : Wd S) (ihE : SE S hb n) (ihS : ∀ m, m < n -> SSs S hb m) (hF : aBQ c.env.scope t is = true) (hc : kE k c.env.scope kd itx m = true) (hb2 : dU k c.env.scope body b = true) (hset : jQ itx = false) (hlen : is.length = bif kd == .enum then 2 else 1) (ho : c.own = true)
  (I : aF S c g s.heap mv ρ σ) (R : aV S g ρ mv ρv) (H : aX hb n A c g) (P : aZ S c g ρ s Q E (dD FT hb (n + 1) (.for_ is kd m b) ρv σ)) :
  wpAny (model S.prog S.w) A (exec (.For t itx body [] pos) c.env) Q E s := by
 refine wpAny_For ?_ (fun x => aC9 hset x)
 have P : aZ S c g ρ s Q E ((aP FT hb n m ρv σ).bind fun v σ => (lift ((cS v).bind (fY hb kd)) σ).bind fun items σ => evF FT hb n is b items ρv σ) := P
 have loopP : ∀ {d σ₁ items g₁ ρ₁ h₁ tk}, aP FT hb n m ρv σ = .ok (.d d) σ₁ -> fY hb kd d = some items -> s.toks <= tk -> g.StaysIn g₁ -> aQ ρ ρ₁ -> aZ S c g₁ ρ₁ { s with heap := h₁, toks := tk } Q E (evF FT hb n is b items ρv σ₁) := fun {d σ₁ items g₁ ρ₁ h₁ tk} q hi t kg kr => by
  rw [q] at P
  have P : aZ S c g ρ s Q E ((lift (fY hb kd d) σ₁).bind fun items σ => evF FT hb n is b items ρv σ) := P
  rw [hi] at P
  exact aZ.shift (o := evF FT hb n is b items ρv σ₁) P t kg kr
 have B : mB S hb n kd m c g mv ρ ρv σ s E := fun hh => aZ.bindE P fun v σ₁ g₁ ρ₁ pv h₁ tk q t kg kr I₁ r P₁ => aZ.liftB_r P₁ fun items e _ => aL e fun d e1 e2 => by
  obtain rfl := qZ e1
  exact hh d σ₁ items g₁ ρ₁ pv h₁ tk q e2 t kg kr I₁ r
 clear P
 refine iB hF (fun hF => ?_) fun hF => ?_
 ·refine (gB (G := fun l => l = is -> _) hF fun i hF q => fM (G := fun t => wpAny (model S.prog S.w) A (eval itx c.env) (fun x s₁ => wpAny (model S.prog S.w) A (pyIter x) (fun it s₂ => codeAny (model S.prog S.w) A (.forLoop t it body [] c.env) _ s₂) E s₁) E s) hF fun x px hF2 => ?_) rfl
  subst q
  refine aAR W ihE hc (fun q => by rw [q] at hlen; cases hlen) I R H B fun d σ₁ items g₁ ρ₁ h₁ tk I' q hi t kg kr I₁ src => (aGc (px := px) src (.inl ho) (eq_of_beq (aA hF2).1) (aA hF2).2).elim fun fp D => D.elim fun St D => ?_
  exact aCp (s := { s with heap := h₁, toks := tk }) ihS D.1 ho hb2 (fun f s' z => z) (fun b hbm => List.mem_singleton.mp hbm ▸ ⟨src.new.2.1, src.new.2.2, src.new.1⟩) I₁ D.2.1 D.2.2 (R.mono kg kr) (H.mono kg) (loopP q hi t kg kr)
 ·refine oJ (G := fun t => wpAny (model S.prog S.w) A (eval itx c.env) (fun x s₁ => wpAny (model S.prog S.w) A (pyIter x) (fun it s₂ => codeAny (model S.prog S.w) A (.forLoop t it body [] c.env) _ s₂) E s₁) E s) hF fun ts kd2 tp hF => ?_
  have h2 : 2 <= is.length := of_decide_eq_true (aA (aA hF).2).1
  have hkd : kd = .enum := by
   cases kd with
   | enum => rfl
   | _ => rw [hlen] at h2; exact absurd h2 (by decide)
  subst hkd
  cases k with
  | zero => exact bK hc
  | succ k =>
  refine aBN hc fun a p q hg hs h1 => Call_name1 (aEh hs) (vW hg (aDM W).2 aFm (by decide) I (PySem.callWith_type1 (ihE h1 I R H (B fun d σ₁ items g₁ ρ₁ pv h₁ tk q hi t kg kr I₁ r => ?_))))
  refine aGb (kd := kd2) (tpos := tp) (s := { s with heap := h₁, toks := tk }) hi ho (aA hF).1 hlen (of_decide_eq_true (aA (aA hF).2).2) I₁ r (H.mono kg) fun h' I' fp wr St k' D hst hfp hw => ?_
  exact aCp (s := { s with heap := h', toks := tk }) ihS D ho hb2 (fun f s' z => z) hw (I₁.grown k') hst hfp (R.mono kg kr) (H.mono kg) (loopP q hi t kg kr)
end
end PQ
namespace PQ
section
variable {S : SP} {M : Model} {A : Around} {E : Value -> Shared -> Prop} {s : Shared}
theorem aGO {env env2 : Env} (h : env2.frame = env.frame) : PySem.frameOf env2 = PySem.frameOf env := by unfold PySem.frameOf; rw [h]
theorem aIU {env env2 : Env} {x : Value} (h : env2.frame = env.frame) : noteFrame x env2 = noteFrame x env := by
 unfold noteFrame; rw [h, aGO h]
noncomputable def nG (S : SP) (B : Heap) (l : List Env) (e : Addr) (wy : Str) (L : Addr) (h : Heap) : Prop :=
 B.StaysIn h /\ B.get? e = none /\ h.FunFrames B l /\ ∃ vs T, iY S B e wy h vs /\ vs[1]? = some (.ref T) /\ nJ B e h T (rawInt L)
theorem aCj {B : Heap} {env : Env} {outer : List Env} {L e : Addr} {wy : Str} {vs : Array Value} {head : Value} {hadNext : Bool} {Q : Unit -> Shared -> Prop}
  (hfr : A.frames = some (env :: outer)) (hl : s.heap.FunFrames B (env :: outer)) (hf : env.frame = some L)
  (hkb : B.StaysIn s.heap) (hen : B.get? e = none) (m : iY S B e wy s.heap vs)
  (h : ∀ h', nG S B (env :: outer) e wy L h' -> s.heap.UpToSlots h' -> Q () { s with heap := h' }) :
  wpAny M A (do let a <- PySem.frameOf env; let pl <- entryPlaceOf L hadNext; let b <- EntryCells.newEntry head a .none (rawInt L) .none pl; setField (.ref e) 1 b) Q E s := by
 obtain ⟨C, oe, D, mm, t, m1, he, m2, m3, hd, m4, m5, m6, m7⟩ := m
 have hsz : 1 < vs.size := by have := (Array.getElem?_eq_some_iff.mp m5).1; omega
 have hene : e ∉ (env :: outer).filterMap (·.frame) := fun hm => by
  obtain ⟨_, o, ho, hnf⟩ := hl.mem hm
  rw [he] at ho; injection ho with ho; subst ho; exact hnf vs hd
 refine wpAny_bind (wpAny_frameOf_fun hfr hl hf fun h₁ hs₁ => ?_)
 refine wpAny_bind (wpAny_entryPlaceOf fun pl hpl => ?_)
 unfold EntryCells.newEntry newFields
 refine wpAny_bind (wpAny_newObj_type ?_ (hpl.sizeOk5 _ _ _ _ _))
 have he₁ : h₁.get? e = some oe := (hs₁.2.1 e hene).trans he
 have kb₁ : B.StaysIn h₁ := fun b o hbo => (hs₁.2.1 b fun hm => by rw [(hl.mem hm).1] at hbo; cases hbo).trans (hkb b o hbo)
 have he₂ := Heap.get?_push_of_some (h := h₁) { cls := .type "traceback", dict := none, data := .fields ([head, .ref L, .none, rawInt L, .none] ++ (if pl.isEmpty then List.replicate 6 Value.none else pl)).toArray } he₁
 refine wpAny_setField he₂ hd hsz (h _ ?_ ?_)
 all_goals
  have hTe : h₁.objs.size ≠ e := Nat.ne_of_gt (Heap.lt_size he₁)
  have hd₃ := Obj.data_mapFields hd (·.setIfInBounds 1 (Value.ref h₁.objs.size))
  have he₃ := Heap.get?_update_self (Obj.mapFields (·.setIfInBounds 1 (Value.ref h₁.objs.size))) he₂ (Obj.isFreed_of_fields hd₃)
  have hT₃ := (Heap.get?_update_other (h₁.push { cls := .type "traceback", dict := none, data := .fields ([head, .ref L, .none, rawInt L, .none] ++ (if pl.isEmpty then List.replicate 6 Value.none else pl)).toArray })
   (Obj.mapFields (·.setIfInBounds 1 (Value.ref h₁.objs.size))) (Ne.symm hTe)).trans (Heap.get?_push_size h₁ rfl)
  have keep : ∀ b o, b ≠ e -> h₁.get? b = some o ->
    ((h₁.push { cls := .type "traceback", dict := none, data := .fields ([head, .ref L, .none, rawInt L, .none] ++ (if pl.isEmpty then List.replicate 6 Value.none else pl)).toArray }).update e (Obj.mapFields (·.setIfInBounds 1 (Value.ref h₁.objs.size)))).get? b = some o :=
   fun b o hbe hb => by
    rw [Heap.get?_update_other _ _ (Ne.symm hbe)]
    exact Heap.get?_push_of_some _ hb
  have noRecord : ∀ b o, s.heap.get? b = some o -> (∀ vs, o.data ≠ .fields vs) -> b ≠ e := fun b o hb hnf q => by
   rw [q, he] at hb; injection hb with hb; subst hb; exact hnf vs hd
 ·refine ⟨fun b o hbo => keep b o (fun q => by rw [q, hen] at hbo; cases hbo) (kb₁ b o hbo), hen, hl.of_keeps fun b o hb hnf => ?_, ?_⟩
  ·obtain ⟨sl, hs⟩ := hs₁.2.2 b o hb
   exact ⟨_, keep b _ (noRecord b o hb hnf) hs, rfl⟩
  ·refine ⟨_, h₁.objs.size, ⟨C, _, D, mm, t, m1, he₃, (Obj.cls_mapFields _ _).trans m2, ?_, hd₃, ?_, ?_, m6, m7⟩, by simp [hsz], ⟨kb₁.fresh, hTe, _, _, hT₃, rfl, by first | (simp; done) | (rcases hpl with rfl | ⟨_, _, _, _, _, _, _, rfl⟩ <;> simp)⟩⟩
   ·rw [<- m3]; unfold Obj.mapFields; split <;> rfl
   ·rw [Array.getElem?_setIfInBounds_ne (by decide)]; exact m4
   ·rw [Array.getElem?_setIfInBounds_ne (by decide)]; exact m5
 ·intro b o hb hnf
  obtain ⟨sl, hs⟩ := hs₁.2.2 b o hb
  exact ⟨sl, keep b _ (noRecord b o hb hnf) hs⟩
theorem aA6 {B h : Heap} {l : List Env} {e T : Addr} {wy : Str} {vs : Array Value} {fl x : Value} (hkb : B.StaysIn h) (hen : B.get? e = none) (hl : h.FunFrames B l) (m : iY S B e wy h vs) (tb : nJ B e h T fl) :
  B.StaysIn (h.update T (Obj.mapFields (·.setIfInBounds 3 x))) /\ (h.update T (Obj.mapFields (·.setIfInBounds 3 x))).FunFrames B l /\ h.UpToSlots (h.update T (Obj.mapFields (·.setIfInBounds 3 x))) /\
   iY S B e wy (h.update T (Obj.mapFields (·.setIfInBounds 3 x))) vs /\ nJ B e (h.update T (Obj.mapFields (·.setIfInBounds 3 x))) T x := by
 obtain ⟨hnT, hTe, oT, ts, hT, hdT, h3⟩ := tb
 have other : ∀ b, b ≠ T -> (h.update T (Obj.mapFields (·.setIfInBounds 3 x))).get? b = h.get? b := fun b hb => Heap.get?_update_other _ _ (Ne.symm hb)
 have noRecord : ∀ b o, h.get? b = some o -> (∀ vs, o.data ≠ .fields vs) -> b ≠ T := fun b o hb hnf q => by
  rw [q, hT] at hb; injection hb with hb; subst hb; exact hnf ts hdT
 have hsz3 : 3 < ts.size := (Array.getElem?_eq_some_iff.mp h3).1
 obtain ⟨C, oe, D, mm, t, m1, he, r⟩ := m
 refine ⟨fun b o hbo => (other b fun q => by rw [q, hnT] at hbo; cases hbo).trans (hkb b o hbo), hl.of_keeps fun b o hb hnf => ⟨o, (other b (noRecord b o hb hnf)).trans hb, rfl⟩,
  fun b o hb hnf => ⟨o.slots, (other b (noRecord b o hb hnf)).trans hb⟩, ⟨C, oe, D, mm, t, m1, (other e (Ne.symm hTe)).trans he, r⟩, ⟨hnT, hTe, _, _, Heap.get?_update_self _ hT (Obj.isFreed_of_fields (Obj.data_mapFields hdT _)), Obj.data_mapFields hdT _, by simp [hsz3]⟩⟩
theorem yW {B : Heap} {env env2 : Env} {outer : List Env} {L e : Addr} {wy : Str} {Q : Unit -> Shared -> Prop}
  (hfr : A.frames = some (env :: outer)) (hf : env.frame = some L) (hf2 : env2.frame = some L) (F : qQ S B (env :: outer) e wy s.heap)
  (h : ∀ h', nG S B (env :: outer) e wy L h' -> s.heap.UpToSlots h' -> Q () { s with heap := h' }) : wpAny M A (noteFrame (.ref e) env2) Q E s := by
 rw [aIU (hf2.trans hf.symm)]
 obtain ⟨f1, f2, f3, vs, m, ht⟩ := F
 obtain ⟨C, oe, D, mm, t, m1, he, m2, m3, hd, m4, m5, m6, m7⟩ := id m
 unfold noteFrame
 simp only [hf]
 rcases ht with h1 | ⟨T, fl, h1, tb⟩
 ·refine wpAny_bind (wpAny_field he hd h1 ?_)
  rw [if_neg (by decide)]
  exact aCj hfr f3 hf f1 f2 m h
 ·obtain ⟨hnT, hTe, oT, ts, hT, hdT, h3⟩ := id tb
  refine wpAny_bind (wpAny_field he hd h1 ?_)
  rw [if_pos (show (Value.ref T != Value.none) = true from by simp)]
  refine wpAny_bind (wpAny_field hT hdT h3 ?_)
  by_cases hfl : fl = rawInt L
  case neg =>
   rw [if_neg (show ¬ ((fl == rawInt L) = true) from fun q => hfl (eq_of_beq q))]
   refine wpAny_bind (wpAny_setField hT hdT (Array.getElem?_eq_some_iff.mp h3).1 ?_)
   obtain ⟨x1, x2, x3, x4, _⟩ := aA6 (x := Value.none) f1 f2 f3 m tb
   exact aCj (s := { s with heap := s.heap.update T (Obj.mapFields (·.setIfInBounds 3 Value.none)) }) hfr x2 hf x1 f2 x4 fun h' k u => h h' k (x3.trans u)
  case pos =>
   subst hfl
   rw [if_pos (show (rawInt L == rawInt L) = true from by simp)]
   exact wpAny_pure (h s.heap ⟨f1, f2, f3, vs, T, m, h1, tb⟩ (Heap.UpToSlots.refl _))
theorem aCk {B : Heap} {l : List Env} {L e : Addr} {wy : Str} {fr : Option Addr} {Q : Unit -> Shared -> Prop} (F : nG S B l e wy L s.heap)
  (h : ∀ h' vs T, B.StaysIn h' -> h'.FunFrames B l -> iY S B e wy h' vs -> vs[1]? = some (.ref T) -> nJ B e h' T (fr.elim .none fun f => rawInt f) -> s.heap.UpToSlots h' -> Q () { s with heap := h' }) : wpAny M A (setFlight (.ref e) fr) Q E s := by
 obtain ⟨f1, f2, f3, vs, T, m, h1, tb⟩ := F
 obtain ⟨C, oe, D, mm, t, m1, he, m2, m3, hd, m4, m5, m6, m7⟩ := id m
 obtain ⟨hnT, hTe, oT, ts, hT, hdT, h3⟩ := id tb
 unfold setFlight
 refine wpAny_bind (wpAny_field he hd h1 ?_)
 rw [if_pos (show (Value.ref T != Value.none) = true from by simp)]
 refine wpAny_setField hT hdT (Array.getElem?_eq_some_iff.mp h3).1 ?_
 obtain ⟨x1, x2, x3, x4, x5⟩ := aA6 (x := fr.elim .none fun f => rawInt f) f1 f2 f3 m tb
 exact h _ vs T x1 x2 x4 h1 x5 x3
theorem aGF {B : Heap} {env : Env} {outer : List Env} {L e : Addr} {wy : Str} {Q : Unit -> Shared -> Prop}
  (hfr : A.frames = some (env :: outer)) (hf : env.frame = some L) (F : qQ S B (env :: outer) e wy s.heap)
  (h : ∀ h', qQ S B outer e wy h' -> s.heap.UpToSlots h' -> Q () { s with heap := h' }) : wpAny M A (leaving env (.ref e)) Q E s := by
 unfold leaving
 refine wpAny_bind (yW hfr hf hf F fun h₁ F₁ u₁ => ?_)
 refine aCk (s := { s with heap := h₁ }) F₁ fun h₂ vs T k1 k2 m h1 tb u₂ => h h₂ ?_ (u₁.trans u₂)
 exact ⟨k1, F₁.2.1, k2.2.2, vs, m, .inr ⟨T, _, h1, tb⟩⟩
theorem aGG {B : Heap} {env env2 : Env} {outer : List Env} {L e : Addr} {wy : Str} {what : String} {α : Type} {Q : α -> Shared -> Prop}
  (F : nG S B (env :: outer) e wy L s.heap)
  (h : ∀ h', qQ S B (env :: outer) e wy h' -> s.heap.UpToSlots h' -> E (.ref e) { s with heap := h' }) : wpAny M A (PySem.passOn what (.ref e) env2 : Sem α) Q E s := by
 obtain ⟨f1, f2, f3, vs, T, m, h1, tb⟩ := id F
 obtain ⟨C, oe, D, mm, t, m1, he, m2, m3, hd, m4, m5, m6, m7⟩ := id m
 unfold PySem.passOn
 refine wpAny_bind (wpAny_field he hd h1 ?_)
 rw [if_neg (show ¬ ((Value.ref T == Value.none) = true) from by simp)]
 refine wpAny_bind (aCk F fun h₂ vs T k1 k2 m h1 tb u₂ => wpAny_throw (h h₂ ?_ u₂))
 exact ⟨k1, f2, k2, vs, m, .inr ⟨T, _, h1, tb⟩⟩
end
theorem aHQ (S : SP) : wV S := by
 intro c g g₁ h mv mv' ρ σ A env s' e wy Q E hfr hf I kg F hQ
 obtain ⟨x1, x0, x2, B, x3, x4, x5, x6⟩ := F
 have hl : ∀ a, (a = c.env.locals \/ a ∈ c.oc) -> ∃ o, h.get? a = some o /\ (hideAll h ρ).get? a = some o := fun a ha => by
  obtain ⟨o, q⟩ := vL I a ha
  exact ⟨o, of_hideAll _ q, q⟩
 refine aGF hfr hf x6 fun h' F' u => hQ h' ?_
 have up : (hideAll h ρ).UpToSlots h' := x2.trans u
 refine ⟨?_, fun ho x hx => ?_, (Heap.UpToSlots.of_keeps (rA I)).trans up, B, cH kg x3, x4, fun a ha => x5 a ?_, F'⟩
 ·obtain ⟨m, hn, hm⟩ := I.ns
  refine ⟨m, ?_, hm⟩
  obtain ⟨o, es, ep, q1, q2, q3⟩ := hn
  obtain ⟨o', z1, z2⟩ := hl _ (.inl rfl)
  rw [q1] at z1; cases z1
  obtain ⟨sl, z3⟩ := up _ _ z2 fun vs q => by rw [q2] at q; cases q
  exact ⟨_, es, ep, z3, q2, q3⟩
 ·obtain ⟨a, q1, o, q2, q3⟩ := I.cl ho x hx
  obtain ⟨o', z1, z2⟩ := hl a (.inr (by unfold Cx.oc; rw [if_pos ho]; exact List.mem_map.mpr ⟨(x, a), jF q1, rfl⟩))
  rw [q2] at z1; cases z1
  obtain ⟨sl, z3⟩ := up _ _ z2 fun vs q => by rw [q3] at q; cases q
  exact ⟨a, q1, _, z3, q3⟩
 ·rw [bJ, bQ] at ha ⊢
  refine .inr ?_
  show a ∈ c.env.locals :: c.oc ++ c.hs
  rw [List.mem_append, List.mem_cons]
  rcases ha with (ha | ha) | ha
  ·cases ha
  ·exact .inl ha
  ·exact .inr ha
end PQ
namespace PQ
theorem yG {env : Env} : ∀ {l : List (Str × NameKind)} {acc : List (Str × Addr)}, (∀ x ∈ l, x.2 = .free -> ∃ a, env.cells.lookup x.1 = some a) ->
  ∃ cl, (forIn l acc fun (x : Str × NameKind) (r : List (Str × Addr)) => (do
    if (x.2 == NameKind.free) = true then do let a <- cellOf env x.1; pure (ForInStep.yield ((x.1, a) :: r)) else pure (ForInStep.yield r) : Sem (ForInStep (List (Str × Addr))))) = pure cl /\
   ∀ x a, env.cells.lookup x = some a -> ((x, NameKind.free) ∈ l \/ acc.lookup x = some a) -> cl.lookup x = some a
 | [], acc, _ => ⟨acc, rfl, fun x a _ h => h.elim (fun q => nomatch q) id⟩
 | (nm, kd) :: l, acc, h => by
  rw [List.forIn_cons]
  by_cases hk : (kd == NameKind.free) = true
  ·obtain ⟨a, ha⟩ := h (nm, kd) (.head _) (eq_of_beq hk)
   obtain ⟨cl, h1, h2⟩ := yG (l := l) (acc := (nm, a) :: acc) fun x hx => h x (.tail _ hx)
   refine ⟨cl, ?_, fun x b hb hx => h2 x b hb ?_⟩
   ·have e : cellOf env nm = pure a := by unfold cellOf; dsimp only at ha; rw [ha]
    simp only [hk, if_true, e, pure_bind]
    exact h1
   ·rw [List.lookup_cons]
    rcases hx with hx | hx
    ·rcases List.mem_cons.mp hx with z | z
     ·cases z
      dsimp only at ha
      rw [hb] at ha; cases ha
      right; simp
     ·exact .inl z
    ·right
     by_cases z : (x == nm) = true
     ·rw [z]
      dsimp only at ha ⊢
      rw [<- eq_of_beq z, hb] at ha; cases ha; rfl
     ·simp only [z]; exact hx
  ·obtain ⟨cl, h1, h2⟩ := yG (l := l) (acc := acc) fun x hx => h x (.tail _ hx)
   refine ⟨cl, ?_, fun x b hb hx => h2 x b hb ?_⟩
   ·simp only [hk, Bool.false_eq_true, if_false, pure_bind]
    exact h1
   ·refine hx.imp (fun hx => ?_) id
    rcases List.mem_cons.mp hx with z | z
    ·cases z; exact absurd rfl hk
    ·exact z
theorem aFJ {env : Env} {scope : Scope} (h : ∀ x ∈ scope.names, x.2 = .free -> ∃ a, env.cells.lookup x.1 = some a) :
  ∃ cl, closureFor scope env = pure cl /\ ∀ x a, env.cells.lookup x = some a -> (x, NameKind.free) ∈ scope.names -> cl.lookup x = some a := by
 obtain ⟨cl, h1, h2⟩ := yG (acc := []) h
 refine ⟨cl, ?_, fun x a e m => h2 x a e (.inl m)⟩
 simp only [closureFor]
 rw [<- bind_pure (pure cl : Sem _), <- h1]
theorem aAL {env : Env} {x : Str} : ∀ {names : List (Str × NameKind)}, (∀ y ∈ names, y.2 ≠ .cell) ->
  (names.map fun (n, k) => if (k == NameKind.free && env.scope.kind == .function && env.kindOf n == some .cell) then (n, NameKind.cell) else (n, k)).lookup x = some .cell -> (x, NameKind.free) ∈ names /\ env.kindOf x = some .cell
 | [], _, h => by simp at h
 | (n, k) :: r, hc, h => by
  rw [List.map_cons, List.lookup_cons] at h
  by_cases q : (k == NameKind.free && env.scope.kind == .function && env.kindOf n == some .cell) = true
  ·simp only [q, if_true] at h
   by_cases z : (x == n) = true
   ·obtain rfl := eq_of_beq z
    simp only [Bool.and_eq_true, beq_iff_eq] at q
    exact ⟨by rw [q.1.1]; exact .head _, q.2⟩
   ·simp only [z] at h
    obtain ⟨h1, h2⟩ := aAL (fun y hy => hc y (.tail _ hy)) h
    exact ⟨.tail _ h1, h2⟩
  ·simp only [q] at h
   by_cases z : (x == n) = true
   ·simp only [z, Bool.false_eq_true, if_false] at h
    exact absurd (Option.some.inj h) (hc _ (.head _))
   ·simp only [z, Bool.false_eq_true, if_false] at h
    obtain ⟨h1, h2⟩ := aAL (fun y hy => hc y (.tail _ hy)) h
    exact ⟨.tail _ h1, h2⟩
theorem aAM {env : Env} {x y : Str} : ∀ {names : List (Str × NameKind)}, (∀ z ∈ names, z.2 = .local -> z.1 = y \/ z.1 = (".0" : Str)) ->
  (names.map fun (n, k) => if (k == NameKind.free && env.scope.kind == .function && env.kindOf n == some .cell) then (n, NameKind.cell) else (n, k)).lookup x = some .local -> x = y \/ x = (".0" : Str)
 | [], _, h => by simp at h
 | (n, k) :: r, hc, h => by
  rw [List.map_cons, List.lookup_cons] at h
  by_cases q : (k == NameKind.free && env.scope.kind == .function && env.kindOf n == some .cell) = true
  ·simp only [q, if_true] at h
   by_cases z : (x == n) = true
   ·simp only [z] at h; cases h
   ·simp only [z] at h
    exact aAM (fun y hy => hc y (.tail _ hy)) h
  ·simp only [q] at h
   by_cases z : (x == n) = true
   ·simp only [z, Bool.false_eq_true, if_false] at h
    rw [eq_of_beq z]; exact hc _ (.head _) (Option.some.inj h)
   ·simp only [z, Bool.false_eq_true, if_false] at h
    exact aAM (fun y hy => hc y (.tail _ hy)) h
noncomputable def Cx.inner (c : Cx) (h : Heap) (bl l : List Addr) (env : Env) : Cx :=
 { env := env, own := false, hs := l ++ (c.env.locals :: c.oc ++ c.hs), bg := hideAll h bl, base := c.base, fenv := c.fenv, outer := c.outer }
section
variable {S : SP} {c : Cx} {g g' h h₁ h' : Heap} {mv mv' : Str -> Option Value} {ρ ρ' bl l : List Addr} {σ σ' : aG} {env : Env}
noncomputable def oS (c : Cx) (bl ρ : List Addr) : Prop := (∀ a ∈ ρ, a ∈ bl) /\ ∀ a ∈ bl, a ∈ ρ \/ (a ∉ c.hid ρ /\ c.bg.get? a = none)
theorem pA (I : aF S c g h mv ρ σ) (hb : oS c bl ρ) : c.bg.StaysIn (hideAll h bl) := fun a o e => hideAll_get _ (I.bgs a o e) fun hm => by
 rcases hb.2 a hm with q | q
 ·rw [I.bgn a (bQ.mpr (.inl q))] at e; cases e
 ·rw [q.2] at e; cases e
theorem qA (I : aF S c g h mv ρ σ) (hb : oS c bl ρ) : ∀ a, (a = c.env.locals \/ a ∈ c.oc) -> ∃ o, h.get? a = some o /\ (hideAll h bl).get? a = some o := fun a ha => by
 obtain ⟨o, ho⟩ := I.live a (eZ (bQ.mpr (.inr ha)))
 refine ⟨o, ho, hideAll_get _ ho fun hm => ?_⟩
 rcases hb.2 a hm with q | q
 ·have := I.nd
  unfold Cx.mut at this
  rw [List.nodup_append] at this
  exact this.2.2 a q a (by simpa using ha) rfl
 ·exact q.1 (eZ (bQ.mpr (.inr ha)))
theorem aF.into {y : Str} (I : aF S c g h mv ρ σ) (hb : oS c bl ρ) (k1 : h.StaysIn h₁) (hC : h.get? env.locals = none) (hl : ∀ a ∈ l, h.get? a = none /\ ∃ o, h₁.get? a = some o)
  (ek : env.scope.kind = .function) (eg : env.globals = mainGlobals) (eb : env.builtins = builtinsNs) (ef : env.frame = c.env.frame) (ns : h₁.Ns env.locals fun _ => none)
  (el : ∀ x, env.kindOf x = some .local -> x = y \/ x = (".0" : Str)) (ec : ∀ x, env.kindOf x = some .cell -> c.env.kindOf x = some .cell /\ ¬ (x = y \/ x = (".0" : Str)) /\ ∀ a, c.env.cells.lookup x = some a -> env.cells.lookup x = some a) :
  aF S (c.inner h bl l env) g h₁ (fun x => if x = y \/ x = (".0" : Str) then none else mv x) ρ σ := by
 have gn : ∀ a, h.get? a = none -> g.get? a = none := fun a ha => by
  cases z : g.get? a with
  | none => rfl
  | some o => have := I.stays _ _ z; rw [ha] at this; cases this
 have hm : ∀ a, a ∈ (c.inner h bl l env).mut ρ ↔ a ∈ ρ \/ a = env.locals := fun a => by
  rw [bQ]; simp [Cx.inner, Cx.oc]
 have hh : ∀ a, a ∈ (c.inner h bl l env).hid ρ -> a ∈ c.hid ρ \/ a = env.locals \/ a ∈ l := fun a ha => by
  rw [bJ, hm] at ha
  rw [bJ, bQ]
  rcases ha with (ha | ha) | ha
  ·exact .inl (.inl (.inl ha))
  ·exact .inr (.inl ha)
  ·have ha : a ∈ l ++ (c.env.locals :: c.oc ++ c.hs) := ha
   rw [List.mem_append, List.mem_append, List.mem_cons] at ha
   rcases ha with ha | (ha | ha) | ha
   ·exact .inr (.inr ha)
   ·exact .inl (.inl (.inr (.inl ha)))
   ·exact .inl (.inl (.inr (.inr ha)))
   ·exact .inl (.inr ha)
 exact {
  stays := cH I.stays k1
  bgs := fun a o e => k1 a o (of_hideAll _ e)
  gd := I.gd
  fr := { ek := ek, eg := eg, eb := eb, fk := I.fr.fk, ffr := I.fr.ffr, fe := ef.trans I.fr.fe, fown := fun q => (nomatch q), fh := I.fr.fh, bs := I.fr.bs
          fbg := fun _ => by
           cases ho : c.own with
           | true =>
            obtain ⟨m, ⟨o, es, ep, q, hd, _⟩, _⟩ := I.ns
            obtain ⟨o', z1, z2⟩ := qA I hb c.env.locals (.inl rfl)
            rw [q] at z1; cases z1
            refine ⟨o, ?_, fun vs z => by rw [hd] at z; cases z⟩
            show (hideAll h bl).get? c.fenv.locals = _
            rw [I.fr.fown ho]; exact z2
           | false =>
            obtain ⟨o, q, z⟩ := I.fr.fbg ho
            exact ⟨o, pA I hb _ _ q, z⟩
          ff := I.fr.ff.of_keeps fun b o e _ => ⟨o, pA I hb b o e, rfl⟩ }
  ns := ⟨_, ns, fun x hx => by
   rw [if_pos (el x hx)]⟩
  cl := fun q => nomatch q
  cf := fun _ x hx => by
   obtain ⟨e1, e2, e3⟩ := ec x hx
   rw [if_neg e2]
   cases ho : c.own with
   | true =>
    obtain ⟨a, q1, q2⟩ := I.cl ho x e1
    obtain ⟨o, z1, z2⟩ := qA I hb a (.inr (by unfold Cx.oc; rw [if_pos ho]; exact List.mem_map.mpr ⟨(x, a), jF q1, rfl⟩))
    exact ⟨a, e3 a q1, gS (fun o' e => by rw [z1] at e; cases e; exact z2) q2⟩
   | false =>
    obtain ⟨a, q1, q2⟩ := I.cf ho x e1
    exact ⟨a, e3 a q1, gS (fun o => pA I hb a o) q2⟩
  hidn := fun a ha => by
   rcases hh a ha with q | q | q
   ·exact I.hidn a q
   ·rw [q]; exact gn _ hC
   ·exact gn _ (hl a q).1
  live := fun a ha => by
   rcases hh a ha with q | q | q
   ·obtain ⟨o, ho⟩ := I.live a q; exact ⟨o, k1 a o ho⟩
   ·obtain ⟨o, _, _, ho, _⟩ := ns; exact ⟨o, q ▸ ho⟩
   ·exact (hl a q).2
  nd := by
   have hρ : ρ.Nodup := by
    have := I.nd
    unfold Cx.mut at this
    rw [List.nodup_append] at this
    exact this.1
   show (ρ ++ [env.locals]).Nodup
   rw [List.nodup_append]
   refine ⟨hρ, by simp, fun a ha b hb q => ?_⟩
   rw [List.mem_singleton.mp hb] at q
   subst q
   obtain ⟨o, ho⟩ := I.live _ (eZ (bQ.mpr (.inl ha)))
   rw [hC] at ho; cases ho
  bgn := fun a ha => by
   rcases (hm a).mp ha with q | q
   ·exact hideAll_none _ (hb.1 a q)
   ·cases z : (hideAll h bl).get? a with
    | none => exact z
    | some o => have := of_hideAll _ z; rw [q, hC] at this; cases this
  len := I.len
  st := fun l o a e1 e2 => (I.st l o a e1 e2).keeps (bU _) (aQ.refl _) fun o => k1 a o
  wf := I.wf }
theorem zI {a : Addr} (ha : a ∈ c.hid ρ') : a ∈ (c.inner h bl l env).hid ρ' := by
 rw [bJ, bQ] at ha ⊢
 rcases ha with (ha | ha) | ha
 ·exact .inl (.inl ha)
 ·refine .inr ?_
  show a ∈ l ++ (c.env.locals :: c.oc ++ c.hs)
  rw [List.mem_append, List.mem_append, List.mem_cons]; exact .inr (.inl ha)
 ·refine .inr ?_
  show a ∈ l ++ (c.env.locals :: c.oc ++ c.hs)
  rw [List.mem_append, List.mem_append]; exact .inr (.inr ha)
theorem aF.outof (I : aF S c g h mv ρ σ) (hb : oS c bl ρ) (I' : aF S (c.inner h bl l env) g' h' mv' ρ' σ') : aF S c g' h' mv ρ' σ' := by
 have hl : ∀ a, (a = c.env.locals \/ a ∈ c.oc) -> ∀ o, h.get? a = some o -> h'.get? a = some o := fun a ha o e => by
  obtain ⟨o', z1, z2⟩ := qA I hb a ha
  rw [e] at z1; cases z1
  exact I'.bgs _ _ z2
 obtain ⟨m, hn, hm⟩ := I.ns
 have nd' := I'.nd
 unfold Cx.mut at nd'
 rw [List.nodup_append] at nd'
 exact {
  stays := I'.stays
  bgs := fun a o e => I'.bgs a o (pA I hb a o e)
  gd := I'.gd
  fr := { ek := I.fr.ek, eg := I.fr.eg, eb := I.fr.eb, fk := I.fr.fk, ffr := I.fr.ffr, fe := I.fr.fe, fown := I.fr.fown, fbg := I.fr.fbg, fh := I.fr.fh, bs := I'.fr.bs, ff := I.fr.ff }
  ns := ⟨m, hn.at' fun o => hl _ (.inl rfl) o, hm⟩
  cl := fun ho x hx => let ⟨a, q1, q2⟩ := I.cl ho x hx; ⟨a, q1, gS (fun o => hl a (.inr (by unfold Cx.oc; rw [if_pos ho]; exact List.mem_map.mpr ⟨(x, a), jF q1, rfl⟩)) o) q2⟩
  cf := I.cf
  hidn := fun a ha => I'.hidn a (zI ha)
  live := fun a ha => I'.live a (zI ha)
  nd := by
   have nd := I.nd
   unfold Cx.mut at nd ⊢
   rw [List.nodup_append] at nd ⊢
   refine ⟨nd'.1, nd.2.1, fun a ha b hb' q => ?_⟩
   subst q
   obtain ⟨o, _, ho⟩ := qA I hb a (List.mem_cons.mp hb')
   have := I'.bgn a (bQ.mpr (.inl ha))
   rw [show (c.inner h bl l env).bg = hideAll h bl from rfl, ho] at this; cases this
  bgn := fun a ha => by
   rcases bQ.mp ha with q | q
   ·cases z : c.bg.get? a with
    | none => rfl
    | some o =>
     have := I'.bgn a (bQ.mpr (.inl q))
     rw [show (c.inner h bl l env).bg = hideAll h bl from rfl, pA I hb _ _ z] at this; cases this
   ·exact I.bgn a (bQ.mpr (.inr q))
  len := I'.len
  st := I'.st
  wf := I'.wf }
theorem aCc {B : Heap} {C : Addr} : ∀ {l : List Env}, (∀ e ∈ l, e.frame ≠ some C) -> Heap.SameBut C h h' -> h.FunFrames B l -> h'.FunFrames B l
 | [], _, _, _ => trivial
 | e :: l, hC, hs, ⟨k, ⟨L, o, q1, q2, q3, q4⟩, r⟩ => ⟨k, ⟨L, o, q1, q2, dN hs (fun z => hC e (.head _) (z ▸ q1)) o q3, q4⟩, aCc (fun e he => hC e (.tail _ he)) hs r⟩
theorem aGs {B : Heap} {l : List Env} (F : h.FunFrames B l) : ∀ e ∈ l, ∀ L, e.frame = some L -> ∃ o, h.get? L = some o := by
 induction l with
 | nil => exact fun e he => nomatch he
 | cons e l ih =>
  intro e' he L hL
  obtain ⟨k, ⟨L', o, q1, q2, q3, q4⟩, r⟩ := F
  rcases List.mem_cons.mp he with rfl | he
  ·rw [q1] at hL; cases hL; exact ⟨o, q3⟩
  ·exact ih r e' he L hL
theorem iY.same {B : Heap} {C e : Addr} {wy : Str} {vs : Array Value} (m : iY S B e wy h vs) (hs : Heap.SameBut C h h') (hC : e ≠ C) : iY S B e wy h' vs := by
 obtain ⟨C', oe, D, mm, t, m1, he, r⟩ := m
 exact ⟨C', oe, D, mm, t, m1, dN hs hC _ he, r⟩
theorem nG.same {B : Heap} {C e L : Addr} {wy : Str} {le : List Env} (F : nG S B le e wy L h) (hs : Heap.SameBut C h h') (hB : B.get? C = none) (hC : ∀ e ∈ le, e.frame ≠ some C) (hd : ∃ o, h.get? C = some o /\ ∀ vs, o.data ≠ .fields vs) : nG S B le e wy L h' := by
 obtain ⟨f1, f2, f3, vs, T, m, h1, tb⟩ := F
 obtain ⟨o, ho, hnf⟩ := hd
 refine ⟨fun a o q => dN hs (fun z => by rw [z, hB] at q; cases q) o (f1 a o q), f2, aCc hC hs f3, vs, T, m.same hs fun z => ?_, h1, ?_⟩
 ·obtain ⟨C', oe, D, mm, t, m1, he, m2, m3, hd, r⟩ := m
  rw [z, ho] at he; cases he; exact hnf _ hd
 ·obtain ⟨q1, q2, oT, ts, q3, q4, q5⟩ := tb
  refine ⟨q1, q2, oT, ts, dN hs (fun z => ?_) _ q3, q4, q5⟩
  rw [z, ho] at q3; cases q3; exact hnf _ q4
end
end PQ
namespace PQ
theorem aI.bind_assoc {α β γ : Type} (x : aI α) (f : α -> aG -> aI β) (k : β -> aG -> aI γ) : (x.bind f).bind k = x.bind fun a σ => (f a σ).bind k := by
 cases x <;> rfl
section
variable {S : SP} {c c₂ c' : Cx} {g g' h h₁ h' : Heap} {mv mv' mv₂ : Str -> Option Value} {ρ ρ' bl l : List Addr} {σ σ' : aG} {env : Env} {A : Around} {E E' : Value -> Shared -> Prop} {s : Shared} {hb : Bool} {n k : Nat} {ρv : aJ}
theorem aH.bindX {α β γ δ : Type} {R : Heap -> List Addr -> β -> α -> Prop} {R' : Heap -> List Addr -> δ -> γ -> Prop} {Q : β -> Shared -> Prop} {x : aI γ} {f : γ -> aG -> aI α} {Q' : δ -> Shared -> Prop}
  (P : aH S R c g mv ρ s Q E (x.bind f))
  (he : ∀ wy e h' tk, s.toks <= tk -> aH S R c g mv ρ { s with heap := h', toks := tk } Q E (.exc wy) -> fA S c₂ g mv₂ wy e h' -> E' (.ref e) { s with heap := h', toks := tk })
  (kk : ∀ a σ₁ g₁ ρ₁ b h₁ tk, x = .ok a σ₁ -> s.toks <= tk -> g.StaysIn g₁ -> aQ ρ ρ₁ -> aF S c₂ g₁ h₁ mv₂ ρ₁ σ₁ -> R' g₁ ρ₁ b a ->
   aH S R c g₁ mv ρ₁ { s with heap := h₁, toks := tk } Q E (f a σ₁) -> Q' b { s with heap := h₁, toks := tk }) : aH S R' c₂ g mv₂ ρ s Q' E' x := by
 cases x with
 | stuck => exact P
 | ok a σ₁ => exact ⟨aH.pos P, fun g₁ ρ₁ b h₁ tk t kg kr I q => kk a σ₁ g₁ ρ₁ b h₁ tk rfl t kg kr I q (aH.shift P t kg kr)⟩
 | exc wy => exact ⟨aH.pos P, fun e h' tk t fl => he wy e h' tk t (aH.shift P t (bU _) (aQ.refl _)) fl⟩
theorem aFz {a : Addr} {v v' : Option Value} (x : h.IsCell a v) (y : h.IsCell a v') : v = v' := by
 obtain ⟨o, e, q⟩ := x
 obtain ⟨o', e', q'⟩ := y
 rw [e] at e'; cases e'
 rw [q] at q'; injection q'
theorem aF.warmX {g₀ h₀ bg' : Heap} {hs' : List Addr} {ρ₀ : List Addr} {σ₀ : aG} (I₀ : aF S c g₀ h₀ mv' ρ₀ σ₀) (I : aF S { c with hs := hs', bg := bg' } g h mv ρ σ) (hh : ∀ a ∈ c.hs, a ∈ hs') (kb : c.bg.StaysIn bg') : aF S c g h mv ρ σ :=
 I.warm hh kb I₀.fr.fbg I₀.fr.ff fun ho x hx => (I₀.cf ho x hx).elim fun a q => (I.cf ho x hx).elim fun b q' => ⟨a, q.1, aFz (gS (fun o => kb a o) q.2) (Option.some.inj (q'.1.symm.trans q.1) ▸ q'.2) ▸ q.2⟩
theorem aH.assoc {α β γ δ : Type} {R : Heap -> List Addr -> β -> α -> Prop} {Q : β -> Shared -> Prop} {x : aI γ} {f : γ -> aG -> aI δ} {K : δ -> aG -> aI α} (P : aH S R c g mv ρ s Q E ((x.bind f).bind K)) : aH S R c g mv ρ s Q E (x.bind fun a σ => (f a σ).bind K) := aI.bind_assoc x f K ▸ P
noncomputable def aJ.del (ρ : aJ) (i : Nat) : aJ := fun j => if j = i then none else ρ j
theorem aJ.del_set (ρ : aJ) (i : Nat) (v : aB) : (ρ.del i).set i v = ρ.set i v := by
 funext j; rw [aJ.set_if, aJ.set_if]
 by_cases h : j = i
 ·rw [if_pos h, if_pos h]
 ·rw [if_neg h, if_neg h]; exact if_neg h
theorem aV.del_of {x : Nat} {v : aB} (R : aV S g ρ mv (ρv.set x v)) : aV S g ρ mv (ρv.del x) := fun i y u hi e => by
 by_cases q : i = x
 ·exact dL ((if_pos q).symm.trans e)
 ·exact R i y u hi (by rw [aJ.set_if, if_neg q]; exact (if_neg q).symm.trans e)
inductive wP {α δ : Type} (S : SP) (Rr : Heap -> List Addr -> δ -> α -> Prop) (F : List PyData -> aG -> aI α) (Q : δ -> Shared -> Prop) (E : Value -> Shared -> Prop) (c c₂ : Cx) (g : Heap) (mv : Str -> Option Value) (ρ : List Addr) (ρv : aJ) (hb : Bool) (n : Nat) (ex : aK) (x₀ : Nat) (cond : Option aK) (items : List PyData)
  (I Dl : Addr) (fp : List Addr) (St : Nat -> Heap -> Prop) (s : Shared) (m : Nat) (s' : Shared) : Prop
 | mk (i : Nat) (h : Heap) (tk : Nat) (g' : Heap) (ρ' : List Addr) (mv' : Str -> Option Value) (σ' : aG) (u : Nat) (acc : List PyData) (vs : Array Value) : s' = { s with heap := h, toks := tk } -> s.toks <= tk -> i <= items.length -> m = items.length + 1 - i -> St i h -> g.StaysIn g' -> aQ ρ ρ' -> aF S (c₂.hide [I]) g' h mv' ρ' σ' ->
  (∀ b ∈ fp, b ∉ c₂.mut ρ' /\ ∃ o, h.get? b = some o) -> aV S g' ρ' mv' (ρv.del x₀) -> u <= n -> Dl ∉ c₂.mut ρ' -> h.PlainList Dl vs -> aM S g' vs.toList acc -> acc.length <= i ->
  aH S Rr c g' mv ρ' { s with heap := h, toks := tk } Q E ((cY FT hb u ex x₀ cond (items.drop i) ρv σ').bind fun ds σ₃ => F (acc ++ ds) σ₃) -> wP S Rr F Q E c c₂ g mv ρ ρv hb n ex x₀ cond items I Dl fp St s m s'
theorem aFW {Qt : Bool -> Shared -> Prop} {ifs : List Expr} {cond : Option aK} (ihT : ∀ m, m < n -> ST S hb m) {u : Nat} (hu : u < n) (hc2 : hY k c.env.scope ifs.head? cond = true) (hifs : ifs.length <= 1) (In : aF S c g s.heap mv ρ σ) (R : aV S g ρ mv ρv) (H : aX hb u A c g)
  (Pt : aH S RB c g mv ρ s Qt E (mJ FT hb u cond ρv σ)) :
  wpAny (model S.prog S.w) A (forIn ifs true fun t r => if r = true then do let ok <- isTrue t c.env (eval t c.env); pure (ForInStep.yield ok) else pure (ForInStep.yield r)) Qt E s := by
 cases u with
 | zero => exact fP Pt
 | succ u =>
 cases k with
 | zero => exact bK hc2
 | succ k =>
 cases ifs with
 | nil => cases cond with
  | some c => exact bK hc2
  | none => exact wpAny_tests_nil (Pt.2 g ρ true s.heap s.toks (Nat.le_refl _) (bU _) (aQ.refl _) In rfl)
 | cons tx r => cases cond with
  | none => exact bK hc2
  | some cm =>
   obtain rfl := List.length_eq_zero_iff.mp (Nat.le_zero.mp (Nat.le_of_succ_le_succ hifs))
   exact wpAny_tests_one (ihT u (Nat.lt_of_succ_lt hu) hc2 In R (H.le (Nat.le_succ u)) Pt)
theorem aFU {α δ : Type} {Rr : Heap -> List Addr -> δ -> α -> Prop} {F : List PyData -> aG -> aI α} {Q : δ -> Shared -> Prop} {R : Result -> Shared -> Prop} {elt iter : Expr} {y : Str} {px : Pos} {ifs : List Expr} {scope : Scope} {pos : Pos} {x₀ : Nat} {ex : aK} {cond : Option aK} {items : List PyData}
  {I Dl : Addr} {fp : List Addr} {Pw : Nat -> Value -> Prop} {St : Nat -> Heap -> Prop}
  (ihE : ∀ m, m < n -> SE S hb m) (ihT : ∀ m, m < n -> ST S hb m) (W : Walks S.prog S.w A I fp [I] items.length Pw St) (hP : ∀ i v, i < items.length -> Pw i v -> ∃ d, items[i]? = some d /\ RD S g v d) (hL : ∀ i h, St i h -> ∃ o, h.get? I = some o)
  (hx : bP[x₀]? = some y) (hv : cP c₂.env.scope y = true) (hyl : c₂.env.kindOf y = some .local)
  (hc1 : aR k c₂.env.scope elt ex = true) (hc2 : hY k c₂.env.scope ifs.head? cond = true) (hifs : ifs.length <= 1)
  (hw : I ∉ c₂.hid ρ /\ c₂.bg.get? I = none /\ g.get? I = none) (hDh : Dl ∈ c₂.hs) (hDf : Dl ∉ fp) (hDb : c₂.bg.get? Dl = none) (hDm : Dl ∉ c₂.mut ρ)
  (In : aF S c₂ g s.heap mv₂ ρ σ) (hst : St 0 s.heap) (hfp : ∀ b ∈ fp, b ∉ c₂.mut ρ /\ ∃ o, s.heap.get? b = some o) (Rv : aV S g ρ mv₂ (ρv.del x₀)) (H : aX hb n A c₂ g) (hpl : s.heap.PlainList Dl #[])
  (hlen : items.length <= 65536)
  (P : aH S Rr c g mv ρ s Q E ((cY FT hb n ex x₀ cond items ρv σ).bind F))
  (hok : ∀ g' ρ' mv' σ' ds h tk vs, s.toks <= tk -> g.StaysIn g' -> aQ ρ ρ' -> aF S c₂ g' h mv' ρ' σ' -> Dl ∉ c₂.mut ρ' -> h.PlainList Dl vs -> aM S g' vs.toList ds -> aH S Rr c g' mv ρ' { s with heap := h, toks := tk } Q E (F ds σ') -> R (.ok .next) { s with heap := h, toks := tk })
  (herr : ∀ g' ρ' mv' wy e h tk, s.toks <= tk -> g.StaysIn g' -> fA S c₂ g' mv' wy e h -> aH S Rr c g' mv ρ' { s with heap := h, toks := tk } Q E (.exc wy) -> notedBy (model S.prog S.w) A c₂.env (fun e s' => R (.error e) s') (.ref e) { s with heap := h, toks := tk }) :
  codeAny (model S.prog S.w) A (.compLoop (.ListComp elt [⟨.Name y px, iter, ifs, 0⟩] scope pos) 0 (.ref I) (.ref Dl) c₂.env) R s := by
 have hI0 : I ∈ fp := W.sub I (.head _)
 have hDI : Dl ≠ I := fun z => hDf (z ▸ hI0)
 have In' : aF S (c₂.hide [I]) g s.heap mv₂ ρ σ := In.hide fun a ha => List.mem_singleton.mp ha ▸ ⟨hw.2.2, (hfp I hI0).2⟩
 refine codeAny_compLoop_tests (wP S Rr F Q E c c₂ g mv ρ ρv hb n ex x₀ cond items I Dl fp St s) ?_ (items.length + 1)
  ⟨0, s.heap, s.toks, g, ρ, mv₂, σ, n, [], #[], rfl, Nat.le_refl _, Nat.zero_le _, rfl, hst, bU _, aQ.refl _, In', hfp, Rv, Nat.le_refl _, hDm, hpl, trivial, Nat.le_refl _, P⟩ (fun _ => rfl)
 intro m s' C
 cases C with | mk i h tk g' ρ' mv' σ' u acc vs es htk hi em hst' kg' kr' I' hfp' R' hu hDm' hpl' hacc hal P' =>
 rw [es, em]
 clear es em P Rv hst hfp In In' hpl hDm
 cases u with
 | zero => exact fP P'
 | succ u =>
 have hIw : I ∉ c₂.mut ρ' := (hfp' I hI0).1
 have hIg : g'.get? I = none := I'.hidn I (bJ.mpr (.inr (.head _)))
 by_cases hlt : i < items.length
 ·rw [List.drop_eq_getElem_cons hlt] at P'
  have hpos := P'.pos
  refine wpAny_with_toks (n := tk) (s := { s with heap := h, toks := tk }) (Nat.le_refl _) (W.item i _ _ _ hlt hst' fun v h₁ tk₁ hPv hst₁ hk₁ (kt₁ : tk <= tk₁) => ?_)
  have q2 : RD S g v items[i] := (hP i v hlt hPv).elim fun d' q => Option.some.inj ((List.getElem?_eq_getElem hlt).symm.trans q.1) ▸ q.2
  have I₁ : aF S (c₂.hide [I]) g' h₁ mv' ρ' σ' := I'.others (wr := [I]) hk₁ (fun b hb _ => List.mem_singleton.mp hb ▸ hL _ _ hst₁) fun b hb => by rw [List.mem_singleton.mp hb]; exact ⟨hIw, hIg, hw.2.1⟩
  have hlv : ∀ b ∈ fp, ∃ o, h₁.get? b = some o := fun b hb => by
   by_cases z : b = I
   ·rw [z]; exact hL _ _ hst₁
   ·exact (hfp' b hb).2.elim fun o e => ⟨o, hk₁ b o (fun q => z (List.mem_singleton.mp q)) e⟩
  have hpl₁ : h₁.PlainList Dl vs := hpl'.at fun o e => hk₁ Dl o (fun q => hDI (List.mem_singleton.mp q)) e
  have hbg : ∀ b, b ∉ c₂.mut ρ' -> ∀ o, h₁.get? b = some o -> ((c₂.hide [I]).cold h₁ ρ' []).bg.get? b = some o := fun b hb o e => hideAll_get _ e hb
  have out : ∀ {g₃ ρ₃ mv₃ h₃ σ₃}, aF S ((c₂.hide [I]).cold h₁ ρ' []) g₃ h₃ mv₃ ρ₃ σ₃ -> ∀ b, b ∉ c₂.mut ρ' -> (∃ o, h₁.get? b = some o) -> b ∉ c₂.mut ρ₃ := fun I₃ b hb e z => e.elim fun o e => nomatch (I₃.bgn b z).symm.trans (hbg b hb o e)
  have flow : ∀ {g₃ mv₃ wy e h₃}, fA S ((c₂.hide [I]).cold h₁ ρ' []) g₃ mv₃ wy e h₃ -> fA S c₂ g₃ mv₃ wy e h₃ := fun x => fA.warm (c := c₂) x (fun a ha => List.mem_append_right _ (List.mem_append_right _ ha)) (lC (c := c₂.hide [I]) I₁)
  have hA : aX hb u A ((c₂.hide [I]).cold h₁ ρ' []) g' := ⟨by have := H.depth; omega, by have := H.units; omega, H.guards, H.frames, FrL.more (c := c₂.hide [I]) (l := []) H.fl.more, (H.mono kg').hand⟩
  have R₃ : aV S g' ρ' (upd mv' y v) (ρv.set x₀ (.d items[i])) := aJ.del_set ρv x₀ (.d items[i]) ▸ R'.set (i := x₀) (v := .d items[i]) hx (RD.mono kg' q2)
  refine wpAny_with_toks (n := tk₁) (Nat.le_refl _) (wpAny_assign_Name (kS (s := { s with heap := h₁, toks := tk₁ }) (c := (c₂.hide [I]).cold h₁ ρ' []) (A := A) (I₁.cold (l := []) (fun _ h => nomatch h)) hv (.inr hyl) fun h₂ tk₂ I₃ (kt₂ : tk₁ <= tk₂) => ?_))
  have turn : ∀ {g₃ ρ₃ h₃ σ₃ tk₃ acc' vs' h₄}, tk₂ <= tk₃ -> g'.StaysIn g₃ -> aQ ρ' ρ₃ -> aF S ((c₂.hide [I]).cold h₁ ρ' []) g₃ h₃ (upd mv' y v) ρ₃ σ₃ -> Heap.SameBut Dl h₃ h₄ -> h₄.PlainList Dl vs' -> aM S g₃ vs'.toList acc' -> acc'.length <= i + 1 ->
    aH S Rr c g₃ mv ρ₃ { s with heap := h₄, toks := tk₃ } Q E ((cY FT hb u ex x₀ cond (items.drop (i + 1)) ρv σ₃).bind fun ds σ => F (acc' ++ ds) σ) ->
    ∃ m, m < items.length + 1 - i /\ wP S Rr F Q E c c₂ g mv ρ ρv hb n ex x₀ cond items I Dl fp St s m { s with heap := h₄, toks := tk₃ } := fun t₃ kg₃ kr₃ I₄ sb hp' hr' hl' P₃ =>
   have I₅ := I'.warmX (c := c₂.hide [I]) I₄ (fun a ha => List.mem_append_right _ ha) (lC I₁)
   have hDn := out I₄ Dl hDm' (hpl₁.elim fun nn e => ⟨_, e⟩)
   have sk : ∀ {b}, b ∈ fp -> ∀ o, _ -> _ := fun {b} hb o e => dN sb (fun z => hDf (z ▸ hb)) o (I₄.bgs b o (hbg b (hfp' b hb).1 o e))
   ⟨items.length + 1 - (i + 1), Nat.sub_lt_sub_left (Nat.lt_succ_of_lt hlt) (Nat.lt_succ_self i), i + 1, _, _, _, _, _, _, u, _, _, rfl, Nat.le_trans htk (Nat.le_trans kt₁ (Nat.le_trans kt₂ t₃)), hlt, rfl, W.frame _ _ _ hst₁ fun b hb => sk hb, cH kg' kg₃, kr'.trans kr₃,
    I₅.others (wr := [Dl]) (fun b o hb e => dN sb (fun q => hb (List.mem_singleton.mpr q)) o e) (fun b hb _ => List.mem_singleton.mp hb ▸ hp'.elim fun nn e => ⟨_, e⟩) (fun b hb => by rw [List.mem_singleton.mp hb]; exact ⟨hDn, I₅.hidn Dl (bJ.mpr (.inr (List.mem_append_right _ hDh))), hDb⟩),
    fun b hb => (hlv b hb).elim fun o e => ⟨out I₄ b (hfp' b hb).1 ⟨o, e⟩, o, sk hb o e⟩, R₃.del_of.mono kg₃ kr₃, Nat.le_of_succ_le hu, hDn, hp', hr', hl', P₃⟩
  have P₂ := aH.assoc (aH.shift (s := { s with heap := h, toks := tk }) (h' := h₂) (tk := tk₂) P' (Nat.le_trans kt₁ kt₂) (bU g') (aQ.refl ρ'))
  refine aFW (c := (c₂.hide [I]).cold h₁ ρ' []) ihT hu hc2 hifs I₃ R₃ hA (P₂.bindX (fun wy e h' tk' (t' : tk₂ <= tk') Pe fl => herr g' ρ' _ wy e h' tk' (Nat.le_trans htk (Nat.le_trans kt₁ (Nat.le_trans kt₂ t'))) kg' (flow fl) Pe) fun a σ₁ g₃ ρ₃ b h₃ tk₃ e (t₃ : tk₂ <= tk₃) kg₃ kr₃ I₄ rb P₃ => ?_)
  obtain rfl : b = a := rb
  cases b
  ·exact turn t₃ kg₃ kr₃ I₄ (Heap.SameBut.refl _ _) (hpl₁.at fun o e => I₄.bgs Dl o (hbg Dl hDm' o e)) (aM.mono kg₃ hacc) (Nat.le_succ_of_le hal) P₃
  ·refine ihE u hu (c := (c₂.hide [I]).cold h₁ ρ' []) hc1 I₄ (R₃.mono kg₃ kr₃) (hA.mono kg₃) ((aH.assoc P₃).bindX (fun wy e h' tk' (t' : tk₃ <= tk') Pe fl => herr g₃ ρ₃ _ wy e h' tk' (Nat.le_trans htk (Nat.le_trans kt₁ (Nat.le_trans kt₂ (Nat.le_trans t₃ t')))) (cH kg' kg₃) (flow fl) Pe) fun a σ₁ g₄ ρ₄ pv h₄ tk₄ e (t₄ : tk₃ <= tk₄) kg₄ kr₄ I₅ rv P₄ => aH.liftB_r (aH.assoc P₄) fun dv hdv P₅ => ?_)
   refine wpAny_list_append_plain (hsz := (Nat.le_trans (Nat.le_of_eq (aM.length hacc)) (Nat.le_trans hal (Nat.le_trans hi (Nat.le_trans hlen sz))) : vs.toList.length <= sizeLine)) (hpl₁.at fun o e => I₅.bgs Dl o (hbg Dl hDm' o e)) fun h₅ hpl₅ sb => ?_
   refine turn (Nat.le_trans t₃ t₄) (cH kg₃ kg₄) (kr₃.trans kr₄) I₅ sb hpl₅ (acc' := acc ++ [dv]) ?_ (by rw [List.length_append]; exact Nat.succ_le_succ hal) ?_
   ·rw [Array.toList_push]
    exact (aM.mono (cH kg₃ kg₄) hacc).append (.cons (fO rv hdv) .nil)
   ·have P₆ := aH.assoc (aH.shift (s := { s with heap := h₄, toks := tk₄ }) (h' := h₅) (tk := tk₄) P₅ (Nat.le_refl _) (bU g₄) (aQ.refl ρ₄))
    simp only [List.append_assoc, List.singleton_append]
    exact P₆
 ·obtain rfl : i = items.length := by omega
  rw [List.drop_length] at P'
  refine wpAny_with_toks (n := tk) (s := { s with heap := h, toks := tk }) (Nat.le_refl _) (W.done _ _ _ hst' fun h₃ tk₃ hk₃ (t₃ : tk <= tk₃) => hok g' ρ' mv' σ' acc h₃ tk₃ vs (Nat.le_trans htk t₃) kg' kr' ?_ hDm' (hpl'.at fun o e => hk₃ Dl o (fun q => hDI (List.mem_singleton.mp q)) e) hacc ?_)
  ·refine (aF.unhide (l := [I]) I').others hk₃ (fun b hb hm => ?_) fun b hb => by rw [List.mem_singleton.mp hb]; exact ⟨hIw, hIg, hw.2.1⟩
   rw [List.mem_singleton.mp hb] at hm
   exact (bJ.mp hm).elim (fun hm => absurd hm hIw) fun hm => absurd (bJ.mpr (.inr hm)) hw.1
  ·have P₅ := aH.shift (s := { s with heap := h, toks := tk }) (h' := h₃) (tk := tk₃) P' t₃ (bU g') (aQ.refl ρ')
   have P₅ : aH S Rr c g' mv ρ' { s with heap := h₃, toks := tk₃ } Q E (F (acc ++ []) σ') := P₅
   rwa [List.append_nil] at P₅
end
end PQ
namespace PQ
section
variable {S : SP} {c c₂ c' : Cx} {g g' h h₁ h' : Heap} {mv mv' mv₂ : Str -> Option Value} {ρ ρ' bl l : List Addr} {σ σ' : aG} {env : Env} {A : Around} {E E' : Value -> Shared -> Prop} {s : Shared} {hb : Bool} {n k : Nat} {ρv : aJ}
structure tK (c : Cx) (g h : Heap) (ρ : List Addr) (a : Addr) : Prop where
 hid : a ∉ c.hid ρ
 gn : g.get? a = none
 bn : c.bg.get? a = none
 live : ∃ o, h.get? a = some o
theorem aCd {m : Bool} {C D : Addr} {vs : Array Value} {ds : List PyData} (I : aF S c g h mv ρ σ) (aC : tK c g h ρ C) (aD : tK c g h ρ D) (hCD : C ≠ D) (hp : h.PlainList D vs) (hr : aM S g vs.toList ds) :
  ∃ g' ρ' v σ', g.StaysIn g' /\ aQ ρ ρ' /\ aF S (c.hide [C]) g' h mv ρ' σ' /\ C ∉ c.hid ρ' /\ VR S g' ρ' (.ref D) v /\ lH m ds σ = .ok v σ' := by
 have Ih : aF S (c.hide [C]) g h mv ρ σ := I.hide fun a ha => by rw [List.mem_singleton.mp ha]; exact ⟨aC.gn, aC.live⟩
 have hDh : D ∉ (c.hide [C]).hid ρ := fun z => by
  rw [bJ] at z
  rcases z with z | z
  ·exact aD.hid (bJ.mpr (.inl z))
  ·rcases List.mem_cons.mp (show D ∈ C :: c.hs from z) with z | z
   ·exact hCD z.symm
   ·exact aD.hid (bJ.mpr (.inr z))
 obtain ⟨nn, e⟩ := id hp
 cases m
 ·obtain ⟨I2, kg⟩ := Ih.grow (bU h)
  refine ⟨_, ρ, .d (.list ds), σ, kg, aQ.refl _, I2, aC.hid, ?_, rfl⟩
  exact RD.list ⟨_, hideAll_get _ e hDh, rfl, rfl, nn, rfl⟩ (aM.mono kg hr)
 ·have I2 := Ih.adopt (o := .lst ds) hDh aD.gn aD.bn e ⟨vs, hp, hr⟩ fun kvs q => nomatch q
  refine ⟨g, ρ ++ [D], .loc σ.length, _, bU _, aQ.app _ _, I2, fun z => ?_, ⟨D, by rw [<- I.len]; simp, rfl⟩, rfl⟩
  rw [bJ, bQ] at z
  rcases z with (z | z) | z
  ·rcases List.mem_append.mp z with z | z
   ·exact aC.hid (bJ.mpr (.inl (bQ.mpr (.inl z))))
   ·exact hCD (List.mem_singleton.mp z)
  ·exact aC.hid (bJ.mpr (.inl (bQ.mpr (.inr z))))
  ·exact aC.hid (bJ.mpr (.inr z))
theorem aF.letgo {C : Addr} (I : aF S (c.hide [C]) g h mv ρ σ) (hC : C ∉ c.hid ρ) (hb : c.bg.get? C = none) (hs : Heap.SameBut C h h') : aF S c g h' mv ρ σ :=
 (aF.unhide (l := [C]) I).others (wr := [C]) (fun b o hb e => dN hs (by simpa using hb) o e) (fun b hb hm => by rw [List.mem_singleton.mp hb] at hm; exact absurd hm hC) fun b hbm => by
  rw [List.mem_singleton.mp hbm]
  exact ⟨fun z => hC (bJ.mpr (.inl z)), I.hidn C (bJ.mpr (.inr (List.mem_append_left _ (.head _)))), hb⟩
theorem aI.ok_bind {α β : Type} (a : α) (σ : aG) (f : α -> aG -> aI β) : (aI.ok a σ).bind f = f a σ := rfl
theorem aFT {α δ : Type} {Rr : Heap -> List Addr -> δ -> α -> Prop} {Qp : δ -> Shared -> Prop} {use : Option (Value -> Sem Unit)} {Q : Value -> Shared -> Prop} {acc : Value} {wy : Str} {e : Addr} {env₂ : Env} {tk : Nat} {ρ₂ : List Addr}
  (I : aF S c g h mv ρ σ) (hb' : oS c bl ρ) (hC : h.get? env₂.locals = none) (hfr : A.frames = some (c.fenv :: c.outer)) (ef : env₂.frame = c.env.frame) (kg : g.StaysIn g')
  (F : fA S (c.inner h bl l env₂) g' mv' wy e h') (P : aH S Rr c g' mv ρ₂ { s with heap := h', toks := tk } Qp E (.exc wy)) :
  notedBy (model S.prog S.w) A env₂ (fun x s' => compPost (model S.prog S.w) A E use Q acc env₂.locals (.error x) s') (.ref e) { s with heap := h', toks := tk } := by
 obtain ⟨x1, x0, x2, B, x3, x4, x5, x6⟩ := F
 have hCb : c.bg.get? env₂.locals = none := gT I.bgs hC
 have hbC : ∀ b o, (hideAll h bl).get? b = some o -> b ≠ env₂.locals := fun b o q z => by
  have := of_hideAll _ q
  rw [z, hC] at this; cases this
 have hBC : B.get? env₂.locals = none := x5 _ (bJ.mpr (.inl (bQ.mpr (.inr (.inl rfl)))))
 have hfC : ∀ en ∈ c.fenv :: c.outer, en.frame ≠ some env₂.locals := fun en hen z => by
  rcases List.mem_cons.mp hen with rfl | hen
  ·rw [I.fr.ffr] at z
   have z := Option.some.inj z
   cases ho : c.own with
   | true =>
    obtain ⟨m, ⟨o, es, ep, q, _⟩, _⟩ := I.ns
    rw [I.fr.fown ho] at z
    rw [z, hC] at q; cases q
   | false =>
    obtain ⟨o, q, _⟩ := I.fr.fbg ho
    rw [z, hCb] at q; cases q
  ·obtain ⟨o, q⟩ := aGs I.fr.ff en hen _ z
   rw [hCb] at q; cases q
 show wpAny _ A (noteFrame (.ref e) env₂) _ _ _
 refine yW (s := { s with heap := h', toks := tk }) hfr I.fr.ffr (ef.trans I.fr.fe) x6 fun h₁ F₁ u₁ => ?_
 obtain ⟨m, hn, _⟩ := x1
 have hn : h'.Ns env₂.locals m := hn
 have hn₁ := u₁.ns hn
 refine ⟨m, hn₁, fun h₂ hs₂ cenv hce => ?_⟩
 have F₂ := F₁.same hs₂ hBC hfC (by obtain ⟨o, es, ep, q, hd, _⟩ := hn₁; exact ⟨o, q, fun vs z => by rw [hd] at z; cases z⟩)
 refine aGG (s := { s with heap := h₂, toks := tk }) F₂ fun h₃ F₃ u₃ => ?_
 have up : ∀ b o, (hideAll h bl).get? b = some o -> (∀ vs, o.data ≠ .fields vs) -> ∃ sl, h₃.get? b = some { o with slots := sl } := fun b o q hnf => by
  obtain ⟨s1, q1⟩ := x2 b o q hnf
  obtain ⟨s2, q2⟩ := u₁ b _ q1 hnf
  have q3 := dN hs₂ (hbC b o q) _ q2
  obtain ⟨s4, q4⟩ := u₃ b _ q3 hnf
  exact ⟨s4, q4⟩
 refine P.2 e h₃ tk (Nat.le_refl _) ⟨?_, fun ho x hx => ?_, fun b o q hnf => up b o (pA I hb' b o q) hnf, B, x3, x4, fun a ha => x5 a (zI ha), F₃⟩
 ·obtain ⟨m, hn, hm⟩ := I.ns
  refine ⟨m, ?_, hm⟩
  obtain ⟨o, es, ep, q1, q2, q3⟩ := hn
  obtain ⟨o', z1, z2⟩ := qA I hb' _ (.inl rfl)
  rw [q1] at z1; cases z1
  obtain ⟨sl, z3⟩ := up _ _ z2 fun vs q => by rw [q2] at q; cases q
  exact ⟨_, es, ep, z3, q2, q3⟩
 ·obtain ⟨a, q1, o, q2, q3⟩ := I.cl ho x hx
  obtain ⟨o', z1, z2⟩ := qA I hb' a (.inr (by unfold Cx.oc; rw [if_pos ho]; exact List.mem_map.mpr ⟨(x, a), jF q1, rfl⟩))
  rw [q2] at z1; cases z1
  obtain ⟨sl, z3⟩ := up _ _ z2 fun vs q => by rw [q3] at q; cases q
  exact ⟨a, q1, _, z3, q3⟩
theorem aL8 : (".0" : Str) ∉ bP := by decide +kernel
theorem aV.del_in {x₀ : Nat} {y : Str} (hx : bP[x₀]? = some y) (R : aV S g ρ mv ρv) : aV S g ρ (fun x => if x = y \/ x = (".0" : Str) then none else mv x) (ρv.del x₀) := fun i x v hi e => by
 by_cases q : i = x₀
 ·exact dL ((if_pos q).symm.trans e)
 ·have e := (if_neg q).symm.trans e
  have : ¬ (x = y \/ x = (".0" : Str)) := fun z => z.elim (fun z => q (tH hi (z ▸ hx))) fun z => aL8 (z ▸ List.mem_of_getElem? hi)
  dsimp only
  rw [if_neg this]
  exact R i x v hi e
theorem aMs {sc sc' : Scope} {x : Str} (h : sc.names.lookup x = sc'.names.lookup x) : cP sc x = cP sc' x := by unfold cP; rw [h]
theorem aBW {α δ : Type} {Rr : Heap -> List Addr -> δ -> α -> Prop} {F : List PyData -> aG -> aI α} {Qp : δ -> Shared -> Prop} {use : Option (Value -> Sem Unit)} {Q : Value -> Shared -> Prop} {elt iter : Expr} {y : Str} {px : Pos} {ifs : List Expr} {scope : Scope} {cl : List (Str × Addr)} {pos : Pos} {x₀ : Nat} {ex : aK} {cond : Option aK} {items : List PyData} {It : Addr}
  (ihE : ∀ m, m < n -> SE S hb m) (ihT : ∀ m, m < n -> ST S hb m) (hx : bP[x₀]? = some y) (hyd : y ≠ ("__debug__" : Str)) (hco : kF c.env.scope scope y = true)
  (hcl : ∀ x a, c.env.cells.lookup x = some a -> (x, NameKind.free) ∈ scope.names -> cl.lookup x = some a)
  (hc1 : aR k (inner c.env.scope scope) elt ex = true) (hc2 : hY k (inner c.env.scope scope) ifs.head? cond = true) (hifs : ifs.length <= 1) (hlen : items.length <= 65536)
  (I : aF S c g s.heap mv ρ σ) (src : Src S A c ρ g s.heap It items) (R : aV S g ρ mv ρv) (H : aX hb n A c g)
  (P : aH S Rr c g mv ρ s Qp E ((cY FT hb n ex x₀ cond items ρv σ).bind F))
  (hfin : ∀ C D g' ρ' σ' ds h tk vs m, s.toks <= tk -> g.StaysIn g' -> aQ ρ ρ' -> aF S c g' h mv ρ' σ' -> tK c g' h ρ' C -> h.Ns C m -> tK c g' h ρ' D -> C ≠ D -> h.PlainList D vs -> aM S g' vs.toList ds -> aH S Rr c g' mv ρ' { s with heap := h, toks := tk } Qp E (F ds σ') ->
   compPost (model S.prog S.w) A E use Q (.ref D) C (.ok .next) { s with heap := h, toks := tk }) :
  wpAny (model S.prog S.w) A (newList []) (fun acc s₃ => wpAny (model S.prog S.w) A (newFunctionEnv scope c.env.globals cl [] c.env.qual none .none (some c.env)) (fun cenv s₄ =>
   codeAny (model S.prog S.w) A (.compStart (.ListComp elt [⟨.Name y px, iter, ifs, 0⟩] scope pos) 0 (.ref It) acc { cenv with scope := relabel scope c.env }) (compPost (model S.prog S.w) A E use Q acc cenv.locals) s₄) E s₃) E s := by
 unfold kF at hco
 simp only [Bool.and_eq_true, beq_iff_eq, List.all_eq_true, bne_iff_ne, Bool.or_eq_true, ne_eq] at hco
 obtain ⟨⟨hkind, hnames⟩, hyl⟩ := hco
 have hcell : ∀ x ∈ scope.names, x.2 ≠ .cell := fun x hx => (hnames x hx).1.1
 have hloc : ∀ x ∈ scope.names, x.2 = .local -> x.1 = y \/ x.1 = (".0" : Str) := fun x hx q => (hnames x hx).1.2.elim (fun z => z.elim (fun z => absurd q z) .inl) fun z => .inr z.1
 have hyk : (inner c.env.scope scope).names.lookup y = some .local := lookup_relabel_local (env := c.env) hyl
 obtain ⟨⟨fp, Pw, St, W, hst, hfp, hP, hL⟩, hI1, hI2, hI3⟩ := src
 have hI0 : It ∈ fp := W.sub It (.head _)
 refine wpAny_newObj_type (wpAny_newFunctionEnv hcell (by intro y hy; simp at hy) (fun h₁ hns₁ hsb₁ => ?_) hkind)
 dsimp only at hns₁ hsb₁ ⊢
 generalize hH2 : s.heap.push { cls := .type "list", dict := none, data := .seq ([] : List Value).toArray } = H2 at hns₁ hsb₁ ⊢
 have hCs : H2.objs.size = s.heap.objs.size + 1 := by rw [<- hH2, Heap.size_push]
 have hDC : s.heap.objs.size ≠ H2.objs.size := by rw [hCs]; exact Nat.ne_of_lt (Nat.lt_succ_self _)
 have kH : s.heap.StaysIn H2 := hH2 ▸ dO _ _
 have eH : H2.StaysIn h₁ := fun b o e => hsb₁.extBut b o (fun z => by rw [z, eR] at e; cases e) (Heap.get?_push_of_some _ e)
 have k1 : s.heap.StaysIn h₁ := cH kH eH
 have hC0 : s.heap.get? H2.objs.size = none := by
  cases q : s.heap.get? H2.objs.size with
  | none => rfl
  | some o => have := Heap.lt_size q; rw [hCs] at this; exact absurd this (Nat.not_lt.mpr (Nat.le_succ _))
 have hD0 : s.heap.get? s.heap.objs.size = none := eR _
 have hpl : h₁.PlainList s.heap.objs.size #[] := ⟨_, eH _ _ (hH2 ▸ Heap.get?_push_size _ rfl)⟩
 have hap : oS c (It :: ρ) ρ := ⟨fun a ha => .tail _ ha, fun a ha => by
  rcases List.mem_cons.mp ha with rfl | ha
  ·exact .inr ⟨hI2, hI3⟩
  ·exact .inl ha⟩
 have ek : (compEnvC scope cl H2.objs.size c.env).scope.kind = .function := hkind
 have I₂ : aF S (c.inner s.heap (It :: ρ) [s.heap.objs.size] (compEnvC scope cl H2.objs.size c.env)) g h₁ (fun x => if x = y \/ x = (".0" : Str) then none else mv x) ρ σ := by
  refine I.into (env := compEnvC scope cl H2.objs.size c.env) hap k1 hC0 (fun a ha => ?_) ek I.fr.eg I.fr.eb rfl hns₁ (fun x hxx => ?_) fun x hxx => ?_
  ·rw [List.mem_singleton.mp ha]; obtain ⟨nn, e⟩ := hpl; exact ⟨hD0, _, e⟩
  ·exact aAM hloc hxx
  ·obtain ⟨h1, h2⟩ := aAL hcell hxx
   refine ⟨h2, fun z => ?_, fun a e => hcl x a e h1⟩
   have hx2 : (inner c.env.scope scope).names.lookup x = some .cell := hxx
   rcases z with z | z
   ·rw [z, hyk] at hx2; cases hx2
   ·exact ((hnames _ h1).2.resolve_left fun q => q rfl).2 z
 have hcm : ∀ {a : Addr}, a ∈ (c.inner s.heap (It :: ρ) [s.heap.objs.size] (compEnvC scope cl H2.objs.size c.env)).mut ρ -> a ∈ ρ \/ a = H2.objs.size := fun {a} ha => by
  rw [bQ] at ha
  rcases ha with ha | ha | ha
  ·exact .inl ha
  ·exact .inr ha
  ·simp [Cx.inner, Cx.oc] at ha
 have hfpn : ∀ b ∈ fp, b ≠ s.heap.objs.size /\ b ≠ H2.objs.size := fun b hbm => by
  obtain ⟨o, e⟩ := (hfp b hbm).2
  exact ⟨fun z => (by rw [z, hD0] at e; cases e), fun z => (by rw [z, hC0] at e; cases e)⟩
 have hbgn : ∀ a, s.heap.get? a = none -> (hideAll s.heap (It :: ρ)).get? a = none := fun a ha => gT (fun _ _ e => of_hideAll _ e) ha
 have loop : codeAny (model S.prog S.w) A (.compLoop (.ListComp elt [⟨.Name y px, iter, ifs, 0⟩] scope pos) 0 (.ref It) (.ref s.heap.objs.size) (compEnvC scope cl H2.objs.size c.env)) (compPost (model S.prog S.w) A E use Q (.ref s.heap.objs.size) H2.objs.size) { s with heap := h₁, toks := s.toks + ([] : List (Str × Value)).length } := by
  refine aFU (c := c) (c₂ := c.inner s.heap (It :: ρ) [s.heap.objs.size] (compEnvC scope cl H2.objs.size c.env)) (k := k) (ex := ex) (cond := cond) (x₀ := x₀) (Rr := Rr) (F := F) (Q := Qp) (E := E) (mv := mv) ihE ihT W hP hL hx ?_ hyk hc1 hc2 hifs ⟨fun z => ?_, hideAll_none _ (.head _), hI1⟩ (List.mem_append_left _ (.head _)) (fun z => (hfpn _ z).1 rfl) (hbgn _ hD0) (fun z => ?_)
   I₂ (W.frame _ _ _ hst fun b _ o e => k1 b o e) (fun b hbm => ⟨fun z => ?_, ?_⟩) (R.del_in hx) ⟨H.depth, H.units, H.guards, H.frames, fun en hen L hL => .inr (by show L ∈ [s.heap.objs.size] ++ (c.env.locals :: c.oc ++ c.hs); rw [List.mem_append, List.mem_append]; exact (H.fl en hen L hL).elim (fun z => .inr (.inl (List.mem_cons.mpr (.inl z)))) fun z => .inr (.inr z)), H.hand⟩ hpl hlen (aH.shift P (Nat.le_refl _) (bU _) (aQ.refl _)) ?_ ?_
  ·unfold cP
   have : (compEnvC scope cl H2.objs.size c.env).scope.names.lookup y = some .local := hyk
   show (((compEnvC scope cl H2.objs.size c.env).scope.names.lookup y == some NameKind.local || (compEnvC scope cl H2.objs.size c.env).scope.names.lookup y == some NameKind.cell) && y != ("__debug__" : Str)) = true
   rw [this]
   have : (y != ("__debug__" : Str)) = true := bne_iff_ne.mpr hyd
   rw [this]; rfl
  ·rw [bJ] at z
   rcases z with z | z
   ·rcases hcm z with z | z
    ·exact hI2 (bJ.mpr (.inl (bQ.mpr (.inl z))))
    ·exact (hfpn _ hI0).2 z
   ·have z : It ∈ [s.heap.objs.size] ++ (c.env.locals :: c.oc ++ c.hs) := z
    rw [List.mem_append, List.mem_append, List.mem_singleton] at z
    rcases z with z | z | z
    ·exact (hfpn _ hI0).1 z
    ·exact hI2 (bJ.mpr (.inl (bQ.mpr (.inr (List.mem_cons.mp z)))))
    ·exact hI2 (bJ.mpr (.inr z))
  ·rcases hcm z with z | z
   ·obtain ⟨o, e⟩ := I.live _ (eZ (bQ.mpr (.inl z)))
    rw [hD0] at e; cases e
   ·exact hDC z
  ·rcases hcm z with z | z
   ·exact (hfp b hbm).1 (bQ.mpr (.inl z))
   ·exact (hfpn b hbm).2 z
  ·obtain ⟨o, e⟩ := (hfp b hbm).2; exact ⟨o, k1 b o e⟩
  ·intro g' ρ' mv' σ' ds h tk vs t kg kr I' hDm hp hr P'
   have Io := I.outof hap I'
   have hnot : ∀ a, s.heap.get? a = none -> a ∉ ρ' -> a ∉ c.hid ρ' := fun a ha hn z => by
    rw [bJ, bQ] at z
    have bad : a ∈ c.hid ρ -> False := fun z => by obtain ⟨o, e⟩ := I.live a z; rw [ha] at e; cases e
    rcases z with (z | z) | z
    ·exact hn z
    ·exact bad (bJ.mpr (.inl (bQ.mpr (.inr z))))
    ·exact bad (bJ.mpr (.inr z))
   have hcb : ∀ a, s.heap.get? a = none -> c.bg.get? a = none := fun a ha => gT I.bgs ha
   obtain ⟨m, hnm, _⟩ := I'.ns
   have hCρ : H2.objs.size ∉ ρ' := fun z => by
    have := I'.nd
    unfold Cx.mut at this
    rw [List.nodup_append] at this
    exact this.2.2 _ z _ (.head _) rfl
   obtain ⟨oc, _, _, eoc, _⟩ := id hnm
   obtain ⟨nD, eD⟩ := id hp
   refine hfin H2.objs.size s.heap.objs.size g' ρ' σ' ds h tk vs m t kg kr Io ⟨hnot _ hC0 hCρ, I'.hidn _ (eZ oC), hcb _ hC0, oc, eoc⟩ hnm ⟨hnot _ hD0 (fun z => hDm (bQ.mpr (.inl z))), I'.hidn _ (bJ.mpr (.inr (List.mem_append_left _ (.head _)))), hcb _ hD0, _, eD⟩ (Ne.symm hDC) hp hr P'
  ·intro g' ρ' mv' wy e h tk t kg fl Pe
   exact aFT (s := s) (env₂ := compEnvC scope cl H2.objs.size c.env) I hap hC0 H.frames rfl kg fl Pe
 exact codeAny_compStart_list loop (W.self 0 _ _ _ (W.frame _ _ _ hst fun b _ o e => k1 b o e) loop)
end
end PQ
namespace PQ
noncomputable def Cx.frz (c : Cx) (h : Heap) (ρ : List Addr) : Cx := { c with hs := ρ ++ c.hs, bg := hideAll h (c.mut []) }
section
variable {S : SP} {c c₂ c' : Cx} {g g' h h₁ h' : Heap} {mv mv' mv₂ : Str -> Option Value} {ρ ρ' bl l : List Addr} {σ σ' : aG} {env : Env} {A : Around} {E E' : Value -> Shared -> Prop} {s : Shared} {hb : Bool} {n k : Nat} {ρv : aJ}
theorem aAb {a : Addr} (ha : a ∈ c.mut []) : a ∈ c.mut ρ := by
 rw [bQ] at ha ⊢
 rcases ha with ha | ha
 ·cases ha
 ·exact .inr ha
theorem oZ (I : aF S c g h mv ρ σ) : c.bg.StaysIn (hideAll h (c.mut [])) := fun a o e => hideAll_get _ (I.bgs a o e) fun hm => by
 rw [I.bgn a (aAb hm)] at e; cases e
theorem yZ {a : Addr} : a ∈ (c.frz h ρ).hid [] ↔ a ∈ c.hid ρ := by
 rw [bJ, bQ, bJ, bQ]
 show (a ∈ [] \/ a = c.env.locals \/ a ∈ c.oc) \/ a ∈ ρ ++ c.hs ↔ _
 rw [List.mem_append]
 simp only [List.not_mem_nil, false_or]
 constructor
 ·rintro (h | h | h)
  ·exact .inl (.inr h)
  ·exact .inl (.inl h)
  ·exact .inr h
 ·rintro ((h | h) | h)
  ·exact .inr (.inl h)
  ·exact .inl h
  ·exact .inr (.inr h)
theorem aF.frz (I : aF S c g h mv ρ σ) : aF S (c.frz h ρ) g h mv [] [] where
 stays := I.stays
 bgs := fun a o e => of_hideAll _ e
 gd := I.gd
 fr := { ek := I.fr.ek, eg := I.fr.eg, eb := I.fr.eb, fk := I.fr.fk, ffr := I.fr.ffr, fe := I.fr.fe, fown := I.fr.fown, fbg := fun ho => let ⟨o, h1, h2⟩ := I.fr.fbg ho; ⟨o, oZ I _ _ h1, h2⟩, fh := I.fr.fh, bs := I.fr.bs, ff := I.fr.ff.of_keeps fun b o e _ => ⟨o, oZ I b o e, rfl⟩ }
 ns := I.ns
 cl := I.cl
 cf := fun ho x hx => let ⟨a, h1, h2⟩ := I.cf ho x hx; ⟨a, h1, gS (fun o => oZ I a o) h2⟩
 hidn := fun a ha => I.hidn a (yZ.mp ha)
 live := fun a ha => I.live a (yZ.mp ha)
 nd := by
  have := I.nd
  unfold Cx.mut at this
  rw [List.nodup_append] at this
  exact this.2.1
 bgn := fun a ha => hideAll_none _ ha
 len := rfl
 st := fun l o a e _ => by cases e
 wf := fun l kvs e => by cases e
theorem aF.unfrz (I : aF S c g h mv ρ σ) (kg : g.StaysIn g') (I' : aF S ((c.frz h ρ).hide l) g' h' mv [] []) : aF S (c.hide l) g' h' mv ρ σ := by
 have hm : ∀ a, a ∈ (c.hide l).hid ρ -> a ∈ ((c.frz h ρ).hide l).hid [] := fun a ha => by
  rw [bJ, bQ] at ha ⊢
  show (a ∈ [] \/ a = c.env.locals \/ a ∈ c.oc) \/ a ∈ l ++ (ρ ++ c.hs)
  rw [List.mem_append, List.mem_append]
  rcases ha with (ha | ha) | ha
  ·exact .inr (.inr (.inl ha))
  ·exact .inl (.inr ha)
  ·rcases List.mem_append.mp (show a ∈ l ++ c.hs from ha) with ha | ha
   ·exact .inr (.inl ha)
   ·exact .inr (.inr (.inr ha))
 have keep : ∀ a ∈ ρ, ∀ o, h.get? a = some o -> h'.get? a = some o := fun a ha o e => I'.bgs a o (hideAll_get _ e fun z => by
  have := I.nd
  unfold Cx.mut at this
  rw [List.nodup_append] at this
  refine this.2.2 a ha a ?_ rfl
  rw [bQ] at z
  rcases z with z | z
  ·cases z
  ·simpa using z)
 exact {
  stays := I'.stays
  bgs := fun a o e => I'.bgs a o (oZ I a o e)
  gd := I'.gd
  fr := { ek := I.fr.ek, eg := I.fr.eg, eb := I.fr.eb, fk := I.fr.fk, ffr := I.fr.ffr, fe := I.fr.fe, fown := I.fr.fown, fbg := I.fr.fbg, fh := I.fr.fh, bs := I'.fr.bs, ff := I.fr.ff }
  ns := I'.ns
  cl := I'.cl
  cf := I.cf
  hidn := fun a ha => I'.hidn a (hm a ha)
  live := fun a ha => I'.live a (hm a ha)
  nd := I.nd
  bgn := I.bgn
  len := I.len
  st := fun l o a e1 e2 => (I.st l o a e1 e2).keeps kg (aQ.refl _) (keep a (mR e2))
  wf := I.wf }
theorem aLr {a : Addr} {vs : Array Value} {xs : List PyData} {Q : Value -> Shared -> Prop} (hp : s.heap.PlainList a vs) (r : aM S g vs.toList xs) (I : aF S c g s.heap mv ρ σ) (H : aX hb n A c g) (ha : a ∉ c.mut ρ)
  (hQ : ∀ h' I', s.heap.StaysIn h' -> Src S A c ρ g h' I' xs -> Q (.ref I') { s with heap := h' }) : wpAny (model S.prog S.w) A (pyIter (.ref a)) Q E s := by
 have hH := aCu H I.stays
 have e0 := eR s.heap
 have F := I.fresh e0
 have hHn : ∀ b ∈ iQ A, b ≠ s.heap.objs.size := fun b hbm q => (hH.2 b hbm).elim fun o z => by rw [q] at z; exact nomatch F.2.2.symm.trans z
 have hl := hp.isList
 refine id hp |>.elim fun nn hpe => ?_
 have hW := aEG (prog := S.prog) (w := S.w) (A := A) s.heap.objs.size a (fun q => by rw [q] at hpe; exact nomatch e0.symm.trans hpe) hHn vs
 rw [show vs.size = xs.length from aM.length r] at hW
 refine wpAny_pyIter_list hl (hQ _ _ (dO _ _) ⟨⟨_, _, _, hW, ⟨⟨_, Heap.get?_push_size _ rfl, rfl, rfl⟩, rZ hl (dO _ _), hH.1.at fun b _ o => Heap.get?_push_of_some _⟩, fun b hbm => ?_, fun i v _ hv => tV r hv, fun i h hst => hst.1.elim fun o z => ⟨o, z.1⟩⟩, F.2.2, F.1, F.2.1⟩)
 refine (List.mem_cons.mp hbm).elim (fun q => ?_) fun hbm => (List.mem_cons.mp hbm).elim (fun q => ?_) fun hbm => (hH.2 b hbm).elim fun o q => ⟨I.firm q, o, Heap.get?_push_of_some _ (I.stays _ _ q)⟩
 ·rw [q]; exact ⟨fun z => F.1 (eZ z), _, Heap.get?_push_size _ rfl⟩
 ·rw [q]; exact ⟨ha, _, Heap.get?_push_of_some _ hpe⟩
open Classical in
theorem aH.known {α β γ : Type} {R : Heap -> List Addr -> β -> α -> Prop} {Q : β -> Shared -> Prop} {x : aI γ} {f : γ -> aG -> aI α} (P : aH S R c g mv ρ s Q E (x.bind f)) :
  aH S R c g mv ρ s Q E (x.bind fun a σ => if x = .ok a σ then f a σ else .stuck) := by
 cases x with
 | stuck => exact P
 | exc w => exact P
 | ok a σ => simp only [aI.bind, if_true] at P ⊢; exact P
theorem aV.pure (R : aV S g ρ mv ρv) : aV S g ρ' mv ρv.pure := fun i x v hi e => cV (f := aB.d) e fun d e q => aL e fun w e1 e2 => (R i x _ hi e1).elim fun pv z => ⟨pv, z.1, q ▸ fO z.2 e2⟩
theorem aEE {i : Nat} {y : Str} (h : bP[i]? = some y) : y ≠ ("__debug__" : Str) := by
 have hd : ("__debug__" : Str) ∉ bP := by decide +kernel
 exact fun z => hd (z ▸ List.mem_of_getElem? h)
theorem aFS {sc cs : Scope} {y : Str} (h : kF sc cs y = true) : cs.kind = .function /\ (∀ x ∈ cs.names, x.2 = .free -> sc.names.lookup x.1 = some .cell) /\ (∀ x ∈ cs.names, x.2 = .local -> cs.names.lookup x.1 = some .local) := by
 have z := aA (aA h).1
 have hyl := eq_of_beq (aA h).2
 refine ⟨eq_of_beq z.1, fun x hx q => ?_, fun x hx q => ?_⟩
 ·exact iB (aA (List.all_eq_true.mp z.2 x hx)).2 (fun w => absurd q (bne_iff_ne.mp w)) fun w => eq_of_beq (aA w).1
 ·exact iB (aA (aA (List.all_eq_true.mp z.2 x hx)).1).2 (fun w => iB w (fun w => absurd q (bne_iff_ne.mp w)) fun w => eq_of_beq w ▸ hyl) fun w => eq_of_beq (aA w).2
theorem mB.of {kd : IK} {m : aK} {d : PyData} {σ₁ : aG} {items : List PyData} (q : aP FT hb n m ρv σ = .ok (.d d) σ₁) (hi : fY hb kd d = some items) (hp : 0 < s.toks) : mB S hb n kd m c g mv ρ ρv σ s E := fun hh => by
 rw [q]; exact ⟨hp, fun g₁ ρ₁ b h₁ tk t kg kr I₁ r => hh d σ₁ items g₁ ρ₁ b h₁ tk q hi t kg kr I₁ r⟩
theorem mB.exc {kd : IK} {m : aK} {w : Str} {α β : Type} {R : Heap -> List Addr -> β -> α -> Prop} {Q : β -> Shared -> Prop} (q : aP FT hb n m ρv σ = .exc w) (P : aH S R c g mv ρ s Q E (.exc w)) : mB S hb n kd m c g mv ρ ρv σ s E := fun _ => by rw [q]; exact P
theorem aH.idle {α β : Type} {R : Heap -> List Addr -> β -> α -> Prop} {Q : β -> Shared -> Prop} {x : aI α} (P : aH S R c g mv ρ s Q E x) : aH S R c g mv ρ s (fun _ _ => True) E x := by
 cases x with
 | ok a σ => exact ⟨P.1, fun _ _ _ _ _ _ _ _ _ _ => trivial⟩
 | _ => exact P
theorem aKw {use : Option (Value -> Sem Unit)} {Qc : Value -> Shared -> Prop} {m : Bool} {elt itx : Expr} {y : Str} {px : Pos} {ifs : List Expr} {cs : Scope} {cl : List (Str × Addr)} {pos : Pos} {x₀ : Nat} {ex it : aK} {cond : Option aK} {kd : IK} {d : PyData} {σ₁ : aG}
  (W : Wd S) (ihE : ∀ m, m < n -> SE S hb m) (ihT : ∀ m, m < n -> ST S hb m) (iE : SE S hb n) (hx : bP[x₀]? = some y) (hco : kF c.env.scope cs y = true) (hcl : ∀ x a, c.env.cells.lookup x = some a -> (x, NameKind.free) ∈ cs.names -> cl.lookup x = some a) (hkd : kd ≠ .enum) (hit : kE k c.env.scope kd itx it = true) (hc1 : aR k (inner c.env.scope cs) elt ex = true) (hc2 : hY k (inner c.env.scope cs) ifs.head? cond = true) (hifs : ifs.length <= 1)
  (I : aF S c g s.heap mv ρ σ) (R : aV S g ρ mv ρv) (H : aX hb n A c g) (q : aP FT hb n it ρv σ = .ok (.d d) σ₁)
  (P : aH S (VR S) c g mv ρ s (fun _ _ => True) E ((lift ((fY hb kd d).bind fun is => aU (is.length <= 1000) (some is)) σ₁).bind fun is σ => (cY FT hb n ex x₀ cond is ρv σ).bind (lH m)))
  (hfin : ∀ g' ρ' h tk v σ' C D mm, ((lift ((fY hb kd d).bind fun is => aU (is.length <= 1000) (some is)) σ₁).bind fun is σ => (cY FT hb n ex x₀ cond is ρv σ).bind (lH m)) = .ok v σ' -> s.toks <= tk -> g.StaysIn g' -> aQ ρ ρ' -> aF S (c.hide [C]) g' h mv ρ' σ' -> C ∉ c.hid ρ' -> c.bg.get? C = none -> h.Ns C mm -> VR S g' ρ' (.ref D) v ->
   compPost (model S.prog S.w) A E use Qc (.ref D) C (.ok .next) { s with heap := h, toks := tk }) :
  wpAny (model S.prog S.w) A (eval itx c.env) (fun x s₁ => wpAny (model S.prog S.w) A (pyIter x) (fun it s₂ => wpAny (model S.prog S.w) A (newList []) (fun acc s₃ => wpAny (model S.prog S.w) A (newFunctionEnv cs c.env.globals cl [] c.env.qual none .none (some c.env)) (fun cenv s₄ =>
   codeAny (model S.prog S.w) A (.compStart (.ListComp elt [⟨.Name y px, itx, ifs, 0⟩] cs pos) 0 it acc { cenv with scope := relabel cs c.env }) (compPost (model S.prog S.w) A E use Qc acc cenv.locals) s₄) E s₃) E s₂) E s₁) E s := by
 refine aH.liftB_r P fun items hi P' => aL hi fun items' hi' hl => bO hl fun hlen hl => ?_
 obtain rfl := Option.some.inj hl
 refine aAR W iE hit hkd I R H (mB.of q hi' P.pos) fun d' σ₂ items' g₁ ρ₁ h₁ tk I' z hi'' t kg kr I₁ src => ?_
 obtain ⟨z1, rfl⟩ := aI.ok.inj (q.symm.trans z)
 obtain rfl := aB.d.inj z1
 obtain rfl := Option.some.inj (hi'.symm.trans hi'')
 refine aBW (s := { s with heap := h₁, toks := tk }) (Rr := VR S) (Qp := fun _ _ => True) ihE ihT hx (aEE hx) hco hcl hc1 hc2 hifs (Nat.le_trans hlen (by decide)) I₁ src (R.mono kg kr) (H.mono kg) (aH.shift P' t kg kr).known
  fun C D g' ρ' σ' ds h tk' vs mm (t' : tk <= tk') kg' kr' I' aC hn aD hCD hp hr P₂ => ?_
 split at P₂
 case isFalse => exact fP P₂
 rename_i heq
 obtain ⟨g'', ρ'', v, σ'', kg'', kr'', I'', hCm, rv, hv⟩ := aCd (m := m) I' aC aD hCD hp hr
 refine hfin g'' ρ'' h tk' v σ'' C D mm ?_ (Nat.le_trans t t') (cH kg (cH kg' kg'')) (kr.trans (kr'.trans kr'')) I'' hCm aC.bn hn rv
 rw [hi]
 show (cY FT hb n ex x₀ cond _ ρv _).bind (lH m) = _
 rw [heq]
 exact hv
theorem aKx {use : Option (Value -> Sem Unit)} {Qc : Value -> Shared -> Prop} {m : Bool} {elt itx : Expr} {y : Str} {px : Pos} {ifs : List Expr} {cs : Scope} {cl : List (Str × Addr)} {pos : Pos} {x₀ : Nat} {ex it : aK} {cond : Option aK} {kd : IK} {lc : Nat} {σ₁ : aG}
  (ihE : ∀ m, m < n -> SE S hb m) (ihT : ∀ m, m < n -> ST S hb m) (iE : SE S hb n) (hx : bP[x₀]? = some y) (hco : kF c.env.scope cs y = true) (hcl : ∀ x a, c.env.cells.lookup x = some a -> (x, NameKind.free) ∈ cs.names -> cl.lookup x = some a) (hit : kE k c.env.scope kd itx it = true) (hc1 : aR k (inner c.env.scope cs) elt ex = true) (hc2 : hY k (inner c.env.scope cs) ifs.head? cond = true) (hifs : ifs.length <= 1)
  (I : aF S c g s.heap mv ρ σ) (R : aV S g ρ mv ρv) (H : aX hb n A c g) (q : aP FT hb n it ρv σ = .ok (.loc lc) σ₁)
  (P : aH S (VR S) c g mv ρ s (fun _ _ => True) E ((lift (oB kd m σ₁ lc) σ₁).bind fun is σ => (cY FT hb n ex x₀ cond is ρv.pure []).bind fun ds _ => .ok (.d (.list ds)) σ))
  (hfin : ∀ g' ρ' h tk v σ' C D mm, ((lift (oB kd m σ₁ lc) σ₁).bind fun is σ => (cY FT hb n ex x₀ cond is ρv.pure []).bind fun ds _ => .ok (.d (.list ds)) σ) = .ok v σ' -> s.toks <= tk -> g.StaysIn g' -> aQ ρ ρ' -> aF S (c.hide [C]) g' h mv ρ' σ' -> C ∉ c.hid ρ' -> c.bg.get? C = none -> h.Ns C mm -> VR S g' ρ' (.ref D) v ->
   compPost (model S.prog S.w) A E use Qc (.ref D) C (.ok .next) { s with heap := h, toks := tk }) :
  wpAny (model S.prog S.w) A (eval itx c.env) (fun x s₁ => wpAny (model S.prog S.w) A (pyIter x) (fun it s₂ => wpAny (model S.prog S.w) A (newList []) (fun acc s₃ => wpAny (model S.prog S.w) A (newFunctionEnv cs c.env.globals cl [] c.env.qual none .none (some c.env)) (fun cenv s₄ =>
   codeAny (model S.prog S.w) A (.compStart (.ListComp elt [⟨.Name y px, itx, ifs, 0⟩] cs pos) 0 it acc { cenv with scope := relabel cs c.env }) (compPost (model S.prog S.w) A E use Qc acc cenv.locals) s₄) E s₃) E s₂) E s₁) E s := by
 refine aH.liftB_r P fun xs hxs P' => bO hxs fun hkm e => aL e fun xs' hst e => bO e fun hlen e => ?_
 obtain rfl := Option.some.inj e
 obtain ⟨rfl, rfl⟩ := hkm
 have pos0 := P.pos
 cases k with
 | zero => exact bK hit
 | succ k =>
 refine iE (show aR k c.env.scope itx it = true from hit) I R H ?_
 rw [q]
 refine ⟨pos0, fun g₁ ρ₁ pv h₁ tk t kg kr I₁ rv => ?_⟩
 obtain ⟨a, ha, rfl⟩ := rv
 obtain ⟨vs, hp, hr⟩ := I₁.st _ _ _ (sM hst) ha
 have If := I₁.frz
 have ham : a ∉ (c.frz h₁ ρ₁).mut [] := fun z => (List.nodup_append.mp I₁.nd).2.2 a (mR ha) a z rfl
 have HA : aX hb n A (c.frz h₁ ρ₁) g₁ := ⟨H.depth, H.units, H.guards, H.frames, H.fl.more, (H.mono kg).hand⟩
 refine aLr (s := { s with heap := h₁, toks := tk }) (c := c.frz h₁ ρ₁) (hb := hb) (n := n) hp hr If HA ham fun h₂ It k₂ src => ?_
 have P₂ : aH S (VR S) (c.frz h₁ ρ₁) g₁ mv [] { s with heap := h₂, toks := tk } (fun _ _ => True) E ((cY FT hb n ex x₀ cond xs' ρv.pure []).bind fun ds σ => .ok (.d (.list ds)) σ) := by
  cases z : cY FT hb n ex x₀ cond xs' ρv.pure [] with
  | stuck => rw [z] at P'; exact fP P'
  | ok ds σ₃ => exact ⟨Nat.lt_of_lt_of_le pos0 t, fun _ _ _ _ _ _ _ _ _ _ => trivial⟩
  | exc wy =>
   rw [z] at P'
   exact ⟨Nat.lt_of_lt_of_le pos0 t, fun e h' tk' t' fl => P'.2 e h' tk' (Nat.le_trans t t') ((fA.warm (c := c) fl (fun a ha => List.mem_append_right _ ha) (oZ I₁)).mono kg)⟩
 refine aBW (s := { s with heap := h₂, toks := tk }) (c := c.frz h₁ ρ₁) (Rr := VR S) (Qp := fun _ _ => True) ihE ihT hx (aEE hx) hco hcl hc1 hc2 hifs (Nat.le_trans hlen (by decide)) (If.grown k₂) src (R.mono kg kr).pure HA P₂.known
  fun C D g' ρ' σ' ds h tk' vs mm (t' : tk <= tk') kg' kr' I' aC hn aD hCD hp hr P₃ => ?_
 split at P₃
 case isFalse => exact fP P₃
 rename_i heq
 have I0 := I'.trunc (ρ := []) kr'
 have hid0 : ∀ a, a ∈ (c.frz h₁ ρ₁).hid [] -> a ∈ (c.frz h₁ ρ₁).hid ρ' := fun a z => bJ.mpr ((bJ.mp z).imp aAb id)
 obtain ⟨g'', ρ'', v, σ'', kg'', kr'', I'', hCm, rv, hv⟩ := aCd (m := false) I0 ⟨fun z => aC.hid (hid0 _ z), aC.gn, aC.bn, aC.live⟩ ⟨fun z => aD.hid (hid0 _ z), aD.gn, aD.bn, aD.live⟩ hCD hp hr
 obtain ⟨rfl, rfl⟩ := aI.ok.inj (show (aI.ok (aB.d (.list ds)) _ : aI aB) = _ from hv)
 obtain rfl := List.length_eq_zero_iff.mp I''.len
 refine hfin g'' ρ₁ h tk' (.d (.list ds)) σ₁ C D mm ?_ (Nat.le_trans t t') (cH kg (cH kg' kg'')) kr (I₁.unfrz (cH kg' kg'') I'') (fun z => aC.hid (hid0 _ (yZ.mpr z))) (gT (oZ I₁) aC.bn) hn rv
 rw [hxs]
 show (cY FT hb n ex x₀ cond _ ρv.pure []).bind _ = _
 rw [heq]; rfl
theorem aDW {use : Option (Value -> Sem Unit)} {Qc : Value -> Shared -> Prop} {m : Bool} {elt itx : Expr} {y : Str} {px ps : Pos} {ifs : List Expr} {cs : Scope} {pos : Pos} {x₀ : Nat} {ex it : aK} {cond : Option aK} {kd : IK}
  (W : Wd S) (ihE : ∀ m, m < n + 1 -> SE S hb m) (ihT : ∀ m, m < n + 1 -> ST S hb m) (hx : bP[x₀]? = some y) (hco : kF c.env.scope cs y = true) (hkd : kd ≠ .enum) (hit : kE k c.env.scope kd itx it = true)
  (hc1 : aR k (inner c.env.scope cs) elt ex = true) (hc2 : hY k (inner c.env.scope cs) ifs.head? cond = true) (hifs : ifs.length <= 1) (hset : jQ itx = false)
  (I : aF S c g s.heap mv ρ σ) (R : aV S g ρ mv ρv) (H : aX hb n A c g) (P : aH S (VR S) c g mv ρ s (fun _ _ => True) E (aP FT hb (n + 1) (.comp m ex x₀ kd it cond) ρv σ))
  (hfin : ∀ g' ρ' h tk v σ' C D mm, aP FT hb (n + 1) (.comp m ex x₀ kd it cond) ρv σ = .ok v σ' -> s.toks <= tk -> g.StaysIn g' -> aQ ρ ρ' -> aF S (c.hide [C]) g' h mv ρ' σ' -> C ∉ c.hid ρ' -> c.bg.get? C = none -> h.Ns C mm -> VR S g' ρ' (.ref D) v ->
   compPost (model S.prog S.w) A E use Qc (.ref D) C (.ok .next) { s with heap := h, toks := tk }) :
  wpAny (model S.prog S.w) A (comprehension (.ListComp elt [⟨.Name y px, itx, ifs, 0⟩] cs pos) cs c.env ps (newList []) false (eval itx c.env) use) Qc E s := by
 have hck := aFS hco
 obtain ⟨cl, hclos, hcl⟩ := aFJ (env := c.env) (scope := cs) fun x hxm hxf => by
  have hk : c.env.kindOf x.1 = some .cell := hck.2.1 x hxm hxf
  cases ho : c.own with
  | true => exact (I.cl ho x.1 hk).elim fun a q => ⟨a, q.1⟩
  | false => exact (I.cf ho x.1 hk).elim fun a q => ⟨a, q.1⟩
 refine wpAny_comprehension_free (use := use) rfl (aC9 hset) hclos hck.1 hck.2.2 ?_
 have ihE' : ∀ m, m < n -> SE S hb m := fun m hm => ihE m (Nat.lt_succ_of_lt hm)
 have ihT' : ∀ m, m < n -> ST S hb m := fun m hm => ihT m (Nat.lt_succ_of_lt hm)
 have iE : SE S hb n := ihE n (Nat.lt_succ_self n)
 clear ihE ihT hclos hck
 have pos0 := P.pos
 have ev : aP FT hb (n + 1) (.comp m ex x₀ kd it cond) ρv σ = (aP FT hb n it ρv σ).bind fun v σ => v.on
   (fun d => (lift ((fY hb kd d).bind fun is => aU (is.length <= 1000) (some is)) σ).bind fun is σ => (cY FT hb n ex x₀ cond is ρv σ).bind (lH m))
   (fun l => (lift (oB kd m σ l) σ).bind fun is σ => (cY FT hb n ex x₀ cond is ρv.pure []).bind fun ds _ => .ok (.d (.list ds)) σ) .stuck := rfl
 rw [ev] at P hfin
 clear ev
 cases q : aP FT hb n it ρv σ with
 | stuck => rw [q] at P; exact fP P
 | exc wy =>
  rw [q] at P
  exact aAR W iE hit hkd I R H (mB.exc q P) fun d σ₁ items g₁ ρ₁ h₁ tk I' z => by rw [q] at z; cases z
 | ok v σ₁ =>
  rw [q] at P hfin
  cases v with
  | d d => exact aKw W ihE' ihT' iE hx hco hcl hkd hit hc1 hc2 hifs I R H q P hfin
  | loc lc => exact aKx ihE' ihT' iE hx hco hcl hit hc1 hc2 hifs I R H q P hfin
  | _ => exact fP P
theorem aKv {Q : Value -> Shared -> Prop} {m : Bool} {elt itx : Expr} {y : Str} {px : Pos} {ifs : List Expr} {cs : Scope} {pos : Pos} {x₀ : Nat} {ex it : aK} {cond : Option aK} {kd : IK}
  (W : Wd S) (ihE : ∀ m, m < n + 1 -> SE S hb m) (ihT : ∀ m, m < n + 1 -> ST S hb m) (hx : bP[x₀]? = some y) (hco : kF c.env.scope cs y = true) (hkd : kd ≠ .enum) (hit : kE k c.env.scope kd itx it = true)
  (hc1 : aR k (inner c.env.scope cs) elt ex = true) (hc2 : hY k (inner c.env.scope cs) ifs.head? cond = true) (hifs : ifs.length <= 1) (hset : jQ itx = false)
  (I : aF S c g s.heap mv ρ σ) (R : aV S g ρ mv ρv) (H : aX hb n A c g) (P : aH S (VR S) c g mv ρ s Q E (aP FT hb (n + 1) (.comp m ex x₀ kd it cond) ρv σ)) :
  wpAny (model S.prog S.w) A (eval (.ListComp elt [⟨.Name y px, itx, ifs, 0⟩] cs pos) c.env) Q E s := by
 rw [eval_ListComp]
 refine aDW (use := none) (m := m) W ihE ihT hx hco hkd hit hc1 hc2 hifs hset I R H P.idle fun g' ρ' h tk v σ' C D mm e t kg kr I' hC hb' hn rv => ⟨mm, hn, fun h' hs => ?_⟩
 rw [e] at P
 exact P.2 g' ρ' _ h' tk t kg kr (I'.letgo hC hb' hs) rv
theorem aKh {Q : Flow -> Shared -> Prop} {m : Bool} {elt itx : Expr} {y z : Str} {px pz : Pos} {ifs : List Expr} {cs : Scope} {pos spos : Pos} {x₀ i : Nat} {ex it : aK} {cond : Option aK} {kd : IK}
  (W : Wd S) (ihE : ∀ m, m < n + 2 -> SE S hb m) (ihT : ∀ m, m < n + 2 -> ST S hb m) (hz : bP[i]? = some z) (hv : cP c.env.scope z = true) (ho : c.own = true)
  (hcE : aR (k + 1) c.env.scope (.ListComp elt [⟨.Name y px, itx, ifs, 0⟩] cs pos) (.comp m ex x₀ kd it cond) = true)
  (hx : bP[x₀]? = some y) (hco : kF c.env.scope cs y = true) (hkd : kd ≠ .enum) (hit : kE k c.env.scope kd itx it = true)
  (hc1 : aR k (inner c.env.scope cs) elt ex = true) (hc2 : hY k (inner c.env.scope cs) ifs.head? cond = true) (hifs : ifs.length <= 1) (hset : jQ itx = false)
  (I : aF S c g s.heap mv ρ σ) (R : aV S g ρ mv ρv) (H : aX hb (n + 1) A c g) (P : aZ S c g ρ s Q E (dD FT hb (n + 2) (.asg i (.comp m ex x₀ kd it cond)) ρv σ)) :
  wpAny (model S.prog S.w) A (exec (.Assign [.Name z pz] (.ListComp elt [⟨.Name y px, itx, ifs, 0⟩] cs pos) spos) c.env) Q E s := by
 obtain ⟨b, hsw⟩ : ∃ b : Bool, swapsWith (.ListComp elt [⟨.Name y px, itx, ifs, 0⟩] cs pos) (some (.Name z pz)) spos.line c.env = pure b := ⟨_, rfl⟩
 cases b
 ·exact aDV (ihE (n + 1) (Nat.lt_succ_self _)) hz hv hsw hcE ho I R H P
 rw [exec_Assign_Name_used _ _ _ _ hsw]
 refine wpAny_bind (wpAny_standAt (wpAny_bind ?_))
 show wpAny _ A (do let _ <- comprehension (.ListComp elt [⟨.Name y px, itx, ifs, 0⟩] cs pos) cs c.env _ (newList []) false (eval itx c.env) (some (assign (.Name z pz) c.env))) _ _ s
 refine wpAny_bind (wpAny_mono (aDW (use := some (assign (.Name z pz) c.env)) (Qc := fun _ s' => Q .next s') (m := m) W (fun m hm => ihE m (Nat.lt_succ_of_lt hm)) (fun m hm => ihT m (Nat.lt_succ_of_lt hm)) hx hco hkd hit hc1 hc2 hifs hset I R (H.le (Nat.le_succ n)) (aZ.bindE P fun _ _ _ _ _ _ _ _ _ _ _ _ _ _ => trivial) fun g' ρ' h tk v σ' C D mm e t kg kr I' hC hb' hn rv => ?_)
  (fun _ s' hq => wpAny_pure (wpAny_pure hq)) fun _ _ e => e)
 have P : aZ S c g ρ s Q E ((aP FT hb (n + 1) (.comp m ex x₀ kd it cond) ρv σ).bind fun v σ => .ok (.next (ρv.set i v)) σ) := P
 rw [e] at P
 have hCm : C ∉ (c.hide [C]).mut ρ' := fun q => hC (bJ.mpr (.inl q))
 refine wpAny_with_toks (n := tk) (s := { s with heap := h, toks := tk }) (Nat.le_refl _) (wpAny_assign_Name (kS (s := { s with heap := h, toks := tk }) (c := (c.hide [C]).cold h ρ' []) (I'.cold (l := []) (fun _ h => nomatch h)) hv (.inl ho) fun h₂ tk₂ I₂ (kt : tk <= tk₂) => ?_))
 have I₃ : aF S (c.hide [C]) g' h₂ (upd mv z (.ref D)) ρ' σ' := I'.warmX (c := c.hide [C]) I₂ (fun a ha => List.mem_append_right _ ha) (lC (c := c.hide [C]) I')
 exact ⟨mm, hn.at' fun o q => I₂.bgs C o (hideAll_get _ q hCm), fun h' hs => aZ.giveN (s := s) (h' := h') (tk := tk₂) P (Nat.le_trans t kt) kg kr (I₃.letgo hC hb' hs) ((R.mono kg kr).set hz rv)⟩
end
end PQ
namespace PQ
noncomputable def fnp (fd : FuncData) (ps : List Str) : Bool := fd.closure.isEmpty && (fd.scope.kind == .function && (!fd.scope.isCoroutine && (!fd.scope.isGenerator &&
  (fd.params.posonlyargs.isEmpty && (fd.params.vararg.isNone && (fd.params.kwonlyargs.isEmpty && (fd.params.kwarg.isNone && (fd.params.args.map (·.arg) == ps && aAl fd.defaults))))))))
theorem yX {fd : FuncData} {ps : List Str} {P : Prop} (h : fnp fd ps = true) (hn : ps.Nodup) (z : fd.closure = [] -> fd.scope.kind = .function -> fd.scope.isCoroutine = false -> fd.scope.isGenerator = false -> (∀ (s : Shared) (vals : List Value), vals.length = ps.length -> BindsTo s fd ⟨vals, []⟩ (ps.zip vals)) -> P) : P := by
 have g1 := aA h; have g2 := aA g1.2; have g3 := aA g2.2; have g4 := aA g3.2; have g5 := aA g4.2; have g6 := aA g5.2; have g7 := aA g6.2; have g8 := aA g7.2; have g9 := aA g8.2
 have ea := eq_of_beq g9.1
 subst ea
 exact z (List.isEmpty_iff.mp g1.1) (eq_of_beq g2.1) (fE g3.1) (fE g4.1) fun s vals hl => aBK (List.isEmpty_iff.mp g5.1) (Option.isNone_iff_eq_none.mp g6.1) (List.isEmpty_iff.mp g7.1) (Option.isNone_iff_eq_none.mp g8.1) hn (aC5 g9.2) (hl.trans (List.length_map ..))
noncomputable def aCB (K : Frag) (f : Addr) : Bool := cM (K.lookup f) fun o => cM (uT o.data) fun fd => onB fd.body (fun ss => fL ss fun a r => on1 r fun b => vZ "fields" "fields" a && vZ "types" "types" b) &&
  (fnp fd [("self" : Str), "fields", "types"] && (codeIn K fd.code fd.qualname && (fd.scope.names.lookup ("self" : Str) == some NameKind.local && (fd.scope.names.lookup ("fields" : Str) == some NameKind.local && fd.scope.names.lookup ("types" : Str) == some NameKind.local))))
noncomputable def aEy (K : Frag) (C : Addr) : Bool := cM (findIn K (.ref C) "__init__") fun v => cM v fun v => cM (oN v) fun f => (typeIn K (.ref f) == some (.type "function") && aCB K f) &&
 (makesIn K C && (keepIn K (.ref C) && (plainOver K C && (takerIn K C "fields" == some none && (takerIn K C "types" == some none && ((clsIn K C).any (·.hasDict) && findIn K (.ref C) "__setattr__" == some (some (.builtin "object.__setattr__"))))))))
noncomputable def wI (K : Frag) : Bool := cM (iN K "Tongue") (aEy K)
section
variable {S : SP} {c : Cx} {g : Heap} {mv : Str -> Option Value} {ρ : List Addr} {σ : aG} {A : Around} {E : Value -> Shared -> Prop} {s : Shared} {hb : Bool} {n k : Nat} {ρv : aJ}
theorem aD2 {K : Frag} {C L x dx : Addr} {h₀ : Heap} {m : Str -> Option Value} {es : List DictEntry} {nn : Nat} {name : Str} {v : Value} {Q : Unit -> Shared -> Prop} (F : Fr h₀ L s.heap m) (X : K.In s.heap) (hp : plainOver K C = true) (ht : takerIn K C name = some none) (hh : (clsIn K C).any (·.hasDict) = true)
  (hs : findIn K (.ref C) "__setattr__" = some (some (.builtin "object.__setattr__")))
  (N : News h₀ L s.heap [(x, instObj C dx), (dx, { cls := .type "dict", data := .dict es.toArray nn })]) (hxd : x ≠ dx) (hl : (lookIn name { cls := .type "dict", data := .dict es.toArray nn }).isSome = true)
  {es' : List DictEntry} {nn' : Nat} (e : Obj.putName name (PyData.keyHash S.w.params name) (.str name (s.toks + 1)) v { cls := .type "dict", data := .dict es.toArray nn } = { cls := .type "dict", data := .dict es'.toArray nn' }) (hz : es'.length <= 1000)
  (h : ∀ h', Fr h₀ L h' m -> News h₀ L h' [(x, instObj C dx), (dx, { cls := .type "dict", data := .dict es'.toArray nn' })] -> Q () { s with heap := h', toks := s.toks + 1 + 1 }) :
  wpAny (model S.prog S.w) A (setAttr (.ref x) name v) Q E s := by
 have hx := (N _ (.head _)).1
 have hd := (N (dx, _) (.tail _ (.head _))).1
 have I : InstAt s.heap x (instObj C dx) C (some { cls := .type "dict", data := .dict es.toArray nn }) := ⟨hx, rfl, rfl, hd⟩
 refine set_plain X I hs ?_
 exact osa_dict (pre := [(x, instObj C dx)]) (post := []) (s := { s with toks := s.toks + 1 }) F N X I rfl hp ht hh hl (fun p hp => by rw [List.mem_singleton.mp hp]; exact hxd) (fun p hp => nomatch hp) e rfl hz fun h' F' N' => h h' F' N'
theorem aHj {K : Frag} {f : Addr} {P : Prop} (h : aCB K f = true) (z : ∀ oc od fd sl p1 p2 p3 p4 p5 p6 p7 p8, K.lookup f = some ⟨oc, od, .func fd, sl⟩ -> fd.body = .stmts [.Assign [.Attribute (.Name "self" p1) "fields" p2] (.Name "fields" p3) p4, .Assign [.Attribute (.Name "self" p5) "types" p6] (.Name "types" p7) p8] ->
  fnp fd [("self" : Str), "fields", "types"] = true -> codeIn K fd.code fd.qualname = true -> fd.scope.names.lookup ("self" : Str) = some NameKind.local -> fd.scope.names.lookup ("fields" : Str) = some NameKind.local -> fd.scope.names.lookup ("types" : Str) = some NameKind.local -> P) : P :=
 (dB h).elim fun o h => (dB h.2).elim fun fd h2 => by
  have ho := h.1
  have hd := uU h2.1
  obtain ⟨oc, od, dt, sl⟩ := o
  obtain rfl : dt = .func fd := hd
  have g := aA h2.2
  clear h h2
  have g1 := aA g.2; have g2 := aA g1.2; have g3 := aA g2.2; have g4 := aA g3.2
  refine vP (G := fun b => fd.body = b -> P) g.1 (fun ss h => gF (G := fun ss => fd.body = .stmts ss -> P) h fun a r h => gB (G := fun r => fd.body = .stmts (a :: r) -> P) h fun b h =>
   aAT (G := fun a => fd.body = .stmts [a, b] -> P) (aA h).1 fun p1 p2 p3 p4 => aAT (G := fun b => fd.body = .stmts [_, b] -> P) (aA h).2 fun p5 p6 p7 p8 hb => ?_) rfl
  exact z oc od fd sl p1 p2 p3 p4 p5 p6 p7 p8 ho hb g1.1 g2.1 (eq_of_beq g3.1) (eq_of_beq g4.1) (eq_of_beq g4.2)
theorem aDK {nm : Str} {hsh : Int} {k v : Value} : Obj.putName nm hsh k v { cls := .type "dict", data := .dict ([] : List DictEntry).toArray 0 } = { cls := .type "dict", data := .dict [⟨hsh, k, v⟩].toArray 1 } := rfl
theorem aH9 {h1 : Int} {t1 : Tok} {v1 : Value} {n : Nat} : (lookIn "types" { cls := .type "dict", data := .dict [⟨h1, .str "fields" t1, v1⟩].toArray n }).isSome = true := rfl
theorem aJD {h1 h2 : Int} {t1 t2 : Tok} {v1 v2 : Value} {n : Nat} : Obj.putName "types" h2 (.str "types" t2) v2 { cls := .type "dict", data := .dict [⟨h1, .str "fields" t1, v1⟩].toArray n } = { cls := .type "dict", data := .dict [⟨h1, .str "fields" t1, v1⟩, ⟨h2, .str "types" t2, v2⟩].toArray (n + 1) } := by
 rfl
theorem aCg {α β : Type} {f : α -> β} {p : α -> Bool} {a b : α} : (List.find? p [a, b]).map f = bif p a then some (f a) else bif p b then some (f b) else none := by
 rw [List.find?_cons, List.find?_cons]
 cases p a <;> cases p b <;> rfl
theorem aIW {h : Heap} {d : Addr} {h1 h2 : Int} {t1 t2 : Tok} {v1 v2 : Value} {n : Nat} (e : h.get? d = some { cls := .type "dict", data := .dict [⟨h1, .str "fields" t1, v1⟩, ⟨h2, .str "types" t2, v2⟩].toArray n }) :
  h.Ns d (fun x => bif ("fields" : Str) == x then some v1 else bif ("types" : Str) == x then some v2 else none) := by
 refine ⟨_, _, _, e, rfl, fun en hen => ?_, fun x => ?_⟩
 ·exact (List.mem_cons.mp (Array.mem_toList_iff.mpr hen)).elim (fun q => ⟨_, _, congrArg DictEntry.key q⟩) fun hen => ⟨_, _, congrArg DictEntry.key (List.mem_singleton.mp hen)⟩
 ·unfold nsFind findBy
  rw [<- Array.find?_toList]
  exact aCg
theorem aLP {C x dx : Addr} {hh : Heap} {env : Env} {p1 p2 : Value} {m : Str -> Option Value} {q1 q2 q3 q4 q5 q6 q7 q8 : Pos} {s : Shared} {Q : Flow -> Shared -> Prop} (X : S.K.In hh) (t3 : plainOver S.K C = true) (t4 : takerIn S.K C "fields" = some none) (t5 : takerIn S.K C "types" = some none) (t6 : (clsIn S.K C).any (·.hasDict) = true)
  (t7 : findIn S.K (.ref C) "__setattr__" = some (some (.builtin "object.__setattr__"))) (hxd : x ≠ dx) (ek : env.scope.kind = .function) (l1 : env.kindOf "self" = some .local) (l2 : env.kindOf "fields" = some .local) (l3 : env.kindOf "types" = some .local)
  (m1 : m "self" = some (.ref x)) (m2 : m "fields" = some p1) (m3 : m "types" = some p2) (F1 : Fr hh env.locals s.heap m) (N1 : News hh env.locals s.heap [(x, instObj C dx), (dx, { cls := .type "dict", data := .dict ([] : List DictEntry).toArray 0 })])
  (h : ∀ h' mm, hh.StaysIn h' -> h'.get? x = some (instObj C dx) -> h'.Ns dx mm -> mm "types" = some p2 -> Q .next { s with heap := h', toks := s.toks + 4 }) :
  wpAny (model S.prog S.w) A (execs [.Assign [.Attribute (.Name "self" q1) "fields" q2] (.Name "fields" q3) q4, .Assign [.Attribute (.Name "self" q5) "types" q6] (.Name "types" q7) q8] env) Q E s := by
 refine wpAny_execs_cons (plainObj_wpAny_Assign_Attribute (wpAny_Name (wpAny_loadName_local ek l2 F1.ns m2 (wpAny_Name (wpAny_loadName_local ek l1 F1.ns m1 ?_) (by decide))) (by decide)) rfl)
 refine aD2 F1 (fun b o e => F1.keep b o (X b o e)) t3 t4 t6 t7 N1 hxd rfl aDK (Nat.le_of_ble_eq_true rfl) fun h₂ F2 N2 => ?_
 refine wpAny_execs_cons (plainObj_wpAny_Assign_Attribute (wpAny_Name (wpAny_loadName_local ek l3 F2.ns m3 (wpAny_Name (wpAny_loadName_local ek l1 F2.ns m1 ?_) (by decide))) (by decide)) rfl)
 refine aD2 (s := { s with heap := h₂, toks := s.toks + 1 + 1 }) F2 (fun b o e => F2.keep b o (X b o e)) t3 t5 t6 t7 N2 hxd aH9 aJD (Nat.le_of_ble_eq_true rfl) fun h₃ F3 N3 => ?_
 exact wpAny_execs_nil (h h₃ _ (fun b o e => F3.keep b o e) (N3 _ (.head _)).1 (aIW (N3 (dx, _) (.tail _ (.head _))).1) rfl)
theorem aLQ {C : Addr} {p1 p2 : Value} {Q : Value -> Shared -> Prop} (X : S.K.In s.heap) (hlim : s.heap.NoLimit) (hC : aEy S.K C = true) (hd : A.depth + 1 < recursionLimit)
  (h : ∀ x dx h' tk m, s.heap.StaysIn h' -> s.heap.get? x = none -> s.heap.get? dx = none -> h'.get? x = some (instObj C dx) -> h'.Ns dx m -> m "types" = some p2 -> s.toks <= tk -> Q (.ref x) { s with heap := h', toks := tk }) :
  wpAny (model S.prog S.w) A (call (.ref C) [p1, p2]) Q E s :=
 (dB hC).elim fun v hC => (dB hC.2).elim fun v' hC2 => (dB hC2.2).elim fun f hC3 => by
 obtain ⟨t8, _⟩ := hC
 obtain ⟨rfl, _⟩ := hC2
 obtain rfl := sZ hC3.1
 have g := aA hC3.2
 have g1 := aA g.2; have g2 := aA g1.2; have g3 := aA g2.2; have g4 := aA g3.2; have g5 := aA g4.2; have g6 := aA g5.2
 have t9 := eq_of_beq (aA g.1).1
 have hI := (aA g.1).2
 clear hC3 g
 refine aHj hI fun oc od fd sl q1 q2 q3 q4 q5 q6 q7 q8 hK hb hp hcode e1 e2 e3 => yX hp (by decide) fun hcl hkind hco hgen hB => ?_
 obtain ⟨hh, gg, dr, tt, os⟩ := s
 dsimp only at *
 refine wpAny_call (make_core (rest := [p1, p2]) (kw := []) (makes_of X g1.1) (looks_findIn X t8) (fun self => bind_fn X self t9) (.inl rfl) ?_)
 have k2 : hh.StaysIn ((hh.push emptyDict).push (instObj C hh.objs.size)) := cH (dO _ _) (dO _ _)
 have hxe : ((hh.push emptyDict).push (instObj C hh.objs.size)).get? (hh.objs.size + 1) = some (instObj C hh.objs.size) := by
  have := Heap.get?_push_size (hh.push emptyDict) (o := instObj C hh.objs.size) rfl
  rw [Heap.size_push] at this; exact this
 have hde : ((hh.push emptyDict).push (instObj C hh.objs.size)).get? hh.objs.size = some emptyDict := Heap.get?_push_of_some _ (Heap.get?_push_size _ rfl)
 have hsz : ((hh.push emptyDict).push (instObj C hh.objs.size)).objs.size = hh.objs.size + 2 := by rw [Heap.size_push, Heap.size_push]
 generalize (hh.push emptyDict).push (instObj C hh.objs.size) = H2 at k2 hxe hde hsz ⊢
 have X2 : S.K.In H2 := fun b o e => k2 b o (X b o e)
 refine codeAny_call_function (by show A.depth + 1 < _; exact hd) (X2 _ _ hK) rfl hco hgen hb (codeRec_of X2 hcode) (hB _ [_, _, _] rfl _ _ _ _ ?_)
 rw [hcl]
 refine toks (wpAny_newFunctionEnv_cells hkind (fun x hx => .inl ?_) fun env he' s' x => ?_)
 ·refine (List.mem_cons.mp hx).elim (fun q => q ▸ e1) fun hx => (List.mem_cons.mp hx).elim (fun q => q ▸ e2) fun hx => List.mem_singleton.mp hx ▸ e3
 ·intro kt1
  obtain ⟨h₁, tk, rfl, hk⟩ := x.done
  have hk : H2.StaysIn h₁ := hk
  refine ⟨(hlim.keeps k2).keeps hk, codeAny_func ?_⟩
  have hEL : env.locals = H2.objs.size := by rw [he']; rfl
  have hEs : env.scope = fd.scope := by rw [he']; rfl
  have ek : env.scope.kind = .function := by rw [hEs]; exact hkind
  have l1 : env.kindOf "self" = some .local := by unfold Env.kindOf; rw [hEs]; exact e1
  have l2 : env.kindOf "fields" = some .local := by unfold Env.kindOf; rw [hEs]; exact e2
  have l3 : env.kindOf "types" = some .local := by unfold Env.kindOf; rw [hEs]; exact e3
  have gx : hh.get? (hh.objs.size + 1) = none := by
   cases q : hh.get? (hh.objs.size + 1) with
   | none => rfl
   | some o => exact absurd (Heap.lt_size q) (Nat.not_lt.mpr (Nat.le_succ _))
  have N1 : News hh env.locals h₁ [(hh.objs.size + 1, instObj C hh.objs.size), (hh.objs.size, { cls := .type "dict", data := .dict ([] : List DictEntry).toArray 0 })] := fun p hp => by
   refine (List.mem_cons.mp hp).elim (fun q => ?_) fun hp => ?_
   ·rw [q]; exact ⟨hk _ _ hxe, by rw [hEL, hsz]; exact Nat.ne_of_lt (Nat.lt_succ_self _), gx⟩
   ·rw [List.mem_singleton.mp hp]; exact ⟨hk _ _ hde, by rw [hEL, hsz]; exact Nat.ne_of_lt (Nat.lt_add_of_pos_right (by decide)), eR _⟩
  have hnd : (List.map Prod.fst [(("self" : Str), Value.ref (hh.objs.size + 1)), ("fields", p1), ("types", p2)]).Nodup := show [("self" : Str), "fields", "types"].Nodup by decide
  refine aLP (p1 := p1) (p2 := p2) (s := ⟨h₁, gg, dr, tk, os⟩) X g3.1 (eq_of_beq g4.1) (eq_of_beq g5.1) g6.1 (eq_of_beq g6.2) (Nat.succ_ne_self _) ek l1 l2 l3 ?_ ?_ ?_ ⟨x.toInCall.ns, fun b o e => hk b o (k2 b o e), by rw [hEL, hsz]; exact Nat.le_add_right _ _⟩ N1
   fun h₃ mm k3 hx3 hd3 hm => ⟨rfl, h (hh.objs.size + 1) hh.objs.size h₃ _ _ k3 gx (eR _) hx3 hd3 hm (Nat.le_trans kt1 (Nat.le_add_right tk 4))⟩
  ·exact (nN l1 hnd).trans rfl
  ·exact (nN l2 hnd).trans rfl
  ·exact (nN l3 hnd).trans rfl
end
end PQ
namespace PQ
section
variable {S : SP} {c : Cx} {g : Heap} {mv : Str -> Option Value} {ρ : List Addr} {σ : aG} {A : Around} {E : Value -> Shared -> Prop} {s : Shared} {hb : Bool} {n k : Nat} {ρv : aJ}
theorem xA {K : Frag} {x : Str} {a : Addr} (h : iN K x = some a) : nsIn K mainGlobals x = some (some (.ref a)) :=
 aL h fun v e h => aL h fun w e2 h => by rw [e, e2, sZ h]
theorem aKM {x : Str} {np pos : Pos} {es : List Expr} {xs : List aK} {Q : Value -> Shared -> Prop} (hT : wI S.K = true) (ih : SEs S hb n) (hx : ("Tongue" : Str) = x) (hg : dK c.env.scope x = true) (h1 : cT k c.env.scope es xs = true)
  (I : aF S c g s.heap mv ρ σ) (R : aV S g ρ mv ρv) (H : aX hb n A c g) (P : aH S (VR S) c g mv ρ s Q E (aP FT hb (n + 1) (.newI xs) ρv σ)) :
  wpAny (model S.prog S.w) A (eval (.Call (.Name x np) es [] pos) c.env) Q E s := (dB hT).elim fun C hT => by
 subst hx
 cases n with
 | zero => exact fP P
 | succ n =>
 have hk : keepIn S.K (.ref C) = true := (dB hT.2).elim fun v hC => (dB hC.2).elim fun v' hC2 => (dB hC2.2).elim fun f hC3 => (aA (aA (aA hC3.2).2).2).1
 refine wpAny_Call_Name_kw (vX hg (xA hT.1) I ?_)
 have hpl' : ((backTo pos (starEach es c.env)).any (·.1) || ([] : List (Option Str × Sem Value)).any (·.1.isNone)) = false := by rw [(wG (pos := pos) (env := c.env) h1).1]; rfl
 show wpAny _ A (callWith pos (.ref C) [] (backTo pos (starEach es c.env)) []) _ _ _
 refine callWith_of (P := fun h => S.K.In h) hpl' (keeps_K hk) (vY ih h1 I R H (aH.bind P fun vs σ₁ g₁ ρ₁ pvs h₁ tk e t kg kr I₁ ra P₁ => ?_))
 have X : S.K.In h₁ := fun b o e => I₁.stays _ _ (I₁.gd.k b o e)
 refine ⟨X, ?_⟩
 refine P₁.lift_r fun v hv P₂ => aL hv fun p hp hv => aL hv fun d hd hv => vJ (G := fun v => aH S (VR S) c g₁ mv ρ₁ { s with heap := h₁, toks := tk } Q E (.ok v σ₁) -> _) hv (fun l hl P₂ => ?_) P₂
 refine aCs (G := fun vs => cR S g₁ ρ₁ pvs vs -> _) hp (fun ra => ?_) ra
 refine aY.cons_r ra fun p1 r _ ra => aY.cons_r ra fun p2 r rb ra => aY.nil_r ra ?_
 refine (show VR S g₁ ρ₁ p2 (.loc l) from qY hl ▸ rb).elim fun b q => ?_
 refine aLQ (s := { s with heap := h₁, toks := tk }) X (I₁.gd.t.keeps I₁.stays).nolimit hT.2 (Nat.lt_of_le_of_lt (Nat.add_le_add_left (Nat.succ_le_succ (Nat.zero_le n)) _) H.depth) fun x dx h' tk' m k nx nd hx hd hm t' => ?_
 have G := I₁.grow k
 refine P₂.2 _ ρ₁ _ h' tk' t' G.2 (aQ.refl _) G.1 ⟨x, b, C, dx, m, hT.1, q.1, rfl, I₁.new hx nx, hd.elim fun od z => z.elim fun es z => z.elim fun ep z => ⟨od, es, ep, I₁.new z.1 nd, z.2⟩, q.2 ▸ hm⟩
end
end PQ
namespace PQ
section
variable {S : SP} {c : Cx} {g : Heap} {mv : Str -> Option Value} {ρ : List Addr} {σ : aG} {A : Around} {E : Value -> Shared -> Prop} {s : Shared} {hb : Bool} {n k : Nat} {ρv : aJ}
theorem aHz {l r : Expr} {op : CmpOp} {pos : Pos} {env : Env} {whole : Sem Value} : isTrue (.Compare l [op] [r] pos) env whole = (do let v <- eval (.Compare l [op] [r] pos) env; holding [v] (truthy v)) := by
 rw [isTrue_Compare1, eval_Compare1]
 simp only [bind_assoc]
noncomputable def qT (e : Expr) (env : Env) : Prop := isTrue e env (eval e env) = (do let v <- eval e env; standAt e.pos; holding [v] (truthy v)) \/ isTrue e env (eval e env) = (do let v <- eval e env; holding [v] (truthy v))
theorem aJl {sc : Scope} {e : Expr} {x : aK} {env : Env} (hc : aR (k + 1) sc e x = true) (h0 : zM x = false) (h : x.tst (fun _ => false) (fun _ _ => false) (fun _ _ _ => false) true = true) : qT e env := by
 cases x with
 | not => cases h
 | boolop => cases h
 | ite => cases h
 | stuck => cases h0
 | cmp => exact aAt hc fun _ _ _ _ h => gB (G := fun os => qT (.Compare _ os _ _) env) h fun _ h => gB (G := fun rs => qT (.Compare _ _ rs _) env) h fun _ _ => .inr aHz
 | lit => exact iB hc (fun h => kO h fun _ _ _ _ => .inl rfl) fun h => oK h fun _ _ _ h => dZ (G := fun o => qT (.UnaryOp o _ _) env) (aA h).1 (.inl rfl)
 | bi => exact gC hc fun _ _ _ _ => .inl rfl
 | comp => exact aDq hc fun _ _ _ _ _ => .inl rfl
 | callv => exact gC hc fun _ _ _ _ => .inl rfl
 | slice => exact kP hc fun _ _ _ _ => .inl rfl
 | meth => exact gC hc fun _ _ _ _ => .inl rfl
 | bin => exact vQ hc fun _ _ _ _ _ => .inl rfl
 | call => exact gC hc fun _ _ _ _ => .inl rfl
 | newI => exact gC hc fun _ _ _ _ => .inl rfl
 | var => exact fM hc fun _ _ _ => .inl rfl
 | fnv => exact fM hc fun _ _ _ => .inl rfl
 | list => exact aAx hc fun _ _ _ => .inl rfl
 | attr => exact mX hc fun _ _ _ _ => .inl rfl
 | tup => exact oJ hc fun _ _ _ _ => .inl rfl
 | idx => exact kP hc fun _ _ _ _ => .inl rfl
 | dict => exact aAu hc fun _ _ _ _ => .inl rfl
theorem aLw {e : Expr} {x : aK} {Q : Bool -> Shared -> Prop} (ihE : SE S hb n) (hc : aR k c.env.scope e x = true) (hp : qT e c.env) (I : aF S c g s.heap mv ρ σ) (R : aV S g ρ mv ρv) (H : aX hb n A c g) (P : aH S RB c g mv ρ s Q E ((aP FT hb n x ρv σ).bind fun v σ => lift ((cS v).bind asB) σ)) : wpAny (model S.prog S.w) A (isTrue e c.env (eval e c.env)) Q E s := by
 have core : wpAny (model S.prog S.w) A (eval e c.env) (fun v s₁ => wpAny (model S.prog S.w) A (truthy v) Q E s₁) E s :=
  ihE hc I R H (aH.bind P fun v σ₁ g₁ ρ₁ pv h₁ tk _ t kg kr I₁ rv P₁ => P₁.lift_r fun b e P₂ => aL e fun d e1 e2 =>
   xG (G := fun pv => wpAny (model S.prog S.w) A (truthy pv) Q E _) (show VR S g₁ ρ₁ pv (.d d) from qZ e1 ▸ rv) e2 (wpAny_truthy_bool (P₂.2 g₁ ρ₁ _ h₁ tk (Nat.le_refl _) (bU _) (aQ.refl _) I₁ rfl)))
 refine hp.elim (fun hp => wpAny_isTrue_value core hp) fun hp => ?_
 rw [hp]
 exact wpAny_bind (wpAny_mono core (fun v s₁ h => wpAny_holding h) fun _ _ x => x)
theorem aLx (ihE : SE S hb n) (ihT : ST S hb n) (ihs : STs S hb n) : ST S hb (n + 1) := by
 intro k c g mv ρ σ ρv A s e x Q E hc I R H P
 have H := H.le (Nat.le_succ n)
 cases k with
 | zero => exact bK hc
 | succ k =>
 cases x with
 | stuck => cases n <;> exact fP P
 | not a =>
  refine oK hc fun o a' pos hc => dZ (G := fun o => wpAny _ A (isTrue (.UnaryOp o a' pos) c.env (eval (.UnaryOp o a' pos) c.env)) Q E s) (aA hc).1 ?_
  exact wpAny_isTrue_Not (ihT (aA hc).2 I R H (aH.bind P fun v σ₁ g₁ ρ₁ pv h₁ tk _ t kg kr I₁ rv P₁ => P₁.2 g₁ ρ₁ _ h₁ tk (Nat.le_refl _) (bU _) (aQ.refl _) I₁ (congrArg (!·) rv)))
 | boolop b es => exact aAs hc fun op vs pos hc => wpAny_isTrue_BoolOp (ihs (aA (aA hc).2).1 (aA hc).1 I R H P)
 | ite a b d =>
  refine aAw hc fun t x y pos hc => isTrue_IfExp (ihT (aA hc).1 I R H (aH.bind P fun v σ₁ g₁ ρ₁ pv h₁ tk _ t kg kr I₁ rv P₁ => ?_))
  obtain rfl : pv = v := rv
  cases pv
  ·exact ihT (aA (aA hc).2).2 I₁ (R.mono kg kr) (H.mono kg) P₁
  ·exact ihT (aA (aA hc).2).1 I₁ (R.mono kg kr) (H.mono kg) P₁
 | _ => exact aLw ihE hc (aJl hc rfl rfl) I R H P
end
end PQ
namespace PQ
noncomputable def aBo (S : SP) : Prop := ∀ {c : Cx} {g : Heap} {mv : Str -> Option Value} {ρ : List Addr} {σ : aG} {A : Around} {s : Shared} {wy : Str} {pa : Value} {expr : Bool} {Q : Value -> Shared -> Prop} {E : Value -> Shared -> Prop},
 aF S c g s.heap mv ρ σ -> VR S g ρ pa (.exc wy) -> aH S (VR S) c g mv ρ s Q E (.ok (.d (.str wy)) σ) -> wpAny (model S.prog S.w) A (getAttr pa "why" expr) Q E s
noncomputable def aBq (S : SP) : Prop := ∀ {c : Cx} {g : Heap} {mv : Str -> Option Value} {ρ : List Addr} {σ : aG} {A : Around} {s : Shared} {n : Nat} {wy : Str} {np kp cp pos : Pos} {kd : Nat} {Q : Flow -> Shared -> Prop} {E : Value -> Shared -> Prop},
 dK c.env.scope "Misused" = true -> c.own = true -> aF S c g s.heap mv ρ σ -> aX false (n + 1) A c g -> aZ S c g ρ s Q E (.exc wy) -> wpAny (model S.prog S.w) A (exec (.Raise (some (.Call (.Name "Misused" np) [.Constant (.str wy) kd kp] [] cp)) none pos) c.env) Q E s
structure Wld (S : SP) : Prop where
 W : Wd S
 T : wI S.K = true
 X : aBo S
 Z : aBq S
section
variable {S : SP} {c : Cx} {g : Heap} {mv : Str -> Option Value} {ρ : List Addr} {σ : aG} {A : Around} {E : Value -> Shared -> Prop} {s : Shared} {hb : Bool} {n k : Nat} {ρv : aJ}
@[elab_as_elim] theorem aCS {G : Expr -> Prop} {sc : Scope} {e : Expr} {m : Bool} {x₀ : Nat} {kd : IK} {ex it : aK} {cond : Option aK} (h : aR (k + 1) sc e (.comp m ex x₀ kd it cond) = true)
  (z : ∀ el y px itx ifs cs pos, bP[x₀]? = some y -> kF sc cs y = true -> kd ≠ .enum -> kE k sc kd itx it = true -> aR k (inner sc cs) el ex = true -> hY k (inner sc cs) ifs.head? cond = true -> ifs.length <= 1 -> jQ itx = false -> G (.ListComp el [⟨.Name y px, itx, ifs, 0⟩] cs pos)) : G e := by
 refine aDq h fun el gs cs pos h => ?_
 refine gB h fun g h => ?_
 obtain ⟨t, itx, ifs, as⟩ := g
 refine fM (G := fun t => G (.ListComp el [⟨t, itx, ifs, as⟩] cs pos)) h fun y px h => ?_
 have a := aA h; have b := aA a.2; have d := aA b.2; have e := aA d.2; have f := aA e.2; have g := aA f.2; have i := aA g.2; have j := aA i.2
 exact dZ (G := fun as => G (.ListComp el [⟨.Name y px, itx, ifs, as⟩] cs pos)) j.2 (z el y px itx ifs cs pos (eq_of_beq a.1) b.1 (bne_iff_ne.mp d.1) e.1 f.1 g.1 (of_decide_eq_true i.1) (fE j.1))
theorem aKX {i : Nat} {e : Expr} {Q : Value -> Shared -> Prop} (hc : aR (k + 1) c.env.scope e (.var i) = true) (I : aF S c g s.heap mv ρ σ) (R : aV S g ρ mv ρv) (P : aH S (VR S) c g mv ρ s Q E (aP FT hb (n + 1) (.var i) ρv σ)) : wpAny (model S.prog S.w) A (eval e c.env) Q E s := by
 refine fM hc fun x p h => ?_
 exact aH.lift_r P fun v hv P => (R i _ v (eq_of_beq (aA h).1) hv).elim fun pv q => aJW I (aA h).2 q.1 (P.same I q.2 (Nat.le_refl _))
theorem aKE {f : Nat} {e : Expr} {Q : Value -> Shared -> Prop} (W : Wd S) (hc : aR (k + 1) c.env.scope e (.fnv f) = true) (I : aF S c g s.heap mv ρ σ) (P : aH S (VR S) c g mv ρ s Q E (aP FT hb (n + 1) (.fnv f) ρv σ)) : wpAny (model S.prog S.w) A (eval e c.env) Q E s := by
 refine fM hc fun x p h => ?_
 have hx := eq_of_beq (aA h).1
 exact (uS W hx).elim fun a q => q.elim fun r q => vX (aA h).2 (aBv hx q.1) I (aH.same P I ⟨a, q.1, rfl⟩ (Nat.le_refl _))
theorem aKl {a : aK} {x : Str} {e : Expr} {Q : Value -> Shared -> Prop} (W : Wld S) (ih : SE S hb n) (hc : aR (k + 1) c.env.scope e (.attr a x) = true) (I : aF S c g s.heap mv ρ σ) (R : aV S g ρ mv ρv) (H : aX hb n A c g) (P : aH S (VR S) c g mv ρ s Q E (aP FT hb (n + 1) (.attr a x) ρv σ)) : wpAny (model S.prog S.w) A (eval e c.env) Q E s := by
 refine mX hc fun v y p h => ?_
 refine dZ (aA h).1 ?_
 refine fM (G := fun v => aR k c.env.scope v a = true -> wpAny (model S.prog S.w) A (eval (.Attribute v x p) c.env) Q E s) (aA h).2 (fun z pz _ hc => ?_) (fM (G := fun _ => aR k c.env.scope v a = true) (aA h).2 fun _ _ h => h)
 refine Attribute_name (ih hc I R H (aH.bind P fun va σ₁ g₁ ρ₁ pa h₁ tk e t kg kr I₁ ra P₁ => P₁.lift_r fun v e P₂ => ?_))
 cases va with
 | inst l => exact bO e fun hx e => by rw [<- Option.some.inj e] at P₂; subst hx; exact aE0 W.W I₁ ra P₂
 | exc w => exact bO e fun hx e => by rw [<- Option.some.inj e] at P₂; subst hx; exact W.X I₁ ra P₂
 | _ => exact dL e
theorem aKW {args : List Expr} {es : List aK} {np pos : Pos} {Q : Value -> Shared -> Prop} (W : Wld S) (ihE : ∀ m, m < n + 1 -> SE S hb m)
  (h : (on1 args fun v => on1 es fun a => iU v fun f as p => as.isEmpty && mW f fun o nm ap => ("values" : Str) == nm && (aR k c.env.scope o a && ap.endLine == p.line)) = true) (hg : dK c.env.scope (gO .vals) = true)
  (I : aF S c g s.heap mv ρ σ) (R : aV S g ρ mv ρv) (H : aX hb n A c g) (P : aH S (VR S) c g mv ρ s Q E (aP FT hb (n + 1) (.bi .vals es) ρv σ)) : wpAny (model S.prog S.w) A (eval (.Call (.Name (gO .vals) np) args [] pos) c.env) Q E s := by
 refine gB h fun v h => ?_
 refine gB (G := fun es => aH S (VR S) c g mv ρ s Q E (aP FT hb (n + 1) (.bi .vals es) ρv σ) -> _) h (fun a h P => ?_) P
 refine gC h fun f as p h => ?_
 refine nil_r (aA h).1 ?_
 refine mX (aA h).2 fun o nm ap h => ?_
 refine dZ (aA h).1 ?_
 cases n with
 | zero => exact fP P
 | succ n => exact aKV W.W (ihE n (Nat.lt_succ_of_lt (Nat.lt_succ_self n))) hg (aA (aA h).2).1 (aA (aA h).2).2 I R (H.le (Nat.le_succ n)) P
theorem aK1 (W : Wld S) (ihE : ∀ m, m < n + 1 -> SE S hb m) (ihO : SO S hb n) (is : SEs S hb n) (ihB : SBs S hb n) (ihT : ∀ m, m < n + 1 -> ST S hb m) (ihC : oV S hb n) : SE S hb (n + 1) := by
 intro k c g mv ρ σ ρv A s e x Q E hc I R H P
 have H := H.le (Nat.le_succ n)
 have iE : SE S hb n := ihE n (Nat.lt_succ_self n)
 cases k with
 | zero => exact bK hc
 | succ k =>
 cases x with
 | stuck => exact fP P
 | lit d =>
  refine iB hc (fun h => ?_) fun h => ?_
  ·refine kO h fun cst kd pos h => aKy h I P
  ·refine oK h fun o a pos h => ?_
   refine dZ (aA h).1 ?_
   refine (dB (aA h).2).elim fun i q => ?_
   obtain rfl := qX q.1
   refine kO q.2 fun cst kd p h => ?_
   refine dZ h ?_
   have P : aH S (VR S) c g mv ρ s Q E (.ok (.d (.int i)) σ) := P
   rw [<- Int.neg_neg i] at P
   exact aKL I P
 | var i => exact aKX hc I R P
 | fnv f => exact aKE W.W hc I P
 | bin op a b => refine vQ hc fun l o r p h => ?_; exact dZ (aA h).1 (aKo iE (aA (aA h).2).1 (aA (aA h).2).2 I R H P)
 | cmp op a b =>
  refine aAt hc fun l os rs p h => ?_
  refine gB h fun o h => ?_
  refine gB h fun r h => ?_
  have q := aA (aA h).2
  exact dZ (aA h).1 (aKu iE (fE q.1) (aA q.2).1 (aA q.2).2 I R H P)
 | boolop b es => exact aAs hc fun o vs p h => aKp ihB (aA (aA h).2).1 (aA h).1 I R H P
 | not a => refine oK hc fun o x p h => ?_; exact dZ (aA h).1 (aKN iE (aA h).2 I R H P)
 | ite a b d => exact aAw hc fun t x y p h => aKI iE (ihT n (Nat.lt_succ_self n)) (aA h).1 (aA (aA h).2).1 (aA (aA h).2).2 I R H P
 | idx a i => exact kP hc fun v i p h => aKG iE (fE (aA h).1) (aA (aA h).2).1 (aA (aA h).2).2 I R H P
 | slice a lo hi =>
  refine kP hc fun v sl pos h => ?_
  refine aJd h fun l u t p h => ?_
  have q := aA (aA h).2
  exact aAm (aA h).1 (aKR iE ihO q.1 (aA q.2).1 (aA q.2).2 I R H P)
 | attr a x => exact aKl W iE hc I R H P
 | tup es => exact oJ hc fun xs kd p h => aKU is (aA h).1 (of_decide_eq_true (aA h).2) I R H P
 | list m es => exact aAx hc fun xs p h => aKJ is (aA h).1 (of_decide_eq_true (aA h).2) I R H P
 | dict m ks es =>
  refine aAu hc fun kos vs p h => ?_
  have q := aA (aA h).2; have r := aA q.2; have t := aA r.2
  exact aKz ihE t.1 (eq_of_beq (aA h).1) (of_decide_eq_true r.1) (eq_of_beq q.1) (of_decide_eq_true (aA t.2).1) (aA t.2).2 I R H P
 | comp m elt x₀ kd it cond =>
  refine aCS hc fun el y px itx ifs cs pos q1 q2 q3 q4 q5 q6 q7 q8 => ?_
  exact aKv W.W ihE ihT q1 q2 q3 q4 q5 q6 q7 q8 I R H P
 | call f es =>
  refine gC hc fun g args pos h => ?_
  refine fM h fun x np h => ?_
  exact aKr W.W is ihC (eq_of_beq (aA h).1) (aA (aA h).2).1 (aA (aA h).2).2 I R H P
 | callv a es =>
  refine gC hc fun g args pos h => ?_
  refine kP (G := fun g => aR k c.env.scope g a = true -> wpAny (model S.prog S.w) A (eval (.Call g args [] pos) c.env) Q E s) h (fun v sl p _ hc => ?_) (kP (G := fun _ => aR k c.env.scope g a = true) h fun _ _ _ h => (aA h).1)
  exact aKt W.W iE is ihC hc (kP (G := fun _ => cT k c.env.scope args es = true) h fun _ _ _ h => (aA (aA h).2).1) I R H P
 | bi b es =>
  refine gC hc fun g args pos h => ?_
  refine fM h fun x np h => ?_
  refine dZ (aA h).1 ?_
  have hg : dK c.env.scope (gO b) = true := dZ (G := fun x => dK c.env.scope x = true -> dK c.env.scope (gO b) = true) (aA h).1 id (aA (aA h).2).1
  have h := (aA (aA h).2).2
  by_cases hv : b = .vals
  ·subst hv
   exact aKW W ihE h hg I R H P
  ·rw [beq_eq_false_iff_ne.mpr hv] at h
   exact aKn W.W is hv hg (aA h).1 I R H P
 | meth o m es =>
  refine gC hc fun g args pos h => ?_
  refine mX h fun ox nm p h => ?_
  have q := aA (aA h).2; have r := aA q.2; have t := aA r.2; have u := aA t.2; have v := aA u.2
  exact dZ (aA h).1 (aKK iE is q.1 r.1 (of_decide_eq_true t.1) u.1 (fun z => iB v.2 (fun w => absurd z (bne_iff_ne.mp w)) id) I R H P)
 | newI es =>
  refine gC hc fun g args pos h => ?_
  refine fM h fun x np h => ?_
  exact aKM W.T is (eq_of_beq (aA h).1) (aA (aA h).2).1 (aA (aA (aA h).2).2).1 I R H P
end
end PQ
namespace PQ
section
variable {S : SP} {c : Cx} {g : Heap} {mv : Str -> Option Value} {ρ : List Addr} {σ : aG} {A : Around} {E : Value -> Shared -> Prop} {s : Shared} {hb : Bool} {n k : Nat} {ρv : aJ}
theorem aLD {m : aK} (h : zM m = true) : m = .stuck := by cases m <;> first | rfl | exact bK h
theorem aFV {P : Prop} {sc : Scope} {e : Expr} {m : aK} (hc : aR (k + 1) sc e m = true) (h : jD e = true) (h1 : m = .stuck -> P) (h2 : ∀ m' elt x₀ kd it cond, m = .comp m' elt x₀ kd it cond -> P) : P := by
 revert h
 cases m with
 | stuck => exact fun _ => h1 rfl
 | comp => exact fun _ => h2 _ _ _ _ _ _ rfl
 | lit => exact iB hc (fun h => kO h fun _ _ _ _ h => bK h) fun h => oK h fun _ _ _ _ h => bK h
 | bi => exact gC hc fun _ _ _ _ h => bK h
 | callv => exact gC hc fun _ _ _ _ h => bK h
 | call => exact gC hc fun _ _ _ _ h => bK h
 | newI => exact gC hc fun _ _ _ _ h => bK h
 | meth => exact gC hc fun _ _ _ _ h => bK h
 | slice => exact kP hc fun _ _ _ _ h => bK h
 | idx => exact kP hc fun _ _ _ _ h => bK h
 | cmp => exact aAt hc fun _ _ _ _ _ h => bK h
 | ite => exact aAw hc fun _ _ _ _ _ h => bK h
 | bin => exact vQ hc fun _ _ _ _ _ h => bK h
 | not => exact oK hc fun _ _ _ _ h => bK h
 | var => exact fM hc fun _ _ _ h => bK h
 | fnv => exact fM hc fun _ _ _ h => bK h
 | list => exact aAx hc fun _ _ _ h => bK h
 | boolop => exact aAs hc fun _ _ _ _ h => bK h
 | attr => exact mX hc fun _ _ _ _ h => bK h
 | tup => exact oJ hc fun _ _ _ _ h => bK h
 | dict => exact aAu hc fun _ _ _ _ h => bK h
theorem aKi {i : Nat} {st : Stmt} {e : aK} {Q : Flow -> Shared -> Prop} (W : Wld S) (ihE : ∀ m, m < n + 1 -> SE S hb m) (ihT : ∀ m, m < n + 1 -> ST S hb m) (ho : c.own = true) (hc : uA (k + 1) c.env.scope st (.asg i e) = true) (I : aF S c g s.heap mv ρ σ) (R : aV S g ρ mv ρv) (H : aX hb n A c g) (P : aZ S c g ρ s Q E (dD FT hb (n + 1) (.asg i e) ρv σ)) :
  wpAny (model S.prog S.w) A (exec st c.env) Q E s := by
 refine mV hc fun t v pos h => ?_
 refine fM h fun x np h => ?_
 have hx := eq_of_beq (aA h).1
 have hv := (aA (aA h).2).1
 have h3 := (aA (aA h).2).2
 cases hcm : jD v with
 | false => exact aDV (ihE n (Nat.lt_succ_self n)) hx hv (oG hcm) h3 ho I R H P
 | true =>
  cases k with
  | zero => exact bK h3
  | succ k =>
  cases n with
  | zero => exact P.elim
  | succ n =>
  refine aFV h3 hcm (fun q => by subst q; exact P.elim) fun m' elt x₀ kd it cond q => ?_
  subst q
  exact aCS (G := fun v => aR (k + 1) c.env.scope v (.comp m' elt x₀ kd it cond) = true -> wpAny (model S.prog S.w) A (exec (.Assign [.Name x np] v pos) c.env) Q E s) h3
   (fun el y px itx ifs cs cpos q1 q2 q3 q4 q5 q6 q7 q8 h3 => aKh W.W ihE ihT hx hv ho h3 q1 q2 q3 q4 q5 q6 q7 q8 I R H P) h3
theorem aLu (W : Wld S) (ihE : ∀ m, m < n + 1 -> SE S hb m) (ihs : SEs S hb n) (ihT : ∀ m, m < n + 1 -> ST S hb m) (ihS : ∀ m, m < n + 1 -> SSs S hb m) : SS S hb (n + 1) := by
 intro k c g mv ρ σ ρv A s st m Q E ho hc I R H' P
 have H := H'.le (Nat.le_succ n)
 have iE : SE S hb n := ihE n (Nat.lt_succ_self n)
 cases k with
 | zero => exact bK hc
 | succ k =>
 cases m with
 | asg i e => exact aKi W ihE ihT ho hc I R H P
 | asgT is e =>
  refine mV hc fun t v pos h => ?_
  refine oJ h fun ts kd tp h => ?_
  have q := aA (aA h).2; have r := aA q.2; have t := aA r.2
  exact aKk iE (aA h).1 (of_decide_eq_true q.1) (fE r.1) (fE t.1) t.2 ho I R H P
 | asgN is es =>
  refine mV hc fun t v pos h => ?_
  refine oJ h fun ts kd tp h => ?_
  refine oJ h fun vs kd2 vp h => ?_
  have q := aA (aA h).2; have r := aA q.2; have t := aA r.2
  exact aKj ihs (aA h).1 (of_decide_eq_true q.1) r.1 (eq_of_beq t.1) (of_decide_eq_true (aA t.2).1) (aA t.2).2 ho I R H P
 | setI o i e =>
  refine mV hc fun t v pos h => ?_
  refine kP h fun ox ix tp h => ?_
  have q := aA (aA h).2; have r := aA q.2
  exact aKQ iE (fE q.1) r.1 (aA r.2).1 (aA r.2).2 I R H P
 | aug i op e =>
  refine aI6 hc fun t o v pos h => ?_
  refine fM h fun x np h => ?_
  have q := aA (aA h).2; have r := aA q.2
  exact dZ r.1 (aKm iE (eq_of_beq (aA h).1) q.1 r.2 ho I R H P)
 | ex e =>
  refine iB hc (fun h => ?_) fun h => ?_
  ·obtain rfl := aLD h
   cases n <;> exact P.elim
  ·exact aDk h fun v pos h => aKD iE (fE (aA h).1) (aA h).2 I R H P
 | ite a t f => exact aJa hc fun cx tx fx pos h => aKH (ihT n (Nat.lt_succ_self n)) (ihS n (Nat.lt_succ_self n)) (aA h).1 (aA (aA h).2).1 (aA (aA h).2).2 ho I R H P
 | wh a b => exact aJg hc fun cx bx pos h => aKY (fun m hm => ihT m (Nat.lt_succ_of_lt hm)) (fun m hm => ihS m (Nat.lt_succ_of_lt hm)) (aA h).1 (aA h).2 ho I R H P
 | for_ is kd e b =>
  refine aI9 hc fun t ix bx pos h => ?_
  have q := aA (aA h).2; have r := aA q.2
  exact aKF W.W iE (fun m hm => ihS m (Nat.lt_succ_of_lt hm)) (aA h).1 q.1 r.1 (fE (aA r.2).1) (of_decide_eq_true (aA r.2).2) ho I R H P
 | ret e =>
  refine aJc hc fun v pos h => ?_
  exact mY h fun v h => aKP iE h I R H P
 | raise w =>
  refine aJb hc fun x cx pos h => ?_
  refine aAm (aA h).1 ?_
  refine mY (aA h).2 fun y h => ?_
  refine gC h fun g args cp h => ?_
  refine fM h fun x np h => ?_
  refine dZ (G := fun x => dK c.env.scope x = true -> wpAny _ A (exec (.Raise (some (.Call (.Name x np) args [] cp)) none pos) c.env) Q E s) (aA h).1 (fun hg => ?_) (aA (aA h).2).1
  refine gB (aA (aA h).2).2 fun a h => ?_
  refine kO h fun cst kd kp h => ?_
  refine dZ h ?_
  cases hb
  ·exact W.Z hg ho I H' P
  ·exact P.elim
 | tryE b i h => exact bK hc
end
noncomputable def Snd (S : SP) (n : Nat) (hb : Bool) : Prop := SE S hb n /\ SO S hb n /\ SEs S hb n /\ SBs S hb n /\ ST S hb n /\ STs S hb n /\ oV S hb n /\ SSs S hb n /\ SS S hb n
theorem qL {S : SP} (W : Wld S) (n : Nat) : ∀ hb : Bool, Snd S n hb := by
 induction n using Nat.strongRecOn with
 | _ n ih =>
 intro hb
 cases n with
 | zero =>
  refine ⟨?_, ?_, ?_, ?_, ?_, ?_, ?_, ?_, ?_⟩
  ·intro k c g mv ρ σ ρv A s e x Q E hc I R H P; exact P.elim
  ·intro k c g mv ρ σ ρv A s e x Q E hc I R H P; exact P.elim
  ·intro k c g mv ρ σ ρv A s e x pos Q E hc I R H P; exact P.elim
  ·intro k c g mv ρ σ ρv A s e x b op pos Q E hc h I R H P; exact P.elim
  ·intro k c g mv ρ σ ρv A s e x Q E hc I R H P; exact P.elim
  ·intro k c g mv ρ σ ρv A s e x b op Q E hc h I R H P; exact P.elim
  ·intro c g mv ρ σ A s f a vs pvs Q E hc I R H P; exact P.elim
  ·intro k c g mv ρ σ ρv A s e x Q E ho hc I R H P; exact P.elim
  ·intro k c g mv ρ σ ρv A s e x Q E ho hc I R H P; exact P.elim
 | succ n =>
  have h : Snd S n hb := ih n (Nat.lt_succ_self n) hb
  have aE : ∀ m, m < n + 1 -> SE S hb m := fun m hm => (ih m hm hb).1
  have aT : ∀ m, m < n + 1 -> ST S hb m := fun m hm => (ih m hm hb).2.2.2.2.1
  have aS : ∀ m, m < n + 1 -> SSs S hb m := fun m hm => (ih m hm hb).2.2.2.2.2.2.2.1
  exact ⟨aK1 W aE h.2.1 h.2.2.1 h.2.2.2.1 aT h.2.2.2.2.2.2.1, s_o h.1, aKC h.1 h.2.2.1, aKq h.1 h.2.2.2.1, aLx h.1 h.2.2.2.2.1 h.2.2.2.2.2.1, aKT h.2.2.2.2.1 h.2.2.2.2.2.1, aKs W.W (aHQ S) h.2.2.2.2.2.2.2.1, aKS h.2.2.2.2.2.2.2.2 h.2.2.2.2.2.2.2.1, aLu W aE h.2.2.1 aT aS⟩
end PQ
namespace PQ
@[reducible] noncomputable def eQ (W : Addr) : List Value := [.ref W, .type "Exception", .type "BaseException", .type "object"]
section
variable {prog : Program} {w : World} {A : Around} {R : Result -> Shared -> Prop} {E : Value -> Shared -> Prop} {h : Heap} {g : Array GenState} {d : PySem.Drawn} {t : Nat} {os : OsState}
variable {nm q : Str} {C N W : Addr} {bs : List Value} {hdct : Bool} {sn : List Str} {sub : List Value} {ab : Bool} {col : Option Bool} {dd : Option Addr} {k0 k1 k2 k3 k5 : Option Value}
theorem zZ : ((Value.ref C :: eQ W).contains (.type "Exception")) = true := by simp [eQ]
theorem aIA : ((Value.ref C :: eQ W).contains (.type "AttributeError")) = false := by
 simp only [eQ, List.contains_cons, List.contains_nil]; rfl
theorem aIC : ((Value.ref C :: eQ W).contains (.type "NameError")) = false := by
 simp only [eQ, List.contains_cons, List.contains_nil]; rfl
theorem aFE {M : Model} {rest : List Value} {Q : Unit -> Shared -> Prop} (hC : h.get? C = some (excClassObj nm q C N bs (eQ W) hdct sn sub ab col dd k0 k1 k2 k3 k5 "Exception.__new__"))
  (hq : Q () ⟨h, g, d, t, os⟩) : wpAny M A (checkBuiltinCall "Exception.__new__" ⟨.ref C :: rest, []⟩) Q E ⟨h, g, d, t, os⟩ := by
 have F := PySem.F.excBase_Exception
 have hcont := zZ (C := C) (W := W)
 have hstar := F.noStar
 simp only [checkBuiltinCall, F.newKind, F.newSplit, F.newRow]
 repeat (first | refine wpAny_loadPart_at hC ?_ | (refine wpAny_isSubtype_exc hC ?_; rw [hcont]) | refine wpAny_staticBase_exc hC ?_ | refine wpAny_madeBy_exc hC ?_ | simp only [bne_self_eq_false, Bool.false_eq_true, if_false] | wp_step)
 exact hq
theorem aIN {rest : List Value} (hC : h.get? C = some (excClassObj nm q C N bs (eQ W) hdct sn sub ab col dd k0 k1 k2 k3 k5 "Exception.__new__"))
  (hq : R (.ok (.ret (.ref (h.objs.size + 1)))) ⟨(h.push { cls := .type "tuple", data := .seq rest.toArray }).push
   { cls := .ref C, data := .fields #[.ref h.objs.size, .none, .none, .none, .bool false, .none] }, g, d, t, os⟩) (hrest : rest.length <= sizeLine := by size_fits) :
  codeAny (model prog w) A (.builtin "Exception.__new__" ⟨.ref C :: rest, []⟩) R ⟨h, g, d, t, os⟩ := by
 have F := PySem.F.excBase_Exception
 have hends := F.ends
 have hcB := zZ (C := C) (W := W)
 have hcA := aIA (C := C) (W := W)
 have hcN := aIC (C := C) (W := W)
 refine codeAny_builtinAt F.entry ?_
 unfold Builtin.«BaseException.__new__»
 refine PySem.wpAt_bind ?_
 show PySem.wpAt _ _ _ (stack >>= _) _ _ _
 refine PySem.wpAt_bind (PySem.wpAt_stack fun p below => PySem.wpAt_of_wpAny ?_)
 wp_walk
 refine PySem.wpAt_of_wpAny ?_
 rw [F.owner]
 repeat (first | with_reducible refine wpAny_madeHere_exc F.canon hC ?_ | with_reducible refine wpAny_loadPart_at hC ?_ | (with_reducible refine wpAny_isSubtype_exc hC ?_; first | rw [hcB] | rw [hcA] | rw [hcN]) | wp_step)
 show R _ _
 rw [Heap.size_push]
 exact hq
theorem aLW {K : Frag} {rest : List Value} {fI : Addr} {Q : Fin -> Shared -> Prop} (X : K.In h) (hi : findIn K (.ref C) "__init__" = some (some (.ref fI))) (hf : typeIn K (.ref fI) = some (.type "function"))
  (hC : h.get? C = some (excClassObj nm q C N bs (eQ W) hdct sn sub ab col dd k0 k1 k2 k3 k5 "Exception.__new__"))
  (hq : ∀ h' e, Heap.MadeExcOf h h' e (.ref C) rest ->
   wpAny (model prog w) A (call (.ref fI) (.ref e :: rest)) (fun r s' => r = .none /\ Q (.done (.ret (.ref e))) s') E ⟨h', g, d, t, os⟩) (hrest : rest.length <= sizeLine := by size_fits) :
  wpAny (model prog w) A (Builtin.«type.__call__» ⟨.ref C :: rest, []⟩) Q E ⟨h, g, d, t, os⟩ := by
 repeat (first | with_reducible refine wpAny_loadPart_at hC ?_ | with_reducible refine wpAny_madeBy_exc hC ?_ | wp_step)
 refine codeAny_call_builtin_code (Code.quiet_builtin _ PySem.F.excBase_Exception.quiet) (aFE hC ?_)
 refine aIN hC ?_ hrest
 show wpAny _ _ _ _ _ _
 have kk : ∀ b o, h.get? b = some o -> ((h.push { cls := .type "tuple", data := .seq rest.toArray }).push { cls := .ref C, data := .fields #[.ref h.objs.size, .none, .none, .none, .bool false, .none] }).get? b = some o :=
  fun b o e => Heap.get?_push_of_some _ (Heap.get?_push_of_some _ e)
 have hC₁ := kk _ _ hC
 have X₁ : K.In ((h.push { cls := .type "tuple", data := .seq rest.toArray }).push { cls := .ref C, data := .fields #[.ref h.objs.size, .none, .none, .none, .bool false, .none] }) := fun b o e => kk b o (X b o e)
 have hget : ((h.push { cls := .type "tuple", data := .seq rest.toArray }).push
   { cls := .ref C, data := .fields #[.ref h.objs.size, .none, .none, .none, .bool false, .none] }).get? (h.objs.size + 1) = some
   { cls := .ref C, data := .fields #[.ref h.objs.size, .none, .none, .none, .bool false, .none] } := by heap_get
 have hcC : (Value.ref C :: eQ W).contains (.ref C) = true := by simp
 unfold isInstance
 repeat (first | with_reducible refine wpAny_loadPart_at hget ?_ | (with_reducible refine wpAny_isSubtype_exc hC₁ ?_; rw [hcC]) | wp_step)
 show wpAny _ _ (typeLookup (.ref C) _) _ _ _
 refine (looks_findIn X₁ hi).here ?_
 refine wpAny_holding (wpAny_bind ?_)
 refine (bind_fn X₁ _ hf).here ?_
 refine wpAny_bind (wpAny_mono (hq _ (h.objs.size + 1) ⟨kk, Heap.get?_none_of_le (Nat.le_succ _), h.objs.size, hget, Heap.get?_none_of_le (Nat.le_refl _), ?_⟩) (fun r s' hr => ?_) fun _ _ x => x)
 ·exact Heap.get?_push_of_some _ (Heap.get?_push_at rfl rfl)
 ·obtain ⟨rfl, hQ⟩ := hr
  wp_walk
  exact hQ
theorem aFw {K : Frag} {rest : List Value} {fI : Addr} {Q : Value -> Shared -> Prop} (X : K.In h) (hi : findIn K (.ref C) "__init__" = some (some (.ref fI))) (hf : typeIn K (.ref fI) = some (.type "function"))
  (hC : h.get? C = some (excClassObj nm q C N bs (eQ W) hdct sn sub ab col dd k0 k1 k2 k3 k5 "Exception.__new__"))
  (hq : ∀ h' e, Heap.MadeExcOf h h' e (.ref C) rest ->
   wpAny (model prog w) (A.under (.builtin "type.__call__" ⟨.ref C :: rest, []⟩)) (call (.ref fI) (.ref e :: rest)) (fun r s' => r = .none /\ Q (.ref e) s') E ⟨h', g, d, t, os⟩) (hrest : rest.length <= sizeLine := by size_fits) :
  wpAny (model prog w) A (call (.ref C) rest) Q E ⟨h, g, d, t, os⟩ := by
 have f1 := tc_lookup
 have f2 := tc_bind (.ref C)
 have hT : (⟨h, g, d, t, os⟩ : Shared).TypeIs (.ref C) "type" := ⟨_, hC, rfl⟩
 refine wpAny_call (codeAny_of_tree ?_)
 show wpAny _ _ (callAny (.ref C) _) _ _ _
 repeat (any_goals (first | assumption | with_reducible refine wpAny_loadPart_at hC ?_ | wp_step))
 refine ⟨rfl, ?_⟩
 refine codeAny_call_builtin_at (Code.quiet_builtin _ (by decide +kernel)) entry_typeCall (wpAny_check_type_call_sub hC (aLW (hrest := hrest) X hi hf hC fun h' e hm => ?_))
 exact hq h' e hm
end
end PQ
namespace PQ
section
variable {prog : Program} {w : World} {A : Around} {R : Result -> Shared -> Prop} {E : Value -> Shared -> Prop} {h : Heap} {g : Array GenState} {d : PySem.Drawn} {t : Nat} {os : OsState}
variable {nm q : Str} {C N W : Addr} {bs : List Value} {hdct : Bool} {sn : List Str} {sub : List Value} {ab : Bool} {col : Option Bool} {dd : Option Addr} {k0 k1 k2 k3 k5 : Option Value}
theorem aFD {M : Model} {e : Addr} {oe : Obj} {rest : List Value} {Q : Unit -> Shared -> Prop}
  (hC : h.get? C = some (excClassObj nm q C N bs (eQ W) hdct sn sub ab col dd k0 k1 k2 k3 k5 "Exception.__new__")) (he : h.get? e = some oe) (hcls : oe.cls = .ref C) (hq : Q () ⟨h, g, d, t, os⟩) :
  wpAny M A (checkBuiltinCall "Exception.__init__" ⟨.ref e :: rest, []⟩) Q E ⟨h, g, d, t, os⟩ := by
 have F := PySem.F.excBase_Exception
 have hcB := zZ (C := C) (W := W)
 have hshort := F.noStar
 simp only [checkBuiltinCall, F.initKind, F.initSplit, F.initRow]
 repeat (first | (with_reducible refine wpAny_loadPart_at he ?_; rw [hcls]) | with_reducible refine wpAny_loadPart_at hC ?_ | (with_reducible refine wpAny_isSubtype_exc hC ?_; rw [hcB]) | wp_step)
 refine wpAny_onRaise ?_
 rw [show ∀ (a b : String) (n : Nat), Bind.check ⟨.positional, "*", "Exception", .self, [⟨"args", .varPos, false⟩]⟩ a b n (List.map (fun x => x.fst) ({ pos := Value.ref e :: rest } : Args).kw) = pure () from
  fun a b n => check_star_args _ _ _ _ _ _]
 exact wpAny_pure hq
theorem aHi {e t0 : Addr} {rest : List Value} (hC : h.get? C = some (excClassObj nm q C N bs (eQ W) hdct sn sub ab col dd k0 k1 k2 k3 k5 "Exception.__new__"))
  (he : h.get? e = some { cls := .ref C, data := .fields #[.ref t0, .none, .none, .none, .bool false, .none] })
  (hq : ∀ h' t1, (∀ b o, b ≠ e -> h.get? b = some o -> h'.get? b = some o) -> h'.get? e = some { cls := .ref C, data := .fields #[.ref t1, .none, .none, .none, .bool false, .none] } -> R (.ok (.ret .none)) ⟨h', g, d, t, os⟩) (hrest : rest.length <= sizeLine := by size_fits) :
  codeAny (model prog w) A (.call (.builtin "Exception.__init__") ⟨.ref e :: rest, []⟩) R ⟨h, g, d, t, os⟩ := by
 have F := PySem.F.excBase_Exception
 refine codeAny_call_builtin F.init.plain F.initEntry (aFD hC he rfl ?_)
 wp_walk
 refine hq _ h.objs.size (fun b o hb e' => ?_) ?_
 ·rw [Heap.get?_update_other _ _ (Ne.symm hb)]
  exact Heap.get?_push_of_some _ e'
 ·rw [Heap.get?_update_self _ (Heap.get?_push_of_some _ he) rfl]
  rfl
end
end PQ
namespace PQ
open Builtin Builtin.ObjectAttr
section
variable {prog : Program} {w : World} {A : Around} {R : Result -> Shared -> Prop} {E : Value -> Shared -> Prop} {s : Shared} {K : Frag} {C W e : Addr} {oe : Obj} {cd : ClassData} {name : Str} {v : Value}
theorem aEj {dx : Addr} {es es' : List DictEntry} {nn nn' : Nat} {tk : Tok} {Q : PySem.Fin -> Shared -> Prop} (D : s.heap.get? dx = some { cls := .type "dict", data := .dict es.toArray nn }) (hl : (lookIn name { cls := .type "dict", data := .dict es.toArray nn }).isSome = true)
  (ep : Obj.putName name (PyData.keyHash w.params name) (.str name s.toks) v { cls := .type "dict", data := .dict es.toArray nn } = { cls := .type "dict", data := .dict es'.toArray nn' }) (hz : es'.length <= 1000)
  (h : ∀ h', Heap.SameBut dx s.heap h' -> h'.get? dx = some { cls := .type "dict", data := .dict es'.toArray nn' } -> Q (.done (.ret .none)) { s with heap := h', toks := s.toks + 1 }) :
  wpAny (model prog w) A (storeInDict dx (.str name tk) name v) Q E s := by
 unfold storeInDict
 refine wpAny_bind (wpAny_pure (wpAny_bind ?_))
 unfold nsSet
 refine wpAny_bind (wpAny_bind (wpAny_askSetting (wpAny_pure (wpAny_bind (wpAny_mkText (wpAny_bind (wpAny_loadPart D ?_)))))))
 dsimp only
 have c : (!es.toArray.any (·.key.isStr name) && es.toArray.any (·.refKey)) = false := by
  unfold lookIn at hl
  rw [<- Array.any_toList, <- Array.any_toList]
  dsimp only at hl
  split at hl
  ·rename_i en he
   rw [List.any_eq_true.mpr ⟨en, List.mem_of_find?_eq_some he, List.find?_some he⟩]; rfl
  ·split at hl
   ·cases hl
   ·rename_i z; rw [Bool.not_eq_true] at z; rw [z, Bool.and_false]
 rw [aRefKeyMayBeTheName_at, c]
 refine wpAny_updatePart D ?_
 have D' : (s.heap.update dx (Obj.putName name (PyData.keyHash w.params name) (.str name s.toks) v)).get? dx = some { cls := .type "dict", data := .dict es'.toArray nn' } := by
  rw [Heap.get?_update_self _ D (by rw [ep]; rfl), ep]
 refine wpAny_bind (wpAny_lookBehind D' (pastItsLine_dict (by rw [List.size_toArray, sizeLine_eq]; omega)) ?_)
 exact wpAny_pure (h _ (Heap.SameBut.update ..) D')
theorem aDA {tk : Tok} (X : K.In s.heap) (I : InstAt s.heap e oe C od) (hc : clsIn K C = some cd) (hm : cd.mro = .ref C :: eQ W) (ht : takerIn K C name = some none)
  (h : ∀ b, wpAny (model prog w) A.in1 (storeInOwnDict (.ref e) (.ref C) (.str name tk) name v b)
   (fun fin s' => match fin with | .done f => R (.ok f) s' | .again c' => c'.quiet = true /\ codeAny (model prog w) A c' R s') (fun e s' => R (.error e) s') s) :
  codeAny (model prog w) A (.call (.builtin "object.__setattr__") ⟨[.ref e, .str name tk, v], []⟩) R s := by
 have SF := PySem.F.store_object
 have sub : Looks (model prog w) s.heap (isInstance (.ref e) (.type "object")) true := I.type.andThen (looks_mroIn X (by unfold mroIn; rw [hc, Option.bind_some, if_neg (by rw [hm]; simp), hm]; simp [eQ]))
 refine codeAny_call_builtin SF.slot.plain SF.entry (@check_slot (model prog w) _ _ s "object.__setattr__" "object" "__setattr__" (.ref e) [.str name tk, v] [] _ SF.kind SF.split sub (SF.args (.ref e) (.str name tk) v) ?_)
 obtain ⟨attr, ha, hr⟩ := Option.bind_eq_some_iff.mp ht
 have hmr : Looks (model prog w) s.heap (mroOf (.ref C)) cd.mro := (looks_clsIn X hc).andThen .now
 have L3 : Looks (model prog w) s.heap (storeTaker? attr) none := by
  cases attr with
  | none => exact .now
  | some a =>
   obtain ⟨b, hb, hbb⟩ := Option.map_eq_some_iff.mp hr
   refine (looks_takesIn X hb).andThen ?_
   cases b
   ·exact .now
   ·cases hbb
 rw [osa_eq, refuse_eq]
 refine wpAny_bind (wpAny_bind (I.type.here (wpAny_bind (hmr.here ?_))))
 rw [hm, refuseLoop_ref, refuseLoop_ref, PySem.F.store_Exception.passes]
 refine wpAny_pure (wpAny_bind (I.type.here (wpAny_bind ((looks_findIn X ha).here (wpAny_bind (L3.here ?_))))))
 exact h _
structure wW (K : Frag) (C W : Addr) : Prop where
 cd : ∃ cd, clsIn K C = some cd /\ cd.mro = .ref C :: eQ W /\ cd.hasDict = true
 set : findIn K (.ref C) "__setattr__" = some (some (.builtin "object.__setattr__"))
theorem aGm {vs : Array Value} {Q : Unit -> Shared -> Prop} (X : K.In s.heap) (M : wW K C W) (ht : takerIn K C name = some none) (he : s.heap.get? e = some oe) (hc : oe.cls = .ref C) (hd : oe.dict = none) (hf : oe.data = .fields vs)
  (h : ∀ h' dx, (∀ b o, b ≠ e -> s.heap.get? b = some o -> h'.get? b = some o) -> s.heap.get? dx = none -> h'.get? e = some { oe with dict := some dx } -> h'.get? dx = some { cls := .type "dict", data := .dict [⟨PyData.keyHash w.params name, .str name (s.toks + 1), v⟩].toArray 1 } -> Q () { s with heap := h', toks := s.toks + 1 + 1 }) :
  wpAny (model prog w) A (setAttr (.ref e) name v) Q E s := by
 obtain ⟨cd, hcd, hm, hdict⟩ := M.cd
 obtain ⟨hh, gg, dr, tt, os⟩ := s
 dsimp only at *
 have I : InstAt hh e oe C none := ⟨he, hc, by unfold notCls; rw [hf], by rw [hd]; trivial⟩
 refine set_plain X I M.set ?_
 refine aDA (s := ⟨hh, gg, dr, tt + 1, os⟩) X I hcd hm ht fun b => ?_
 unfold storeInOwnDict ownStreamTells
 refine wpAny_bind (wpAny_pure ?_)
 have hne : (Value.ref C == Value.type "module") = false := by rfl
 rw [hne]
 refine wpAny_bind ?_
 unfold ownDictForStores instanceDict
 refine wpAny_bind (wpAny_loadPart he ?_)
 rw [hc]
 refine wpAny_bind (Looks.here (s := ⟨hh, gg, dr, tt + 1, os⟩) (looks_clsIn X hcd) ?_)
 rw [hdict]
 simp only [Bool.not_true, Bool.false_eq_true, if_false]
 rw [hd, hf]
 dsimp only
 have hth : typeHasDict (.ref C) = true := rfl
 rw [hth]
 simp only [Bool.not_true, Bool.or_false, Bool.false_eq_true, if_false]
 refine wpAny_bind (wpAny_alloc ?_)
 refine wpAny_bind (wpAny_update (Heap.get?_push_of_some _ he) (wpAny_pure ?_))
 have hne2 : hh.objs.size ≠ e := fun z => by rw [<- z, eR] at he; cases he
 have hd1 : ((hh.push { cls := .type "dict", data := .dict #[] }).update e (fun o => { o with dict := some hh.objs.size })).get? hh.objs.size = some { cls := .type "dict", data := .dict ([] : List DictEntry).toArray 0 } := by
  rw [Heap.get?_update_other _ _ (Ne.symm hne2)]; exact Heap.get?_push_size _ rfl
 have he1 : ((hh.push { cls := .type "dict", data := .dict #[] }).update e (fun o => { o with dict := some hh.objs.size })).get? e = some { oe with dict := some hh.objs.size } :=
  Heap.get?_update_self _ (Heap.get?_push_of_some _ he) (Obj.isFreed_of_fields hf)
 refine aEj (s := ⟨_, gg, dr, tt + 1, os⟩) hd1 (by rfl) aDK (by simp) fun h' sb hd' => ?_
 refine h h' hh.objs.size (fun b o hb q => ?_) (eR _) (dN sb (Ne.symm hne2) _ he1) hd'
 have : b ≠ hh.objs.size := fun z => by rw [z, eR] at q; cases q
 refine dN sb this _ ?_
 rw [Heap.get?_update_other _ _ (Ne.symm hb)]
 exact Heap.get?_push_of_some _ q
theorem aGn {vs : Array Value} {dx : Addr} {es es' : List DictEntry} {nn nn' : Nat} {Q : Unit -> Shared -> Prop} (X : K.In s.heap) (M : wW K C W) (ht : takerIn K C name = some none) (he : s.heap.get? e = some oe) (hc : oe.cls = .ref C) (hd : oe.dict = some dx) (hf : oe.data = .fields vs)
  (D : s.heap.get? dx = some { cls := .type "dict", data := .dict es.toArray nn }) (hl : (lookIn name { cls := .type "dict", data := .dict es.toArray nn }).isSome = true)
  (ep : Obj.putName name (PyData.keyHash w.params name) (.str name (s.toks + 1)) v { cls := .type "dict", data := .dict es.toArray nn } = { cls := .type "dict", data := .dict es'.toArray nn' }) (hz : es'.length <= 1000)
  (h : ∀ h', Heap.SameBut dx s.heap h' -> h'.get? dx = some { cls := .type "dict", data := .dict es'.toArray nn' } -> Q () { s with heap := h', toks := s.toks + 1 + 1 }) :
  wpAny (model prog w) A (setAttr (.ref e) name v) Q E s := by
 obtain ⟨cd, hcd, hm, hdict⟩ := M.cd
 obtain ⟨hh, gg, dr, tt, os⟩ := s
 dsimp only at *
 have I : InstAt hh e oe C (some { cls := .type "dict", data := .dict es.toArray nn }) := ⟨he, hc, by unfold notCls; rw [hf], by rw [hd]; exact D⟩
 refine set_plain X I M.set ?_
 refine aDA (s := ⟨hh, gg, dr, tt + 1, os⟩) X I hcd hm ht fun b => ?_
 unfold storeInOwnDict ownStreamTells
 refine wpAny_bind (wpAny_pure ?_)
 have hne : (Value.ref C == Value.type "module") = false := by rfl
 rw [hne]
 refine wpAny_bind ?_
 unfold ownDictForStores instanceDict
 refine wpAny_bind (wpAny_loadPart he ?_)
 rw [hc]
 refine wpAny_bind (Looks.here (s := ⟨hh, gg, dr, tt + 1, os⟩) (looks_clsIn X hcd) ?_)
 rw [hdict]
 simp only [Bool.not_true, Bool.false_eq_true, if_false]
 rw [hd]
 refine wpAny_pure ?_
 exact aEj (s := ⟨hh, gg, dr, tt + 1, os⟩) D hl ep hz fun h' sb hd' => h h' sb hd'
end
end PQ
namespace PQ
noncomputable def aCa (s : Stmt) : Bool := aAv s fun v => iU v fun g as p5 => mW g fun o a p2 => lQ "Exception" o && (("__init__" : Str) == a && (p2.endLine == p5.line && fL as fun u r => on1 r fun w => lQ "self" u && lQ "why" w))
@[elab_as_elim] theorem aGk {G : Stmt -> Prop} {s : Stmt} (h : aCa s = true) (z : ∀ p1 p2 p3 p4 p5 p6, (p2.endLine == p5.line) = true -> G (.Expr (.Call (.Attribute (.Name "Exception" p1) "__init__" p2) [.Name "self" p3, .Name "why" p4] [] p5) p6)) : G s := by
 refine aDk h fun v p6 h => ?_
 refine gC h fun g as p5 h => ?_
 refine mX h fun o a p2 h => ?_
 have q := aA (aA h).2; have r := aA q.2
 refine oF (aA h).1 fun p1 => ?_
 refine dZ q.1 ?_
 refine gF r.2 fun u l h => ?_
 refine gB h fun w h => ?_
 refine oF (aA h).1 fun p3 => ?_
 exact oF (aA h).2 fun p4 => z p1 p2 p3 p4 p5 p6 r.1
noncomputable def aDY (s : Stmt) : Bool := lU s fun t e => mW t fun o y _ => lQ "self" o && (("at" : Str) == y && onU e fun op x => .USub == op && onC x (Const.int 1 == ·))
@[elab_as_elim] theorem aK2 {G : Stmt -> Prop} {s : Stmt} (h : aDY s = true) (z : ∀ p1 p2 kd p3 p4 p5, G (.Assign [.Attribute (.Name "self" p1) "at" p2] (.UnaryOp .USub (.Constant (.int 1) kd p3) p4) p5)) : G s := by
 refine mV h fun t e p h => ?_
 refine mX h fun o y q h => ?_
 refine oF (aA h).1 fun p1 => ?_
 refine dZ (aA (aA h).2).1 ?_
 refine oK (aA (aA h).2).2 fun op x p4 h => ?_
 refine dZ (aA h).1 ?_
 refine kO (aA h).2 fun c kd p3 h => ?_
 exact dZ h (z p1 q kd p3 p4 p)
noncomputable def aBl (K : Frag) (f : Addr) : Bool := cM (K.lookup f) fun o => cM (uT o.data) fun fd => onB fd.body (fun ss => fL ss fun a r => fL r fun b r => on1 r fun c => aCa a && (vZ "why" "why" b && aDY c)) &&
  (fnp fd [("self" : Str), "why"] && (codeIn K fd.code fd.qualname && (fd.scope.names.lookup ("self" : Str) == some NameKind.local && (fd.scope.names.lookup ("why" : Str) == some NameKind.local && (fd.scope.names.lookup ("Exception" : Str) == some NameKind.globalImplicit &&
  (fd.globals == mainGlobals && fd.builtins == builtinsNs))))))
noncomputable def aBT (d : Data) : Option ClassData := match d with
 | .cls c => some c
 | _ => none
theorem aFK {d : Data} {c : ClassData} (h : aBT d = some c) : d = .cls c := by cases d <;> first | exact congrArg _ (Option.some.inj h) | exact nomatch h
noncomputable def aBO (x : CFound) : Option Value := CFound.casesOn x some fun _ _ _ _ => none
theorem aFA {x : CFound} {v : Value} (h : aBO x = some v) : x = .val v := by cases x <;> first | exact congrArg _ (Option.some.inj h) | exact nomatch h
noncomputable def aEH (K : Frag) (C : Addr) : Bool := cM (K.lookup C) fun o => cM (aBT o.data) fun cd => .type "type" == o.cls && (fL cd.mro (fun a r => fL r fun b _ => cM (oN b) fun W => (.ref C :: .ref W :: [.type "Exception", .type "BaseException", .type "object"]) == cd.mro) &&
 (!cd.hasDel && (cd.hasDict && (o.slots[4]? == some (some (.builtin "Exception.__new__")) && 6 == o.slots.size))))
noncomputable def aEI (K : Frag) (C : Addr) : Bool := aEH K C && (keepIn K (.ref C) && (findIn K (.ref C) "__setattr__" == some (some (.builtin "object.__setattr__")) && (takerIn K C "why" == some none && (takerIn K C "at" == some none && (nsIn K mainGlobals "Exception" == some none &&
 (cM (findIn K (.ref C) "__init__") (fun v => cM v fun v => cM (oN v) fun f => typeIn K (.ref f) == some (.type "function") && aBl K f) && (cM (findCls K (.type "Exception") (.type "type") "__init__") (fun c => aBO c == some (.builtin "Exception.__init__")) &&
 (findIn K (.ref C) "why" == some none && findIn K (.ref C) "__getattribute__" == some (some (.builtin "BaseException.__getattribute__"))))))))))
noncomputable def oR (K : Frag) : Bool := cM (iN K "Misused") (aEI K)
theorem aMf {K : Frag} {f : Addr} {P : Prop} (h : aBl K f = true) (z : ∀ oc od fd sl p1 p2 p3 p4 p5 p6 p7 p8 p9 p10 p11 p12 kd p13 p14 p15, K.lookup f = some ⟨oc, od, .func fd, sl⟩ -> (p2.endLine == p5.line) = true -> fd.body = .stmts [.Expr (.Call (.Attribute (.Name "Exception" p1) "__init__" p2) [.Name "self" p3, .Name "why" p4] [] p5) p6,
  .Assign [.Attribute (.Name "self" p7) "why" p8] (.Name "why" p9) p10, .Assign [.Attribute (.Name "self" p11) "at" p12] (.UnaryOp .USub (.Constant (.int 1) kd p13) p14) p15] -> fnp fd [("self" : Str), "why"] = true -> codeIn K fd.code fd.qualname = true ->
  fd.scope.names.lookup ("self" : Str) = some NameKind.local -> fd.scope.names.lookup ("why" : Str) = some NameKind.local -> fd.scope.names.lookup ("Exception" : Str) = some NameKind.globalImplicit -> fd.globals = mainGlobals -> fd.builtins = builtinsNs -> P) : P :=
 (dB h).elim fun o h => (dB h.2).elim fun fd h2 => by
  have ho := h.1
  have hd := uU h2.1
  obtain ⟨oc, od, dt, sl⟩ := o
  obtain rfl : dt = .func fd := hd
  have g := aA h2.2
  clear h h2
  have g1 := aA g.2; have g2 := aA g1.2; have g3 := aA g2.2; have g4 := aA g3.2; have g5 := aA g4.2; have g6 := aA g5.2
  refine vP (G := fun b => fd.body = b -> P) g.1 (fun ss h => gF (G := fun ss => fd.body = .stmts ss -> P) h fun a r h => gF (G := fun r => fd.body = .stmts (a :: r) -> P) h fun b r h => gB (G := fun r => fd.body = .stmts (a :: b :: r) -> P) h fun c h =>
   aGk (G := fun a => fd.body = .stmts [a, b, c] -> P) (aA h).1 fun p1 p2 p3 p4 p5 p6 hl => aAT (G := fun b => fd.body = .stmts [_, b, c] -> P) (aA (aA h).2).1 fun p7 p8 p9 p10 => aK2 (G := fun c => fd.body = .stmts [_, _, c] -> P) (aA (aA h).2).2 fun p11 p12 kd p13 p14 p15 hb => ?_) rfl
  exact z oc od fd sl p1 p2 p3 p4 p5 p6 p7 p8 p9 p10 p11 p12 kd p13 p14 p15 ho hl hb g1.1 g2.1 (eq_of_beq g3.1) (eq_of_beq g4.1) (eq_of_beq g5.1) (eq_of_beq g6.1) (eq_of_beq g6.2)
theorem aLa {α : Type} {a : Array α} {x : α} {P : Prop} (h : a[4]? = some x) (hz : 6 = a.size) (z : ∀ k0 k1 k2 k3 k5, a = #[k0, k1, k2, k3, x, k5] -> P) : P := by
 obtain ⟨l⟩ := a
 have hz : l.length = 6 := hz.symm
 have h : l[4]? = some x := (Array.getElem?_toList (xs := ⟨l⟩)).trans h
 cases l with | nil => cases hz | cons k0 l => cases l with | nil => cases hz | cons k1 l => cases l with | nil => cases hz | cons k2 l => cases l with | nil => cases hz | cons k3 l => cases l with | nil => cases hz | cons k4 l => cases l with | nil => cases hz | cons k5 l =>
 obtain rfl : l = [] := List.length_eq_zero_iff.mp (Nat.add_right_cancel (m := 6) (k := 0) hz)
 exact z k0 k1 k2 k3 k5 (by rw [<- Option.some.inj h])
inductive qV (K : Frag) (C : Addr) : Prop
 | mk (W : Addr) (nm q : Str) (N : Addr) (bs : List Value) (sn : List Str) (sub : List Value) (ab : Bool) (col : Option Bool) (dd : Option Addr) (k0 k1 k2 k3 k5 : Option Value) : K.lookup C = some (excClassObj nm q C N bs (eQ W) true sn sub ab col dd k0 k1 k2 k3 k5 "Exception.__new__") -> wW K C W -> qV K C
theorem aMg {K : Frag} {C : Addr} (h : aEH K C = true) (hs : findIn K (.ref C) "__setattr__" = some (some (.builtin "object.__setattr__"))) : qV K C :=
 (dB h).elim fun o h => (dB h.2).elim fun cd h2 => by
  have ho := h.1
  have hd := aFK h2.1
  obtain ⟨oc, od, dt, sl⟩ := o
  obtain rfl : dt = .cls cd := hd
  have g := aA h2.2
  clear h h2
  have g1 := aA g.2; have g2 := aA g1.2; have g3 := aA g2.2; have g4 := aA g3.2
  obtain rfl : Value.type "type" = oc := eq_of_beq g.1
  have hcls : clsIn K C = some cd := by unfold clsIn; rw [ho]
  refine gF (G := fun _ => qV K C) g1.1 fun a r h => gF (G := fun _ => qV K C) h fun b r h => (dB h).elim fun W h => ?_
  have hm := (eq_of_beq h.2).symm
  have hdel := fE g2.1
  have hdict := g3.1
  obtain ⟨nm, bs, mro, ns, qn, hdc, sn, sub, ab, col, del⟩ := cd
  obtain rfl : mro = _ := hm
  obtain rfl : del = false := hdel
  obtain rfl : hdc = true := hdict
  exact aLa (eq_of_beq g4.1) (eq_of_beq g4.2) fun k0 k1 k2 k3 k5 q => by
   obtain rfl : sl = _ := q
   exact .mk W nm qn ns bs sn sub ab col od k0 k1 k2 k3 k5 ho ⟨⟨_, hcls, rfl, rfl⟩, hs⟩
structure tO (K : Frag) (C : Addr) : Prop where
 obj : qV K C
 keep : keepIn K (.ref C) = true
 why : takerIn K C "why" = some none
 at_ : takerIn K C "at" = some none
 exc : nsIn K mainGlobals "Exception" = some none
 init : cM (findIn K (.ref C) "__init__") (fun v => cM v fun v => cM (oN v) fun f => typeIn K (.ref f) == some (.type "function") && aBl K f) = true
 meth : findCls K (.type "Exception") (.type "type") "__init__" = some (.val (.builtin "Exception.__init__"))
 nowhy : findIn K (.ref C) "why" = some none
 ga : findIn K (.ref C) "__getattribute__" = some (some (.builtin "BaseException.__getattribute__"))
theorem aBm {K : Frag} {C : Addr} (h : aEI K C = true) : tO K C := by
 have g0 := aA h; have g1 := aA g0.2; have g2 := aA g1.2; have g3 := aA g2.2; have g4 := aA g3.2; have g5 := aA g4.2; have g6 := aA g5.2; have g7 := aA g6.2; have g8 := aA g7.2
 exact ⟨aMg g0.1 (eq_of_beq g2.1), g1.1, eq_of_beq g3.1, eq_of_beq g4.1, eq_of_beq g5.1, g6.1, (dB g7.1).elim fun c q => q.1.trans (congrArg some (aFA (eq_of_beq q.2))), eq_of_beq g8.1, eq_of_beq g8.2⟩
end PQ
namespace PQ
theorem aFn : bootBuiltins "Exception" = some (.type "Exception") := by decide +kernel
theorem aGp : typeOf (.type "Exception") = pure (.type "type") := by kernel_rfl
theorem aGo : Manifest.isStub "Exception" = false := by decide +kernel
theorem aGl : handedIn (.builtin "Exception.__init__") = true := by decide +kernel
theorem aH6 {h1 : Int} {t1 : Tok} {v1 : Value} {n : Nat} : (lookIn "at" { cls := .type "dict", data := .dict [⟨h1, .str "why" t1, v1⟩].toArray n }).isSome = true := rfl
theorem aJC {h1 h2 : Int} {t1 t2 : Tok} {v1 v2 : Value} {n : Nat} : Obj.putName "at" h2 (.str "at" t2) v2 { cls := .type "dict", data := .dict [⟨h1, .str "why" t1, v1⟩].toArray n } = { cls := .type "dict", data := .dict [⟨h1, .str "why" t1, v1⟩, ⟨h2, .str "at" t2, v2⟩].toArray (n + 1) } := by
 rfl
theorem aIV {h : Heap} {d : Addr} {h1 h2 : Int} {t1 t2 : Tok} {v1 v2 : Value} {n : Nat} (e : h.get? d = some { cls := .type "dict", data := .dict [⟨h1, .str "why" t1, v1⟩, ⟨h2, .str "at" t2, v2⟩].toArray n }) :
  h.Ns d (fun x => bif ("why" : Str) == x then some v1 else bif ("at" : Str) == x then some v2 else none) := by
 refine ⟨_, _, _, e, rfl, fun en hen => ?_, fun x => ?_⟩
 ·exact (List.mem_cons.mp (Array.mem_toList_iff.mpr hen)).elim (fun q => ⟨_, _, congrArg DictEntry.key q⟩) fun hen => ⟨_, _, congrArg DictEntry.key (List.mem_singleton.mp hen)⟩
 ·unfold nsFind findBy
  rw [<- Array.find?_toList]
  exact aCg
section
variable {S : SP} {c : Cx} {g : Heap} {mv : Str -> Option Value} {ρ : List Addr} {σ : aG} {A : Around} {E : Value -> Shared -> Prop} {s : Shared} {hb : Bool} {n k : Nat} {ρv : aJ}
@[reducible] noncomputable def nV (C t : Addr) (dx : Option Addr) : Obj := { cls := .ref C, dict := dx, data := .fields #[.ref t, .none, .none, .none, .bool false, .none] }
theorem aIt {C e t0 : Addr} {h1 : Heap} {env : Env} {wy : Str} {tw : Tok} {mL : Str -> Option Value} {p1 p2 p3 p4 p5 p6 : Pos} {rest : List Stmt} {Q : Flow -> Shared -> Prop} (X1 : S.K.In h1) (F : Fr h1 env.locals s.heap mL) (T : TopRead S.p S.loose S.mg S.mb s.heap) (M : tO S.K C) (hline : (p2.endLine == p5.line) = true)
  (ek : env.scope.kind = .function) (l1 : env.kindOf "self" = some .local) (l2 : env.kindOf "why" = some .local) (l3 : env.scope.names.lookup ("Exception" : Str) = some .globalImplicit) (eg : env.globals = mainGlobals) (eb : env.builtins = builtinsNs)
  (m1 : mL "self" = some (.ref e)) (m2 : mL "why" = some (.str wy tw)) (he : s.heap.get? e = some (nV C t0 none))
  (h : ∀ h' t1, (∀ b o, b ≠ e -> s.heap.get? b = some o -> h'.get? b = some o) -> h'.get? e = some (nV C t1 none) -> wpAny (model S.prog S.w) A (execs rest env) Q E { s with heap := h', toks := s.toks + 1 }) :
  wpAny (model S.prog S.w) A (execs (.Expr (.Call (.Attribute (.Name "Exception" p1) "__init__" p2) [.Name "self" p3, .Name "why" p4] [] p5) p6 :: rest) env) Q E s := by
 have X := X1.keeps F.keep
 cases M.obj with | mk W nm q N bs sn sub ab col dd k0 k1 k2 k3 k5 hKC hMC =>
 refine wpAny_execs_cons (wpAny_Expr_any ?_ (by unfold interactive; rw [ek]; rfl) rfl)
 rw [arm_eval_Call]
 refine wpAny_bind ?_
 show wpAny _ _ (eval (.Name "Exception" p1) env) _ _ _
 refine Name_function_global ek l3 (loadGlobal_builtin (env := env) (by rw [eg]; exact T.g) (mg_none_of X T.g M.exc) (by rw [eb]; exact T.b) ((T.builtins "Exception" (by decide)).trans aFn) ?_) (by decide)
 refine wpAny_bind (wpAny_standAt ?_)
 have hpos : methodCallPos true (.Name "Exception" p1) env p2 p5 = pure p5 := by unfold methodCallPos; rw [hline]; rfl
 have hform : methodCallForm (([.Name "self" p3, .Name "why" p4] : List Expr).length + ([] : List Keyword).length) (backTo p5 (starEach [.Name "self" p3, .Name "why" p4] env)) (backToKw p5 (keywordEach [] env)) = true := rfl
 unfold methodCall
 rw [hform]
 refine wpAny_bind (wpAny_holding ?_)
 show wpAny _ _ (getMethod (.type "Exception") "__init__" _) _ _ _
 refine method_type (T := "Exception") (name := "__init__") (v := .builtin "Exception.__init__") (K := S.K) F X1 aGp aGo M.meth aGl ?_
 refine wpAny_bind (wpAny_of_eq hpos ?_)
 show wpAny _ _ (callWith p5 (.builtin "Exception.__init__") [] [(false, eval (.Name "self" p3) env), (false, eval (.Name "why" p4) env)] []) _ _ _
 refine Calls.callWith_builtin rfl (evalArgs_plain (spliced_cons (wpAny_Name (wpAny_loadName_local ek l1 F.ns m1 (spliced_cons (wpAny_Name (wpAny_loadName_local ek l2 F.ns m2 (spliced_nil ?_)) (by decide)))) (by decide))))
 show wpAny _ _ (call (.builtin "Exception.__init__") [.ref e, .str wy tw]) _ _ _
 exact wpAny_call (aHi (rest := [.str wy tw]) (t0 := t0) (X _ _ hKC) he (fun h₃ t3 ko he3 => h h₃ t3 ko he3) (show 1 <= sizeLine from Nat.le_trans (by decide) sz))
theorem aIu {C e t1 : Addr} {env : Env} {wy : Str} {tw : Tok} {mL : Str -> Option Value} {p7 p8 p9 p10 p11 p12 p13 p14 p15 : Pos} {kd : Nat} {Q : Flow -> Shared -> Prop} (X : S.K.In s.heap) (M : tO S.K C)
  (ek : env.scope.kind = .function) (l1 : env.kindOf "self" = some .local) (l2 : env.kindOf "why" = some .local) (hns : s.heap.Ns env.locals mL) (m1 : mL "self" = some (.ref e)) (m2 : mL "why" = some (.str wy tw)) (he : s.heap.get? e = some (nV C t1 none)) (hLe : env.locals ≠ e) (hK : ∀ b o, S.K.lookup b = some o -> b ≠ e)
  (h : ∀ h' dx mm, (∀ b o, b ≠ e -> s.heap.get? b = some o -> h'.get? b = some o) -> s.heap.get? dx = none -> h'.get? e = some (nV C t1 (some dx)) -> h'.Ns dx mm -> mm "why" = some (.str wy tw) -> Q .next { s with heap := h', toks := s.toks + 6 }) :
  wpAny (model S.prog S.w) A (execs [.Assign [.Attribute (.Name "self" p7) "why" p8] (.Name "why" p9) p10, .Assign [.Attribute (.Name "self" p11) "at" p12] (.UnaryOp .USub (.Constant (.int 1) kd p13) p14) p15] env) Q E s := by
 cases M.obj with | mk W nm q N bs sn sub ab col dd k0 k1 k2 k3 k5 hKC hMC =>
 refine wpAny_execs_cons (plainObj_wpAny_Assign_Attribute (wpAny_Name (wpAny_loadName_local ek l2 hns m2 (wpAny_Name (wpAny_loadName_local ek l1 hns m1 ?_) (by decide))) (by decide)) rfl)
 refine aGm X hMC M.why he rfl rfl rfl fun h₄ dx ko4 hdx he4 hd4 => ?_
 have hed : e ≠ dx := fun z => by rw [<- z, he] at hdx; cases hdx
 have hns4 : h₄.Ns env.locals mL := hns.at' fun o z => ko4 _ o hLe z
 refine wpAny_execs_cons (plainObj_wpAny_Assign_Attribute (wpAny_UnaryOp (wpAny_Constant_int (PySem.P.neg_int (wpAny_Name (wpAny_loadName_local ek l1 hns4 m1 ?_) (by decide))))) rfl)
 refine aGn (s := ⟨h₄, s.gens, s.drawn, _, s.os⟩) (fun b o z => ko4 b o (hK b o z) (X b o z)) hMC M.at_ he4 rfl rfl rfl hd4 aH6 aJC (Nat.le_of_ble_eq_true rfl) fun h₅ sb hd5 => wpAny_execs_nil ?_
 exact h h₅ dx _ (fun b o ne z => dN (h := h₄) (h' := h₅) sb (fun q => by rw [q, hdx] at z; cases z) o (ko4 b o ne z)) hdx (dN (h := h₄) (h' := h₅) sb hed _ he4) (aIV hd5) rfl
theorem aIs {C : Addr} {wy : Str} {t0 : Tok} {Q : Value -> Shared -> Prop} (X : S.K.In s.heap) (T : TopRead S.p S.loose S.mg S.mb s.heap) (M : tO S.K C) (hd : A.depth + 1 < recursionLimit)
  (h : ∀ e dx h' tk t1 m, s.heap.StaysIn h' -> s.heap.get? e = none -> s.heap.get? dx = none -> e ≠ dx -> h'.get? e = some (nV C t1 (some dx)) -> h'.Ns dx m -> m "why" = some (.str wy t0) -> s.toks <= tk -> Q (.ref e) { s with heap := h', toks := tk }) :
  wpAny (model S.prog S.w) A (call (.ref C) [.str wy t0]) Q E s :=
 (dB M.init).elim fun v hv => (dB hv.2).elim fun v' hv' => (dB hv'.2).elim fun f hf => by
 obtain ⟨t8, _⟩ := hv
 obtain ⟨rfl, _⟩ := hv'
 obtain rfl := sZ hf.1
 have t9 := eq_of_beq (aA hf.2).1
 refine aMf (aA hf.2).2 fun oc od fd sl p1 p2 p3 p4 p5 p6 p7 p8 p9 p10 p11 p12 kd p13 p14 p15 hK hline hb hp hcode e1 e2 e3 e4 e5 => yX hp (by decide) fun hcl hkind hco hgen hB => ?_
 cases M.obj with | mk W nm q N bs sn sub ab col dd k0 k1 k2 k3 k5 hKC hMC =>
 obtain ⟨hh, gg, dr, tt, os⟩ := s
 dsimp only at *
 refine aFw (K := S.K) X t8 t9 (X _ _ hKC) fun h1 e hm => ?_
 obtain ⟨t1, he1, ht1, _⟩ := hm.there
 have k1 : hh.StaysIn h1 := hm.keeps
 have hn := hm.new
 have X1 : S.K.In h1 := fun b o z => k1 b o (X b o z)
 have T1 := T.keeps k1
 clear hm
 refine wpAny_call (codeAny_call_function (by show A.depth + 1 < _; exact hd) (X1 _ _ hK) rfl hco hgen hb (codeRec_of X1 hcode) (hB _ [_, _] rfl _ _ _ _ ?_))
 rw [hcl]
 refine toks (wpAny_newFunctionEnv_cells hkind (fun x hx => .inl ?_) fun env he' s' x => ?_)
 ·exact (List.mem_cons.mp hx).elim (fun q => q ▸ e1) fun hx => List.mem_singleton.mp hx ▸ e2
 ·intro kt1
  obtain ⟨h₂, tk, rfl, hk⟩ := x.done
  have hk : h1.StaysIn h₂ := hk
  refine ⟨T1.nolimit.keeps hk, codeAny_func ?_⟩
  have hEL : env.locals = h1.objs.size := by rw [he']; rfl
  have hEs : env.scope = fd.scope := by rw [he']; rfl
  have ek : env.scope.kind = .function := by rw [hEs]; exact hkind
  have l1 : env.kindOf "self" = some .local := by unfold Env.kindOf; rw [hEs]; exact e1
  have l2 : env.kindOf "why" = some .local := by unfold Env.kindOf; rw [hEs]; exact e2
  have hnd : (List.map Prod.fst [(("self" : Str), Value.ref e), ("why", .str wy t0)]).Nodup := show [(("self" : Str)), "why"].Nodup by decide
  have m1 := (nN (m := fun _ => none) l1 hnd).trans (show _ = some (Value.ref e) from rfl)
  have m2 := (nN (m := fun _ => none) l2 hnd).trans (show _ = some (Value.str wy t0) from rfl)
  have hns := x.toInCall.ns
  have hLe : env.locals ≠ e := fun z => by have := Heap.lt_size he1; rw [<- z, hEL] at this; exact Nat.lt_irrefl _ this
  have ne : ∀ b o, hh.get? b = some o -> b ≠ e := fun b o z q => by rw [q, hn] at z; cases z
  refine aIt (s := ⟨h₂, gg, dr, tk, os⟩) X1 ⟨hns, hk, by rw [hEL]; exact Nat.le_refl _⟩ (T1.keeps hk) M hline ek l1 l2 (by rw [hEs]; exact e3) (by rw [he']; exact e4) (by rw [he']; exact e5) m1 m2 (hk _ _ he1) fun h₃ t3 ko he3 => ?_
  refine aIu (s := ⟨h₃, gg, dr, tk + 1, os⟩) (fun b o z => ko b o (ne b o (X b o z)) (hk b o (X1 b o z))) M ek l1 l2 (hns.at' fun o z => ko _ o hLe z) m1 m2 he3 hLe (fun b o z => ne b o (X b o z)) fun h₅ dx mm ko5 hdx he5 hd5 hmm => ⟨rfl, ?_⟩
  have keep : ∀ b o, b ≠ e -> hh.get? b = some o -> h₃.get? b = some o := fun b o ne z => ko b o ne (hk b o (k1 b o z))
  refine h e dx h₅ _ t3 mm (fun b o z => ko5 b o (ne b o z) (keep b o (ne b o z) z)) hn ?_ ?_ he5 hd5 hmm (Nat.le_trans kt1 (Nat.le_add_right tk 7))
  ·cases z : hh.get? dx with
   | none => rfl
   | some o => exact nomatch hdx.symm.trans (keep dx o (ne dx o z) z)
  ·intro z; rw [<- z] at hdx; exact nomatch hdx.symm.trans he3
end
end PQ
namespace PQ
section
variable {M : Model} {A : Around} {E : Value -> Shared -> Prop} {env : Env} {s : Shared}
variable {nm q : Str} {C N W : Addr} {bs : List Value} {hdct : Bool} {sn : List Str} {sub : List Value} {ab : Bool} {col : Option Bool} {dd : Option Addr} {k0 k1 k2 k3 k5 : Option Value}
theorem aIB : ((Value.ref C :: eQ W).contains (.type "BaseException")) = true := by simp [eQ]
inductive Made (E : Value -> Shared -> Prop) (C : Addr) (oc : Obj) (v : Value) (s : Shared) : Prop
 | mk (e t dx : Addr) : v = .ref e -> s.heap.get? C = some oc -> s.heap.get? e = some (nV C t (some dx)) -> E (.ref e) s -> Made E C oc v s
theorem aJI {x : Sem Value} {Q : Flow -> Shared -> Prop} (hh : A.handled = none)
  (h : wpAny M A x (Made E C (excClassObj nm q C N bs (eQ W) hdct sn sub ab col dd k0 k1 k2 k3 k5 "Exception.__new__")) E s) : wpAny M A (raiseStmt env (some x) none) Q E s := by
 have hcB := aIB (C := C) (W := W)
 unfold raiseStmt
 refine wpAny_bind (wpAny_mono h (fun v s₁ h₁ => ?_) fun _ _ x => x)
 cases h₁ with | mk e t dx hv hC he hE =>
 subst hv
 obtain ⟨hp, g, d, tk, os⟩ := s₁
 repeat (first | with_reducible refine wpAny_loadPart_at he ?_ | with_reducible refine wpAny_loadPart_at hC ?_ | (with_reducible refine wpAny_isSubtype_exc hC ?_; rw [hcB]) | wp_step)
 exact wpAny_raiseNew_none hh hE
end
section
variable {S : SP} {c : Cx} {g : Heap} {mv : Str -> Option Value} {ρ : List Addr} {σ : aG} {A : Around} {E : Value -> Shared -> Prop} {s : Shared} {hb : Bool} {n k : Nat}
theorem aGU {h' H : Heap} {base : Heap} (hf : ∀ en ∈ c.outer, ∀ L, en.frame = some L -> H.get? L = none) (kk : c.bg.StaysIn h') : ∀ l : List Env, (∀ en ∈ l, en ∈ c.outer) -> c.bg.FunFrames base l -> h'.FunFrames H l := fun l => by
 induction l with
 | nil => intro _ _; trivial
 | cons en l ih =>
  intro hl f
  exact ⟨f.1, f.2.1.elim fun L f2 => f2.elim fun o f2 => ⟨L, o, f2.1, hf en (hl en (.head _)) L f2.1, kk _ _ f2.2.2.1, f2.2.2.2⟩, ih (fun en he => hl en (.tail _ he)) f.2.2⟩
theorem aGE {C e dx t1 : Addr} {h' : Heap} {wy : Str} {t0 : Tok} {m : Str -> Option Value} (I : aF S c g s.heap mv ρ σ) (H : aX hb n A c g) (ho : c.own = true) (hC : iN S.K "Misused" = some C) (kk : s.heap.StaysIn h') (ne : s.heap.get? e = none) (nd : s.heap.get? dx = none) (hed : e ≠ dx)
  (he : h'.get? e = some (nV C t1 (some dx))) (hd : h'.Ns dx m) (hm : m "why" = some (.str wy t0)) : fA S c g mv wy e h' := by
 have gn : ∀ a, s.heap.get? a = none -> g.get? a = none := fun a ha => by
  cases z : g.get? a with
  | none => rfl
  | some o => exact nomatch ha.symm.trans (I.stays _ _ z)
 have hidl : ∀ a ∈ c.hid [], a ∈ c.hid ρ := fun a ha => bJ.mpr ((bJ.mp ha).imp aAb id)
 have kg : g.StaysIn (hideAll h' (e :: c.hid ρ)) := fun a o z => hideAll_get _ (kk a o (I.stays a o z)) fun hm => (List.mem_cons.mp hm).elim (fun q => by rw [q, gn _ ne] at z; cases z) fun q => by rw [I.hidn a q] at z; cases z
 have hdn : dx ∉ (e :: c.hid ρ) := fun z => (List.mem_cons.mp z).elim (fun z => hed z.symm) fun z => (I.live dx z).elim fun o w => nomatch nd.symm.trans w
 have fr : ∀ en ∈ c.fenv :: c.outer, ∀ L, en.frame = some L -> L ∈ c.hid ρ := fun en hen L hL => (H.fl en hen L hL).elim (fun z => z ▸ eZ oC) fun z => bJ.mpr (.inr z)
 refine ⟨?_, fun _ x hx => ?_, Heap.UpToSlots.of_keeps fun b o z => kk b o (I.bgs b o z), hideAll h' (e :: c.hid ρ), kg, fun a o z => kg a o (I.fr.bs a o z), fun a ha => hideAll_none _ (.tail _ (hidl a ha)), ?_⟩
 ·exact I.ns.elim fun m z => ⟨m, z.1.keeps kk, z.2⟩
 ·exact (I.cl ho x hx).elim fun a z => ⟨a, z.1, gS (fun o => kk a o) z.2⟩
 ·refine ⟨fun a o z => of_hideAll _ z, hideAll_none _ (.head _), ⟨by rw [I.fr.fk]; decide, ⟨c.fenv.locals, ?_⟩, aGU (fun en hen L hL => hideAll_none _ (.tail _ (fr en (.tail _ hen) L hL))) (fun b o z => kk b o (I.bgs b o z)) c.outer (fun _ h => h) I.fr.ff⟩,
   #[.ref t1, .none, .none, .none, .bool false, .none], ⟨C, _, dx, m, t0, hC, he, rfl, rfl, rfl, ⟨_, rfl⟩, rfl, hd.elim fun od z => z.elim fun es z => z.elim fun ep z => ⟨od, es, ep, hideAll_get _ z.1 hdn, z.2⟩, hm⟩, .inl rfl⟩
  have ffr := I.fr.ffr
  rw [I.fr.fown ho] at ffr ⊢
  exact I.ns.elim fun m z => z.1.elim fun o z => z.elim fun es z => z.elim fun ep z => ⟨o, ffr, hideAll_none _ (.tail _ (eZ oC)), kk _ _ z.1, fun vs w => by rw [z.2.1] at w; cases w⟩
end
theorem aJH {S : SP} (hX : oR S.K = true) : aBq S := by
 intro c g mv ρ σ A s n wy np kp cp pos kd Q E hg ho I H P
 refine (dB hX).elim fun C hC => ?_
 have M := aBm hC.2
 cases M.obj with | mk W nm q N bs sn sub ab col dd k0 k1 k2 k3 k5 hKC hMC =>
 rw [arm_exec_Raise]
 have X : S.K.In s.heap := fun b o e => I.stays _ _ (I.gd.k b o e)
 refine wpAny_bind (wpAny_standAt ?_)
 show wpAny _ A (raiseStmt c.env (some (do let v <- eval (.Call (.Name "Misused" np) [.Constant (.str wy) kd kp] [] cp) c.env; standAt pos; pure v)) none) _ _ s
 refine aJI (lI H rfl) (wpAny_bind (wpAny_mono (Q := Made E C (excClassObj nm q C N bs (eQ W) true sn sub ab col dd k0 k1 k2 k3 k5 "Exception.__new__")) ?_ (fun v s₃ h₃ => wpAny_bind (wpAny_standAt (wpAny_pure h₃))) fun _ _ x => x))
 refine wpAny_Call_Name_kw (vX hg (xA hC.1) I ?_)
 show wpAny _ A (callWith cp (.ref C) [] [(false, eval (.Constant (.str wy) kd kp) c.env)] []) _ _ _
 refine callWith_of (P := fun h => S.K.In h) rfl (keeps_K M.keep) (evalArgs_plain (spliced_cons (wpAny_Constant_str (spliced_nil ⟨X, ?_⟩))))
 refine aIs (s := { s with toks := s.toks + 1 }) (t0 := s.toks) X (I.gd.t.keeps I.stays) M (Nat.lt_of_le_of_lt (Nat.add_le_add_left (Nat.succ_le_succ (Nat.zero_le n)) _) H.depth) fun e dx h' tk t1 m kk ne nd hed he hd hm kt => ?_
 exact ⟨e, t1, dx, rfl, kk _ _ (X _ _ hKC), he, P.2 e mv h' tk (Nat.le_trans (Nat.le_succ _) kt) (aGE I H ho hC.1 kk ne nd hed he hd hm)⟩
end PQ
namespace PQ
open Builtin Builtin.ObjectAttr
noncomputable def aBn (K : Frag) : Bool := cM (iN K "Misused") fun C => findIn K (.ref C) "__getattr__" == some none
section
variable {prog : Program} {w : World} {A : Around} {E : Value -> Shared -> Prop} {s : Shared} {K : Frag} {C W e : Addr} {oe : Obj} {od : Option Obj} {name : Str} {v : Value} {expr : Bool} {Q : Value -> Shared -> Prop}
theorem aGR (X : K.In s.heap) (I : InstAt s.heap e oe C od) (hm : ∃ cd, clsIn K C = some cd /\ cd.mro = .ref C :: eQ W /\ cd.hasDict = true) (hga : findIn K (.ref C) "__getattribute__" = some (some (.builtin "BaseException.__getattribute__")))
  (hgn : findIn K (.ref C) "__getattr__" = some none) (hf : findObj K C od name = some (.value v)) (hh : handedIn v = true) (h : Q v { s with toks := s.toks + 1 }) : wpAny (model prog w) A (getAttr (.ref e) name expr) Q E s := by
 obtain ⟨cd, hcd, hmro, hdict⟩ := hm
 obtain ⟨hh', g, d, t, os⟩ := s
 have ht := I.type (M := model prog w)
 have SG : Slot "Exception" "__getattribute__" "BaseException.__getattribute__" := PySem.F.attr_Exception.ga
 unfold getAttr getAttrBy
 refine wpAny_bind (wpAny_mkText (wpAny_holding (wpAny_bind (ht.at (wpAny_bind ((looks_findIn X hga).at ?_))))))
 dsimp only
 have hx2 : (Value.builtin "BaseException.__getattribute__" == Value.builtin "object.__getattribute__") = false := by decide +kernel
 rw [hx2, Bool.and_false, if_neg (by decide)]
 unfold getAttrByItsOwn
 have hb : Looks (model prog w) hh' (hookBefore (.ref C)) none := looks_hook X (by rw [if_pos (by rfl)]; exact hgn)
 refine wpAny_bind (hb.at (wpAny_bind (wpAny_attempt (wpAny_holding ?_))))
 unfold callGetattribute
 rw [show (expr && onTheHeap (Value.builtin "BaseException.__getattribute__")) = false from by cases expr <;> rfl, if_neg (by decide)]
 unfold boundAndCalled
 rw [SG.bind]
 refine wpAny_bind (wpAny_pure ?_)
 show wpAny _ _ (call (.builtin "BaseException.__getattribute__") [.ref e, .str name t]) _ _ _
 refine wpAny_call ?_
 refine codeAny_call_builtin SG.plain PySem.F.entry_bexc_ga ?_
 have sub : Looks (model prog w) hh' (isInstance (.ref e) (.type "BaseException")) true := ht.andThen (looks_mroIn X (by unfold mroIn; rw [hcd, Option.bind_some, if_neg (by rw [hmro]; simp), hmro]; simp [eQ]))
 refine @check_slot (model prog w) _ _ ⟨hh', g, d, t + 1, os⟩ "BaseException.__getattribute__" "BaseException" "__getattribute__" (.ref e) [.str name t] [] _ (by decide +kernel) (by decide +kernel) sub (PySem.F.args_bexc_ga (.ref e) (.str name t)) ?_
 have L1 := looks_find (M := model prog w) X I hf
 unfold Builtin.«object.__getattribute__»
 refine wpAny_bind (wpAny_pure ?_)
 refine wpAny_bind (wpAny_pure (wpAny_bind (ht.at (wpAny_bind (L1.at ?_)))))
 refine wpAny_pure ?_
 show wpAny _ _ (handedOut v) _ _ _
 rw [handedOut_of hh]; exact wpAny_pure h
end
theorem aEY {S : SP} (h1 : oR S.K = true) (h2 : aBn S.K = true) : aBo S := by
 intro c g mv ρ σ A s wy pa expr Q E I ra P
 cases (show wQ S g pa wy from ra) with | mk e oe C D m t hC q0 q1 q2 q3 q4 q5 q6 =>
 subst q0
 refine (dB h1).elim fun C1 a => (dB h2).elim fun C2 b => ?_
 obtain rfl := Option.some.inj (a.1.symm.trans hC)
 obtain rfl := Option.some.inj (b.1.symm.trans a.1)
 have M := aBm a.2
 cases M.obj with | mk W nm q N bs sn sub ab col dd k0 k1 k2 k3 k5 hKC hMC =>
 refine (aCU q5 q6).elim fun od r => q4.elim fun vs q4 => hMC.cd.elim fun cd cc => ?_
 exact aGR (fun a o e => I.stays _ _ (I.gd.k a o e)) (show InstAt s.heap e oe C2 (some od) from ⟨I.stays _ _ q1, q2, by unfold notCls; rw [q4], by rw [q3]; exact I.stays _ _ r.1⟩) ⟨cd, cc⟩ M.ga (eq_of_beq b.2) (aCf cc.1 cc.2.2 M.nowhy r.2) rfl (P.same I (VR.str wy t) (Nat.le_succ _))
theorem aMi {S : SP} (h0 : aAI S.K = true) (h1 : tX S.K "Tongue" "types" (.builtin "object.__getattribute__") = true) (h2 : wI S.K = true) (h3 : oR S.K = true) (h4 : aBn S.K = true) : Wld S :=
 ⟨⟨h0, h1⟩, h2, aEY h3 h4, aJH h3⟩
end PQ
namespace PQ
structure kY (c : Cx) : Prop where
 own : c.own = true
 bg : ∀ a, c.bg.get? a = none
 hs : c.hs = []
 oc : ∀ a ∈ c.oc, ∃ x, c.env.kindOf x = some .cell /\ c.env.cells.lookup x = some a
noncomputable def NsL (c : Cx) (mv : Str -> Option Value) (h : Heap) : Prop := ∃ m, h.Ns c.env.locals m /\ ∀ x, c.env.kindOf x = some .local -> m x = mv x
noncomputable def ClL (c : Cx) (mv : Str -> Option Value) (h : Heap) : Prop := ∀ x, c.env.kindOf x = some .cell -> ∃ a, c.env.cells.lookup x = some a /\ h.IsCell a (mv x)
section
variable {S : SP} {c : Cx} {g g' h0 : Heap} {mv : Str -> Option Value} {ρ : List Addr} {σ : aG} {A : Around} {E : Value -> Shared -> Prop} {s : Shared} {n k : Nat} {ρv : aJ}
theorem aCl {M : Model} {B : Heap} {l : List Env} {e T : Addr} {wy : Str} {vs : Array Value} {fl : Value} {fr : Option Addr} {Q : Unit -> Shared -> Prop} (f1 : B.StaysIn s.heap) (f2 : B.get? e = none) (f3 : s.heap.FunFrames B l) (m : iY S B e wy s.heap vs) (h1 : vs[1]? = some (.ref T)) (tb : nJ B e s.heap T fl)
  (h : ∀ h', B.StaysIn h' -> h'.FunFrames B l -> iY S B e wy h' vs -> nJ B e h' T (fr.elim .none fun f => rawInt f) -> s.heap.UpToSlots h' -> Q () { s with heap := h' }) : wpAny M A (setFlight (.ref e) fr) Q E s := by
 obtain ⟨C, oe, D, mm, t, m1, he, m2, m3, hd, _⟩ := id m
 obtain ⟨hnT, hTe, oT, ts, hT, hdT, h3⟩ := id tb
 unfold setFlight
 refine wpAny_bind (wpAny_field he hd h1 ?_)
 rw [if_pos (show (Value.ref T != Value.none) = true from rfl)]
 have z := aA6 (x := fr.elim .none fun f => rawInt f) f1 f2 f3 m tb
 exact wpAny_setField hT hdT (Array.getElem?_eq_some_iff.mp h3).1 (h _ z.1 z.2.1 z.2.2.2.1 z.2.2.2.2 z.2.2.1)
theorem aCx (O : kY c) {a : Addr} (h : a ∈ c.hid []) : a = c.env.locals \/ a ∈ c.oc :=
 (bJ.mp h).elim (fun h => (bQ.mp h).elim (fun z => nomatch z) id) fun z => by rw [O.hs] at z; cases z
theorem zE {h' : Heap} (O : kY c) (x1 : NsL c mv h') (x0 : ClL c mv h') {a : Addr} (ha : a ∈ c.hid []) {P : Prop} (k : ∀ o, h'.get? a = some o -> (∀ vs, o.data ≠ .fields vs) -> P) : P :=
 (aCx O ha).elim (fun q => by subst q; exact x1.elim fun m z => z.1.elim fun o z => z.elim fun es z => z.elim fun ep z => k o z.1 fun vs w => by rw [z.2.1] at w; cases w)
  fun z => (O.oc a z).elim fun x q => (x0 x q.1).elim fun b r => by
   obtain rfl := Option.some.inj (q.2.symm.trans r.1)
   exact r.2.elim fun o z => k o z.1 fun vs w => by rw [z.2] at w; cases w
theorem aF.caught {B h' : Heap} (I0 : aF S c g h0 mv ρ σ) (O : kY c) (x1 : NsL c mv h') (x0 : ClL c mv h') (x3 : g.StaysIn B) (kB : B.StaysIn (hideAll h' (c.hid []))) : aF S c (hideAll h' (c.hid [])) h' mv [] [] :=
 have kg := cH x3 kB
 { stays := fun a o z => of_hideAll _ z
   bgs := fun a o z => nomatch (O.bg a).symm.trans z
   gd := I0.gd.mono kg
   fr := I0.fr.mono kg
   ns := x1
   cl := fun _ => x0
   cf := fun q => nomatch O.own.symm.trans q
   hidn := fun a ha => hideAll_none _ ha
   live := fun a ha => zE O x1 x0 ha fun o q _ => ⟨o, q⟩
   nd := (List.nodup_append.mp I0.nd).2.1
   bgn := fun a _ => O.bg a
   len := rfl
   st := fun l o a e1 _ => nomatch e1
   wf := fun l kvs e1 => nomatch e1 }
theorem aAn {h h' : Heap} (u : h.UpToSlots h') (x : NsL c mv h) : NsL c mv h' := x.elim fun m z => ⟨m, u.ns z.1, z.2⟩
theorem yB {h h' : Heap} (u : h.UpToSlots h') (x : ClL c mv h) : ClL c mv h' := fun y hy => (x y hy).elim fun a q => q.2.elim fun o z => (u a o z.1 fun vs w => by rw [z.2] at w; cases w).elim fun sl w => ⟨a, q.1, _, w, z.2⟩
theorem aFy {b₀ : Stmt} {suite : List Stmt} {h : List bH} {i : Nat} {y wy : Str} {e : Addr} {pos : Pos} {b : Bool} {σr : aG} {B : Heap} {vs : Array Value} {Q : Flow -> Shared -> Prop} {E1 E2 : Value -> Shared -> Prop} (W : Wld S) (hpos : 0 < s.toks)
  (I0 : aF S c g h0 mv ρ σ) (R : aV S g ρ mv ρv) (H : aX false n A c g) (O : kY c) (hi : bP[i]? = some y) (hy : c.env.kindOf y = some .local) (hv : cP c.env.scope y = true) (hch : dU k c.env.scope (b₀ :: suite) h = true)
  (x3 : g.StaysIn B) (x5 : ∀ a ∈ c.hid [], B.get? a = none) (l1 : B.StaysIn s.heap) (z1 : NsL c mv s.heap) (z0 : ClL c mv s.heap) (m₃ : iY S B e wy s.heap vs)
  (ev : bS FT true n h (ρv.pure.set i (.exc wy)) [] = .ok (.ret (.d (.bool b))) σr) (hQ : ∀ h' tk, g.StaysIn h' -> Q (.ret (.bool b)) { s with heap := h', toks := tk }) :
  wpAny (model S.prog S.w) (A.mark (some (.ref e))) (storeName c.env y (.ref e)) (fun _ s₁ => wpAny (model S.prog S.w) (A.mark (some (.ref e))) (execs (b₀ :: suite) c.env) (fun f s₂ => wpAny (model S.prog S.w) A (do bindName c.env y .none; unbindBehindTheSuite c.env y pos) (fun _ s₃ => Q f s₃) E s₂) E2 s₁) E1 s := by
 obtain ⟨C2, oe3, D3, mm3, t3, n1, he3, n3, n4, hd3, n5, n6, n7, n8⟩ := id m₃
 have kB : B.StaysIn (hideAll s.heap (c.hid [])) := fun a o z => hideAll_get _ (l1 a o z) fun hm => nomatch (x5 a hm).symm.trans z
 have Ic := I0.caught O z1 z0 x3 kB
 have he' : (hideAll s.heap (c.hid [])).get? e = some oe3 := hideAll_get _ he3 fun z => zE O z1 z0 z fun o q nf => nf vs (by rw [<- Option.some.inj (he3.symm.trans q)]; exact hd3)
 refine wpAny_with_toks (n := s.toks) (Nat.le_refl _) (kS Ic hv (.inl O.own) fun h₄ tk₄ I₄ kt₄ => ?_)
 refine (qL W n true).2.2.2.2.2.2.2.1 (s := { s with heap := h₄, toks := tk₄ }) O.own hch I₄ (((R.pure (ρ' := [])).mono (cH x3 kB) (aQ.refl _)).set hi (show VR S _ [] (.ref e) (.exc wy) from .mk e oe3 C2 D3 mm3 t3 n1 rfl he' n3 n4 ⟨vs, hd3⟩ (n7.keeps kB) n8))
  (⟨H.depth, H.units, H.guards, H.frames, H.fl, ⟨e, oe3, vs, rfl, he', hd3, n6⟩⟩ : aX true n (A.mark (some (.ref e))) c (hideAll s.heap (c.hid []))) ?_
 rw [ev]
 refine ⟨Nat.lt_of_lt_of_le hpos kt₄, fun g' ρ' mv' pv h₅ tk₅ _ kg5 _ I₅ rv5 => ?_⟩
 obtain rfl : pv = .bool b := rv5
 refine wpAny_bind (wpAny_bindName (kS (s := { s with heap := h₅, toks := tk₅ }) I₅ hv (.inl O.own) fun h₆ tk₆ I₆ => I₆.ns.elim fun m6 hn6 => ?_))
 unfold unbindBehindTheSuite
 refine wpAny_onRaise (wpAny_unbindName_local hy hn6.1 ((hn6.2 y hy).trans (tG ..)) (by rw [I₆.fr.ek]; rfl) fun h₇ u hn7 sb => hQ h₇ tk₆ fun a o z => ?_)
 have z' := kg5 a o (kB a o (x3 a o z))
 exact dN (h := h₆) (h' := h₇) sb (fun q => nomatch (q ▸ I₆.hidn _ (eZ oC)).symm.trans z') o (I₆.stays a o z')
theorem aFx {b₀ : Stmt} {suite : List Stmt} {h : List bH} {i : Nat} {y wy : Str} {e : Addr} {np pos : Pos} {b : Bool} {σr : aG} {Q : Flow -> Shared -> Prop} (W : Wld S) (hX : oR S.K = true) (hpos : 0 < s.toks)
  (I0 : aF S c g h0 mv ρ σ) (R : aV S g ρ mv ρv) (H : aX false n A c g) (O : kY c) (hg : dK c.env.scope "Misused" = true) (hi : bP[i]? = some y) (hy : c.env.kindOf y = some .local) (hv : cP c.env.scope y = true) (hch : dU k c.env.scope (b₀ :: suite) h = true)
  (F : fA S c g mv wy e s.heap) (ev : bS FT true n h (ρv.pure.set i (.exc wy)) [] = .ok (.ret (.d (.bool b))) σr)
  (hQ : ∀ h' tk, g.StaysIn h' -> Q (.ret (.bool b)) { s with heap := h', toks := tk }) :
  wpAny (model S.prog S.w) A (noteFrame (.ref e) c.env) (fun _ s₂ => wpAny (model S.prog S.w) A (setFlight (.ref e) none) (fun _ s₃ =>
   wpAny (model S.prog S.w) A (handleBy (.ref e) c.env [.ExceptHandler (some (.Name "Misused" np)) (some y) (b₀ :: suite) pos]) Q E s₃) E s₂) E s := by
 obtain ⟨x1, x0, x2, B, x3, x4, x5, x6⟩ := F
 refine yW H.frames I0.fr.ffr I0.fr.fe x6 fun h₁ F₁ u₁ => ?_
 obtain ⟨f1, f2, f3, vs, T, m, h1, tb⟩ := F₁
 refine aCl (s := { s with heap := h₁ }) f1 f2 f3 m h1 tb fun h₂ k1 k2 m₂ tb₂ u₂ => ?_
 have kg2 : g.StaysIn h₂ := cH x3 k1
 refine (dB hX).elim fun C hC => ?_
 cases (aBm hC.2).obj with | mk Wa nm q N bs sn sub ab col dd k0 k1' k2' k3 k5 hKC hMC =>
 have X2 : S.K.In h₂ := fun a o z => kg2 a o (I0.gd.k a o z)
 have T2 := I0.gd.t.keeps kg2
 refine wpAny_handleBy_cons (codeAny_handlers_test ?_) (fun q => nomatch q)
 refine Name_function_global I0.fr.ek (eq_of_beq (aA hg).1) (loadGlobal_global (env := c.env) (by rw [I0.fr.eg]; exact T2.g) (mg_of X2 T2.g (xA hC.1)) ?_) (by decide)
 obtain ⟨C', oe, D, mm, t, m1, he, m3, m4, hd, _⟩ := id m₂
 obtain rfl : C = C' := Option.some.inj (hC.1.symm.trans m1)
 refine wpAny_excMatches_sub_self (nm := nm) (q := q) (N := N) (bs := bs) (bm := eQ Wa) (hdct := true) (sn := sn) (sub := sub) (ab := ab) (col := col) (dd := dd) (k0 := k0) (k1 := k1') (k2 := k2') (k3 := k3) (k5 := k5) (newId := "Exception.__new__") (X2 _ _ hKC) he m3 (List.contains_iff_mem.mpr (.tail _ (.tail _ (.head _)))) ?_
 refine codeAny_handlers_suite_as (aCl (s := { s with heap := h₂ }) k1 f2 k2 m₂ h1 tb₂ fun h₃ l1 l2 m₃ tb₃ u₃ => ?_)
 exact aFy (s := { s with heap := h₃ }) W hpos I0 R H O hi hy hv hch x3 x5 l1 (aAn u₃ (aAn u₂ (aAn u₁ x1))) (yB u₃ (yB u₂ (yB u₁ (x0 O.own)))) m₃ ev hQ
end
end PQ
namespace PQ
section
variable {S : SP} {c : Cx} {A : Around} {E : Value -> Shared -> Prop} {k : Nat}
theorem aDJ (W : Wld S) (ho : c.own = true) {rest : List Stmt} {Q : Flow -> Shared -> Prop} {n : Nat} : ∀ {pre : List Stmt} {ms : List bH} {k : Nat} {g : Heap} {mv : Str -> Option Value} {ρ : List Addr} {σ σ1 : aG} {s : Shared} {ρv ρ1 : aJ},
  dU k c.env.scope pre ms = true -> aF S c g s.heap mv ρ σ -> aV S g ρ mv ρv -> aX false n A c g -> 0 < s.toks -> bS FT false n ms ρv σ = .ok (.next ρ1) σ1 ->
  (∀ g' ρ' mv' h' tk, s.toks <= tk -> g.StaysIn g' -> aF S c g' h' mv' ρ' σ1 -> aV S g' ρ' mv' ρ1 -> wpAny (model S.prog S.w) A (execs rest c.env) Q E { s with heap := h', toks := tk }) ->
  wpAny (model S.prog S.w) A (execs (pre ++ rest) c.env) Q E s := by
 induction n with
 | zero => intro pre ms k g mv ρ σ σ1 s ρv ρ1 hc I R H hp ev hk; exact nomatch ev
 | succ n ih =>
  intro pre ms k g mv ρ σ σ1 s ρv ρ1 hc I R H hp ev hk
  cases k with
  | zero => exact bK hc
  | succ k =>
  cases ms with
  | nil =>
   refine nil_r (show pre.isEmpty = true from hc) ?_
   obtain ⟨e, rfl⟩ := aI.ok.inj (show (aI.ok (Fl.next ρv) σ : aI Fl) = _ from ev)
   obtain rfl := Fl.next.inj e
   exact hk g ρ mv s.heap s.toks (Nat.le_refl _) (bU _) I R
  | cons m ms =>
   refine gF (show fL pre (fun s ss => uA k c.env.scope s m && dU k c.env.scope ss ms) = true from hc) fun st pre hc => ?_
   have H' := H.le (Nat.le_succ n)
   refine xU ev fun fl σ₂ q ev => ?_
   cases fl with
   | ret v => cases ev
   | next ρ₂ =>
    refine wpAny_execs_cons ((qL W n false).2.2.2.2.2.2.2.2 ho (aA hc).1 I R H' ?_)
    rw [q]
    exact ⟨hp, fun g' ρ' mv' h' tk t kg kr I' R' => ih (s := { s with heap := h', toks := tk }) (aA hc).2 I' R' (H'.mono kg) (Nat.lt_of_lt_of_le hp t) ev fun g'' ρ'' mv'' h'' tk'' t' kg' I'' R'' => hk g'' ρ'' mv'' h'' tk'' (Nat.le_trans t t') (cH kg kg') I'' R''⟩
inductive tL (n : Nat) (pre post h : List bH) (e : aK) (i j : Nat) (ρ0 : aJ) (b : Bool) : Prop
 | fine (ρ1 : aJ) (σ1 : aG) (v : aB) (σ2 σ3 : aG) : bS FT false n pre ρ0 [] = .ok (.next ρ1) σ1 -> aP FT false n e ρ1 σ1 = .ok v σ2 -> bS FT false n post (ρ1.set i v) σ2 = .ok (.ret (.d (.bool b))) σ3 -> tL n pre post h e i j ρ0 b
 | caught (ρ1 : aJ) (σ1 : aG) (w : Str) (σ3 : aG) : bS FT false n pre ρ0 [] = .ok (.next ρ1) σ1 -> aP FT false n e ρ1 σ1 = .exc w -> bS FT true n h (ρ1.pure.set j (.exc w)) [] = .ok (.ret (.d (.bool b))) σ3 -> tL n pre post h e i j ρ0 b
theorem aHN {g : Heap} {mv : Str -> Option Value} {s : Shared} {ρ0 : aJ} {n k : Nat} {pre post suite : List Stmt} {b₀ : Stmt} {preM postM h : List bH} {x y : Str} {i j : Nat} {v : Expr} {e : aK} {np ap xp hp tp : Pos} {b : Bool} {Q : Flow -> Shared -> Prop}
  (W : Wld S) (hX : oR S.K = true) (hpos : 0 < s.toks) (I : aF S c g s.heap mv [] []) (R : aV S g [] mv ρ0) (H : aX false n A c g) (O : kY c)
  (hg : dK c.env.scope "Misused" = true) (hi : bP[i]? = some x) (hxv : cP c.env.scope x = true) (hj : bP[j]? = some y) (hy : c.env.kindOf y = some .local) (hyv : cP c.env.scope y = true)
  (c1 : dU k c.env.scope pre preM = true) (c2 : aR k c.env.scope v e = true) (hcomp : jD v = false) (c3 : dU k c.env.scope (b₀ :: suite) h = true) (c4 : dU k c.env.scope post postM = true)
  (ev : tL n preM postM h e i j ρ0 b) (hQ : ∀ h' tk, g.StaysIn h' -> Q (.ret (.bool b)) { s with heap := h', toks := tk }) :
  wpAny (model S.prog S.w) A (execs (pre ++ .Try [.Assign [.Name x np] v ap] [.ExceptHandler (some (.Name "Misused" xp)) (some y) (b₀ :: suite) hp] [] [] tp :: post) c.env) Q E s := by
 cases ev with
 | fine ρ1 σ1 va σ2 σ3 e1 q1 q2 =>
  refine aDJ W O.own c1 I R H hpos e1 fun g' ρ' mv' h' tk t kg I' R' => wpAny_execs_cons ?_
  rw [arm_exec_Try]
  refine wpAny_bind (wpAny_standAt (wpAny_tryStmt_except (wpAny_execs_cons (wpAny_Assign_Name ((qL W n false).1 (s := { s with heap := h', toks := tk }) c2 I' R' (H.mono kg) ?_) (oG hcomp)))))
  rw [q1]
  refine ⟨Nat.lt_of_lt_of_le hpos t, fun g₁ ρ₁ pv h₁ tk₁ (t₁ : tk <= tk₁) kg₁ kr₁ I₁ rv => ?_⟩
  refine wpAny_with_toks (n := tk₁) (s := { s with heap := h₁, toks := tk₁ }) (Nat.le_refl _) (kS (s := { s with heap := h₁, toks := tk₁ }) I₁ hxv (.inl O.own) fun h₂ tk₂ I₂ (kt : tk₁ <= tk₂) => wpAny_execs_nil (wpAny_execs_nil ?_))
  refine (qL W n false).2.2.2.2.2.2.2.1 (s := { s with heap := h₂, toks := tk₂ }) O.own c4 I₂ ((R'.mono kg₁ kr₁).set hi rv) ((H.mono kg).mono kg₁) ?_
  rw [q2]
  refine ⟨Nat.lt_of_lt_of_le hpos (Nat.le_trans t (Nat.le_trans t₁ kt)), fun g₃ ρ₃ mv₃ pv₃ h₃ tk₃ _ kg₃ _ I₃ rv₃ => ?_⟩
  obtain rfl : pv₃ = .bool b := rv₃
  exact hQ h₃ tk₃ (cH kg (cH kg₁ (cH kg₃ I₃.stays)))
 | caught ρ1 σ1 w σ3 e1 q1 q2 =>
  refine aDJ W O.own c1 I R H hpos e1 fun g' ρ' mv' h' tk t kg I' R' => wpAny_execs_cons ?_
  rw [arm_exec_Try]
  refine wpAny_bind (wpAny_standAt (wpAny_tryStmt_except (wpAny_execs_cons (wpAny_Assign_Name ((qL W n false).1 (s := { s with heap := h', toks := tk }) c2 I' R' (H.mono kg) ?_) (oG hcomp)))))
  rw [q1]
  refine ⟨Nat.lt_of_lt_of_le hpos t, fun ex h₁ tk₁ (t₁ : tk <= tk₁) fl => ?_⟩
  exact aFx (s := { s with heap := h₁, toks := tk₁ }) W hX (Nat.lt_of_lt_of_le hpos (Nat.le_trans t t₁)) I' R' (H.mono kg) O hg hj hy hyv c3 fl q2 fun h₂ tk₂ k₂ => hQ h₂ tk₂ (cH kg k₂)
end
end PQ
namespace PQ
section
variable {S : SP} {c : Cx} {A : Around} {E : Value -> Shared -> Prop} {k : Nat}
theorem aHK {g : Heap} {mv : Str -> Option Value} {s : Shared} {ρ0 : aJ} {n m k : Nat} {rest : List Stmt} {x : Str} {i kd : Nat} {r : Expr} {op : BOp} {a : Int} {bm : aK} {db z : PyData} {np cp bp ap : Pos} {Q : Flow -> Shared -> Prop}
  (W : Wld S) (I : aF S c g s.heap mv [] []) (R : aV S g [] mv ρ0) (H : aX false n A c g) (ho : c.own = true) (hi : bP[i]? = some x) (hxv : cP c.env.scope x = true)
  (c2 : aR k c.env.scope r bm = true) (hm : m <= n) (e1 : aP FT false m bm ρ0 [] = .ok (.d db) []) (e2 : tY op (.int a) db = some z)
  (hk : ∀ g' mv' h' tk, 0 < tk -> g.StaysIn g' -> aF S c g' h' mv' [] [] -> aV S g' [] mv' (ρ0.set i (.d z)) -> wpAny (model S.prog S.w) A (execs rest c.env) Q E { s with heap := h', toks := tk }) :
  wpAny (model S.prog S.w) A (execs (.Assign [.Name x np] (.BinOp (.Constant (.int a) kd cp) (pB op) r bp) ap :: rest) c.env) Q E s := by
 refine wpAny_execs_cons (wpAny_Assign_Name (wpAny_BinOp (wpAny_Constant_int ?_)) (oG rfl))
 refine (qL W m false).1 (s := { s with toks := s.toks + 1 }) c2 I R (H.le hm) ?_
 rw [e1]
 refine ⟨Nat.succ_pos _, fun g₁ ρ₁ pb h₁ tk₁ (t : s.toks + 1 <= tk₁) kg kr I₁ rb => ?_⟩
 obtain rfl : ρ₁ = [] := List.length_eq_zero_iff.mp I₁.len
 refine aBG (s := { s with heap := h₁, toks := tk₁ }) e2 I₁ (RD.int a _) rb ⟨Nat.lt_of_lt_of_le (Nat.succ_pos _) t, fun g₂ ρ₂ pv h₂ tk₂ (t₂ : tk₁ <= tk₂) kg₂ kr₂ I₂ rv => ?_⟩
 obtain rfl : ρ₂ = [] := List.length_eq_zero_iff.mp I₂.len
 refine wpAny_with_toks (n := tk₂) (s := { s with heap := h₂, toks := tk₂ }) (Nat.le_refl _) (kS (s := { s with heap := h₂, toks := tk₂ }) I₂ hxv (.inl ho) fun h₃ tk₃ I₃ (kt : tk₂ <= tk₃) => ?_)
 exact hk g₂ _ h₃ tk₃ (Nat.lt_of_lt_of_le (Nat.succ_pos _) (Nat.le_trans t (Nat.le_trans t₂ kt))) (cH kg kg₂) I₃ ((R.mono (cH kg kg₂) (aQ.refl _)).set hi rv)
end
end PQ
namespace PQ
theorem aMt (a : Addr) : ({} : Heap).get? a = none := rfl
theorem aHo {S : SP} {g : Heap} {vs : List Value} {ns : List Int} (h : IntsAre vs ns) : aM S g vs (ns.map .int) := by
 induction h with
 | nil => trivial
 | cons n t r ih => exact ⟨⟨t, rfl⟩, ih⟩
noncomputable def qH (i : Nat) (ds : List PyData) : aJ := fun j => bif Nat.beq j i then some (.d (.list ds)) else none
section
variable {S : SP} {E : Value -> Shared -> Prop} {s : Shared}
theorem aF.entered {env : Env} {h₁ : Heap} {mv : Str -> Option Value} (X : S.K.In s.heap) (T : TopRead S.p S.loose S.mg S.mb s.heap) (kk : s.heap.StaysIn h₁) (hL : s.heap.objs.size <= env.locals) (ek : env.scope.kind = .function) (eg : env.globals = mainGlobals) (eb : env.builtins = builtinsNs) (ef : env.frame = some env.locals)
  (hns : NsL ⟨env, true, [], {}, {}, env, []⟩ mv h₁) (hcl : ClL ⟨env, true, [], {}, {}, env, []⟩ mv h₁) (hab : ∀ p ∈ env.cells, env.locals < p.2) (hnd : (env.cells.map (·.2)).Nodup) (O : kY ⟨env, true, [], {}, {}, env, []⟩) :
  s.heap.StaysIn (hideAll h₁ (Cx.hid ⟨env, true, [], {}, {}, env, []⟩ [])) /\ aF S ⟨env, true, [], {}, {}, env, []⟩ (hideAll h₁ (Cx.hid ⟨env, true, [], {}, {}, env, []⟩ [])) h₁ mv [] [] := by
 have big : ∀ b, b ∈ Cx.hid ⟨env, true, [], {}, {}, env, []⟩ [] -> s.heap.get? b = none := fun b hb => by
  have hge : s.heap.objs.size <= b := (aCx O hb).elim (fun q => q ▸ hL) fun q => by
   obtain ⟨p, hp, rfl⟩ := List.mem_map.mp (show b ∈ env.cells.map (·.2) from q)
   exact Nat.le_trans hL (Nat.le_of_lt (hab p hp))
  cases q : s.heap.get? b with
  | none => rfl
  | some o => exact absurd (Heap.lt_size q) (Nat.not_lt.mpr hge)
 have kg : s.heap.StaysIn (hideAll h₁ (Cx.hid ⟨env, true, [], {}, {}, env, []⟩ [])) := fun b o z => hideAll_get _ (kk b o z) fun hm => nomatch (big b hm).symm.trans z
 exact ⟨kg, {
  stays := fun b o z => of_hideAll _ z
  bgs := fun b o z => nomatch z
  gd := ⟨fun b o z => kg b o (X b o z), T.keeps kg⟩
  fr := { ek := ek, eg := eg, eb := eb, fk := ek, ffr := ef, fe := ef, fown := fun _ => rfl, fbg := fun q => (nomatch q), fh := rfl, bs := fun b o z => (nomatch z), ff := trivial }
  ns := hns
  cl := fun _ => hcl
  cf := fun q => nomatch q
  hidn := fun b hb => hideAll_none _ hb
  live := fun b hb => zE O hns hcl hb fun o q _ => ⟨o, q⟩
  nd := List.nodup_cons.mpr ⟨fun z => by
   obtain ⟨p, hp, q⟩ := List.mem_map.mp (show env.locals ∈ env.cells.map (·.2) from z)
   exact absurd (hab p hp) (q ▸ Nat.lt_irrefl _), hnd⟩
  bgn := fun b _ => rfl
  len := rfl
  st := fun l o b e1 _ => nomatch e1
  wf := fun l kvs e1 => nomatch e1 }⟩
theorem aGd {a la : Addr} {oc : Value} {od : Option Addr} {sl : Array (Option Value)} {fd : FuncData} {body : List Stmt} {vs : List Value} {ns : List Int} {i : Nat} {x : Str} {Q : Value -> Shared -> Prop}
  (X : S.K.In s.heap) (T : TopRead S.p S.loose S.mg S.mb s.heap) (ho : s.heap.get? a = some ⟨oc, od, .func fd, sl⟩) (hbd : fd.body = .stmts body) (hcd : s.heap.CodeRec fd.code fd.qualname) (hgl : fd.globals = mainGlobals) (hbi : fd.builtins = builtinsNs) (hp : fnp fd [x] = true)
  (hx : bP[i]? = some x) (hxv : cP fd.scope x = true) (hcn : ((cellsFrom 0 fd.scope.names []).map (·.1)).Nodup) (hck : ∀ p ∈ cellsFrom 0 fd.scope.names [], fd.scope.names.lookup p.1 = some .cell)
  (hl : s.heap.get? la = some { cls := .type "list", data := .seq vs.toArray }) (hI : IntsAre vs ns) {n : Nat} (hn : n <= 600)
  (walk : ∀ (c : Cx) (g h : Heap) (mv : Str -> Option Value) (A : Around) (tk : Nat), c.env.scope = fd.scope -> kY c -> s.heap.StaysIn g ->
   aF S c g h mv [] [] -> aV S g [] mv (qH i (ns.map .int)) -> aX false n A c g -> ∀ E', wpAny (model S.prog S.w) A (execs body c.env) (fun f s' => Q (match f with | .ret v => v | _ => .none) s') E' { s with heap := h, toks := tk }) :
  wpAny (model S.prog S.w) callerA (call (.ref a) [.ref la]) Q E s := yX hp (List.nodup_cons.mpr ⟨List.not_mem_nil, List.nodup_nil⟩) fun hcl hk hco hgen hB => by
 refine wpAny_call (codeAny_call_function (by decide +kernel) ho rfl hco hgen hbd hcd (hB _ [_] rfl _ _ _ _ ?_))
 rw [hcl]
 refine toks (wpAny_newFunctionEnv_cells hk (fun y hy => ?_) fun env he' s' xx => ?_)
 ·rw [List.mem_singleton.mp hy]
  exact iB (aA hxv).1 (fun q => .inl (eq_of_beq q)) fun q => .inr ⟨eq_of_beq q, cellsFrom_some _ _ _ (.inl (eq_of_beq q))⟩
 ·intro kt1
  obtain ⟨h₁, tk, rfl, hkk⟩ := xx.done
  refine ⟨T.nolimit.keeps hkk, codeAny_func ?_⟩
  have hEL : env.locals = s.heap.objs.size := by rw [he']; rfl
  have hEs : env.scope = fd.scope := by rw [he']; rfl
  have hEc : env.cells = cellsFrom (s.heap.objs.size + 1) fd.scope.names [] := by rw [he']; rfl
  have hEg : env.globals = mainGlobals := by rw [he']; exact hgl
  have hEb : env.builtins = builtinsNs := by rw [he']; exact hbi
  have hEf : env.frame = some env.locals := by rw [he']; rfl
  clear he'
  have hnm := cellsFrom_names fd.scope.names (s.heap.objs.size + 1) 0 [] [] rfl
  have hnn : ([(x, Value.ref la)].map (·.1)).Nodup := List.nodup_cons.mpr ⟨List.not_mem_nil, List.nodup_nil⟩
  have O : kY ⟨env, true, [], {}, {}, env, []⟩ := ⟨rfl, fun _ => rfl, rfl, fun b hb => by
   obtain ⟨p, hp, rfl⟩ := List.mem_map.mp (show b ∈ env.cells.map (·.2) from hb)
   refine ⟨p.1, ?_, lookup_of_mem_nodup (by rw [hEc, hnm]; exact hcn) hp⟩
   obtain ⟨q, q1, q2⟩ := List.mem_map.mp (show p.1 ∈ (cellsFrom 0 fd.scope.names []).map (·.1) from hnm ▸ hEc ▸ List.mem_map_of_mem hp)
   show env.scope.names.lookup p.1 = _
   rw [hEs, <- q2]; exact hck q q1⟩
  have G := aF.entered (mv := fun y => [(x, Value.ref la)].lookup y) X T hkk (Nat.le_of_eq hEL.symm) (hEs ▸ hk) hEg hEb hEf ⟨_, xx.toInCall.ns, fun y hy => (nN hy hnn).trans (Option.or_none ..)⟩ (fun y hy => by
    obtain ⟨b, hb'⟩ := Option.isSome_iff_exists.mp (show (env.cells.lookup y).isSome = true by rw [hEc]; exact cellsFrom_some _ _ _ (.inl (hEs ▸ hy)))
    have z := xx.cell y b hb'
    rw [show bindC env.kindOf ([x].zip [Value.ref la]) (fun _ => none) y = _ from aBH hy hnn, Option.or_none] at z
    exact ⟨b, hb', z⟩) (fun p hp => xx.above p.1 p.2 hp) (by rw [List.nodup_iff_pairwise_ne, List.pairwise_map]; exact xx.apart) O
  refine walk _ _ h₁ (fun y => [(x, Value.ref la)].lookup y) (callerA.deeper env) tk hEs O G.1 G.2 (fun j y v hj e => ?_) ⟨?_, ?_, rfl, Around.frames_deeper rfl, fun en hen L hL => ?_, rfl⟩ _
  ·cases q : Nat.beq j i with
   | false => unfold qH at e; rw [q] at e; cases e
   | true =>
    unfold qH at e
    rw [q] at e
    obtain rfl := Nat.eq_of_beq_eq_true q
    obtain rfl : x = y := Option.some.inj (hx.symm.trans hj)
    exact ⟨.ref la, kN (b := x), (Option.some.inj e) ▸ RD.list ⟨_, G.1 _ _ hl, rfl, rfl, _, rfl⟩ (aHo hI)⟩
  ·have : callerA.depth + 1 + 600 < recursionLimit := by decide +kernel
   exact Nat.lt_of_le_of_lt (Nat.add_le_add_left hn _) this
  ·rw [Around.deeper_units]
   have : callerA.units + 12 + 12 * 600 + 300 < cLine := by decide +kernel
   omega
  ·rw [List.mem_singleton.mp hen, hEf] at hL
   exact .inl (Option.some.inj hL).symm
end
end PQ
namespace PQ
noncomputable def sN (i : Nat) : bH := f59.body.getD i (.ret .stuck)
noncomputable def oY : bH -> Nat × aK
 | .asg i e => (i, e)
 | _ => (0, .stuck)
noncomputable def xT : aK -> BOp × aK × aK
 | .bin o a b => (o, a, b)
 | _ => (.add, .stuck, .stuck)
noncomputable def aHX (e : aK) : Int := if h : e.ctorIdx = 1 then aK.lit.elim e h fun d => (asI d).getD 0 else 0
noncomputable def aLS : bH -> List bH × Nat × List bH
 | .tryE b i h => (b, i, h)
 | _ => ([], 0, [])
noncomputable def lwI : Nat := (oY (sN 0)).1
noncomputable def zW : BOp := (xT (oY (sN 0)).2).1
noncomputable def lwA : Int := aHX (xT (oY (sN 0)).2).2.1
noncomputable def vG : aK := (xT (oY (sN 0)).2).2.2
noncomputable def vI : List bH := (f59.body.drop 1).take 7
noncomputable def oD : List bH × Nat × List bH := aLS (sN 8)
noncomputable def lwK : Nat := (oY (oD.1.getD 0 (.ret .stuck))).1
noncomputable def zV : aK := (oY (oD.1.getD 0 (.ret .stuck))).2
noncomputable def vH : List bH := oD.2.2
noncomputable def aCW : List bH := f59.body.drop 9
noncomputable def aBP (sc : Scope) (s : Stmt) : Bool := lU s fun t v => onN t fun x => bP[lwI]? == some x && (cP sc x && aAr v fun l o r => pB zW == o && (onC l (Const.int lwA == ·) && aR 60 sc r vG))
@[elab_as_elim] theorem aFF {G : Stmt -> Prop} {sc : Scope} {s : Stmt} (h : aBP sc s = true) (z : ∀ x np kd cp r bp ap, bP[lwI]? = some x -> cP sc x = true -> aR 60 sc r vG = true -> G (.Assign [.Name x np] (.BinOp (.Constant (.int lwA) kd cp) (pB zW) r bp) ap)) : G s := by
 refine mV h fun t v ap h => ?_
 refine fM h fun x np h => ?_
 have q := aA (aA h).2
 refine vQ (G := fun v => G (.Assign [.Name x np] v ap)) q.2 fun l o r bp w => ?_
 refine dZ (aA w).1 ?_
 refine kO (aA (aA w).2).1 fun c kd cp w1 => ?_
 exact dZ w1 (z x np kd cp r bp ap (eq_of_beq (aA h).1) q.1 (aA (aA w).2).2)
noncomputable def aDw (s : Stmt) (f : List Stmt -> List ExceptHandler -> Bool) : Bool := if h : s.ctorIdx = 17 then Stmt.Try.elim s h fun b hs o fb _ => o.isEmpty && (fb.isEmpty && f b hs) else false
@[elab_as_elim] theorem aJe {G : Stmt -> Prop} {s : Stmt} {f} (h : aDw s f = true) (k : ∀ b hs p, f b hs = true -> G (.Try b hs [] [] p)) : G s :=
 eB h fun q h => Stmt.Try.elim (motive_2 := fun e => ∀ q : e.ctorIdx = 17, (Stmt.Try.elim (motive_2 := fun _ => Bool) e q fun b hs o fb _ => o.isEmpty && (fb.isEmpty && f b hs)) = true -> G e) s q
  (fun b hs o fb p _ h => nil_r (G := fun o => G (.Try b hs o fb p)) (aA h).1 (nil_r (G := fun fb => G (.Try b hs [] fb p)) (aA (aA h).2).1 (k b hs p (aA (aA h).2).2))) q h
noncomputable def aFG (sc : Scope) (h : ExceptHandler) : Bool := match h with | .ExceptHandler ty nm bd _ => cM ty (lQ "Misused") && (cM nm (fun y => bP[oD.2.1]? == some y && (sc.names.lookup y == some .local && cP sc y)) && fL bd (fun b r => dU 60 sc (b :: r) vH))
noncomputable def aBS (sc : Scope) (s : Stmt) : Bool := aDw s fun b hs => on1 b (fun a => lU a fun t v => onN t fun x => bP[lwK]? == some x && (cP sc x && (aR 60 sc v zV && !jD v))) && on1 hs (aFG sc)
@[elab_as_elim] theorem aFI {G : Stmt -> Prop} {sc : Scope} {s : Stmt} (h : aBS sc s = true) (z : ∀ x np v ap xp y b₀ suite hp tp,
  bP[lwK]? = some x -> cP sc x = true -> aR 60 sc v zV = true -> jD v = false -> bP[oD.2.1]? = some y -> sc.names.lookup y = some .local -> cP sc y = true -> dU 60 sc (b₀ :: suite) vH = true -> G (.Try [.Assign [.Name x np] v ap] [.ExceptHandler (some (.Name "Misused" xp)) (some y) (b₀ :: suite) hp] [] [] tp)) : G s := by
 refine aJe h fun b hs tp h => ?_
 refine gB (G := fun b => G (.Try b hs [] [] tp)) (aA h).1 fun a h3 => ?_
 refine mV h3 fun t v ap h4 => ?_
 refine fM h4 fun x np h5 => ?_
 refine gB (aA h).2 fun hd h6 => ?_
 obtain ⟨ty, nm, bd, hp⟩ := hd
 have h6 : (cM ty (lQ "Misused") && (cM nm (fun y => bP[oD.2.1]? == some y && (sc.names.lookup y == some .local && cP sc y)) && fL bd (fun b r => dU 60 sc (b :: r) vH))) = true := h6
 refine mY (G := fun ty => G (.Try _ [.ExceptHandler ty nm bd hp] [] [] tp)) (aA h6).1 fun t g3 => ?_
 refine oF g3 fun xp => ?_
 refine mY (G := fun nm => G (.Try _ [.ExceptHandler _ nm bd hp] [] [] tp)) (aA (aA h6).2).1 fun y g2 => ?_
 refine gF (G := fun bd => G (.Try _ [.ExceptHandler _ _ bd hp] [] [] tp)) (aA (aA h6).2).2 fun b₀ r g1 => ?_
 have p := aA h5; have q := aA p.2; have r' := aA q.2
 exact z x np v ap xp y b₀ r hp tp (eq_of_beq p.1) q.1 r'.1 (fE r'.2) (eq_of_beq (aA g2).1) (eq_of_beq (aA (aA g2).2).1) (aA (aA g2).2).2 g1
noncomputable def aCR (fd : FuncData) : Bool := onB fd.body fun ss => fL ss fun s0 r => fL (r.drop 7) fun tr post => dK fd.scope "Misused" && (aBP fd.scope s0 && (dU 60 fd.scope (r.take 7) vI && (aBS fd.scope tr && dU 60 fd.scope post aCW)))
inductive wU (ns : List Int) : Prop
 | mk (m : Nat) (db z : PyData) : m <= 600 -> aP FT false m vG (qH 66 (ns.map .int)) [] = .ok (.d db) [] -> tY zW (.int lwA) db = some z -> tL 600 vI aCW vH zV lwK oD.2.1 ((qH 66 (ns.map .int)).set lwI (.d z)) true -> wU ns
noncomputable def aDX (fd : FuncData) : Bool := fnp fd [("script" : Str)] && (fd.globals == mainGlobals && (fd.builtins == builtinsNs && (cP fd.scope "script" && (decide ((cellsFrom 0 fd.scope.names []).map (·.1)).Nodup && (cellsFrom 0 fd.scope.names []).all fun p => fd.scope.names.lookup p.1 == some .cell))))
section
variable {S : SP} {E : Value -> Shared -> Prop} {s : Shared}
theorem aHL {a la : Addr} {oc : Value} {od : Option Addr} {sl : Array (Option Value)} {fd : FuncData} {vs : List Value} {ns : List Int} {Q : Value -> Shared -> Prop}
  (W : Wld S) (hX : oR S.K = true) (X : S.K.In s.heap) (T : TopRead S.p S.loose S.mg S.mb s.heap) (ho : s.heap.get? a = some ⟨oc, od, .func fd, sl⟩) (hcd : s.heap.CodeRec fd.code fd.qualname) (h1 : aCR fd = true) (h2 : aDX fd = true)
  (hl : s.heap.get? la = some { cls := .type "list", data := .seq vs.toArray }) (hI : IntsAre vs ns) (ht : wU ns)
  (hQ : ∀ h' tk, s.heap.StaysIn h' -> Q (.bool true) { s with heap := h', toks := tk }) : wpAny (model S.prog S.w) callerA (call (.ref a) [.ref la]) Q E s := by
 have e := aA h2; have e1 := aA e.2; have e2 := aA e1.2; have e3 := aA e2.2; have e4 := aA e3.2
 cases ht with | mk m db z hm6 q1 q2 q3 =>
 refine vP (G := fun b => fd.body = b -> wpAny _ _ _ _ _ _) h1 (fun ss g => gF (G := fun ss => fd.body = .stmts ss -> wpAny _ _ _ _ _ _) g fun s0 r g hb => (gF (G := fun l => r.drop 7 = l -> wpAny _ _ _ _ _ _) g fun tr post g hr => ?_) rfl) rfl
 have c8 := aA g; have g5 := aA c8.2; have g6 := aA g5.2; have g7 := aA g6.2
 have hrr : r.take 7 ++ tr :: post = r := by rw [<- hr, List.take_append_drop]
 refine aGd (x := ("script" : Str)) (i := 66) X T ho hb hcd (eq_of_beq e1.1) (eq_of_beq e2.1) e.1 (by decide +kernel) e3.1 (of_decide_eq_true e4.1) (fun p hp => eq_of_beq (List.all_eq_true.mp e4.2 p hp)) hl hI (n := 600) (Nat.le_refl _) fun c g hh mv A tk d1 O kg I R H E' => ?_
 rw [<- d1] at c8 g5 g6 g7
 rw [<- hrr]
 refine aFF g5.1 fun x0 np0 kd cp rr bp ap c1 c2 c5 => ?_
 refine aHK (s := { s with heap := hh, toks := tk }) W I R H O.own c1 c2 c5 hm6 q1 q2 fun g' mv' h' tk' hp kg' I' R' => ?_
 refine aFI g7.1 fun x1 np1 v ap1 xp y b0 suite hp' tp c9 c10 c14 c15 c11 c12 c13 c16 => ?_
 exact aHN (s := { s with heap := h', toks := tk' }) W hX hp I' R' (H.mono kg') O c8.1 c9 c10 c11 c12 c13 g6.1 c14 c15 c16 g7.2 q3 fun h'' tk'' k'' => hQ h'' tk'' (cH kg (cH kg' k''))
end
end PQ
namespace PQ
section
variable {R α β : Type}
noncomputable def lZ {α : Type} (a : α) : α := (Classical.choice (⟨⟨a, rfl⟩⟩ : Nonempty { b // b = a })).1
theorem dS {α : Type} (a : α) : lZ a = a := (Classical.choice (⟨⟨a, rfl⟩⟩ : Nonempty { b // b = a })).2
noncomputable abbrev cD (o : Option α) (σ : aG) (K : α -> aG -> aI R) : aI R := Option.casesOn o .stuck fun a => K a σ
@[irreducible] noncomputable def cL (o : Option α) (σ : aG) (K : α -> aG -> aI R) : aI R := lZ cD o σ K
@[irreducible] noncomputable def cB (x : aI α) (K : α -> aG -> aI R) : aI R := lZ aI.bind x K
@[irreducible] noncomputable def cI (b : Bool) (F : Bool -> aI R) : aI R := lZ (fun b (F : Bool -> aI R) => F b) b F
@[irreducible] noncomputable def cJ (x : aI R) : aI R := lZ x
variable (T : Nat -> Option aW) (hb : Bool)
@[irreducible] noncomputable def aN (n f : Nat) (vs : List aB) (σ : aG) : aI aB := lZ kG T hb n f vs σ
@[irreducible] noncomputable def xC (n : Nat) (e : aK) (x : Nat) (c : Option aK) (is : List PyData) (ρ : aJ) (σ : aG) : aI (List PyData) := lZ cY T hb n e x c is ρ σ
@[irreducible] noncomputable def xW (n : Nat) (c : aK) (b : List bH) (ρ : aJ) (σ : aG) : aI Fl := lZ evW T hb n c b ρ σ
@[irreducible] noncomputable def xF (n : Nat) (is : List Nat) (b : List bH) (its : List PyData) (ρ : aJ) (σ : aG) : aI Fl := lZ evF T hb n is b its ρ σ
structure CR (R : Type) where
 E : aK -> aJ -> aG -> (aB -> aG -> aI R) -> aI R
 O : Option aK -> aJ -> aG -> (aB -> aG -> aI R) -> aI R
 Es : List aK -> aJ -> aG -> (List aB -> aG -> aI R) -> aI R
 Bs : Bool -> List aK -> aJ -> aG -> (aB -> aG -> aI R) -> aI R
 T : aK -> aJ -> aG -> (Bool -> aG -> aI R) -> aI R
 Ts : Bool -> List aK -> aJ -> aG -> (Bool -> aG -> aI R) -> aI R
 Ss : List bH -> aJ -> aG -> (Fl -> aG -> aI R) -> aI R
 S : bH -> aJ -> aG -> (Fl -> aG -> aI R) -> aI R
noncomputable def tl {α : Type} (a : α) : α := (fun (_ : (Nat -> Option aW) -> Bool -> Nat -> Nat -> List aB -> aG -> aI aB) => a) kG
noncomputable def tI {α : Type} (b : Bool) (x y : α) : α := tl (Bool.rec y x b)
noncomputable def rE (X : CR R) (e : aK) (ρ : aJ) (σ : aG) (K : aB -> aG -> aI R) : aI R := tl X.E e ρ σ K
noncomputable def rO (X : CR R) (e : Option aK) (ρ : aJ) (σ : aG) (K : aB -> aG -> aI R) : aI R := tl X.O e ρ σ K
noncomputable def rEs (X : CR R) (e : List aK) (ρ : aJ) (σ : aG) (K : List aB -> aG -> aI R) : aI R := tl X.Es e ρ σ K
noncomputable def rBs (X : CR R) (k : Bool) (e : List aK) (ρ : aJ) (σ : aG) (K : aB -> aG -> aI R) : aI R := tl X.Bs k e ρ σ K
noncomputable def rT (X : CR R) (e : aK) (ρ : aJ) (σ : aG) (K : Bool -> aG -> aI R) : aI R := tl X.T e ρ σ K
noncomputable def rTs (X : CR R) (k : Bool) (e : List aK) (ρ : aJ) (σ : aG) (K : Bool -> aG -> aI R) : aI R := tl X.Ts k e ρ σ K
noncomputable def dM (X : CR R) (e : List bH) (ρ : aJ) (σ : aG) (K : Fl -> aG -> aI R) : aI R := X.Ss e ρ σ K
noncomputable def rS (X : CR R) (e : bH) (ρ : aJ) (σ : aG) (K : Fl -> aG -> aI R) : aI R := tl X.S e ρ σ K
noncomputable def c0 : CR R := ⟨fun _ _ _ _ => .stuck, fun _ _ _ _ => .stuck, fun _ _ _ _ => .stuck, fun _ _ _ _ _ => .stuck, fun _ _ _ _ => .stuck, fun _ _ _ _ _ => .stuck, fun _ _ _ _ => .stuck, fun _ _ _ _ => .stuck⟩
noncomputable def cSE (n : Nat) (X : CR R) (e : aK) (ρ : aJ) (σ : aG) (K : aB -> aG -> aI R) : aI R := match e with
 | .stuck => .stuck
 | .lit x => K (.d x) σ
 | .var i => cD (ρ i) σ K
 | .fnv f => K (.fn f) σ
 | .bin op a b => rE X a ρ σ fun v σ => rE X b ρ σ fun w σ => cL (fB op v w) σ K
 | .cmp op a b => rE X a ρ σ fun v σ => rE X b ρ σ fun w σ => cL (bR op v w σ) σ K
 | .boolop k es => rBs X k es ρ σ K
 | .not a => rE X a ρ σ fun v σ => cD (aC8 v) σ K
 | .ite c a b => rT X c ρ σ fun t σ => cI t fun t => tI t (rE X a ρ σ) (rE X b ρ σ) K
 | .idx a i => rE X a ρ σ fun v σ => rE X i ρ σ fun w σ => cL (dW σ v w) σ K
 | .slice a lo hi => rE X a ρ σ fun v σ => rO X lo ρ σ fun l σ => rO X hi ρ σ fun h σ => cL (gH σ v l h) σ K
 | .attr a x => rE X a ρ σ fun v σ => cD (aBB x v) σ K
 | .tup es => rEs X es ρ σ fun vs σ => cD ((lA vs).map fun ds => .d (.tuple ds)) σ K
 | .list m es => rEs X es ρ σ fun vs σ => cD (lA vs) σ fun ds σ => (lH m ds σ).bind K
 | .dict m ks es => rEs X es ρ σ fun vs σ => cB (uN m ks vs σ) K
 | .comp m elt x k it cond => rE X it ρ σ fun v σ => v.on
  (fun d K => cL ((fY hb k d).bind fun is => aU (is.length <= 1000) (some is)) σ fun is σ => cB (xC T hb n elt x cond is ρ σ) fun ds σ => (lH m ds σ).bind K)
  (fun l K => cL (oB k m σ l) σ fun is σ => cB (xC T hb n elt x cond is ρ.pure []) fun ds _ => K (.d (.list ds)) σ) (fun _ => .stuck) K
 | .call f es => rEs X es ρ σ fun vs σ => cB (aN T hb n f vs σ) K
 | .callv a es => rE X a ρ σ fun v σ => cD (asF v) σ fun f σ => rEs X es ρ σ fun vs σ => cB (aN T hb n f vs σ) K
 | .bi b es => rEs X es ρ σ fun vs σ => cL (dT hb b vs σ) σ K
 | .meth o m es => rE X o ρ σ fun v σ => cL (aU (mK m v σ = true) (some ())) σ fun _ σ => rEs X es ρ σ fun vs σ => cB (cU (eY m v vs σ)) K
 | .newI es => rEs X es ρ σ fun vs σ => cD (aC4 vs) σ K
noncomputable def cSS (n : Nat) (X : CR R) (s : bH) (ρ : aJ) (σ : aG) (K : Fl -> aG -> aI R) : aI R := match s with
 | .asg i e => rE X e ρ σ fun v σ => K (.next (ρ.set i v)) σ
 | .asgT is e => rE X e ρ σ fun v σ => cD (aU (hb = false) (((cS v).bind (aAU ρ is)).map .next)) σ K
 | .asgN is es => rEs X es ρ σ fun vs σ => cD (aU (hb = false) ((setAll ρ is vs).map .next)) σ K
 | .setI o i e => rE X e ρ σ fun v σ => rE X o ρ σ fun vo σ => rE X i ρ σ fun vi σ => cL (qI vo vi v σ) σ fun σ _ => K (.next ρ) σ
 | .aug i _ e => cD ((ρ i).bind cS) σ fun x σ => rE X e ρ σ fun v σ => cL ((xR x v).map fun r => .next (ρ.set i r)) σ K
 | .ex e => rE X e ρ σ fun _ σ => K (.next ρ) σ
 | .ite c t f => rT X c ρ σ fun b σ => cI b fun b => tI b (dM X t ρ σ) (dM X f ρ σ) K
 | .wh c b => cB (xW T hb n c b ρ σ) K
 | .for_ is k e b => rE X e ρ σ fun v σ => cL ((cS v).bind (fY hb k)) σ fun items σ => cB (xF T hb n is b items ρ σ) K
 | .ret e => rE X e ρ σ fun v σ => K (.ret v) σ
 | .raise w => bif hb then .stuck else .exc w
 | .tryE .. => .stuck
noncomputable def cS1 (n : Nat) (X : CR R) : CR R where
 E := cSE T hb n X
 O e ρ σ K := Option.casesOn e (K (.d .none) σ) fun e => rE X e ρ σ K
 Es es ρ σ K := List.casesOn es (K [] σ) fun e es => rE X e ρ σ fun v σ => rEs X es ρ σ fun vs σ => K (v :: vs) σ
 Bs k es ρ σ K := List.casesOn es .stuck fun e es => bif es.isEmpty then rE X e ρ σ K else rE X e ρ σ fun v σ => cD ((cS v).bind asB) σ fun b σ => cI (b == k) fun t => tI t (rBs X k es ρ σ) (fun K => K (bV b) σ) K
 T e ρ σ K := tl e.tst (fun a => rT X a ρ σ fun b σ => K (!b) σ) (fun k es => rTs X k es ρ σ K) (fun c a b => rT X c ρ σ fun t σ => cI t fun t => tI t (rT X a ρ σ) (rT X b ρ σ) K) (rE X e ρ σ fun v σ => cD ((cS v).bind asB) σ K)
 Ts k es ρ σ K := List.casesOn es (K k σ) fun e es => rT X e ρ σ fun b σ => cI (b == k) fun t => tI t (rTs X k es ρ σ) (fun K => K b σ) K
 Ss ss ρ σ K := List.casesOn ss (K (.next ρ) σ) fun s ss => rS X s ρ σ fun fl σ => (Fl.casesOn fl (fun ρ K => cJ (dM X ss ρ σ K)) fun v K => K (.ret v) σ : (Fl -> aG -> aI R) -> aI R) K
 S := cSS T hb n X
noncomputable def cN (n : Nat) : CR R := Nat.rec c0 (fun n X => cS1 T hb n X) n
end
section
variable {R α β γ : Type} {o : Option α} {σ : aG} {K : α -> aG -> aI R}
theorem lD : (lift o σ).bind K = cD o σ K := by cases o <;> rfl
theorem lL : (lift o σ).bind K = cL o σ K := by unfold cL; rw [dS]; cases o <;> rfl
theorem bB {x : aI α} : x.bind K = cB x K := by unfold cB; rw [dS]
theorem bC {T : Nat -> Option aW} {hb : Bool} {n f : Nat} {vs : List aB} {K : aB -> aG -> aI R} : (kG T hb n f vs σ).bind K = cB (aN T hb n f vs σ) K := by unfold aN; rw [dS]; exact bB
theorem bW {T : Nat -> Option aW} {hb : Bool} {n : Nat} {c : aK} {b : List bH} {ρ : aJ} {K : Fl -> aG -> aI R} : (evW T hb n c b ρ σ).bind K = cB (xW T hb n c b ρ σ) K := by unfold xW; rw [dS]; exact bB
theorem bF {T : Nat -> Option aW} {hb : Bool} {n : Nat} {is : List Nat} {b : List bH} {its : List PyData} {ρ : aJ} {K : Fl -> aG -> aI R} : (evF T hb n is b its ρ σ).bind K = cB (xF T hb n is b its ρ σ) K := by unfold xF; rw [dS]; exact bB
theorem xX {x : aI R} : cJ x = x := by unfold cJ; rw [dS]
theorem bI {b : Bool} {x y : aI α} {F : Bool -> aI R} (h : x.bind K = F true) (h' : y.bind K = F false) : (bif b then x else y).bind K = cI b F := by unfold cI; rw [dS]; cases b <;> assumption
theorem kx {x : aI β} {f : β -> aG -> aI α} {K' : β -> aG -> aI R} {z : aI R} (g : x.bind K' = z) (h : ∀ a σ, (f a σ).bind K = K' a σ) : (x.bind f).bind K = z := by
 rw [<- g]
 cases x with
 | ok a σ => exact h a σ
 | _ => rfl
theorem dx {o : Option β} {f : β -> aG -> aI α} {K' : β -> aG -> aI R} (h : ∀ a σ, (f a σ).bind K = K' a σ) : ((lift o σ).bind f).bind K = cD o σ K' := kx lD h
theorem lx {o : Option β} {f : β -> aG -> aI α} {K' : β -> aG -> aI R} (h : ∀ a σ, (f a σ).bind K = K' a σ) : ((lift o σ).bind f).bind K = cL o σ K' := kx lL h
variable {T : Nat -> Option aW} {hb : Bool}
structure Cps (T : Nat -> Option aW) (hb : Bool) (R : Type) (n : Nat) : Prop where
 E : ∀ e ρ σ (K : aB -> aG -> aI R), (aP T hb n e ρ σ).bind K = rE (cN T hb n) e ρ σ K
 O : ∀ e ρ σ (K : aB -> aG -> aI R), (evO T hb n e ρ σ).bind K = rO (cN T hb n) e ρ σ K
 Es : ∀ es ρ σ (K : List aB -> aG -> aI R), (eW T hb n es ρ σ).bind K = rEs (cN T hb n) es ρ σ K
 Bs : ∀ k es ρ σ (K : aB -> aG -> aI R), (pI T hb n k es ρ σ).bind K = rBs (cN T hb n) k es ρ σ K
 T' : ∀ e ρ σ (K : Bool -> aG -> aI R), (dF T hb n e ρ σ).bind K = rT (cN T hb n) e ρ σ K
 Ts : ∀ k es ρ σ (K : Bool -> aG -> aI R), (pJ T hb n k es ρ σ).bind K = rTs (cN T hb n) k es ρ σ K
 Ss : ∀ ss ρ σ (K : Fl -> aG -> aI R), (bS T hb n ss ρ σ).bind K = dM (cN T hb n) ss ρ σ K
 S : ∀ s ρ σ (K : Fl -> aG -> aI R), (dD T hb n s ρ σ).bind K = rS (cN T hb n) s ρ σ K
theorem aFY {n : Nat} (M : Cps T hb R n) (e : aK) (ρ : aJ) (σ : aG) (K : aB -> aG -> aI R) : (aP T hb (n + 1) e ρ σ).bind K = rE (cN T hb (n + 1)) e ρ σ K := by
 cases e with
 | stuck => rfl
 | lit x => rfl
 | var i => exact lD
 | fnv f => rfl
 | bin op a b => exact kx (M.E ..) fun v σ => kx (M.E ..) fun w σ => lL
 | cmp op a b => exact kx (M.E ..) fun v σ => kx (M.E ..) fun w σ => lL
 | boolop k es => exact M.Bs ..
 | not a => exact kx (M.E ..) fun v σ => lD
 | ite c a b => exact kx (M.T' ..) fun t σ => bI (M.E ..) (M.E ..)
 | idx a i => exact kx (M.E ..) fun v σ => kx (M.E ..) fun w σ => lL
 | slice a lo hi => exact kx (M.E ..) fun v σ => kx (M.O ..) fun w σ => kx (M.O ..) fun w σ => lL
 | attr a x => exact kx (M.E ..) fun v σ => lD
 | tup es => exact kx (M.Es ..) fun v σ => lD
 | list m es => exact kx (M.Es ..) fun v σ => dx fun ds σ => rfl
 | dict m ks es => exact kx (M.Es ..) fun v σ => bB
 | comp m elt x k it cond =>
  refine kx (M.E ..) fun v σ => ?_
  cases v with
  | d d => exact lx fun is σ => kx (by unfold xC; rw [dS]; exact bB) fun ds σ => rfl
  | loc l => exact lx fun is σ => kx (by unfold xC; rw [dS]; exact bB) fun ds σ => rfl
  | _ => rfl
 | call f es => exact kx (M.Es ..) fun v σ => bC
 | callv a es => exact kx (M.E ..) fun v σ => dx fun f σ => kx (M.Es ..) fun v σ => bC
 | bi b es => exact kx (M.Es ..) fun v σ => lL
 | meth o m es => exact kx (M.E ..) fun v σ => lx fun _ σ => kx (M.Es ..) fun vs σ => bB
 | newI es => exact kx (M.Es ..) fun vs σ => lD
theorem aFZ {n : Nat} (M : Cps T hb R n) (s : bH) (ρ : aJ) (σ : aG) (K : Fl -> aG -> aI R) : (dD T hb (n + 1) s ρ σ).bind K = rS (cN T hb (n + 1)) s ρ σ K := by
 cases s with
 | asg i e => exact kx (M.E ..) fun v σ => rfl
 | asgT is e => exact kx (M.E ..) fun v σ => lD
 | asgN is es => exact kx (M.Es ..) fun v σ => lD
 | setI o i e => exact kx (M.E ..) fun v σ => kx (M.E ..) fun vo σ => kx (M.E ..) fun vi σ => lx fun a σ => rfl
 | aug i op e => exact dx fun x σ => kx (M.E ..) fun v σ => lL
 | ex e => exact kx (M.E ..) fun v σ => rfl
 | ite c t f => exact kx (M.T' ..) fun b σ => bI (M.Ss ..) (M.Ss ..)
 | wh c b => exact bW
 | for_ is k e b => exact kx (M.E ..) fun v σ => lx fun items σ => bF
 | ret e => exact kx (M.E ..) fun v σ => rfl
 | raise w => cases hb <;> rfl
 | tryE b i h => rfl
theorem aF0 {n : Nat} (M : Cps T hb R n) (e : aK) (ρ : aJ) (σ : aG) (K : Bool -> aG -> aI R) : (dF T hb (n + 1) e ρ σ).bind K = rT (cN T hb (n + 1)) e ρ σ K := by
 cases e with
 | not a => exact kx (M.T' ..) fun v σ => rfl
 | boolop k es => exact M.Ts ..
 | ite c a b => exact kx (M.T' ..) fun t σ => bI (M.T' ..) (M.T' ..)
 | _ => exact kx (M.E ..) fun v σ => lD
theorem cps (n : Nat) : Cps T hb R n := by
 induction n with
 | zero => exact ⟨fun _ _ _ _ => rfl, fun _ _ _ _ => rfl, fun _ _ _ _ => rfl, fun _ _ _ _ _ => rfl, fun _ _ _ _ => rfl, fun _ _ _ _ _ => rfl, fun _ _ _ _ => rfl, fun _ _ _ _ => rfl⟩
 | succ n M =>
  refine ⟨aFY M, fun e ρ σ K => ?_, fun es ρ σ K => ?_, fun k es ρ σ K => ?_, aF0 M, fun k es ρ σ K => ?_, fun ss ρ σ K => ?_, aFZ M⟩
  ·cases e with
   | none => rfl
   | some e => exact M.E ..
  ·cases es with
   | nil => rfl
   | cons e es => exact kx (M.E ..) fun v σ => kx (M.Es ..) fun vs σ => rfl
  ·cases es with
   | nil => rfl
   | cons e es => cases es with
    | nil => exact M.E ..
    | cons a es => exact kx (M.E ..) fun v σ => dx fun b σ => bI (M.Bs ..) rfl
  ·cases es with
   | nil => rfl
   | cons e es => exact kx (M.T' ..) fun b σ => bI (M.Ts ..) rfl
  ·cases ss with
   | nil => rfl
   | cons s ss => exact kx (M.S ..) fun fl σ => by cases fl with
    | next ρ => exact (M.Ss ..).trans xX.symm
    | ret v => rfl
theorem rF {x : aI α} : x.bind .ok = x := by cases x <;> rfl
variable {n : Nat} {ρ : aJ} {r : aI R}
theorem e_c {e : aK} : aP T hb n e ρ σ = rE (cN T hb n) e ρ σ .ok := rF.symm.trans ((cps n).E ..)
theorem t_c {e : aK} : dF T hb n e ρ σ = rT (cN T hb n) e ρ σ .ok := rF.symm.trans ((cps n).T' ..)
theorem fU {ss : List bH} : bS T hb n ss ρ σ = dM (cN T hb n) ss ρ σ .ok := rF.symm.trans ((cps n).Ss ..)
theorem bA {f : Nat} {vs : List aB} {q : aW} {x : aI aB} (h : T f = some q) (h2 : hO q.params q.dflt vs = some ρ) (g : dM (cN T hb n) q.body ρ σ (dC σ.length) = x) : aN T hb (n + 1) f vs σ = x := by
 unfold aN
 rw [dS]
 rw [<- g, <- (cps n).Ss]
 show ((lift (T f) σ).bind fun r σ => (lift (hO r.params r.dflt vs) σ).bind fun ρ σ => (bS T hb n r.body ρ σ).bind (dC σ.length)) = _
 rw [h]
 show ((lift (hO q.params q.dflt vs) σ).bind fun ρ σ => (bS T hb n q.body ρ σ).bind (dC σ.length)) = _
 rw [h2]
 rfl
theorem sL {a : α} (h : o = some a) (g : K a σ = r) : cL o σ K = r := by rw [h]; unfold cL; rw [dS]; exact g
theorem sB {x : aI α} {a : α} {σ' : aG} (h : x = .ok a σ') (g : K a σ' = r) : cB x K = r := by rw [h]; unfold cB; rw [dS]; exact g
theorem sX {x : aI α} {w : Str} (h : x = .exc w) : cB x K = .exc w := by rw [h]; unfold cB; rw [dS]; rfl
theorem sJ {x : aI R} (g : x = r) : cJ x = r := xX.trans g
theorem sT {b : Bool} {F : Bool -> aI R} (h : b = true) (g : F true = r) : cI b F = r := by rw [h]; unfold cI; rw [dS]; exact g
theorem sF {b : Bool} {F : Bool -> aI R} (h : b = false) (g : F false = r) : cI b F = r := by rw [h]; unfold cI; rw [dS]; exact g
end
end PQ
namespace PQ
noncomputable def Le {α : Type} (x y : aI α) : Prop := x = .stuck \/ x = y
section
variable {α β : Type} {x y : aI α} {f g : α -> aG -> aI β}
theorem Le.no : Le .stuck y := .inl rfl
theorem Le.id : Le x x := .inr rfl
theorem Le.bind (h : Le x y) (k : ∀ a σ, Le (f a σ) (g a σ)) : Le (x.bind f) (y.bind g) :=
 h.elim (fun q => q ▸ .inl rfl) fun q => by
  subst q
  cases x with
  | stuck => exact .inl rfl
  | ok a σ => exact k a σ
  | exc w => exact .inr rfl
theorem Le.bindN (h : Le x y) (k : ∀ a σ, Le (f a σ) (g a σ)) : Le (x.bindN f) (y.bindN g) :=
 h.elim (fun q => q ▸ .inl rfl) fun q => by
  subst q
  cases x with
  | ok a σ => exact k a σ
  | _ => exact .inl rfl
theorem Le.cond {b : Bool} {x' y' : aI α} (h : Le x x') (k : Le y y') : Le (bif b then x else y) (bif b then x' else y') := by cases b <;> assumption
theorem Le.fl {fl : Fl} {f g : aJ -> aI α} {r : aB -> aI α} (h : ∀ ρ, Le (f ρ) (g ρ)) : Le (Fl.casesOn fl f r : aI α) (Fl.casesOn fl g r) := by
 cases fl with
 | next ρ => exact h ρ
 | ret v => exact .inr rfl
end
section
variable {T : Nat -> Option aW} {hb : Bool} {n : Nat}
structure tN (T : Nat -> Option aW) (hb : Bool) (n : Nat) : Prop where
 E : ∀ e ρ σ, Le (aP T hb n e ρ σ) (aP T hb (n + 1) e ρ σ)
 O : ∀ e ρ σ, Le (evO T hb n e ρ σ) (evO T hb (n + 1) e ρ σ)
 Es : ∀ e ρ σ, Le (eW T hb n e ρ σ) (eW T hb (n + 1) e ρ σ)
 Bs : ∀ k e ρ σ, Le (pI T hb n k e ρ σ) (pI T hb (n + 1) k e ρ σ)
 T' : ∀ e ρ σ, Le (dF T hb n e ρ σ) (dF T hb (n + 1) e ρ σ)
 Ts : ∀ k e ρ σ, Le (pJ T hb n k e ρ σ) (pJ T hb (n + 1) k e ρ σ)
 Co : ∀ e ρ σ, Le (mJ T hb n e ρ σ) (mJ T hb (n + 1) e ρ σ)
 C : ∀ e x c is ρ σ, Le (cY T hb n e x c is ρ σ) (cY T hb (n + 1) e x c is ρ σ)
 Call : ∀ f vs σ, Le (kG T hb n f vs σ) (kG T hb (n + 1) f vs σ)
 Ss : ∀ ss ρ σ, Le (bS T hb n ss ρ σ) (bS T hb (n + 1) ss ρ σ)
 S : ∀ s ρ σ, Le (dD T hb n s ρ σ) (dD T hb (n + 1) s ρ σ)
 W : ∀ c b ρ σ, Le (evW T hb n c b ρ σ) (evW T hb (n + 1) c b ρ σ)
 F : ∀ is b its ρ σ, Le (evF T hb n is b its ρ σ) (evF T hb (n + 1) is b its ρ σ)
theorem aIx (M : tN T hb n) (e : aK) (ρ : aJ) (σ : aG) : Le (aP T hb (n + 1) e ρ σ) (aP T hb (n + 1 + 1) e ρ σ) := by
 cases e with
 | stuck => exact .inl rfl
 | lit x => exact .inr rfl
 | var i => exact .inr rfl
 | fnv f => exact .inr rfl
 | bin op a b => exact (M.E ..).bind fun _ _ => (M.E ..).bind fun _ _ => .id
 | cmp op a b => exact (M.E ..).bind fun _ _ => (M.E ..).bind fun _ _ => .id
 | boolop k es => exact M.Bs ..
 | not a => exact (M.E ..).bind fun _ _ => .id
 | ite c a b => exact (M.T' ..).bind fun _ _ => .cond (M.E ..) (M.E ..)
 | idx a i => exact (M.E ..).bind fun _ _ => (M.E ..).bind fun _ _ => .id
 | slice a lo hi => exact (M.E ..).bind fun _ _ => (M.O ..).bind fun _ _ => (M.O ..).bind fun _ _ => .id
 | attr a x => exact (M.E ..).bind fun _ _ => .id
 | tup es => exact (M.Es ..).bind fun _ _ => .id
 | list m es => exact (M.Es ..).bind fun _ _ => .id
 | dict m ks es => exact (M.Es ..).bind fun _ _ => .id
 | comp m elt x k it cond =>
  refine (M.E ..).bind fun v σ => ?_
  cases v with
  | d d => exact Le.bind .id fun _ _ => (M.C ..).bind fun _ _ => .id
  | loc l => exact Le.bind .id fun _ _ => (M.C ..).bind fun _ _ => .id
  | _ => exact .inl rfl
 | call f es => exact (M.Es ..).bind fun _ _ => M.Call ..
 | callv a es => exact (M.E ..).bind fun _ _ => Le.bind .id fun _ _ => (M.Es ..).bind fun _ _ => M.Call ..
 | bi b es => exact (M.Es ..).bind fun _ _ => .id
 | meth o m es => exact (M.E ..).bind fun _ _ => Le.bind .id fun _ _ => (M.Es ..).bind fun _ _ => .id
 | newI es => exact (M.Es ..).bind fun _ _ => .id
theorem aIy (M : tN T hb n) (s : bH) (ρ : aJ) (σ : aG) : Le (dD T hb (n + 1) s ρ σ) (dD T hb (n + 1 + 1) s ρ σ) := by
 cases s with
 | asg i e => exact (M.E ..).bind fun _ _ => .id
 | asgT is e => exact (M.E ..).bind fun _ _ => .id
 | asgN is es => exact (M.Es ..).bind fun _ _ => .id
 | setI o i e => exact (M.E ..).bind fun _ _ => (M.E ..).bind fun _ _ => (M.E ..).bind fun _ _ => .id
 | aug i op e => exact Le.bind .id fun _ _ => (M.E ..).bind fun _ _ => .id
 | ex e => exact (M.E ..).bind fun _ _ => .id
 | ite c t f => exact (M.T' ..).bind fun _ _ => .cond (M.Ss ..) (M.Ss ..)
 | wh c b => exact M.W ..
 | for_ is k e b => exact (M.E ..).bind fun _ _ => Le.bind .id fun _ _ => M.F ..
 | ret e => exact (M.E ..).bind fun _ _ => .id
 | raise w => exact .inr rfl
 | tryE b i h => exact .inr rfl
theorem aIz (M : tN T hb n) (e : aK) (ρ : aJ) (σ : aG) : Le (dF T hb (n + 1) e ρ σ) (dF T hb (n + 1 + 1) e ρ σ) := by
 cases e with
 | not a => exact (M.T' ..).bind fun _ _ => .id
 | boolop k es => exact M.Ts ..
 | ite c a b => exact (M.T' ..).bind fun _ _ => .cond (M.T' ..) (M.T' ..)
 | _ => exact (M.E ..).bind fun _ _ => .id
theorem jG (n : Nat) : tN T hb n := by
 induction n with
 | zero => exact ⟨fun _ _ _ => .no, fun _ _ _ => .no, fun _ _ _ => .no, fun _ _ _ _ => .no, fun _ _ _ => .no, fun _ _ _ _ => .no, fun _ _ _ => .no, fun _ _ _ _ _ _ => .no, fun _ _ _ => .no, fun _ _ _ => .no, fun _ _ _ => .no, fun _ _ _ _ => .no, fun _ _ _ _ _ => .no⟩
 | succ n M =>
  refine ⟨aIx M, fun e ρ σ => ?_, fun es ρ σ => ?_, fun k es ρ σ => ?_, aIz M, fun k es ρ σ => ?_, fun e ρ σ => ?_, fun e x c is ρ σ => ?_, fun f vs σ => ?_, fun ss ρ σ => ?_, aIy M, fun c b ρ σ => ?_, fun is b its ρ σ => ?_⟩
  ·cases e with
   | none => exact .inr rfl
   | some e => exact M.E ..
  ·cases es with
   | nil => exact .inr rfl
   | cons e es => exact (M.E ..).bind fun _ _ => (M.Es ..).bind fun _ _ => .id
  ·cases es with
   | nil => exact .inr rfl
   | cons e es => exact Le.cond (M.E ..) ((M.E ..).bind fun _ _ => Le.bind .id fun _ _ => .cond (M.Bs ..) .id)
  ·cases es with
   | nil => exact .inr rfl
   | cons e es => exact (M.T' ..).bind fun _ _ => .cond (M.Ts ..) .id
  ·cases e with
   | none => exact .inr rfl
   | some e => exact M.T' ..
  ·cases is with
   | nil => exact .inr rfl
   | cons i is => exact (M.Co ..).bind fun _ _ => .cond ((M.E ..).bind fun _ _ => Le.bind .id fun _ _ => (M.C ..).bind fun _ _ => .id) (M.C ..)
  ·exact Le.bind .id fun _ _ => Le.bind .id fun _ _ => (M.Ss ..).bind fun _ _ => .id
  ·cases ss with
   | nil => exact .inr rfl
   | cons s ss => exact (M.S ..).bind fun _ _ => .fl fun _ => M.Ss ..
  ·exact (M.T' ..).bindN fun _ _ => .cond ((M.Ss ..).bindN fun _ _ => .fl fun _ => M.W ..) .id
  ·cases its with
   | nil => exact .inr rfl
   | cons i its => exact Le.bind .id fun _ _ => (M.Ss ..).bindN fun _ _ => .fl fun _ => M.F ..
theorem Le.up {α : Type} {f : Nat -> aI α} (h : ∀ n, Le (f n) (f (n + 1))) {n m : Nat} (hm : n <= m) {x : aI α} (e : f n = x) (hx : x ≠ .stuck) : f m = x := by
 induction hm with
 | refl => exact e
 | step _ ih => exact (h _).elim (fun q => absurd (ih.symm.trans q) hx) fun q => q.symm.trans ih
theorem bD {m f : Nat} {vs : List aB} {σ : aG} {v : aB} {σ' : aG} (e : aN T hb n f vs σ = .ok v σ') (hm : n <= m) : aN T hb m f vs σ = .ok v σ' := by unfold aN at e ⊢; rw [dS] at e ⊢; exact Le.up (fun n => (jG n).Call f vs σ) hm e fun h => nomatch h
theorem mE {m f : Nat} {vs : List aB} {σ : aG} {w : Str} (e : aN T hb n f vs σ = .exc w) (hm : n <= m) : aN T hb m f vs σ = .exc w := by unfold aN at e ⊢; rw [dS] at e ⊢; exact Le.up (fun n => (jG n).Call f vs σ) hm e fun h => nomatch h
theorem jJ {m : Nat} {ss : List bH} {ρ : aJ} {σ : aG} {x : aI Fl} (e : bS T hb n ss ρ σ = x) (hm : n <= m) (hx : x ≠ .stuck) : bS T hb m ss ρ σ = x := Le.up (fun n => (jG n).Ss ss ρ σ) hm e hx
theorem uF {m : Nat} {e : aK} {ρ : aJ} {σ : aG} {x : aI aB} (h : aP T hb n e ρ σ = x) (hm : n <= m) (hx : x ≠ .stuck) : aP T hb m e ρ σ = x := Le.up (fun n => (jG n).E e ρ σ) hm h hx
end
end PQ
namespace PQ
theorem cG {α : Type} {p : Prop} [Decidable p] {o : Option α} (h : p) : aU p o = o := if_pos h
theorem aMv {α : Type} {p : Prop} [Decidable p] {o : Option α} (h : ¬p) : aU p o = none := if_neg h
section
variable {hb : Bool} {l : Nat} {σ : aG} {xs : List PyData} {x i : PyData}
theorem lO (h : σ[l]? = some (.lst xs)) : fZ σ l = some xs := by unfold fZ; rw [h]; rfl
theorem aF1 (h : σ[l]? = some (.lst xs)) : hZ σ l = none := by unfold hZ; rw [h]; rfl
theorem aCy (h : σ[l]? = some (.lst xs)) (e : zF (.list xs) i = some x) : dW σ (.loc l) (.d i) = some (.d x) := by
 show ((hZ σ l).bind fun kvs => _).or ((((fZ σ l).map PyData.list)).bind fun x => _) = _
 rw [aF1 h, lO h]
 exact congrArg (Option.map aB.d) e
theorem aK6 {j : Int} (h : σ[l]? = some (.lst xs)) (h0 : 0 <= j /\ j < xs.length /\ xs.length <= 100000) : qI (.loc l) (.d (.int j)) (.d x) σ = some (σ.set l (.lst (xs.set j.toNat x))) := by
 show ((fZ σ l).bind fun xs => _).or _ = _
 rw [lO h]
 exact congrArg (Option.or · _) (cG h0)
theorem aK7 {y : PyData} (h : σ[l]? = some (.lst [y])) : qI (.loc l) (.d (.int 0)) (.d x) σ = some (σ.set l (.lst [x])) := aK6 h ⟨by decide, Int.ofNat_lt.mpr (Nat.zero_lt_one), Nat.le_of_ble_eq_true rfl⟩
theorem aD1 {o o' : bN} (h : σ[l]? = some o) : (σ.set l o')[l]? = some o' := List.getElem?_set_self (List.getElem?_eq_some_iff.mp h).1
theorem bL {v : PyData} {N : Nat} (h : σ.length = N) : dC N (.ret (.d v)) σ = .ok (.d v) σ := by
 show aI.ok _ (σ.take N) = _
 rw [List.take_of_length_le (Nat.le_of_eq h)]
theorem aCm (a m : Int) (hm : 0 < m) : 0 <= a.fmod m /\ a.fmod m < m := ⟨Int.fmod_nonneg_of_pos a hm, Int.fmod_lt_of_pos a hm⟩
theorem pV {a m : Int} (h : m ≠ 0) : fB .mod (.d (.int a)) (.d (.int m)) = some (.d (.int (a.fmod m))) := congrArg (Option.map aB.d) (cG h)
theorem aCb {a m : Int} (h : m ≠ 0 /\ m.natAbs < 2 ^ 256) : fB .fdiv (.d (.int a)) (.d (.int m)) = some (.d (.int (a.fdiv m))) := congrArg (Option.map aB.d) (cG h)
theorem gA {a b : Int} (h : a.natAbs < 2 ^ 256 /\ b.natAbs < 2 ^ 256) : fB .mul (.d (.int a)) (.d (.int b)) = some (.d (.int (a * b))) := congrArg (fun o => Option.map aB.d (Option.or o _)) (cG h)
theorem iC {a b : Int} (h : 0 <= b /\ b <= 1000000 /\ a.natAbs < 2 ^ 64) : fB .pow (.d (.int a)) (.d (.int b)) = some (.d (.int (a ^ b.toNat))) := congrArg (Option.map aB.d) (cG h)
theorem aGa {a m : Int} (k : Nat) (hl : σ[l]? = some (.lst [.int a])) (hm : 0 < m) (hm2 : m.natAbs < 2 ^ 256) : aN FT hb (k + 10) 27 [.loc l, .d (.int m)] σ = .ok (.d (.int (a.fmod m))) (σ.set l (.lst [.int (a.fdiv m)])) := by
 have hne : m ≠ 0 := fun q => by rw [q] at hm; exact absurd hm (by decide)
 refine bD (bA (n := 9) (q := f27) rfl rfl ?_) (Nat.le_add_left 10 k)
 refine sL (aCy hl rfl) (sL (pV hne) (sJ (sL (aCy hl rfl) (sL (aCb ⟨hne, hm2⟩) (sL (aK7 hl) (sJ (bL (List.length_set ..))))))))
theorem aDB {α : Type} (f : α -> PyData) (xs : List α) {p : Int} (h : 0 <= p /\ p < xs.length) (hs : xs.length <= 1000) : ∃ a ∈ xs, dW σ (.d (.tuple (xs.map f))) (.d (.int p)) = some (.d (f a)) := by
 have h1 : p.toNat < xs.length := Int.ofNat_lt.mp (by rw [Int.toNat_of_nonneg h.1]; exact h.2)
 refine ⟨xs[p.toNat], List.getElem_mem h1, ?_⟩
 have h2 : p.natAbs < 2 ^ 62 := by omega
 show (Option.or (aU (p.natAbs < 2 ^ 62) (atD (xs.map f) p)) none).map aB.d = _
 unfold atD
 rw [cG h2, if_pos h.1, List.getElem?_map, List.getElem?_eq_getElem h1]; rfl
end
end PQ
namespace PQ
inductive Ad where
 | no
 | net (base len : Nat)
 | span (lo hi : Nat)
noncomputable def Ad.data (a : Ad) : PyData := Ad.casesOn a .none (fun b l => .tuple [.str "net", .int b, .int l]) fun a b => .tuple [.str "span", .int a, .int b]
abbrev Po := Option (Nat × Nat)
noncomputable def fN (p : Po) : PyData := Option.casesOn p .none fun x => .tuple [.int x.1, .int x.2]
inductive St where
 | counter (v w : Nat)
 | quota (b : Bool) (v w : Nat)
 | limit (b : Bool) (v : Nat) (u : Str) (w : Nat) (o : Bool)
 | object (m t : Str)
 | log (t l : Str)
 | reject (m : Str) (c : Nat)
 | notrack
 | expect (t : Str)
 | flow (t : Str)
 | nat (k : Str) (nf : Nat) (ad : Ad) (ps : Po) (fl : List Str)
noncomputable def St.data : St -> PyData
 | .counter v w => .tuple [.str "counter", .int v, .int w]
 | .quota b v w => .tuple [.str "quota", .bool b, .int v, .int w]
 | .limit b v u w o => .tuple [.str "limit", .bool b, .int v, .str u, .int w, .bool o]
 | .object m t => .tuple [.str "object", .str m, .str t]
 | .log t l => .tuple [.str "log", .str t, .str l]
 | .reject m c => .tuple [.str "reject", .str m, .int c]
 | .notrack => .tuple [.str "notrack"]
 | .expect t => .tuple [.str "expect", .str t]
 | .flow t => .tuple [.str "flow", .str t]
 | .nat k nf ad ps fl => .tuple [.str "nat", .str k, .int nf, ad.data, fN ps, .tuple (fl.map .str)]
noncomputable def gI : List Str := ["x", "in: ", "level err", "a_b-1", "comment", "two  blanks", "", "a\"b", "a\nb"]
noncomputable def oO : List Str := ["c1", "in-2", "A_b"]
noncomputable def nC : List Str := ["second", "minute", "hour", "day", "week"]
noncomputable def iX : List Str := ["counter", "quota", "limit"]
noncomputable def wC : List Str := ["warn", "emerg", "alert", "crit", "err", "notice", "info", "debug"]
noncomputable def qK : List Str := ["icmp", "icmpv6", "icmpx", "tcp"]
noncomputable def iK : List Str := ["masquerade", "redirect"]
noncomputable def fT : List Str := ["snat", "dnat"]
noncomputable def gP : List (List Str) := [[], ["random"], ["persistent"], ["random", "persistent"]]
noncomputable def eU (nf v : Nat) : Prop := (nf = 2 /\ v < 2 ^ 32) \/ (nf = 10 /\ v < 2 ^ 128 /\ (v = 0 \/ 2 ^ 112 <= v))
noncomputable def gY (p : Po) : Prop := ∀ a b, p = some (a, b) -> a < 65536 /\ b < 65536
noncomputable def aEO (nf : Nat) (a : Ad) (p : Po) : Prop := Ad.casesOn a (p ≠ none) (fun b l => p = none /\ eU nf b /\ l <= 128) fun a b => eU nf a /\ eU nf b
noncomputable def St.Ok : St -> Prop
 | .counter v w => v < 2 ^ 64 /\ w < 2 ^ 64
 | .quota _ v w => v < 2 ^ 64 /\ w < 2 ^ 64
 | .limit _ v u w _ => v < 2 ^ 64 /\ w < 2 ^ 64 /\ u ∈ nC
 | .object m t => m ∈ iX /\ t ∈ gI
 | .log t l => t ∈ gI /\ l ∈ wC
 | .reject m c => m ∈ qK /\ c < 256 /\ (m = "tcp" -> c = 0)
 | .notrack => True
 | .expect t => t ∈ gI
 | .flow t => t ∈ oO
 | .nat k nf ad ps fl => gY ps /\ fl ∈ gP /\ ((nf = 0 /\ k ∈ iK /\ ad = .no) \/ ((nf = 2 \/ nf = 10) /\ k ∈ fT /\ aEO nf ad ps))
noncomputable def Sto (l : Nat) (σ0 σ : aG) : Prop := ∃ a : Int, l < σ0.length /\ σ = σ0.set l (.lst [.int a])
noncomputable def eK {A : Type} (P : A -> Prop) (d : A -> PyData) (l : Nat) (σ0 : aG) (x : aI aB) : Prop := ∃ a σ', P a /\ Sto l σ0 σ' /\ x = .ok (.d (d a)) σ'
noncomputable def Dr {A : Type} (n f : Nat) (args : List aB) (P : A -> Prop) (d : A -> PyData) : Prop := ∀ l σ0 σ, Sto l σ0 σ -> eK P d l σ0 (aN FT false n f (.loc l :: args) σ)
section
variable {A B α : Type} {P : A -> Prop} {d : A -> PyData} {P' : B -> Prop} {d' : B -> PyData} {l k n f : Nat} {σ0 σ σ1 : aG} {args : List aB}
theorem eL {o : Option α} {a : α} {K : α -> aG -> aI aB} (h : o = some a) (g : eK P d l σ0 (K a σ)) : eK P d l σ0 (cL o σ K) := by rw [h]; unfold cL; rw [dS]; exact g
theorem eJ {x : aI aB} (g : eK P d l σ0 x) : eK P d l σ0 (cJ x) := by rw [xX]; exact g
theorem eT {b : Bool} {F : Bool -> aI aB} (h : b = true) (g : eK P d l σ0 (F true)) : eK P d l σ0 (cI b F) := by rw [h]; unfold cI; rw [dS]; exact g
theorem eF {b : Bool} {F : Bool -> aI aB} (h : b = false) (g : eK P d l σ0 (F false)) : eK P d l σ0 (cI b F) := by rw [h]; unfold cI; rw [dS]; exact g
theorem eI {b : Bool} {F : Bool -> aI aB} (g : b = true -> eK P d l σ0 (F true)) (g' : b = false -> eK P d l σ0 (F false)) : eK P d l σ0 (cI b F) := by cases b; exact eF rfl (g' rfl); exact eT rfl (g rfl)
theorem Sto.len (h : Sto l σ0 σ) : σ.length = σ0.length := h.elim fun a q => q.2 ▸ List.length_set ..
theorem eE (a : A) (hv : P a) (h0 : Sto l σ0 σ1) (hs : Sto l σ0 σ) : eK P d l σ0 (dC σ1.length (.ret (.d (d a))) σ) := ⟨a, σ, hv, hs, bL (hs.len.trans h0.len.symm)⟩
theorem eC {K : aB -> aG -> aI aB} (h : Dr n f args P' d') (hs : Sto l σ0 σ) (g : ∀ a σ', P' a -> Sto l σ0 σ' -> eK P d l σ0 (K (.d (d' a)) σ')) : eK P d l σ0 (cB (aN FT false (k + n) f (.loc l :: args) σ) K) :=
 (h l σ0 σ hs).elim fun a q => q.elim fun σ' q => by
  rw [bD q.2.2 (Nat.le_add_left n k)]
  unfold cB
  rw [dS]
  exact g a σ' q.1 q.2.1
theorem eN {m : Int} {K : aB -> aG -> aI aB} (hm : 0 < m /\ m.natAbs < 2 ^ 256) (hs : Sto l σ0 σ) (g : ∀ (p : Nat) σ', p < m.toNat -> Sto l σ0 σ' -> eK P d l σ0 (K (.d (.int p)) σ')) : eK P d l σ0 (cB (aN FT false (k + 10) 27 [.loc l, .d (.int m)] σ) K) :=
 hs.elim fun a q => by
  obtain ⟨hl, rfl⟩ := q
  have r := aCm a m hm.1
  rw [aGa k (List.getElem?_set_self hl) hm.1 hm.2, List.set_set]
  unfold cB
  rw [dS]
  have z := g (a.fmod m).toNat _ (by omega) ⟨a.fdiv m, hl, rfl⟩
  rw [Int.toNat_of_nonneg r.1] at z
  exact z
theorem dr {q : aW} {ρ : Nat -> aJ} (h : FT f = some q) (h2 : ∀ l, hO q.params q.dflt (.loc l :: args) = some (ρ l)) (g : ∀ l σ0 σ, Sto l σ0 σ -> eK P d l σ0 (dM (cN FT false n) q.body (ρ l) σ (dC σ.length))) : Dr (n + 1) f args P d := fun l σ0 σ hs =>
 (g l σ0 σ hs).elim fun a q => q.elim fun σ' q => ⟨a, σ', q.1, q.2.1, bA h (h2 l) q.2.2⟩
theorem aJh {α : Type} (f : α -> PyData) (xs : List α) {p : Nat} (h : p < xs.length) (hs : xs.length <= 1000) : ∃ a ∈ xs, dW σ (.d (.tuple (xs.map f))) (.d (.int p)) = some (.d (f a)) := aDB f xs ⟨Int.natCast_nonneg p, Int.ofNat_lt.mpr h⟩ hs
theorem eP {α : Type} (f : α -> PyData) (xs : List α) {p : Nat} {K : aB -> aG -> aI aB} (h : p < xs.length) (hs : xs.length <= 1000) (g : ∀ a ∈ xs, eK P d l σ0 (K (.d (f a)) σ)) : eK P d l σ0 (cL (dW σ (.d (.tuple (xs.map f))) (.d (.int p))) σ K) := (aJh f xs h hs).elim fun a q => eL q.2 (g a q.1)
noncomputable def aDc : List Int := [1024, 0, 1, 1023, 1536, 2048, 2 ^ Int.toNat 20, 3 * 2 ^ Int.toNat 30, 2 ^ Int.toNat 40, 2 ^ Int.toNat 64 - 1, 1025 * 1024]
theorem aI3 : ∀ v ∈ aDc, 0 <= v /\ v < 2 ^ 64 := by decide
theorem qD : Dr 40 28 [] (· < 2 ^ 64) (fun n : Nat => .int n) := dr (q := f28) rfl (fun _ => rfl) fun l σ0 σ hs => by
 refine eL (iC (by decide)) (eL (iC (by decide)) (eL (gA (by decide)) (eL (iC (by decide)) (eL (iC (by decide)) (eL rfl (eL (gA (by decide)) (eJ (eN (by decide) hs fun p σ1 hp h1 => eJ (eL rfl ?_)))))))))
 by_cases h : (p : Int) < 11
 ·refine eT (decide_eq_true h) (eP PyData.int aDc (Int.ofNat_lt.mp h) (by decide) fun v hv => ?_)
  have z := aI3 v hv
  rw [<- Int.toNat_of_nonneg z.1]
  exact eE v.toNat (by omega) hs h1
 ·exact eF (decide_eq_false h) (eL (iC (by decide)) (eN (by decide) h1 fun w σ2 hw h2 => eE w hw hs h2))
theorem aA7 : Dr 40 29 [] (· ∈ gI) .str := dr (q := f29) rfl (fun _ => rfl) fun l σ0 σ hs => eN (by decide) hs fun p σ1 hp h1 => eP .str gI hp (by decide) fun t ht => eE t ht hs h1
theorem aIF : Dr 40 30 [] (· ∈ oO) .str := dr (q := f30) rfl (fun _ => rfl) fun l σ0 σ hs => eN (by decide) hs fun p σ1 hp h1 => eP .str oO hp (by decide) fun t ht => eE t ht hs h1
theorem eS (s : St) (hv : s.Ok) (h0 : Sto l σ0 σ1) (hs : Sto l σ0 σ) : eK St.Ok St.data l σ0 (dC σ1.length (.ret (.d s.data)) σ) := eE s hv h0 hs
theorem eO (s : Po) (hv : gY s) (h0 : Sto l σ0 σ1) (hs : Sto l σ0 σ) : eK gY fN l σ0 (dC σ1.length (.ret (.d (fN s))) σ) := eE s hv h0 hs
theorem aHH {q : Nat} : Dr 80 31 [.d (.int q)] St.Ok St.data := dr (q := f31) rfl (fun _ => rfl) fun l σ0 σ hs => eL rfl (eI
 (fun _ => eC qD hs fun v σ1 hv h1 => eC qD h1 fun w σ2 hw h2 => eS (.counter v w) ⟨hv, hw⟩ hs h2)
 fun _ => eJ (eL rfl (eI (fun _ => eN (by decide) hs fun b σ1 hb h1 => eL rfl (eC qD h1 fun v σ2 hv h2 => eC qD h2 fun w σ3 hw h3 => eS (.quota _ v w) ⟨hv, hw⟩ hs h3))
  fun _ => eJ (eN (by decide) hs fun p σ1 hp h1 => eP .str nC hp (by decide) fun u hu => eJ (eN (by decide) h1 fun b σ2 hb h2 => eL rfl (eL rfl (eJ (eC qD h2 fun v σ3 hv h3 => eC qD h3 fun w σ4 hw h4 => eS (.limit _ v u w _) ⟨hv, hw, hu⟩ hs h4))))))))
theorem aHI {q : Nat} : Dr 80 32 [.d (.int q)] St.Ok St.data := dr (q := f32) rfl (fun _ => rfl) fun l σ0 σ hs => eL rfl (eI
 (fun _ => eN (by decide) hs fun p σ1 hp h1 => eP .str iX hp (by decide) fun m hm => eC aA7 h1 fun t σ2 ht h2 => eS (.object m t) ⟨hm, ht⟩ hs h2)
 fun _ => eJ (eL rfl (eI (fun _ => eJ (eC aA7 hs fun t σ1 ht h1 => eN (by decide) h1 fun p σ2 hp h2 => eP .str wC hp (by decide) fun m hm => eS (.log t m) ⟨ht, hm⟩ hs h2))
 fun _ => eJ (eL rfl (eI (fun _ => eN (by decide) hs fun p σ1 hp h1 => eP .str qK hp (by decide) fun m hm => eJ (eL rfl (eI (fun _ => eS (.reject m 0) ⟨hm, by decide, fun _ => rfl⟩ hs h1)
   fun hm2 => eN (by decide) h1 fun c σ2 hc h2 => eS (.reject m c) ⟨hm, hc, fun z => nomatch (beq_iff_eq.mpr z).symm.trans hm2⟩ hs h2)))
 fun _ => eJ (eL rfl (eI (fun _ => eS .notrack trivial hs hs)
 fun _ => eJ (eL rfl (eI (fun _ => eC aA7 hs fun t σ1 ht h1 => eS (.expect t) ht hs h1) fun _ => eC aIF hs fun t σ1 ht h1 => eS (.flow t) ht hs h1)))))))))
noncomputable def aMy (a b : Nat) : PyData := .tuple [.int a, .int b]
theorem aDG : Dr 80 34 [] gY fN := dr (q := f34) rfl (fun _ => rfl) fun l σ0 σ hs => eN (by decide) hs fun p σ1 hp h1 => eN (by decide) h1 fun a σ2 ha h2 => eN (by decide) h2 fun b σ3 hb h3 => eJ (eL rfl (eI
 (fun _ => eO none (fun _ _ h => nomatch h) hs h3) fun _ => eL rfl (eI (fun _ => eO (some (a, a)) (fun _ _ h => by cases h; exact ⟨ha, ha⟩) hs h3) fun _ => eO (some (a, b)) (fun _ _ h => by cases h; exact ⟨ha, hb⟩) hs h3)))
end
end PQ
namespace PQ
section
variable {A B α : Type} {P : A -> Prop} {d : A -> PyData} {P' : B -> Prop} {d' : B -> PyData} {l k n f : Nat} {σ0 σ σ1 : aG} {args : List aB} {ρ : aJ}
noncomputable def wO (b : Bool) (v : Nat) : Prop := bif b then v < 2 ^ 32 else v < 2 ^ 128 /\ 2 ^ 112 <= v
noncomputable def a4 : List Int := [0, 1, 2 ^ Int.toNat 32 - 1, 3232235777]
theorem aER : ∀ v ∈ a4, 0 <= v /\ v < 2 ^ 32 := by decide
noncomputable def a6 : List Int := [0, 1, 2 ^ Int.toNat 64 - 1, 65536]
theorem aES : ∀ v ∈ a6, 0 <= v /\ v < 2 ^ 64 := by decide
noncomputable def b6 : List Int := [536939960 * 2 ^ Int.toNat 96, 65152 * 2 ^ Int.toNat 112]
theorem aE1 : ∀ v ∈ b6, (2 ^ 112 : Int) <= v /\ v + 2 ^ 64 <= 2 ^ 128 := by decide
theorem more {xs : List Int} {N : Int} {w : Nat} (h : ∀ v ∈ xs, 0 <= v /\ v < N) (hw : (w : Int) < N) : ∀ v ∈ xs ++ [(w : Int)], 0 <= v /\ v < N := fun v hv => (List.mem_append.mp hv).elim (h v) fun q => List.mem_singleton.mp q ▸ ⟨Int.natCast_nonneg w, hw⟩
theorem aBu {x : Int} : Dr 80 33 [.d (.int x)] (wO (x == 2)) (fun n : Nat => .int n) := dr (q := f33) rfl (fun _ => rfl) fun l σ0 σ hs => eL rfl (eI
 (fun h => eL (iC (by decide)) (eL rfl (eL (iC (by decide)) (eN (by decide) hs fun w σ1 hw h1 => eN (by decide) h1 fun p σ2 hp h2 => eP PyData.int (a4 ++ [(w : Int)]) hp (Nat.le_of_ble_eq_true rfl) fun v hv => by
  have z := more aER (Int.ofNat_lt.mpr (show w < 4294967296 from hw)) v hv
  rw [<- Int.toNat_of_nonneg z.1]
  exact eE v.toNat (by rw [h]; show _ < _; omega) hs h2))))
 fun h => eJ (eL (iC (by decide)) (eL rfl (eL (iC (by decide)) (eN (by decide) hs fun w σ1 hw h1 => eN (by decide) h1 fun p σ2 hp h2 => eP PyData.int (a6 ++ [(w : Int)]) hp (Nat.le_of_ble_eq_true rfl) fun t ht =>
  eJ (eL (iC (by decide)) (eL (gA (by decide)) (eL (iC (by decide)) (eL (gA (by decide)) (eN (by decide) h2 fun q σ3 hq h3 => eP PyData.int b6 hq (by decide) fun hi hhi => eL rfl (by
   have z := more aES (Int.ofNat_lt.mpr (show w < 18446744073709551616 from hw)) t ht
   have y := aE1 hi hhi
   rw [<- Int.toNat_of_nonneg (show 0 <= hi + t by omega)]
   exact eE (hi + t).toNat (by rw [h]; show _ /\ _; omega) hs h3)))))))))))
theorem bt {b : Bool} (h : (b == true) = true) : b = true := by cases b; exact h; rfl
theorem bf {b : Bool} (h : (b == true) = false) : b = false := by cases b; rfl; exact h
theorem eV {b : Bool} {a a' : Int} {K : aB -> aG -> aI aB} (g : ∀ c : Int, (b = true -> c = a) -> (b = false -> c = a') -> eK P d l σ0 (K (.d (.int c)) σ)) :
  eK P d l σ0 (cI b fun t => tI t (rE (cN FT false (n + 1)) (.lit (.int a)) ρ σ) (rE (cN FT false (n + 1)) (.lit (.int a')) ρ σ) K) :=
 eI (fun h => g a (fun _ => rfl) fun h' => nomatch h.symm.trans h') fun h => g a' (fun h' => nomatch h.symm.trans h') fun _ => rfl
theorem aE5 {v b l : Nat} (h : l <= b) : fB .sub (.d (.int v)) (.d (.int ((v : Int).fmod ((2 : Int) ^ ((b : Int) - (l : Int)).toNat)))) = some (.d (.int ((v - v % 2 ^ (b - l) : Nat) : Int))) := by
 have e : ((b : Int) - (l : Int)).toNat = b - l := by omega
 refine congrArg (fun x => some (aB.d (.int x))) (?_ : (v : Int) - (v : Int).fmod ((2 : Int) ^ ((b : Int) - (l : Int)).toNat) = _)
 rw [e, show ((2 : Int) ^ (b - l)) = ((2 ^ (b - l) : Nat) : Int) by rw [Int.natCast_pow]; rfl, Int.fmod_eq_emod_of_nonneg _ (Int.natCast_nonneg _), <- Int.natCast_emod, Int.ofNat_sub (Nat.mod_le v (2 ^ (b - l)))]
theorem aE6 {v e : Nat} (hv : v < 2 ^ 128) (h : 2 ^ 112 <= v) : v - v % 2 ^ e < 2 ^ 128 /\ (v - v % 2 ^ e = 0 \/ 2 ^ 112 <= v - v % 2 ^ e) := by
 have hd : v - v % 2 ^ e = 2 ^ e * (v / 2 ^ e) := by rw [Nat.sub_eq_iff_eq_add (Nat.mod_le ..)]; exact (Nat.div_add_mod v (2 ^ e)).symm
 refine ⟨Nat.lt_of_le_of_lt (Nat.sub_le ..) hv, ?_⟩
 rcases Nat.le_total 112 e with h1 | h1
 ·rcases Nat.eq_zero_or_pos (v / 2 ^ e) with h0 | h0
  ·left; rw [hd, h0]; rfl
  ·right; rw [hd]
   exact Nat.le_trans (Nat.pow_le_pow_right (by decide) h1) (Nat.le_mul_of_pos_right _ h0)
 ·right
  have e1 : (2 : Nat) ^ 112 = 2 ^ e * 2 ^ (112 - e) := by rw [<- Nat.pow_add, Nat.add_sub_cancel' h1]
  rw [hd, e1]
  rw [e1] at h
  exact Nat.mul_le_mul_left _ ((Nat.le_div_iff_mul_le (Nat.two_pow_pos e)).mpr (Nat.mul_comm .. ▸ h))
theorem xB {nf v : Nat} (hn : nf ∈ [2, 10]) (h : wO ((nf : Int) == 2) v) : eU nf v := by
 rcases List.mem_cons.mp hn with rfl | hn
 ·exact .inl ⟨rfl, h⟩
 ·obtain rfl := List.mem_singleton.mp hn
  exact .inr ⟨rfl, h.1, .inr h.2⟩
theorem aET {nf v e : Nat} (hn : nf ∈ [2, 10]) (h : wO ((nf : Int) == 2) v) : eU nf (v - v % 2 ^ e) := by
 rcases List.mem_cons.mp hn with rfl | hn
 ·exact .inl ⟨rfl, Nat.lt_of_le_of_lt (Nat.sub_le ..) h⟩
 ·obtain rfl := List.mem_singleton.mp hn
  exact .inr ⟨rfl, aE6 h.1 h.2⟩
theorem aAj {nf : Nat} (hn : nf ∈ [2, 10]) : nf = 2 \/ nf = 10 := (List.mem_cons.mp hn).imp id fun h => List.mem_singleton.mp h
theorem aK8 {p q : Prop} (f : p -> q) (x : p) : q := f x
theorem aHJ {q : Nat} : Dr 180 35 [.d (.int q)] St.Ok St.data := dr (q := f35) rfl (fun _ => rfl) fun l σ0 σ hs => by
 refine eN (by decide) hs fun p σ1 hp h1 => eP (fun fl : List Str => PyData.tuple (fl.map PyData.str)) gP hp (by decide) fun fl hfl => eJ (eL rfl (eI ?_ fun _ => eJ ?_))
 ·exact fun _ => eN (by decide) h1 fun p σ2 hp h2 => eP PyData.str iK hp (by decide) fun m hm => eC aDG h2 fun po σ3 hpo h3 => eS (.nat m 0 .no po fl) ⟨hpo, hfl, .inl ⟨rfl, hm, rfl⟩⟩ hs h3
 refine eN (by decide) h1 fun p σ2 hp h2 => eP PyData.str fT hp (by decide) fun k hk => eN (by decide) h2 fun p σ3 hp h3 => ?_
 refine eP (fun n : Nat => PyData.int n) [2, 10] hp (by decide) fun nf hnf => ?_
 refine eC aDG h3 fun po σ4 hpo h4 => eJ ?_
 refine eN (by decide) h4 fun way σ5 hway h5 => ?_
 refine eC aBu h5 fun lo σ6 hlo h6 => eC aBu h6 fun hi σ7 hhi h7 => eJ ?_
 have span : ∀ v : Nat, eU nf v -> (St.nat k nf (.span lo v) po fl).Ok := fun v hv => ⟨hpo, hfl, .inr ⟨aAj hnf, hk, xB hnf hlo, hv⟩⟩
 refine aK8 (fun rest => eL rfl (eI (fun h => eL rfl (eI (fun h' => eT rfl ?_) fun h' => eF (bf h') rest)) fun h => eF (bf h) rest)) ?_
 ·exact eS (.nat k nf .no po fl) ⟨hpo, hfl, .inr ⟨aAj hnf, hk, fun z => by rw [z] at h'; cases h'⟩⟩ hs h7
 refine eJ (eL rfl (eI (fun h => eL rfl (eV fun c hc hc' => eJ ?_)) fun h => eJ ?_))
 ·have hn : ∃ n : Nat, c = n /\ n <= 128 := by
   cases z : ((nf : Int) == 2) with
   | true => exact ⟨32, hc z, by decide⟩
   | false => exact ⟨128, hc' z, by decide⟩
  obtain ⟨n, rfl, hn⟩ := hn
  refine eL rfl (eN (m := (n : Int) + 1) (by omega) h7 fun p σ8 hp h8 => eJ ?_)
  have hp : p <= n := by omega
  refine eL rfl (eL (iC (by omega)) (eL (pV (Int.ne_of_gt (Int.pow_pos (by decide)))) (eL (aE5 hp) ?_)))
  exact eS (.nat k nf (.net (lo - lo % 2 ^ (n - p)) p) none fl) ⟨fun _ _ h => (nomatch h), hfl, .inr ⟨aAj hnf, hk, rfl, aET hnf hlo, Nat.le_trans hp hn⟩⟩ hs h8
 ·refine eL rfl (eI (fun h' => ?_) fun h' => ?_)
  ·exact eS (.nat k nf (.span lo lo) po fl) (span lo (xB hnf hlo)) hs h7
  ·exact eS (.nat k nf (.span lo hi) po fl) (span hi (xB hnf hhi)) hs h7
end
end PQ
namespace PQ
section
variable {A : Type} {P : A -> Prop} {d : A -> PyData} {l k n f : Nat} {σ0 σ σ1 : aG} {args : List aB}
theorem aF9 {m : Int} (hm : 0 < m /\ m.natAbs < 2 ^ 256) : Dr 10 27 [.d (.int m)] (· < m.toNat) (fun n : Nat => .int n) := fun l σ0 σ hs => by
 have z := eN (P := (· < m.toNat)) (d := fun n : Nat => PyData.int n) (k := 0) (K := .ok) hm hs fun p σ' hp h' => ⟨p, σ', hp, h', rfl⟩
 unfold cB at z
 rw [dS, rF] at z
 exact z
theorem yP {a : Int} (h : Sto σ.length (σ ++ [.lst [.int a]]) σ1) {v : PyData} : dC σ.length (.ret (.d v)) σ1 = .ok (.d v) σ := h.elim fun b q => by
 show aI.ok _ (σ1.take _) = _
 rw [q.2, List.take_set_of_le (Nat.le_refl _), List.take_left]
theorem aLy (a : Int) (σ : aG) : ∃ s : St, s.Ok /\ aN FT false 320 36 [.d (.int a)] σ = .ok (.d s.data) σ := by
 have h0 : Sto σ.length (σ ++ [.lst [.int a]]) (σ ++ [.lst [.int a]]) := ⟨a, by rw [List.length_append]; exact Nat.lt_succ_self _, by rw [List.set_append_right _ _ (Nat.le_refl _), Nat.sub_self]; rfl⟩
 refine (aF9 (m := 12) (by decide) _ _ _ h0).elim fun q z => z.elim fun σ1 z => ?_
 have e1 := bD z.2.2 (show 10 <= 315 by decide)
 by_cases c1 : (q : Int) < 4
 ·exact (aHH (q := q) _ _ _ z.2.1).elim fun s y => y.elim fun σ2 y => ⟨s, y.1, bA (q := f36) rfl rfl (sJ (sB e1 (sJ (sL rfl (sT (decide_eq_true c1) (sB (bD y.2.2 (show 80 <= _ by decide)) (yP y.2.1)))))))⟩
 by_cases c2 : (q : Int) < 10
 ·exact (aHI (q := q) _ _ _ z.2.1).elim fun s y => y.elim fun σ2 y => ⟨s, y.1, bA (q := f36) rfl rfl (sJ (sB e1 (sJ (sL rfl (sF (decide_eq_false c1) (sL rfl (sT (decide_eq_true c2) (sB (bD y.2.2 (show 80 <= _ by decide)) (yP y.2.1)))))))))⟩
 ·exact (aHJ (q := q) _ _ _ z.2.1).elim fun s y => y.elim fun σ2 y => ⟨s, y.1, bA (q := f36) rfl rfl (sJ (sB e1 (sJ (sL rfl (sF (decide_eq_false c1) (sL rfl (sF (decide_eq_false c2) (sB (bD y.2.2 (show 180 <= _ by decide)) (yP y.2.1)))))))))⟩
end
end PQ
namespace PQ
section
variable {hb : Bool} {n m i : Nat} {c : aK} {b : List bH} {is : List Nat} {it v : aB} {x y : PyData} {xs ys : List PyData} {ρ ρ1 ρ2 : aJ} {σ σ1 σ2 σ3 : aG} {r : aI Fl} {e : aK} {co : Option aK}
theorem wM (h : dF FT hb n c ρ σ = .ok true σ1) (h2 : bS FT hb n b ρ σ1 = .ok (.next ρ1) σ2) (h3 : evW FT hb n c b ρ1 σ2 = r) : evW FT hb (n + 1) c b ρ σ = r := by
 show (dF FT hb n c ρ σ).bindN _ = _
 rw [h]
 show (bS FT hb n b ρ σ1).bindN _ = _
 rw [h2]; exact h3
theorem aMc (h : dF FT hb n c ρ σ = .ok true σ1) (h2 : bS FT hb n b ρ σ1 = .ok (.ret v) σ2) : evW FT hb (n + 1) c b ρ σ = .ok (.ret v) σ2 := by
 show (dF FT hb n c ρ σ).bindN _ = _
 rw [h]
 show (bS FT hb n b ρ σ1).bindN _ = _
 rw [h2]; rfl
theorem qP (h : dF FT hb n c ρ σ = .ok false σ1) : evW FT hb (n + 1) c b ρ σ = .ok (.next ρ) σ1 := by
 show (dF FT hb n c ρ σ).bindN _ = _
 rw [h]; rfl
theorem fX (h : nM ρ is x = some ρ1) (h2 : bS FT hb n b ρ1 σ = .ok (.next ρ2) σ2) (h3 : evF FT hb n is b xs ρ2 σ2 = r) : evF FT hb (n + 1) is b (x :: xs) ρ σ = r := by
 show (lift (nM ρ is x) σ).bind _ = _
 rw [h]
 show (bS FT hb n b ρ1 σ).bindN _ = _
 rw [h2]; exact h3
theorem aGq (h : nM ρ is x = some ρ1) (h2 : bS FT hb n b ρ1 σ = .ok (.ret v) σ2) : evF FT hb (n + 1) is b (x :: xs) ρ σ = .ok (.ret v) σ2 := by
 show (lift (nM ρ is x) σ).bind _ = _
 rw [h]
 show (bS FT hb n b ρ1 σ).bindN _ = _
 rw [h2]; rfl
theorem xZ (h : mJ FT hb n co (ρ.set i (.d x)) σ = .ok true σ1) (h2 : aP FT hb n e (ρ.set i (.d x)) σ1 = .ok (.d y) σ2) (h3 : cY FT hb n e i co xs ρ σ2 = .ok ys σ3) : cY FT hb (n + 1) e i co (x :: xs) ρ σ = .ok (y :: ys) σ3 := by
 show (mJ FT hb n co (ρ.set i (.d x)) σ).bind _ = _
 rw [h]
 show (aP FT hb n e (ρ.set i (.d x)) σ1).bind _ = _
 rw [h2]
 show (cY FT hb n e i co xs ρ σ2).bind _ = _
 rw [h3]; rfl
theorem aFr {z : aI (List PyData)} (h : mJ FT hb n co (ρ.set i (.d x)) σ = .ok false σ1) (h3 : cY FT hb n e i co xs ρ σ1 = z) : cY FT hb (n + 1) e i co (x :: xs) ρ σ = z := by
 show (mJ FT hb n co (ρ.set i (.d x)) σ).bind _ = _
 rw [h]; exact h3
theorem aEN : xW FT hb n c b ρ σ = evW FT hb n c b ρ σ := by unfold xW; rw [dS]
theorem aEM : xF FT hb n is b xs ρ σ = evF FT hb n is b xs ρ σ := by unfold xF; rw [dS]
theorem aEL : xC FT hb n e i co xs ρ σ = cY FT hb n e i co xs ρ σ := by unfold xC; rw [dS]
theorem aMA {f : Nat} {vs : List aB} : aN FT hb n f vs σ = kG FT hb n f vs σ := by unfold aN; rw [dS]
theorem wN (e : evW FT hb n c b ρ σ = .ok (.next ρ1) σ1) (hm : n <= m) : xW FT hb m c b ρ σ = .ok (.next ρ1) σ1 := aEN.trans (Le.up (fun n => (jG n).W c b ρ σ) hm e fun h => nomatch h)
theorem aMd (e : evW FT hb n c b ρ σ = .ok (.ret v) σ1) (hm : n <= m) : xW FT hb m c b ρ σ = .ok (.ret v) σ1 := aEN.trans (Le.up (fun n => (jG n).W c b ρ σ) hm e fun h => nomatch h)
theorem nW (e : evF FT hb n is b xs ρ σ = .ok (.next ρ1) σ1) (hm : n <= m) : xF FT hb m is b xs ρ σ = .ok (.next ρ1) σ1 := aEM.trans (Le.up (fun n => (jG n).F is b xs ρ σ) hm e fun h => nomatch h)
theorem hV (h : cY FT hb n e i co xs ρ σ = .ok ys σ1) (hm : n <= m) : xC FT hb m e i co xs ρ σ = .ok ys σ1 := aEL.trans (Le.up (fun n => (jG n).C e i co xs ρ σ) hm h fun h => nomatch h)
theorem aO {v : aB} (h : ρ i = some v) : ρ.set i v = ρ := funext fun j => by
 rw [aJ.set_if]
 split
 ·rename_i q; rw [q, h]
 ·rfl
end
end PQ
namespace PQ
open PySem.StrLaws PySem.NumText
noncomputable abbrev cl (s : Str) : List Nat := s.cps.toList
noncomputable def mk (l : List Nat) : Str := ⟨l.toArray⟩
theorem mH (l : List Nat) : cl (mk l) = l := rfl
theorem aMw (s : Str) : mk (cl s) = s := rfl
theorem cE (a b : Str) : cl (a ++ b) = cl a ++ cl b := by simp [cl, Str.cps_append]
theorem gW {a b : Str} (h : cl a = cl b) : a = b := Str.ext' (Array.toList_inj.mp h)
theorem fK (s : Str) : s.length = (cl s).length := by simp [Str.length]
theorem sE (l : List Nat) : (mk l).length = l.length := by simp [Str.length, mk]
theorem aMu {s : Str} {l : List Nat} (h : cl s = l) : s = mk l := gW h
theorem aLz (a b : Str) : (a = b) ↔ cl a = cl b := ⟨fun h => by rw [h], gW⟩
noncomputable def bE (n : Nat) : Str := Str.ofString (toString (n : Int))
theorem vN (n : Nat) : cl (bE n) = (Nat.toDigits 10 n).map Char.toNat := KIN.signs_num n
theorem oH (n : Nat) : AllDigits (cl (bE n)) := by
 intro c hc
 rw [vN] at hc
 obtain ⟨ch, hch, e⟩ := List.mem_map.mp hc
 have r := digit_range (Nat.isDigit_of_mem_toDigits (by decide) (by decide) hch)
 rw [<- e]
 exact r
theorem qB (n : Nat) : cl (bE n) ≠ [] := by
 rw [vN]
 intro e
 have h := toDigits_len_ge 10 n
 rw [List.map_eq_nil_iff.mp e] at h
 exact absurd h (by decide)
theorem dY {n : Nat} (h : n < 10 ^ 40) : (bE n).length <= 40 := by
 exact toString_length_le (Int.natCast_nonneg n) (by decide) (by omega)
theorem aAo {n : Nat} (h : n < 10 ^ 40) : PySem.intText? (bE n) = some (n : Int) := by
 have e := intText_digits (oH n) (qB n) (Nat.le_trans (dY h) (by decide))
 have : digitsVal (cl (bE n)) = n := by rw [vN]; exact KIN.val_back n
 rw [this] at e
 exact e
theorem aGW : ∀ n : Nat, 0 < n -> ∃ c r, (Nat.toDigits 10 n).map Char.toNat = c :: r /\ 49 <= c := by
 intro n
 induction n using Nat.strongRecOn with
 | _ n ih =>
  intro h0
  by_cases h : n < 10
  ·rw [Nat.toDigits_of_lt_base h]
   refine ⟨_, _, rfl, ?_⟩
   have : ∀ d : Nat, d < 10 -> 0 < d -> 49 <= (Nat.digitChar d).toNat := by decide
   exact this n h h0
  ·have hm : n % 10 < 10 := Nat.mod_lt n (by decide)
   have t : Nat.toDigits 10 (n / 10) ++ Nat.toDigits 10 (n % 10) = Nat.toDigits 10 (10 * (n / 10) + n % 10) := Nat.toDigits_append_toDigits (by decide) (by omega) hm
   rw [Nat.div_add_mod] at t
   obtain ⟨c, r, e, hc⟩ := ih (n / 10) (by omega) (by omega)
   rw [<- t, List.map_append, e]
   exact ⟨c, _, rfl, hc⟩
theorem aIY (n : Nat) : n = 0 \/ ∃ c r, cl (bE n) = c :: r /\ 49 <= c := by
 rcases Nat.eq_zero_or_pos n with h | h
 ·exact .inl h
 ·right; rw [vN]; exact aGW n h
theorem aLB {x y : Str} (h : ∀ c ∈ cl x, c ∈ cl y) : Txt.stripChars x y = Str.ofString "" := by
 have g : ∀ c ∈ cl x, y.cps.contains c = true := fun c hc => by
  have := h c hc
  rw [Array.contains_iff_mem]
  exact Array.mem_toList_iff.mp this
 have e : (cl x).takeWhile y.cps.contains = cl x := NumText.takeWhile_all g
 have hlo : PySem.stripLo y.cps.contains true x = (cl x).length := by
  unfold PySem.stripLo
  rw [if_pos rfl]
  show ((cl x).takeWhile y.cps.contains).length = _
  rw [e]
 unfold Txt.stripChars Txt.stripBy
 have hhi : PySem.stripHi y.cps.contains true x (cl x).length = (cl x).length := by
  unfold PySem.stripHi
  rw [if_pos rfl, List.drop_length]
  simp [fK]
 by_cases hs : PySem.stripSame y.cps.contains true true x = true
 ·rw [if_pos hs]
  unfold PySem.stripSame at hs
  rw [hlo] at hs
  simp only [Bool.and_eq_true, beq_iff_eq] at hs
  refine gW ?_
  have := List.length_eq_zero_iff.mp hs.1
  rw [this]; rfl
 ·rw [if_neg hs]
  unfold PySem.stripped
  rw [hlo, hhi]
  refine gW ?_
  show (Builtin.Str.strSub x _ _).cps.toList = _
  rw [strSub_toList]
  simp; rfl
noncomputable def cZ (y : List Nat) : List Nat -> Option Nat
 | [] => if y = [] then some 0 else none
 | c :: r => if y.isPrefixOf (c :: r) then some 0 else (cZ y r).map (· + 1)
theorem lB (x y : Str) (i : Nat) : At x y x.length i ↔ i <= (cl x).length /\ y.cps.toList.isPrefixOf ((cl x).drop i) = true := by
 unfold At
 rw [subAt_eq, List.isPrefixOf_iff_prefix, beq_iff_eq, fK, fK]
 constructor
 ·rintro ⟨h1, h2⟩
  exact ⟨by omega, by rw [<- h2]; exact List.take_prefix _ _⟩
 ·rintro ⟨h1, h2⟩
  obtain ⟨t, ht⟩ := h2
  have hl := congrArg List.length ht
  simp only [List.length_append, List.length_drop] at hl
  refine ⟨by show i + (cl y).length <= _; have : y.cps.toList.length = (cl y).length := rfl; omega, ?_⟩
  show ((cl x).drop i).take _ = _
  rw [<- ht]; simp
theorem uP {y : List Nat} : ∀ {l : List Nat} {i : Nat}, cZ y l = some i -> i <= l.length /\ y.isPrefixOf (l.drop i) = true /\ ∀ k, k < i -> y.isPrefixOf (l.drop k) = false
 | [], i, h => by
  unfold cZ at h
  split at h
  ·rename_i hy; cases h; subst hy; exact ⟨Nat.zero_le _, rfl, fun k hk => absurd hk (Nat.not_lt_zero _)⟩
  ·cases h
 | c :: r, i, h => by
  unfold cZ at h
  split at h
  ·rename_i hp; cases h; exact ⟨Nat.zero_le _, hp, fun k hk => absurd hk (Nat.not_lt_zero _)⟩
  ·rename_i hp
   cases hf : cZ y r with
   | none => rw [hf] at h; cases h
   | some j =>
    rw [hf] at h
    injection h with h
    subst h
    obtain ⟨h1, h2, h3⟩ := uP hf
    refine ⟨by simp only [List.length_cons]; omega, h2, fun k hk => ?_⟩
    cases k with
    | zero => exact Bool.eq_false_iff.mpr hp
    | succ k => exact h3 k (by have : k + 1 < j + 1 := hk; omega)
theorem uO {y : List Nat} : ∀ {l : List Nat}, cZ y l = none -> ∀ k, k <= l.length -> y.isPrefixOf (l.drop k) = false
 | [], h, k, hk => by
  unfold cZ at h
  split at h
  ·cases h
  ·rename_i hy
   have : k = 0 := by simpa using hk
   subst this
   cases y with
   | nil => exact absurd rfl hy
   | cons a b => rfl
 | c :: r, h, k, hk => by
  unfold cZ at h
  split at h
  ·cases h
  ·rename_i hp
   cases k with
   | zero => exact Bool.eq_false_iff.mpr hp
   | succ k =>
    refine uO (l := r) ?_ k (by simpa using hk)
    cases hf : cZ y r with
    | none => rfl
    | some j => rw [hf] at h; cases h
theorem yT (x y : Str) : Txt.find x y = match cZ (cl y) (cl x) with
  | some i => (i : Int)
  | none => -1 := by
 unfold Txt.find
 rcases occ_head x y 1 (Nat.le_refl 1) with ⟨h0, hn⟩ | ⟨i, r, h0, hi, hn⟩
 ·rw [h0]
  cases hf : cZ (cl y) (cl x) with
  | none => rfl
  | some i =>
   obtain ⟨h1, h2, _⟩ := uP hf
   exact absurd ((lB x y i).mpr ⟨h1, h2⟩) (hn i)
 ·rw [h0]
  obtain ⟨a1, a2⟩ := (lB x y i).mp hi
  cases hf : cZ (cl y) (cl x) with
  | none =>
   have := uO hf i a1
   rw [this] at a2; cases a2
  | some j =>
   obtain ⟨h1, h2, h3⟩ := uP hf
   have : i = j := by
    rcases Nat.lt_trichotomy i j with h | h | h
    ·have := h3 i h; rw [this] at a2; cases a2
    ·exact h
    ·exact absurd ((lB x y j).mpr ⟨h1, h2⟩) (hn j h)
   rw [this]
theorem kI {c : Nat} {y : List Nat} : ∀ {a : List Nat} (r : List Nat), c ∉ a -> cZ (c :: y) (a ++ r) = (cZ (c :: y) r).map (· + a.length)
 | [], r, _ => by
  rw [List.nil_append]
  cases cZ (c :: y) r <;> rfl
 | d :: a, r, h => by
  have h1 : c ≠ d := fun e => h (by rw [e]; exact List.mem_cons_self ..)
  have h2 : c ∉ a := fun m => h (List.mem_cons_of_mem _ m)
  have hp : (c :: y).isPrefixOf (d :: (a ++ r)) = false := by
   simp [List.isPrefixOf, h1]
  have e : cZ (c :: y) (d :: (a ++ r)) = (cZ (c :: y) (a ++ r)).map (· + 1) := by
   show (if (c :: y).isPrefixOf (d :: (a ++ r)) then some 0 else _) = _
   rw [if_neg (by rw [hp]; decide)]
  rw [List.cons_append, e, kI r h2]
  cases cZ (c :: y) r with
  | none => rfl
  | some j => simp only [Option.map_some, List.length_cons, Option.some.injEq]; omega
theorem yU {x y : Str} {c : Nat} {a b : List Nat} (hx : cl x = a ++ c :: b) (hy : cl y = [c]) (h : c ∉ a) : Txt.find x y = a.length := by
 have : cZ [c] (c :: b) = some 0 := by simp [cZ, List.isPrefixOf]
 rw [yT, hx, hy, kI _ h, this]; simp
theorem aGz {x y : Str} {c : Nat} (hy : cl y = [c]) (h : c ∉ cl x) : Txt.find x y = -1 := by
 have := kI (c := c) (y := []) (a := cl x) [] h
 rw [List.append_nil] at this
 rw [yT, hy, this]; rfl
theorem aGx {x y : Str} {c d : Nat} {a b : List Nat} (hx : cl x = d :: a ++ c :: b) (hy : cl y = [c]) (h : c ∉ a) : Txt.find3 x y 1 = a.length + 1 := by
 have hf : PySem.fromIndex x.length 1 = 1 := by
  have : x.length = a.length + b.length + 2 := by rw [fK, hx]; simp; omega
  unfold PySem.fromIndex
  rw [this]; simp <;> omega
 unfold Txt.find3
 rw [hf]
 have at1 : At x y x.length (a.length + 1) := (lB x y _).mpr ⟨by rw [hx]; simp <;> omega, by
  rw [hx]
  show y.cps.toList.isPrefixOf _ = true
  rw [show y.cps.toList = [c] from hy]
  simp [List.isPrefixOf]⟩
 have no : ∀ k, 1 <= k -> k < a.length + 1 -> ¬ At x y x.length k := by
  intro k h1 h2 hA
  have h3 := ((lB x y k).mp hA).2
  rw [hx, show y.cps.toList = [c] from hy] at h3
  obtain ⟨j, rfl⟩ : ∃ j, k = j + 1 := ⟨k - 1, by omega⟩
  simp only [List.cons_append, List.drop_succ_cons] at h3
  rw [List.drop_append_of_le_length (by omega)] at h3
  have hj : j < a.length := by omega
  rw [List.drop_eq_getElem_cons hj] at h3
  simp only [List.cons_append, List.isPrefixOf, Bool.and_true, beq_iff_eq] at h3
  exact h (h3 ▸ List.getElem_mem hj)
 rcases occ_head_from x y 1 1 (Nat.le_refl 1) with ⟨h0, hn⟩ | ⟨i, r, h0, hi0, hi, hn⟩
 ·exact absurd at1 (hn _ (by omega))
 ·rw [h0]
  have : i = a.length + 1 := by
   rcases Nat.lt_trichotomy i (a.length + 1) with q | q | q
   ·exact absurd hi (no i hi0 q)
   ·exact q
   ·exact absurd at1 (hn _ (by omega) q)
  show (i : Int) = _
  omega
theorem tC (x : Str) (a b : Nat) (h : a <= b) : Txt.slice x (some (a : Int)) (some (b : Int)) = mk ((cl x).drop a |>.take (b - a)) := by
 have e : Txt.slice x (some (a : Int)) (some (b : Int)) = sliceText x (some ((min a x.length : Nat) : Int)) (some ((min b x.length : Nat) : Int)) := by
  unfold Txt.slice sliceText
  have : Builtin.Str.strSliceIndices (some (a : Int)) (some (b : Int)) 1 x.length = Builtin.Str.strSliceIndices (some ((min a x.length : Nat) : Int)) (some ((min b x.length : Nat) : Int)) 1 x.length := by
   have p1 : ¬ ((a : Int) < 0) := by omega
   have p2 : ¬ ((b : Int) < 0) := by omega
   have p3 : ¬ (((min a x.length : Nat) : Int) < 0) := by omega
   have p4 : ¬ (((min b x.length : Nat) : Int) < 0) := by omega
   have e1 : min ((min a x.length : Nat) : Int) (x.length : Int) = min (a : Int) x.length := by omega
   have e2 : min ((min b x.length : Nat) : Int) (x.length : Int) = min (b : Int) x.length := by omega
   simp only [Builtin.Str.strSliceIndices, p1, p2, p3, p4, if_false, e1, e2, show ((1 : Int) > 0) = True from by simp, if_true]
  rw [this]
 rw [e, sliceText_nat x (by omega) (by omega)]
 show mk _ = mk _
 congr 1
 rw [fK]
 have hl : (cl x).length = x.cps.toList.length := rfl
 generalize hc : cl x = l at *
 rw [show x.cps.toList = l from hc]
 by_cases h1 : a <= l.length
 ·rw [Nat.min_eq_left h1]
  by_cases h2 : b <= l.length
  ·rw [Nat.min_eq_left h2]
  ·rw [Nat.min_eq_right (by omega), List.take_of_length_le (by simp), List.take_of_length_le (by simp; omega)]
 ·rw [List.drop_of_length_le (by omega), List.drop_of_length_le (by omega)]; simp
theorem aLj (x : Str) (n : Nat) : Txt.slice x none (some (n : Int)) = mk ((cl x).take n) := by
 have e : Txt.slice x none (some (n : Int)) = Txt.slice x (some ((0 : Nat) : Int)) (some (n : Int)) := by unfold Txt.slice; rw [sliceIdx_none_lo]; rfl
 rw [e, tC x 0 n (Nat.zero_le _)]; simp
theorem aLd (x : Str) (n : Nat) : Txt.slice x (some (n : Int)) none = mk ((cl x).drop n) := by
 by_cases h : n <= x.length
 ·have e : Txt.slice x (some (n : Int)) none = Txt.slice x (some (n : Int)) (some (x.length : Int)) := by unfold Txt.slice; rw [sliceIdx_none_hi]
  rw [e, tC x n _ h, List.take_of_length_le (by rw [fK]; simp)]
 ·have h' : x.length <= n := by omega
  have e : Txt.slice x (some (n : Int)) none = Txt.slice x (some (n : Int)) (some (n : Int)) := by
   unfold Txt.slice
   have : Builtin.Str.strSliceIndices (some (n : Int)) none 1 x.length = Builtin.Str.strSliceIndices (some (n : Int)) (some (n : Int)) 1 x.length := by
    rw [sliceIdx_none_hi]
    have p1 : ¬ ((n : Int) < 0) := by omega
    have p2 : ¬ ((x.length : Int) < 0) := by omega
    have e2 : min (n : Int) (x.length : Int) = min (x.length : Int) x.length := by omega
    simp only [Builtin.Str.strSliceIndices, p1, p2, if_false, e2, show ((1 : Int) > 0) = True from by simp, if_true]
   rw [this]
  rw [e, tC x n n (Nat.le_refl _), List.drop_of_length_le (by rw [<- fK]; exact h')]; simp
theorem aLh {x : Str} {c d : Nat} {t : List Nat} (h : cl x = c :: t ++ [d]) : Txt.slice x (some 1) (some (-1)) = mk t := by
 have hl : x.length = t.length + 2 := by rw [fK, h]; simp
 have e : Txt.slice x (some 1) (some (-1)) = Txt.slice x (some ((1 : Nat) : Int)) (some ((t.length + 1 : Nat) : Int)) := by
  unfold Txt.slice
  have : Builtin.Str.strSliceIndices (some 1) (some (-1)) 1 x.length = Builtin.Str.strSliceIndices (some ((1 : Nat) : Int)) (some ((t.length + 1 : Nat) : Int)) 1 x.length := by
   rw [hl]
   have p2 : ¬ (((t.length + 1 : Nat) : Int) < 0) := by omega
   have e2 : (-1 : Int) + ((t.length + 2 : Nat) : Int) = ((t.length + 1 : Nat) : Int) := by omega
   simp only [Builtin.Str.strSliceIndices, p2, if_false, show ((-1 : Int) < 0) = True from by simp, if_true, e2]
   rfl
  rw [this]
 rw [e, tC x 1 _ (by omega), h]
 simp
theorem aHB (s : Str) (ts : List Str) : Txt.join s ts = Str.join s ts := glued_eq_join s ts
theorem aHD {sep : Str} {ts : List Str} (B : Nat) (hB : ∀ y ∈ ts, y.length <= B) (h : ts.length * B + ts.length * sep.length <= 16777216) : JoinOk sep ts = true := by
 unfold JoinOk; rw [joinFits hB h]; rfl
noncomputable def gR (s : List Nat) : List (List Nat) -> List Nat
 | [] => []
 | [x] => x
 | x :: y :: r => x ++ (s ++ gR s (y :: r))
theorem iZ (sep : Str) : ∀ ts : List Str, cl (Str.join sep ts) = gR (cl sep) (ts.map cl)
 | [] => rfl
 | [x] => rfl
 | x :: y :: r => by
  show cl (x ++ sep ++ Str.join sep (y :: r)) = _
  rw [cE, cE, iZ sep (y :: r), List.append_assoc]
  rfl
theorem aHm {c : Nat} : ∀ {xs ys : List (List Nat)}, xs ≠ [] -> ys ≠ [] -> (∀ x ∈ xs, c ∉ x) -> (∀ y ∈ ys, c ∉ y) -> gR [c] xs = gR [c] ys -> xs = ys := by
 have step : ∀ (x : List Nat) (x' : List Nat) (r : List (List Nat)), gR [c] (x :: x' :: r) = x ++ c :: gR [c] (x' :: r) := by
  intro x x' r; rfl
 have cut : ∀ (x y a b : List Nat), c ∉ x -> c ∉ y -> x ++ c :: a = y ++ c :: b -> x = y /\ a = b := by
  intro x
  induction x with
  | nil =>
   intro y a b _ hy h
   cases y with
   | nil => simp at h; exact ⟨rfl, h⟩
   | cons d y => simp at h; exact absurd (h.1 ▸ List.mem_cons_self ..) hy
  | cons d x ih =>
   intro y a b hx hy h
   cases y with
   | nil => simp at h; exact absurd (h.1 ▸ List.mem_cons_self ..) hx
   | cons e y =>
    simp only [List.cons_append, List.cons.injEq] at h
    obtain ⟨rfl, h⟩ := h
    obtain ⟨h1, h2⟩ := ih y a b (fun m => hx (List.mem_cons_of_mem _ m)) (fun m => hy (List.mem_cons_of_mem _ m)) h
    exact ⟨by rw [h1], h2⟩
 intro xs
 induction xs with
 | nil => intro ys h; exact absurd rfl h
 | cons x xs ih =>
  intro ys _ hy hx' hy' h
  cases ys with
  | nil => exact absurd rfl hy
  | cons y ys =>
   cases xs with
   | nil =>
    cases ys with
    | nil => rw [show x = y from h]
    | cons y' ys =>
     rw [step] at h
     have h : x = _ := h
     exact absurd (by rw [h]; simp) (hx' x (List.mem_cons_self ..))
   | cons x' xs =>
    cases ys with
    | nil =>
     rw [step] at h
     have h : _ = y := h
     exact absurd (by rw [<- h]; simp) (hy' y (List.mem_cons_self ..))
    | cons y' ys =>
     rw [step, step] at h
     obtain ⟨h1, h2⟩ := cut _ _ _ _ (hx' x (List.mem_cons_self ..)) (hy' y (List.mem_cons_self ..)) h
     rw [h1, ih (by simp) (by simp) (fun z hz => hx' z (List.mem_cons_of_mem _ hz)) (fun z hz => hy' z (List.mem_cons_of_mem _ hz)) h2]
theorem aLn (x y : Str) : Txt.split x y ≠ [] := by
 unfold Txt.split
 split
 ·simp
 ·split
  ·simp
  ·rw [partsBetween_eq]
   obtain ⟨p, r, e⟩ := partsFrom_ne x y.length 0 (Builtin.Str.occurrences x y 0 x.length (x.length + 1))
   rw [e]; simp
theorem aCX : ∀ {a b : List Str}, a.map cl = b.map cl -> a = b
 | [], [], _ => rfl
 | [], _ :: _, h => by simp at h
 | _ :: _, [], h => by simp at h
 | x :: a, y :: b, h => by
  simp only [List.map_cons, List.cons.injEq] at h
  rw [gW h.1, aCX h.2]
theorem tD {x : Str} {c : Nat} {ts : List Str} (hx : x = Str.join (mk [c]) ts) (h0 : ts ≠ []) (h : ∀ t ∈ ts, c ∉ cl t) : Txt.split x (mk [c]) = ts := by
 have h1 := join_split x (mk [c])
 rw [hx] at h1
 have h2 := congrArg cl h1
 rw [iZ, iZ] at h2
 rw [<- hx] at h2
 refine aCX (aHm (c := c) ?_ ?_ ?_ ?_ h2)
 ·intro e; exact aLn _ _ (List.map_eq_nil_iff.mp e)
 ·intro e; exact h0 (List.map_eq_nil_iff.mp e)
 ·intro z hz
  obtain ⟨p, hp, rfl⟩ := List.mem_map.mp hz
  exact split_free x c p hp
 ·intro z hz
  obtain ⟨p, hp, rfl⟩ := List.mem_map.mp hz
  exact h p hp
theorem aEe {x y : Str} (hy : 1 <= y.length) (h : cZ (cl y) (cl x) = none) : Txt.split x y = [x] := by
 have hn : ∀ i, ¬ At x y x.length i := fun i hi => by
  obtain ⟨a1, a2⟩ := (lB x y i).mp hi
  have := uO h i a1
  rw [this] at a2; cases a2
 unfold Txt.split
 split
 ·rfl
 ·rcases occ_head x y (x.length + 1) (by omega) with ⟨h0, _⟩ | ⟨i, r, h0, hi, _⟩
  ·rw [h0]; rfl
  ·exact absurd hi (hn i)
theorem aHG {x y : Str} {i : Nat} (h : At x y x.length i) (hy : ∀ c ∈ cl y, c < 256) : (decide (x.length < y.length) || decide (PySem.Builtin.Str.strKind x < PySem.Builtin.Str.strKind y)) = false := by
 have h1 := h.1
 have : PySem.Builtin.Str.strKind y = 0 \/ ∀ z : Str, PySem.Builtin.Str.strKind y <= PySem.Builtin.Str.strKind z := by
  right
  intro z
  have : (y.cps.all (· < 256)) = true := by
   rw [<- Array.all_toList, List.all_eq_true]
   exact fun c hc => decide_eq_true (hy c hc)
  unfold PySem.Builtin.Str.strKind
  rw [if_pos this]
  split
  ·exact Nat.le_refl _
  ·split <;> omega
 rcases this with e | e
 ·simp [e]; omega
 ·have := e x
  rw [Bool.or_eq_false_iff]
  exact ⟨decide_eq_false (by omega), decide_eq_false (by omega)⟩
theorem aLq {x y : Str} {a b : List Nat} (hx : cl x = a ++ cl y ++ b) (hy : 1 <= y.length) (h2 : ∀ c ∈ cl y, c < 256) (h : cZ (cl y) (cl x) = some a.length) (hb : cZ (cl y) b = none) : Txt.split x y = [mk a, mk b] := by
 obtain ⟨f1, f2, f3⟩ := uP h
 have hA : At x y x.length a.length := (lB x y _).mpr ⟨f1, f2⟩
 obtain ⟨f, hG, hn⟩ := occ_tight x y hy
 have hyl : y.length = (cl y).length := fK y
 have later : ∀ k, a.length + y.length <= k -> ¬ At x y x.length k := by
  intro k hk hk2
  obtain ⟨k1, k2⟩ := (lB x y k).mp hk2
  rw [hx] at k1 k2
  simp only [List.length_append] at k1
  have := uO hb (k - (a.length + y.length)) (by rw [hyl]; omega)
  have e : ((a ++ cl y ++ b).drop k) = b.drop (k - (a.length + y.length)) := by
   rw [List.drop_append, List.drop_of_length_le (by rw [List.length_append, <- hyl]; omega), List.length_append, <- hyl]
   rfl
  rw [e] at k2
  rw [show cl y = y.cps.toList from rfl] at this
  rw [this] at k2; cases k2
 have hcuts : Builtin.Str.occurrences x y 0 x.length (x.length + 1) = [a.length] := by
  cases ho : Builtin.Str.occurrences x y 0 x.length (x.length + 1) with
  | nil =>
   rw [ho] at hG
   have e : f = 0 := hG
   exact absurd hA (hn _ (by omega))
  | cons c r =>
   rw [ho] at hG
   obtain ⟨_, g2, g3, g4⟩ := hG
   have hc : c = a.length := by
    rcases Nat.lt_trichotomy c a.length with q | q | q
    ·have := f3 c q
     have g := ((lB x y c).mp g2).2
     rw [show cl y = y.cps.toList from rfl] at this
     rw [this] at g; cases g
    ·exact q
    ·exact absurd hA (g3 _ (Nat.zero_le _) q)
   subst hc
   cases r with
   | nil => rfl
   | cons d r => exact absurd g4.2.1 (later d g4.1)
 unfold Txt.split
 rw [aHG hA h2, hcuts, if_neg Bool.false_ne_true, if_neg (by simp), partsBetween_eq]
 show [Builtin.Str.strSub x 0 a.length, Builtin.Str.strSub x (a.length + y.length) x.length] = _
 have e1 : Builtin.Str.strSub x 0 a.length = mk a := gW (by
  show (Builtin.Str.strSub x _ _).cps.toList = _
  rw [strSub_toList, show x.cps.toList = _ from hx, mH]; simp)
 have e2 : Builtin.Str.strSub x (a.length + y.length) x.length = mk b := gW (by
  show (Builtin.Str.strSub x _ _).cps.toList = _
  rw [strSub_toList, show x.cps.toList = _ from hx, mH, hyl, fK, hx]; simp
  rw [List.take_of_length_le (by omega)])
 rw [e1, e2]
theorem aDT (x : Str) (c : Nat) : cl (Txt.replace x (mk [c]) (mk [])) = (cl x).filter (· != c) := by
 have h1 := join_split x (mk [c])
 have h2 := split_free x c
 show cl (Txt.replace x ⟨#[c]⟩ _) = _
 rw [replace_one]
 show cl (Str.join (mk []) (Txt.split x (mk [c]))) = _
 have h2' : ∀ p ∈ Txt.split x (mk [c]), c ∉ cl p := h2
 have e2 := congrArg cl h1
 rw [iZ] at e2
 rw [iZ, <- e2, mH, mH]
 generalize Txt.split x (mk [c]) = ps at h2'
 clear e2
 clear h1 h2
 induction ps with
 | nil => rfl
 | cons p ps ih =>
  have hp : (cl p).filter (· != c) = cl p := List.filter_eq_self.mpr fun d hd => by
   have : d ≠ c := fun e => h2' p (List.mem_cons_self ..) (e ▸ hd)
   simpa using this
  cases ps with
  | nil => exact hp.symm
  | cons q ps =>
   have := ih fun z hz => h2' z (List.mem_cons_of_mem _ hz)
   have st : ∀ (s : List Nat), gR s ((p :: q :: ps).map cl) = cl p ++ (s ++ gR s ((q :: ps).map cl)) := fun s => rfl
   rw [st, st, List.filter_append, List.filter_append, hp, this]
   simp
theorem aCH (x : Str) (c : Nat) : (!(Builtin.Str.occurrences x (mk [c]) 0 x.length 1).isEmpty) = decide (c ∈ cl x) := found_one x c
end PQ
namespace PQ
noncomputable def dE (l : List Nat) : Prop := ∀ c ∈ l, c < 128
noncomputable def gJ (w : Str) : Prop := dE (cl w) /\ ((∃ c r, cl w = c :: r /\ c ≠ 34 /\ 32 ∉ cl w) \/ (∃ t, cl w = 34 :: t ++ [34] /\ 34 ∉ t))
noncomputable abbrev bT : Str := Str.ofString " "
noncomputable def bG (ws : List Str) : Str := Str.join bT ws
theorem gJ.head {w : Str} (h : gJ w) : ∃ c r, cl w = c :: r /\ c ≠ 32 /\ c < 128 := by
 rcases h.2 with ⟨c, r, h1, h2, h3⟩ | ⟨t, h1, h2⟩
 ·exact ⟨c, r, h1, fun e => h3 (by rw [h1, e]; exact List.mem_cons_self ..), h.1 c (by rw [h1]; exact List.mem_cons_self ..)⟩
 ·exact ⟨34, t ++ [34], by rw [h1]; rfl, by decide, by decide⟩
theorem aCN (w v : Str) (ws : List Str) : cl (bG (w :: v :: ws)) = cl w ++ 32 :: cl (bG (v :: ws)) := by
 unfold bG
 rw [iZ, iZ]; rfl
theorem aCO {v : Str} {ws : List Str} (h : gJ v) : ∃ c r, cl (bG (v :: ws)) = c :: r /\ c ≠ 32 /\ c < 128 := by
 obtain ⟨c, r, h1, h2⟩ := h.head
 cases ws with
 | nil => exact ⟨c, r, h1, h2⟩
 | cons u ws => rw [aCN, h1]; exact ⟨c, _, rfl, h2⟩
noncomputable abbrev quo : Str := Str.ofString "\""
theorem yE : cl bT = [32] := by decide
theorem lE : cl quo = [34] := by decide
theorem uD : cl (Str.ofString "") = [] := by decide
theorem xS (a b : Str) : (a == b) = (cl a == cl b) := by
 rw [Bool.eq_iff_iff, beq_iff_eq, beq_iff_eq]; exact aLz a b
noncomputable def whB : bH -> List bH
 | .wh _ b => b
 | _ => []
noncomputable def aBk : List bH := whB (f38.body.getD 1 (.ret .stuck))
theorem aMj {w : Str} {T : List Nat} {R : Str} (hw : gJ w) (hR : cl R = cl w ++ T) (hT : T = [] \/ ∃ T', T = 32 :: T') :
  ∃ c : Nat, ∃ r, cl R = c :: r /\ ((c ≠ 34 /\ Txt.find R bT = (if T = [] then (-1 : Int) else ((cl w).length : Nat))) \/ (c = 34 /\ Txt.find3 R quo 1 + 1 = ((cl w).length : Nat) /\ (cl w).length ≠ 0)) := by
 rcases hw.2 with ⟨c, r, h1, h2, h3⟩ | ⟨t, h1, h2⟩
 ·refine ⟨c, r ++ T, by rw [hR, h1]; rfl, .inl ⟨h2, ?_⟩⟩
  rcases hT with rfl | ⟨T', rfl⟩
  ·rw [if_pos rfl]
   exact aGz yE (by rw [hR, List.append_nil]; exact h3)
  ·rw [if_neg (by simp)]
   exact yU hR yE h3
 ·refine ⟨34, t ++ [34] ++ T, by rw [hR, h1]; simp, .inr ⟨rfl, ?_, by rw [h1]; simp⟩⟩
  rw [aGx (d := 34) (a := t) (b := T) (by rw [hR, h1]; simp) lE h2, h1]
  simp
theorem tU {x : Str} (h : dE (cl x)) : PyData.strOk x = true := by
 unfold PyData.strOk
 rw [<- Array.all_toList, List.all_eq_true]
 exact fun c hc => decide_eq_true (by have := h c hc; omega)
theorem yA (xs : List Str) (h : ∀ x ∈ xs, dE (cl x)) : PyData.canLayAll0 (xs.map .str) = true := by
 induction xs with
 | nil => rfl
 | cons x xs ih => simp [PyData.canLayAll0, PyData.canLay0, ih fun y hy => h y (List.mem_cons_of_mem _ hy), tU (h x (List.mem_cons_self ..))]
theorem yN (xs : List Str) : PyData.depthAll (xs.map .str) <= 1 := by
 induction xs with
 | nil => simp [PyData.depthAll]
 | cons x xs ih => simp [PyData.depthAll, PyData.depth]; omega
theorem aF3 (xs : List Str) : PyData.depthAll (xs.map .str) <= 20 := Nat.le_trans (yN xs) (by decide)
theorem zH {a : Str} {xs : List Str} (ha : dE (cl a)) (h : ∀ x ∈ xs, dE (cl x)) : inX (.str a) (xs.map .str) = some (xs.any (· == a)) := by
 unfold inX
 have h1 : fC (.str a) = true := by unfold fC; rw [Bool.and_eq_true]; exact ⟨tU ha, rfl⟩
 have h2 : nX (xs.map .str) = true := by unfold nX; rw [Bool.and_eq_true]; exact ⟨yA xs h, decide_eq_true (aF3 xs)⟩
 rw [cG (by rw [h1, h2]; rfl), List.any_map]; rfl
section
variable {σ : aG} {l c : Nat} {a b w R : Str} {xs : List PyData} {x : PyData} {r : List Nat}
theorem tQ (hl : σ[l]? = some (.lst xs)) : aU (mK .append (.loc l) σ = true) (some ()) = some () := cG (by show (false || (fZ σ l).isSome) = true; rw [lO hl]; rfl)
theorem tR (hl : σ[l]? = some (.lst xs)) (h : xs.length <= 100000) : cU (eY .append (.loc l) [.d x] σ) = .ok (.d .none) (σ.set l (.lst (xs ++ [x]))) := by
 show cU ((fZ σ l).bind _) = _
 rw [lO hl]
 exact congrArg cU (cG h)
theorem wB {lo hi : PyData} {p q : Option Int} (h : R.length <= 65536) (h1 : oL lo = some p) (h2 : oL hi = some q) : gH σ (.d (.str R)) (.d lo) (.d hi) = some (.d (.str (Txt.slice R p q))) := by
 show ((oL lo).bind fun l => (oL hi).bind fun h => (aD9 (.str R) l h).map aB.d) = _
 rw [h1, h2]
 show (Option.or (aU (R.length <= 65536) (some (PyData.str (Txt.slice R p q)))) _).map aB.d = _
 rw [cG h]; rfl
theorem tB (h : R.length <= 65536) (n : Nat) : gH σ (.d (.str R)) (.d .none) (.d (.int n)) = some (.d (.str (mk ((cl R).take n)))) := aLj R n ▸ wB h rfl rfl
theorem qJ (h : R.length <= 65536) (n : Nat) : gH σ (.d (.str R)) (.d (.int n)) (.d .none) = some (.d (.str (mk ((cl R).drop n)))) := aLd R n ▸ wB h rfl rfl
theorem aLe (h : R.length <= 65536) (m n : Nat) (hm : m <= n) : gH σ (.d (.str R)) (.d (.int m)) (.d (.int n)) = some (.d (.str (mk (((cl R).drop m).take (n - m))))) := tC R m n hm ▸ wB h rfl rfl
theorem rU (h : cl R = c :: r) : dW σ (.d (.str R)) (.d (.int 0)) = some (.d (.str (mk [c]))) := by
 have e : R.cps[0]? = some c := by rw [<- Array.getElem?_toList, show R.cps.toList = _ from h]; rfl
 show ((aU (0 <= (0 : Int) /\ (0 : Int) < 2 ^ 62) ((R.cps[0]?).map fun c => PyData.str ⟨#[c]⟩)).or _).map aB.d = _
 rw [e]; rfl
theorem uM {t : Bool} (h : (cl a == cl b) = t) : bR .eq (.d (.str a)) (.d (.str b)) σ = some (bV t) := congrArg (fun t => some (bV t)) ((xS a b).trans h)
theorem lR {t : Bool} (h : (cl a == cl b) = t) : bR .ne (.d (.str a)) (.d (.str b)) σ = some (bV (!t)) := congrArg (fun t => some (bV (!t))) ((xS a b).trans h)
theorem sH {hb : Bool} (h : w.length <= 65536) : dT hb .len [.d (.str w)] σ = some (.d (.int (cl w).length)) := by
 have h2 : dT hb .len [.d (.str w)] σ = (aU ((!hb || true) = true) ((aU (w.length < 2 ^ 62) (some (PyData.int w.length))).map aB.d)) := rfl
 rw [h2, cG (by cases hb <;> rfl), cG (Nat.lt_of_le_of_lt h (by decide)), fK]; rfl
theorem uQ : cU (eY .find (.d (.str R)) [.d (.str a)] σ) = .ok (.d (.int (Txt.find R a))) σ := rfl
theorem aGy {i : Int} : cU (eY .find (.d (.str R)) [.d (.str a), .d (.int i)] σ) = .ok (.d (.int (Txt.find3 R a i))) σ := rfl
theorem aMk {w R : Str} {T : List Nat} {ρ : aJ} {J : List Nat} (h34 : ρ 34 = some (.loc l)) (h46 : ρ 46 = some (.d (.str R))) (h15 : ρ 15 = some (.d (.str w))) (hl : σ[l]? = some (.lst xs)) (hd : xs.length <= 100000) (hL : R.length <= 65536) (hR : cl R = cl w ++ T)
  (hT : (T = [] /\ J = []) \/ ∃ d r, T = 32 :: J /\ J = d :: r /\ d ≠ 32 /\ d < 128) :
  ∃ ρ' : aJ, cJ (dM (cN FT false 16) (aBk.drop 3) ρ σ .ok) = .ok (.next ρ') (σ.set l (.lst (xs ++ [.str w]))) /\ ρ' 34 = some (.loc l) /\ ρ' 46 = some (.d (.str (mk J))) := by
 have lw : w.length <= 65536 := by have := fK R; rw [hR, List.length_append] at this; rw [fK]; omega
 have lT : (mk T).length <= 65536 := by have := fK R; rw [hR, List.length_append] at this; rw [sE]; omega
 have s2 := qJ (σ := σ.set l (.lst (xs ++ [.str w]))) hL (cl w).length
 rw [hR, List.drop_left] at s2
 rw [<- aO h34, <- aO (ρ := ρ) h46, <- aO (ρ := ρ) h15]
 rcases hT with ⟨rfl, rfl⟩ | ⟨d, r, rfl, rfl, hd32, hd128⟩
 ·refine ⟨_, sJ (sL (tQ hl) (sB (tR hl hd) (sJ (sL (sH lw) (sL s2 (sJ (sL (lR (t := true) rfl) (sF rfl (sF rfl (sJ (sL (qJ lT 1) (sJ rfl)))))))))))), rfl, rfl⟩
 ·have e1 : cl (mk [32]) == cl (Str.ofString " ") := by decide
  have i1 : bR .isIn (.d (.str (mk [d]))) (.d (.tuple [.str (Str.ofString ""), .str bT])) (σ.set l (.lst (xs ++ [.str w]))) = some (bV false) := by
   have a2 : (bT == mk [d]) = false := by rw [xS, yE]; exact beq_eq_false_iff_ne.mpr fun e => hd32 (List.cons.inj e).1.symm
   have z := zH (a := mk [d]) (xs := [Str.ofString "", bT]) (fun c hc => by rw [mH] at hc; rw [List.mem_singleton.mp hc]; exact hd128) (by unfold dE; decide)
   have z2 : [Str.ofString "", bT].any (· == mk [d]) = false := by show (_ || (bT == mk [d] || false)) = false; rw [a2]; rfl
   rw [z2] at z
   exact congrArg (Option.map bV) z
  refine ⟨_, sJ (sL (tQ hl) (sB (tR hl hd) (sJ (sL (sH lw) (sL s2 (sJ (sL (lR (t := false) rfl) (sT rfl (sL (rU rfl) (sL (lR e1) (sT rfl (sL (aLe lT 1 2 (by decide)) (sL i1 (sT rfl (sF rfl (sF rfl (sJ (sL (qJ lT 1) (sJ rfl))))))))))))))))))), rfl, rfl⟩
theorem aCP (w : Str) (ws : List Str) (hw : ∀ v ∈ ws, gJ v) : ∃ T, cl (bG (w :: ws)) = cl w ++ T /\ ((T = [] /\ cl (bG ws) = []) \/ ∃ d r, T = 32 :: cl (bG ws) /\ cl (bG ws) = d :: r /\ d ≠ 32 /\ d < 128) := by
 cases ws with
 | nil => exact ⟨[], (List.append_nil _).symm, .inl ⟨rfl, rfl⟩⟩
 | cons v ws => exact (aCO (ws := ws) (hw v (.head _))).elim fun d q => q.elim fun r q => ⟨_, aCN w v ws, .inr ⟨d, r, rfl, q⟩⟩
theorem aMl {w : Str} {ws : List Str} {ρ : aJ} (hw : ∀ v ∈ w :: ws, gJ v) (h34 : ρ 34 = some (.loc l)) (h46 : ρ 46 = some (.d (.str (bG (w :: ws))))) (hl : σ[l]? = some (.lst xs)) (hd : xs.length <= 100000) (hL : (bG (w :: ws)).length <= 65536) :
  ∃ ρ' : aJ, bS FT false 19 aBk ρ σ = .ok (.next ρ') (σ.set l (.lst (xs ++ [.str w]))) /\ ρ' 34 = some (.loc l) /\ ρ' 46 = some (.d (.str (bG ws))) := by
 obtain ⟨T, hR, hT⟩ := aCP w ws fun v hv => hw v (.tail _ hv)
 obtain ⟨c, r, hc, hf⟩ := aMj (hw w (.head _)) hR (hT.imp (fun q => q.1) fun q => q.elim fun d q => q.elim fun r q => ⟨_, q.1⟩)
 generalize bG (w :: ws) = R at h46 hL hR hc hf
 have tail := fun e : Int => aMk (ρ := (((ρ.set 46 (.d (.str R))).set 34 (.loc l)).set 47 (.d (.int e))).set 15 (.d (.str w))) rfl rfl rfl hl hd hL hR hT
 have s1 : gH σ (.d (.str R)) (.d .none) (.d (.int (cl w).length)) = some (.d (.str w)) := by rw [tB hL, hR, List.take_left]; rfl
 have i0 := rU (σ := σ) hc
 rw [<- aO h34, <- aO (ρ := ρ) h46]
 rcases hf with ⟨c1, hf⟩ | ⟨rfl, hf, hne⟩
 ·have q1 : bR .eq (.d (.str (mk [c]))) (.d (.str quo)) σ = some (bV false) := uM (by rw [lE]; exact beq_eq_false_iff_ne.mpr fun e => c1 (List.cons.inj e).1)
  obtain ⟨ρ', t1, t2⟩ := tail (Txt.find R bT)
  refine ⟨ρ', fU.trans (sL i0 (sL q1 (sF rfl (sL rfl (sB uQ (sJ (sL i0 (sL q1 (sF rfl (sF rfl (sJ (sL rfl ?_)))))))))))), t2⟩
  by_cases hTe : T = []
  ·rw [if_pos hTe] at hf
   obtain rfl : w = R := gW (by rw [hR, hTe, List.append_nil])
   exact sT (by rw [hf]; rfl) t1
  ·rw [if_neg hTe] at hf
   exact sF (by rw [hf]; rfl) (sL (by rw [hf]; exact s1) t1)
 ·have q1 : bR .eq (.d (.str (mk [34]))) (.d (.str quo)) σ = some (bV true) := uM (by rw [lE]; rfl)
  have z0 : (Txt.find3 R quo 1 + 1 == 0) = false := by rw [hf]; exact beq_eq_false_iff_ne.mpr fun z => hne (Int.ofNat.inj z)
  obtain ⟨ρ', t1, t2⟩ := tail (Txt.find3 R quo 1 + 1)
  refine ⟨ρ', fU.trans (sL i0 (sL q1 (sT rfl (sL rfl (sB aGy (sL rfl (sJ (sL i0 (sL q1 (sT rfl (sL rfl (sF (by rw [z0]; rfl) (sF z0 (sJ (sL rfl ?_))))))))))))))), t2⟩
  exact sF (by rw [hf]; rfl) (sL (by rw [hf]; exact s1) t1)
theorem aBX {ρ : aJ} {n : Nat} {t : Bool} (h46 : ρ 46 = some (.d (.str R))) (h : (cl R == cl (Str.ofString "")) = t) : dF FT false (n + 3) (.cmp .ne (.var 46) (.lit (.str (Str.ofString "")))) ρ σ = .ok (!t) σ := by
 rw [<- aO h46]
 exact t_c.trans (sL (lR h) rfl)
theorem aMm (ws : List Str) : ∀ (ρ : aJ) (σ : aG) (xs : List PyData), (∀ v ∈ ws, gJ v) -> ρ 34 = some (.loc l) -> ρ 46 = some (.d (.str (bG ws))) -> σ[l]? = some (.lst xs) -> xs.length + ws.length <= 100000 -> (bG ws).length <= 65536 ->
  ∃ ρ' : aJ, evW FT false (ws.length + 20) (.cmp .ne (.var 46) (.lit (.str (Str.ofString "")))) aBk ρ σ = .ok (.next ρ') (σ.set l (.lst (xs ++ ws.map .str))) /\ ρ' 34 = some (.loc l) := by
 induction ws with
 | nil =>
  intro ρ σ xs hw h34 h46 hl hd hL
  refine ⟨ρ, (qP (aBX (n := 16) (t := true) h46 rfl)).trans ?_, h34⟩
  obtain ⟨h1, h2⟩ := List.getElem?_eq_some_iff.mp hl
  rw [List.map_nil, List.append_nil, <- h2, List.set_getElem_self]
 | cons w ws ih =>
  intro ρ σ xs hw h34 h46 hl hd hL
  rw [List.length_cons] at hd
  obtain ⟨ρ', h1, h2, h3⟩ := aMl hw h34 h46 hl (by omega) hL
  have hlen : (bG ws).length <= 65536 := by
   obtain ⟨T, e, hT⟩ := aCP w ws fun v hv => hw v (.tail _ hv)
   rw [fK, e, List.length_append] at hL
   rw [fK]
   rcases hT with ⟨_, z⟩ | ⟨d, r, z, _⟩
   ·rw [z]; exact Nat.zero_le _
   ·rw [z, List.length_cons] at hL; omega
  obtain ⟨ρ2, g1, g2⟩ := ih ρ' (σ.set l (.lst (xs ++ [.str w]))) (xs ++ [.str w]) (fun v hv => hw v (.tail _ hv)) h2 h3 (aD1 hl) (by rw [List.length_append]; show xs.length + 1 + _ <= _; omega) hlen
  obtain ⟨c, r, hc, _⟩ := aCO (ws := ws) (hw w (.head _))
  rw [List.set_set, List.append_assoc] at g1
  exact ⟨ρ2, wM (aBX (n := ws.length + 17) (t := false) h46 (by rw [hc]; rfl)) (jJ h1 (Nat.le_add_left 19 (ws.length + 1)) (fun h => nomatch h)) g1, g2⟩
theorem aMn {ws : List Str} (hw : ∀ v ∈ ws, gJ v) (hn : ws.length <= 60) (hL : (bG ws).length <= 65536) : aN FT false 110 38 [.d (.str (bG ws))] σ = .ok (.loc σ.length) (σ ++ [.lst (ws.map .str)]) := by
 have hl : (σ ++ [bN.lst []])[σ.length]? = some (.lst []) := by rw [List.getElem?_append_right (Nat.le_refl _), Nat.sub_self]; rfl
 obtain ⟨ρ', g1, g2⟩ := aMm (l := σ.length) ws (aJ.set (aJ.set (aJ.set (fun _ => none) 16 (.d (.str (bG ws)))) 34 (.loc σ.length)) 46 (.d (.str (bG ws)))) (σ ++ [.lst []]) [] hw rfl rfl hl (by rw [List.length_nil]; omega) hL
 rw [List.set_append_right _ _ (Nat.le_refl _), Nat.sub_self] at g1
 refine bA (q := f38) rfl rfl (sJ (sB (wN g1 (show ws.length + 20 <= 106 by omega)) (sJ ?_)))
 rw [<- aO g2]
 rfl
end
end PQ
namespace PQ
theorem aAf (n m : Nat) : (n : Int).fmod (m : Int) = ((n % m : Nat) : Int) := by
 rw [Int.fmod_eq_emod_of_nonneg _ (Int.natCast_nonneg _), <- Int.natCast_emod]
theorem aC3 (n m : Nat) : (n : Int).fdiv (m : Int) = ((n / m : Nat) : Int) := by
 rw [Int.fdiv_eq_ediv_of_nonneg _ (Int.natCast_nonneg _), <- Int.natCast_ediv]
noncomputable def bY (k n : Nat) : Nat × Nat := Nat.rec (fun n => (n, 0)) (fun _ f n => bif n != 0 && n % 1024 == 0 then ((f (n / 1024)).1, (f (n / 1024)).2 + 1) else (n, 0)) k n
noncomputable def gX (r : Nat) : Str := [Str.ofString "bytes", Str.ofString "kbytes", Str.ofString "mbytes", Str.ofString "gbytes"].getD r (Str.ofString "gbytes")
noncomputable def whC : bH -> aK
 | .wh c _ => c
 | _ => .stuck
noncomputable def uC : aK := whC (f7.body.getD 2 (.ret .stuck))
noncomputable def uB : List bH := whB (f7.body.getD 2 (.ret .stuck))
section
variable {hb : Bool} {σ : aG} {ρ : aJ} {n r m : Nat} {M : Int}
theorem dQ {a b : Int} : fB .add (.d (.int a)) (.d (.int b)) = some (.d (.int (a + b))) := rfl
theorem aBg {t : Bool} (h19 : ρ 19 = some (.d (.int n))) (h21 : ρ 21 = some (.d (.int r))) (h6 : ρ 6 = some (.d (.int M))) (h : (decide ((r : Int) + 1 < M) && (!((n : Int) == 0) && (((n : Int).fmod 1024) == 0))) = t) : dF FT hb (m + 9) uC ρ σ = .ok t σ := by
 rw [<- aO h19, <- aO (ρ := ρ) h21, <- aO (ρ := ρ) h6]
 refine t_c.trans (sL dQ (sL rfl ?_))
 cases c1 : decide ((r : Int) + 1 < M) with
 | false => rw [c1] at h; exact sF rfl (h ▸ rfl)
 | true =>
  rw [c1] at h
  refine sT rfl (sL rfl ?_)
  cases c2 : ((n : Int) == 0) with
  | true => rw [c2] at h; exact sF rfl (h ▸ rfl)
  | false =>
   rw [c2] at h
   refine sT rfl (sL (pV (by decide)) (sL rfl ?_))
   cases c3 : ((n : Int).fmod 1024 == 0) with
   | false => rw [c3] at h; exact sF rfl (h ▸ rfl)
   | true => rw [c3] at h; exact sT rfl (h ▸ rfl)
theorem aLY (h19 : ρ 19 = some (.d (.int n))) (h21 : ρ 21 = some (.d (.int r))) : bS FT hb (m + 9) uB ρ σ = .ok (.next ((ρ.set 19 (.d (.int (n / 1024 : Nat)))).set 21 (.d (.int (r + 1 : Nat))))) σ := by
 rw [show (((ρ.set 19 (.d (.int (n / 1024 : Nat)))).set 21 (.d (.int (r + 1 : Nat)))) : aJ) = (((((ρ.set 21 (.d (.int r))).set 19 (.d (.int n))).set 19 (.d (.int ((n : Int).fdiv 1024))))).set 21 (.d (.int ((r : Int) + 1)))) by rw [aO h21, aO h19, show (n : Int).fdiv 1024 = ((n / 1024 : Nat) : Int) from aC3 n 1024]; rfl]
 conv => lhs; rw [<- aO h19, <- aO (ρ := ρ) h21]
 exact fU.trans (sL (aCb (by decide)) (sJ (sL rfl (sJ rfl))))
theorem aDR {k n : Nat} (h : n ≠ 0 /\ n % 1024 = 0) : bY (k + 1) n = ((bY k (n / 1024)).1, (bY k (n / 1024)).2 + 1) := by
 show (bif n != 0 && n % 1024 == 0 then _ else _) = _
 rw [bne_iff_ne.mpr h.1, beq_iff_eq.mpr h.2]; rfl
theorem aDQ {k n : Nat} (h : ¬(n ≠ 0 /\ n % 1024 = 0)) : bY (k + 1) n = (n, 0) := by
 show (bif n != 0 && n % 1024 == 0 then _ else _) = _
 rw [show (n != 0 && n % 1024 == 0) = false from Bool.eq_false_iff.mpr fun q => h ⟨bne_iff_ne.mp (aA q).1, eq_of_beq (aA q).2⟩]; rfl
theorem aL1 (k : Nat) : ∀ (n r : Nat) (ρ : aJ), ρ 19 = some (.d (.int n)) -> ρ 21 = some (.d (.int r)) -> ρ 6 = some (.d (.int ((r + k + 1 : Nat) : Int))) ->
  ∃ ρ' : aJ, evW FT hb (k + 10) uC uB ρ σ = .ok (.next ρ') σ /\ ρ' 19 = some (.d (.int ((bY k n).1 : Nat))) /\ ρ' 21 = some (.d (.int ((r + (bY k n).2 : Nat) : Int))) /\ ρ' 20 = ρ 20 := by
 induction k with
 | zero => exact fun n r ρ h19 h21 h6 => ⟨ρ, qP (aBg (m := 0) h19 h21 h6 (by rw [decide_eq_false (by omega)]; rfl)), h19, h21, rfl⟩
 | succ k ih =>
  intro n r ρ h19 h21 h6
  have c1 : (r : Int) + 1 < ((r + (k + 1) + 1 : Nat) : Int) := by omega
  by_cases h : n ≠ 0 /\ n % 1024 = 0
  ·obtain ⟨ρ2, g1, g2, g3, g4⟩ := ih (n / 1024) (r + 1) ((ρ.set 19 (.d (.int (n / 1024 : Nat)))).set 21 (.d (.int (r + 1 : Nat)))) rfl rfl (h6.trans (by rw [show r + 1 + k = r + (k + 1) by omega]))
   rw [aDR h]
   refine ⟨ρ2, wM (aBg (m := k + 1) h19 h21 h6 ?_) (aLY (m := k + 1) h19 h21) g1, g2, ?_, g4⟩
   ·rw [decide_eq_true c1, show ((n : Int) == 0) = false from beq_eq_false_iff_ne.mpr fun z => h.1 (Int.ofNat.inj z), show (n : Int).fmod 1024 = ((n % 1024 : Nat) : Int) from aAf n 1024, h.2]; rfl
   ·rw [g3, Nat.add_assoc, Nat.add_comm 1]
  ·rw [aDQ h]
   refine ⟨ρ, qP (aBg (m := k + 1) h19 h21 h6 ?_), h19, h21, rfl⟩
   rw [decide_eq_true c1, show (n : Int).fmod 1024 = ((n % 1024 : Nat) : Int) from aAf n 1024]
   cases z : ((n : Int) == 0) with
   | true => rfl
   | false => exact beq_eq_false_iff_ne.mpr fun q => h ⟨fun w => (by rw [w] at z; cases z), Int.ofNat.inj q⟩
theorem aAK (k : Nat) : ∀ n : Nat, n = (bY k n).1 * 1024 ^ (bY k n).2 /\ (bY k n).2 <= k /\ (n = 0 -> (bY k n).2 = 0) /\ ((bY k n).2 < k -> (bY k n).1 = 0 \/ (bY k n).1 % 1024 ≠ 0) /\ (bY k n).1 <= n /\ ((bY k n).1 = 0 -> n = 0) := by
 induction k with
 | zero => exact fun n => ⟨(Nat.mul_one n).symm, Nat.le_refl _, fun _ => rfl, fun h => absurd h (Nat.lt_irrefl _), Nat.le_refl _, id⟩
 | succ k ih =>
  intro n
  by_cases h : n ≠ 0 /\ n % 1024 = 0
  ·rw [aDR h]
   obtain ⟨h1, h2, h3, h4, h5, h6⟩ := ih (n / 1024)
   generalize bY k (n / 1024) = p at *
   refine ⟨?_, Nat.succ_le_succ h2, fun e => absurd e h.1, fun e => h4 (Nat.lt_of_succ_lt_succ e), Nat.le_trans h5 (Nat.div_le_self ..), fun e => absurd (Nat.eq_zero_of_dvd_of_div_eq_zero (Nat.dvd_of_mod_eq_zero h.2) (h6 e)) h.1⟩
   show n = p.1 * 1024 ^ (p.2 + 1)
   rw [Nat.pow_succ, <- Nat.mul_assoc, <- h1]
   exact (Nat.div_mul_cancel (Nat.dvd_of_mod_eq_zero h.2)).symm
  ·rw [aDQ h]
   refine ⟨(Nat.mul_one n).symm, Nat.zero_le _, fun _ => rfl, fun _ => ?_, Nat.le_refl _, id⟩
   by_cases z : n = 0
   ·exact .inl z
   ·exact .inr fun w => h ⟨z, w⟩
variable {R : Type} {x y : Str} {a b i : Nat} {K : aB -> aG -> aI R} {q : aI R}
theorem sA (hx : x.length <= a) (hy : y.length <= b) (g : (x ++ y).length <= a + b -> K (.d (.str (x ++ y))) σ = q) (h : a + b <= 65536 := by decide) : cL (fB .add (.d (.str x)) (.d (.str y))) σ K = q :=
 sL (show ((aU (x.length + y.length <= 65536) (some (PyData.str (x ++ y)))).or none).map aB.d = _ by rw [cG (Nat.le_trans (Nat.add_le_add hx hy) h)]; rfl) (g (Str.length_append x y ▸ Nat.add_le_add hx hy))
theorem sG {K : Fl -> aG -> aI R} (hx : x.length <= a) (hy : y.length <= b) (g : (x ++ y).length <= a + b -> K (.next (ρ.set i (.d (.str (x ++ y))))) σ = q) (h : a + b <= 65536 := by decide) : cL ((xR (.str x) (.d (.str y))).map fun r => .next (ρ.set i r)) σ K = q :=
 sL (show ((((aU (x.length + y.length <= 65536) (some (PyData.str (x ++ y)))).map aB.d)).map _) = _ by rw [cG (Nat.le_trans (Nat.add_le_add hx hy) h)]; rfl) (g (Str.length_append x y ▸ Nat.add_le_add hx hy))
theorem jV (h : n < 10 ^ 40) : dT false .str [.d (.int n)] σ = some (.d (.str (bE n))) := congrArg (Option.map aB.d) (cG (show n.log2 < 1920 by
 by_cases h0 : n = 0
 ·rw [h0]; decide
 ·exact Nat.lt_of_lt_of_le ((Nat.log2_lt h0).mpr (Nat.lt_trans h (show 10 ^ 40 < 2 ^ 256 by decide))) (by decide)))
noncomputable def jH (k n : Nat) : Str := bE (bY k n).1 ++ bT ++ gX (bY k n).2
theorem wK (r : Nat) : (gX r).length <= 6 := match r with
 | 0 | 1 | 2 | 3 => by decide
 | _ + 4 => show (Str.ofString "gbytes").length <= 6 by decide
theorem sY {k : Nat} (h : n < 10 ^ 40) : (bY k n).1 < 10 ^ 40 := Nat.lt_of_le_of_lt (aAK k n).2.2.2.2.1 h
theorem wA {k n : Nat} (hn : n < 10 ^ 40) : (jH k n).length <= 50 := by
 have l1 := dY (sY (k := k) hn)
 have l2 := wK (bY k n).2
 unfold jH
 rw [Str.length_append, Str.length_append]
 have : bT.length = 1 := rfl
 omega
theorem aLX (h : r <= 3) : dW σ (.d (.tuple [.str "bytes", .str "kbytes", .str "mbytes", .str "gbytes"])) (.d (.int r)) = some (.d (.str (gX r))) := match r, h with
 | 0, _ | 1, _ | 2, _ | 3, _ => rfl
 | _ + 4, h => absurd h (by omega)
theorem aBh {k : Nat} (hk : k <= 3) (hn : n < 10 ^ 40) : aN FT false 50 7 [.d (.int n), .d (.int ((k + 1 : Nat) : Int))] σ = .ok (.d (.str (jH k n))) σ := by
 obtain ⟨ρ', g1, g2, g3, g4⟩ := aL1 (hb := false) (σ := σ) k n 0 (aJ.set (aJ.set (aJ.set (aJ.set (fun _ => none) 6 (.d (.int ((k + 1 : Nat) : Int)))) 19 (.d (.int n))) 20 (.d (.tuple [.str "bytes", .str "kbytes", .str "mbytes", .str "gbytes"]))) 21 (.d (.int 0))) rfl rfl (by rw [Nat.zero_add]; rfl)
 rw [Nat.zero_add] at g3
 refine bA (q := f7) rfl rfl (sJ (sJ (sB (wN g1 (Nat.le_trans (Nat.add_le_add_right hk 10) (by decide))) (sJ ?_))))
 rw [<- aO g2, <- aO (ρ := ρ') g3, <- aO g4]
 have hm := sY (k := k) hn
 exact sL (jV hm) (sA (dY hm) (Nat.le_refl _) fun h => sL (aLX (Nat.le_trans (aAK k n).2.1 hk)) (sA h (wK _) fun _ => bL rfl))
theorem aD4 (hn : n < 10 ^ 40) : aN FT false 60 8 [.d (.int n)] σ = .ok (.d (.str (jH 3 n))) σ :=
 bA (q := f8) rfl rfl (sB (bD (aBh (k := 3) (by decide) hn) (by decide)) (bL rfl))
end
end PQ
namespace PQ
noncomputable def fV (t : Str) : Prop := 34 ∉ cl t /\ 10 ∉ cl t
noncomputable abbrev mD : Str := "no string holds a quote or a newline"
noncomputable def cX (t : Str) : Str := quo ++ t ++ quo
noncomputable def iI (b : Bool) : List Str := bif b then ["over"] else []
noncomputable def eG (k n : Nat) : List Str := [bE (bY k n).1, gX (bY k n).2]
noncomputable def dX (b : Bool) (ws : List Str) : List Str := bif b then [] else ws
noncomputable def kL (b : Bool) (v : Nat) (u : Str) (w : Nat) (o : Bool) : List Str := bif o then "limit" :: "rate" :: (iI b ++ ([bE (bY 2 v).1, gX (bY 2 v).2 ++ ("/" ++ u)] ++ dX ((w : Int) == 0) ("burst" :: eG 2 w)))
 else "limit" :: "rate" :: (iI b ++ [bE v ++ ("/" ++ u), "burst", bE w, "packets"])
noncomputable def pT (t l : Str) : List Str := "log" :: (dX (t == "") ["prefix", cX t] ++ dX (l == "warn") ["level", l])
theorem cO {n : Nat} (h : n < 2 ^ 64) : n < 10 ^ 40 := Nat.lt_trans h (by decide)
theorem eM (a b c : Str) : a ++ b ++ c = a ++ (b ++ c) := gW (by rw [cE, cE, cE, cE, List.append_assoc])
theorem xE (a : Str) : a ++ ("" : Str) = a := gW (by rw [cE, uD, List.append_nil])
noncomputable def opt (b : Bool) (s : Str) : Str := bif b then "" else s
theorem jn1 (w : Str) : bG [w] = w := rfl
theorem jn2 (w v : Str) (ws : List Str) : bG (w :: v :: ws) = w ++ (bT ++ bG (v :: ws)) := eM w bT _
theorem gM : ("counter packets " : Str) = "counter" ++ (bT ++ ("packets" ++ bT)) /\ (" bytes " : Str) = bT ++ ("bytes" ++ bT) /\ ("quota " : Str) = "quota" ++ bT /\ ("over " : Str) = "over" ++ bT /\ (" used " : Str) = bT ++ ("used" ++ bT) /\ ("limit rate " : Str) = "limit" ++ (bT ++ ("rate" ++ bT)) /\
 (" burst " : Str) = bT ++ ("burst" ++ bT) /\ (" packets" : Str) = bT ++ "packets" /\ (" name " : Str) = bT ++ ("name" ++ bT) /\ (" prefix " : Str) = bT ++ ("prefix" ++ bT) /\ (" level " : Str) = bT ++ ("level" ++ bT) /\ ("reject with " : Str) = "reject" ++ (bT ++ ("with" ++ bT)) /\
 ("reject with tcp reset" : Str) = "reject" ++ (bT ++ ("with" ++ (bT ++ ("tcp" ++ (bT ++ "reset"))))) /\ ("ct expectation set " : Str) = "ct" ++ (bT ++ ("expectation" ++ (bT ++ ("set" ++ bT)))) /\ ("flow add @" : Str) = "flow" ++ (bT ++ ("add" ++ (bT ++ "@"))) /\ ("comment " : Str) = "comment" ++ bT := by decide
section
variable {σ : aG} {lt v w c : Nat} {b o : Bool} {t u m y h : Str}
theorem fJ {x y : Str} (e : x = y) : dC σ.length (.ret (.d (.str x))) σ = .ok (.d (.str y)) σ := e ▸ bL rfl
theorem nA (t : Str) : (cX t).length = t.length + 2 := by
 unfold cX
 rw [Str.length_append, Str.length_append]
 have : quo.length = 1 := rfl
 omega
theorem aCI (hy : cl y = [c]) : bR .isIn (.d (.str y)) (.d (.str h)) σ = some (bV (decide (c ∈ cl h))) := by
 obtain rfl : y = mk [c] := gW hy
 rw [<- aCH]; rfl
theorem rW (hy : cl y = [c]) (hn : c ∉ cl h) : bR .isIn (.d (.str y)) (.d (.str h)) σ = some (bV false) := (aCI hy).trans (by rw [decide_eq_false hn])
theorem rX (hy : cl y = [c]) (hn : c ∈ cl h) : bR .isIn (.d (.str y)) (.d (.str h)) σ = some (bV true) := (aCI hy).trans (by rw [decide_eq_true hn])
theorem yF : cl "\n" = [10] := by decide
theorem vV (h : fV t) (hl : t.length <= 1000) : aN FT false 20 5 [.d (.str t)] σ = .ok (.d (.str (cX t))) σ :=
 bA (q := f5) rfl rfl (sL (rW lE h.1) (sT rfl (sL (rW yF h.2) (sT rfl (sF rfl (sJ (sA (Nat.le_refl _) hl fun q => sA q (Nat.le_refl _) fun _ => bL rfl)))))))
theorem vU (h : ¬fV t) : aN FT false 20 5 [.d (.str t)] σ = .exc mD := by
 by_cases c1 : 34 ∈ cl t
 ·exact bA (q := f5) rfl rfl (sL (rX lE c1) (sF rfl (sT rfl rfl)))
 ·have c2 : 10 ∈ cl t := Decidable.byContradiction fun c2 => h ⟨c1, c2⟩
  exact bA (q := f5) rfl rfl (sL (rW lE c1) (sT rfl (sL (rX yF c2) (sF rfl (sT rfl rfl)))))
theorem aJn (hv : v < 2 ^ 64) (hw : w < 2 ^ 64) : aN FT false 190 9 [.inst lt, .d (St.counter v w).data] σ = .ok (.d (.str (bG ["counter", "packets", bE v, "bytes", bE w]))) σ :=
 bA (q := f9) rfl rfl (sL rfl (sL (jV (cO hv)) (sA (Nat.le_refl _) (dY (cO hv)) fun h => sA h (Nat.le_refl _) fun h => sL rfl (sL (jV (cO hw)) (sA h (dY (cO hw)) fun h =>
  fJ (by simp only [gM, jn1, jn2, eM]))))))
theorem aJy (hv : v < 2 ^ 64) (hw : w < 2 ^ 64) : aN FT false 190 10 [.inst lt, .d (St.quota b v w).data] σ = .ok (.d (.str (bG ("quota" :: (iI b ++ (eG 3 v ++ dX ((w : Int) == 0) ("used" :: eG 3 w))))))) σ := by
 have lv := wA (k := 3) (cO hv)
 have lw := wA (k := 3) (cO hw)
 have tail : ∀ (T : Str) (ρ : aJ), T.length <= 11 -> ρ 22 = some (.d (St.quota b v w).data) -> ρ 16 = some (.d (.str T)) -> cJ (dM (cN FT false 187) (f10.body.drop 2) ρ σ (dC σ.length)) = .ok (.d (.str (T ++ (jH 3 v ++ opt ((w : Int) == 0) (" used " ++ jH 3 w))))) σ := fun T ρ hT h22 h16 => by
  rw [<- aO h22, <- aO (ρ := ρ) h16]
  refine sJ (sL rfl (sB (bD (aD4 (cO hv)) (by decide)) (sG hT lv fun h => sJ (sL rfl (sL rfl ?_)))))
  cases hw0 : (w : Int) == 0
  ·exact sT rfl (sL rfl (sB (bD (aD4 (cO hw)) (by decide)) (sA (Nat.le_refl _) lw fun h2 => sG h h2 fun _ => sJ (sJ (fJ (eM ..))))))
  ·exact sF rfl (sJ (fJ (congrArg (T ++ ·) (xE _).symm)))
 have e : ∀ T : Str, T ++ (jH 3 v ++ opt ((w : Int) == 0) (" used " ++ jH 3 w)) = T ++ bG (eG 3 v ++ dX ((w : Int) == 0) ("used" :: eG 3 w)) := fun T => by
  cases (w : Int) == 0
  ·simp only [opt, jH, eG, dX, cond_false, gM, jn1, jn2, eM, List.cons_append, List.nil_append]
  ·simp only [opt, jH, eG, dX, cond_true, xE, jn1, jn2, eM, List.append_nil]
 refine bA (q := f10) rfl rfl (sJ (sL rfl ?_))
 cases b
 ·refine sF rfl ((tail _ _ (by decide) rfl rfl).trans ?_)
  rw [e]
  simp only [gM, iI, cond_false, eG, jn2, eM, List.cons_append, List.nil_append]
 ·refine sT rfl (sG (Nat.le_refl _) (Nat.le_refl _) fun h => sJ ((tail _ _ h rfl rfl).trans ?_))
  rw [e]
  simp only [gM, iI, cond_true, eG, jn2, eM, List.cons_append, List.nil_append]
theorem aJr (hv : v < 2 ^ 64) (hw : w < 2 ^ 64) (hu : u.length <= 11) : aN FT false 190 11 [.inst lt, .d (St.limit b v u w o).data] σ = .ok (.d (.str (bG (kL b v u w o)))) σ := by
 have lv := wA (k := 2) (cO hv)
 have lw := wA (k := 2) (cO hw)
 refine bA (q := f11) rfl rfl (sL rfl (sJ (sJ ?_)))
 cases o
 ·cases b
  case' false => refine sF rfl ?_
  case' true => refine sT rfl (sG (Nat.le_refl _) (Nat.le_refl _) fun _ => sJ ?_)
  all_goals
   refine sJ (sT rfl (sL (jV (cO hv)) (sA (a := 16) (by decide) (dY (cO hv)) fun h => sA h (Nat.le_refl _) fun h => sA h hu fun h => sA h (Nat.le_refl _) fun h => sL (jV (cO hw)) (sA h (dY (cO hw)) fun h => sA h (Nat.le_refl _) fun h => fJ ?_))))
   simp only [kL, iI, cond_true, cond_false, gM, jn1, jn2, eM, List.cons_append, List.nil_append]
 ·cases b
  case' false => refine sF rfl ?_
  case' true => refine sT rfl (sG (Nat.le_refl _) (Nat.le_refl _) fun _ => sJ ?_)
  all_goals
   refine sJ (sF rfl (sJ (sB (bD (aBh (k := 2) (by decide) (cO hv)) (by decide)) (sA lv (Nat.le_refl _) fun h => sA h hu fun h => sG (a := 16) (by decide) h fun h => sJ (sL rfl ?_)))))
   cases hw0 : (w : Int) == 0
   ·refine sT rfl (sB (bD (aBh (k := 2) (by decide) (cO hw)) (by decide)) (sA (Nat.le_refl _) lw fun h2 => sG h h2 fun _ => sJ (sJ (fJ ?_))))
    simp only [kL, iI, eG, jH, dX, hw0, cond_true, cond_false, gM, jn1, jn2, eM, List.cons_append, List.nil_append]
   ·refine sF rfl (sJ (fJ ?_))
    simp only [kL, iI, eG, jH, dX, hw0, cond_true, cond_false, gM, jn1, jn2, eM, List.cons_append, List.nil_append]
theorem aJw (hm : m.length <= 11) (ht : t.length <= 11) (h : fV t) : aN FT false 190 12 [.inst lt, .d (St.object m t).data] σ = .ok (.d (.str (bG [m, "name", cX t]))) σ :=
 bA (q := f12) rfl rfl (sL rfl (sA hm (Nat.le_refl _) fun q => sL rfl (sB (bD (vV h (Nat.le_trans ht (by decide))) (by decide)) (sA q (Nat.le_trans (Nat.le_of_eq (nA t)) (Nat.add_le_add_right ht 2)) fun _ => fJ (by simp only [gM, jn1, jn2, eM])))))
theorem aJx (hm : m.length <= 11) (h : ¬fV t) : aN FT false 190 12 [.inst lt, .d (St.object m t).data] σ = .exc mD :=
 bA (q := f12) rfl rfl (sL rfl (sA hm (Nat.le_refl _) fun q => sL rfl (sX (mE (vU h) (by decide)))))
theorem aJo (ht : t.length <= 11) (h : fV t) : aN FT false 190 20 [.inst lt, .d (St.expect t).data] σ = .ok (.d (.str (bG ["ct", "expectation", "set", cX t]))) σ :=
 bA (q := f20) rfl rfl (sL rfl (sB (bD (vV h (Nat.le_trans ht (by decide))) (by decide)) (sA (Nat.le_refl _) (Nat.le_trans (Nat.le_of_eq (nA t)) (Nat.add_le_add_right ht 2)) fun _ => fJ (by simp only [gM, jn1, jn2, eM]))))
theorem aJp (h : ¬fV t) : aN FT false 190 20 [.inst lt, .d (St.expect t).data] σ = .exc mD :=
 bA (q := f20) rfl rfl (sL rfl (sX (mE (vU h) (by decide))))
theorem aJq (ht : t.length <= 11) : aN FT false 190 21 [.inst lt, .d (St.flow t).data] σ = .ok (.d (.str (bG ["flow", "add", "@" ++ t]))) σ :=
 bA (q := f21) rfl rfl (sL rfl (sA (Nat.le_refl _) ht fun _ => fJ (by simp only [gM, jn1, jn2, eM])))
theorem aJv : aN FT false 190 16 [.inst lt, .d St.notrack.data] σ = .ok (.d (.str (bG ["notrack"]))) σ := bA (q := f16) rfl rfl (bL rfl)
theorem mU {a x : Str} {z : Bool} (h : (a == x) = z) : bR .ne (.d (.str a)) (.d (.str x)) σ = some (bV (!z)) := h ▸ rfl
theorem aJs (ht : t.length <= 11) (hu : u.length <= 11) (h : fV t) : aN FT false 190 14 [.inst lt, .d (St.log t u).data] σ = .ok (.d (.str (bG (pT t u)))) σ := by
 refine bA (q := f14) rfl rfl (sJ (sL rfl ?_))
 cases c1 : t == ""
 ·refine sL (mU c1) (sT rfl (sL rfl (sB (bD (vV h (Nat.le_trans ht (by decide))) (by decide)) (sA (Nat.le_refl _) (Nat.le_trans (Nat.le_of_eq (nA t)) (Nat.add_le_add_right ht 2)) fun q => sG (Nat.le_refl _) q fun q => sJ (sJ (sL rfl ?_))))))
  cases c2 : u == "warn"
  ·refine sL (mU c2) (sT rfl (sL rfl (sA (Nat.le_refl _) hu fun q2 => sG q q2 fun _ => sJ (sJ (fJ ?_)))))
   simp only [pT, dX, c1, c2, cond_false, cond_true, gM, jn1, jn2, eM, List.cons_append, List.nil_append]
  ·refine sL (mU c2) (sF rfl (sJ (fJ ?_)))
   simp only [pT, dX, c1, c2, cond_false, cond_true, gM, jn1, jn2, eM, List.cons_append, List.nil_append]
 ·refine sL (mU c1) (sF rfl (sJ (sL rfl ?_)))
  cases c2 : u == "warn"
  ·refine sL (mU c2) (sT rfl (sL rfl (sA (Nat.le_refl _) hu fun q2 => sG (Nat.le_refl _) q2 fun _ => sJ (sJ (fJ ?_)))))
   simp only [pT, dX, c1, c2, cond_false, cond_true, gM, jn1, jn2, eM, List.cons_append, List.nil_append]
  ·refine sL (mU c2) (sF rfl (sJ (fJ ?_)))
   simp only [pT, dX, c1, c2, cond_false, cond_true, gM, jn1, jn2, eM, List.cons_append, List.nil_append]
theorem aJt (h : ¬fV t) : aN FT false 190 14 [.inst lt, .d (St.log t u).data] σ = .exc mD := by
 have c1 : (t == "") = false := beq_eq_false_iff_ne.mpr fun e => h (by rw [e]; unfold fV; decide)
 exact bA (q := f14) rfl rfl (sJ (sL rfl (sL (mU c1) (sT rfl (sL rfl (sX (mE (vU h) (by decide))))))))
end
end PQ
namespace PQ
section
variable {hb : Bool} {σ : aG} {ρ : aJ} {n m k a b c x : Nat} {sep : Str} {ts : List Str} {elt cond : aK} {α β : Type} {xs : List PyData}
theorem aK9 {a b : Int} (h : 0 <= b) : fB .shr (.d (.int a)) (.d (.int b)) = some (.d (.int (a.fdiv (2 ^ b.toNat)))) := congrArg (Option.map aB.d) (cG h)
theorem aAV (n k : Nat) : fB .shr (.d (.int n)) (.d (.int k)) = some (.d (.int ((n / 2 ^ k : Nat) : Int))) := by
 have e : ((2 : Int) ^ (k : Int).toNat) = ((2 ^ k : Nat) : Int) := by rw [Int.toNat_natCast, Int.natCast_pow]; rfl
 rw [aK9 (Int.natCast_nonneg k), e, aC3]
theorem aHc {X : Str} {i : Int} (h : 0 <= i /\ i < 2 ^ 62) : dW σ (.d (.str X)) (.d (.int i)) = ((X.cps[i.toNat]?).map fun c => PyData.str ⟨#[c]⟩).map .d :=
 (congrArg (fun o : Option PyData => Option.map aB.d (o.or none)) (cG h)).trans (by cases X.cps[i.toNat]? <;> rfl)
theorem aE4 (n : Nat) : fB .band (.d (.int n)) (.d (.int 255)) = some (.d (.int (n % 256 : Nat))) := congrArg (fun i => some (aB.d (.int i))) ((bitAnd_m8 n).trans (Int.natCast_emod ..).symm)
theorem aE3 (n : Nat) : fB .band (.d (.int n)) (.d (.int 65535)) = some (.d (.int (n % 65536 : Nat))) := congrArg (fun i => some (aB.d (.int i))) ((bitAnd_m16 n).trans (Int.natCast_emod ..).symm)
theorem aE2 (n : Nat) : fB .band (.d (.int n)) (.d (.int 15)) = some (.d (.int (n % 16 : Nat))) := congrArg (fun i => some (aB.d (.int i))) ((bitAnd_m4 n).trans (Int.natCast_emod ..).symm)
theorem jB (a b : Nat) : bR .eq (.d (.int a)) (.d (.int b)) σ = some (bV (a == b)) := congrArg (fun t => some (bV t)) (by rw [Bool.eq_iff_iff, beq_iff_eq, beq_iff_eq]; exact Int.ofNat_inj)
theorem uJ {a b : Nat} (h : a = b) : bR .eq (.d (.int a)) (.d (.int b)) σ = some (bV true) := (jB a b).trans (by rw [beq_iff_eq.mpr h])
theorem pH {a b : Nat} (h : a ≠ b) : bR .eq (.d (.int a)) (.d (.int b)) σ = some (bV false) := (jB a b).trans (by rw [beq_eq_false_iff_ne.mpr h])
theorem gQ (a b : Nat) : bR .gt (.d (.int a)) (.d (.int b)) σ = some (bV (decide (b < a))) := congrArg (fun t => some (bV t)) (decide_eq_decide.mpr Int.ofNat_lt)
theorem vF (a b : Nat) : bR .lt (.d (.int a)) (.d (.int b)) σ = some (bV (decide (a < b))) := congrArg (fun t => some (bV t)) (decide_eq_decide.mpr Int.ofNat_lt)
theorem aEn (ts : List Str) : kT (ts.map .str) = some ts := by
 induction ts with
 | nil => rfl
 | cons t ts ih => show (kT (ts.map .str)).map (t :: ·) = _; rw [ih]; rfl
theorem zO (B : Nat) (hB : ∀ y ∈ ts, y.length <= B) (h : ts.length * B + ts.length * sep.length <= 16777216) : pR sep (ts.map .str) = some (.str (Str.join sep ts)) := by
 show (kT (ts.map .str)).bind _ = _
 rw [aEn]
 show aU _ _ = _
 rw [cG (aHD B hB h), aHB]
theorem vC (B : Nat) (hB : ∀ y ∈ ts, y.length <= B) (h : ts.length * B + ts.length * sep.length <= 16777216) : cU (eY .join (.d (.str sep)) [.d (.list (ts.map .str))] σ) = .ok (.d (.str (Str.join sep ts))) σ := by
 show cU (((pR sep (ts.map .str)).or none).map _) = _
 rw [zO B hB h]; rfl
theorem aHE (B : Nat) (hB : ∀ y ∈ ts, y.length <= B) (h : ts.length * B + ts.length * sep.length <= 16777216) : cU (eY .join (.d (.str sep)) [.d (.tuple (ts.map .str))] σ) = .ok (.d (.str (Str.join sep ts))) σ := by
 show cU ((pR sep (ts.map .str)).map _) = _
 rw [zO B hB h]; rfl
theorem jM (g : α -> PyData) (f : α -> β) (d : β -> PyData) (as : List α) (h : ∀ s ∈ as, aP FT hb c elt (ρ.set x (.d (g s))) σ = .ok (.d (d (f s))) σ) : cY FT hb (as.length + c + 2) elt x none (as.map g) ρ σ = .ok ((as.map f).map d) σ := by
 induction as with
 | nil => rfl
 | cons s as ih =>
  rw [List.length_cons, show as.length + 1 + c + 2 = as.length + c + 2 + 1 by omega]
  exact xZ rfl (uF (h s (.head _)) (by omega) (fun q => nomatch q)) (ih fun s hs => h s (.tail _ hs))
theorem oA (h : xs.length <= 1000) : ((fY hb .seq (.list xs)).bind fun is => aU (is.length <= 1000) (some is)) = some xs := cG h
theorem aIZ (h : n < 256) : (bE n).length <= 3 := toString_length_le (Int.natCast_nonneg n) (by decide) (by omega)
noncomputable def uW (n : Nat) : List Str := [24, 16, 8, 0].map fun s => bE (n / 2 ^ s % 256)
noncomputable def lK (n : Nat) : Str := Str.join "." (uW n)
theorem aCF : ∀ y ∈ uW n, y.length <= 3 := fun y hy => (List.mem_map.mp hy).elim fun s q => q.2 ▸ aIZ (Nat.mod_lt _ (by decide))
theorem aHq (n : Nat) : aN FT false 40 1 [.d (.int n)] σ = .ok (.d (.str (lK n))) σ := by
 refine bA (q := f1) rfl rfl (sL rfl (sL rfl (sB (hV (jM (c := 8) (fun s : Nat => .int s) (fun s => bE (n / 2 ^ s % 256)) .str [24, 16, 8, 0] fun s _ => ?_) (by decide)) (sB (vC (ts := uW n) 3 aCF (Nat.le_of_ble_eq_true rfl)) (bL rfl)))))
 exact e_c.trans (sL (aAV n s) (sL (aE4 _) (sL (jV (Nat.lt_trans (Nat.mod_lt _ (by decide)) (by decide))) rfl)))
noncomputable def gL (d : Nat) : Nat := if d < 10 then 48 + d else 87 + d
noncomputable def nY (k : Nat) : Nat -> List Nat -> List Nat := Nat.rec (fun _ acc => acc) (fun _ f n acc => bif decide (0 < n) || acc.isEmpty then f (n / 16) (gL (n % 16) :: acc) else acc) k
noncomputable def iR (g : Nat) : Str := mk (nY 4 g [])
noncomputable def jP (c : Nat) : Prop := (48 <= c /\ c <= 57) \/ (97 <= c /\ c <= 102)
theorem aGY {d : Nat} (h : d < 16) : jP (gL d) /\ mN (gL d) = some d := by
 refine ⟨?_, (by decide : ∀ d : Fin 16, mN (gL d.val) = some d.val) ⟨d, h⟩⟩
 unfold jP gL
 split <;> omega
noncomputable abbrev hC : aK := whC (f0.body.getD 1 (.ret .stuck))
noncomputable abbrev hB : List bH := whB (f0.body.getD 1 (.ret .stuck))
variable {acc : List Nat}
theorem zD {t : Bool} (h0 : ρ 0 = some (.d (.int n))) (h1 : ρ 1 = some (.d (.int 1))) (h2 : ρ 2 = some (.d (.str (mk acc)))) (hl : acc.length <= 65536) (ht : (decide (0 < n) || acc.isEmpty) = t) : dF FT hb (m + 9) hC ρ σ = .ok t σ := by
 rw [<- aO h0, <- aO (ρ := ρ) h1, <- aO (ρ := ρ) h2]
 refine t_c.trans (sL (gQ n 0) ?_)
 cases c1 : decide (0 < n)
 ·rw [c1] at ht
  refine sT rfl (sL (sH (Nat.le_trans (Nat.le_of_eq (sE acc)) hl)) (sL (vF acc.length 1) ?_))
  cases acc with
  | nil => exact sF rfl (ht ▸ rfl)
  | cons c r => exact sT (by rw [decide_eq_false (by rw [List.length_cons]; omega)]; rfl) (ht ▸ rfl)
 ·rw [c1] at ht
  exact sF rfl (ht ▸ rfl)
theorem aG2 {d : Nat} (h : d < 16) : dW σ (.d (.str "0123456789abcdef")) (.d (.int d)) = some (.d (.str (mk [gL d]))) := by
 have t := (by decide : ∀ d : Fin 16, (cl "0123456789abcdef")[d.val]? = some (gL d.val)) ⟨d, h⟩
 rw [Array.getElem?_toList] at t
 rw [aHc (by omega), Int.toNat_natCast, t]; rfl
theorem aGZ (h0 : ρ 0 = some (.d (.int n))) (h2 : ρ 2 = some (.d (.str (mk acc)))) (hl : acc.length <= 1000) : bS FT hb 9 hB ρ σ = .ok (.next ((ρ.set 2 (.d (.str (mk (gL (n % 16) :: acc))))).set 0 (.d (.int (n / 16 : Nat))))) σ := by
 have e : mk [gL (n % 16)] ++ mk acc = mk (gL (n % 16) :: acc) := gW (cE ..)
 have e2 : ρ = (ρ.set 2 (.d (.str (mk acc)))).set 0 (.d (.int n)) := by rw [aO h2, aO h0]
 rw [<- e, e2]
 refine fU.trans (sL (aE2 n) (sL (aG2 (Nat.mod_lt _ (by decide))) (sA (a := 1) (b := 1000) (Nat.le_of_eq (sE _)) (Nat.le_trans (Nat.le_of_eq (sE acc)) hl) fun _ => sJ (sL (aAV n 4) (sJ ?_)))))
 rw [aO h2, aO h0]; rfl
theorem aG4 (k : Nat) : ∀ (n : Nat) (acc : List Nat) (ρ : aJ), n < 16 ^ k -> (acc = [] -> 1 <= k) -> acc.length + k <= 100 -> ρ 0 = some (.d (.int n)) -> ρ 1 = some (.d (.int 1)) -> ρ 2 = some (.d (.str (mk acc))) ->
  ∃ ρ' : aJ, evW FT hb (k + 10) hC hB ρ σ = .ok (.next ρ') σ /\ ρ' 2 = some (.d (.str (mk (nY k n acc)))) := by
 induction k with
 | zero =>
  intro n acc ρ hn ha hl h0 h1 h2
  refine ⟨ρ, qP (zD (m := 0) h0 h1 h2 (by omega) ?_), h2⟩
  cases acc with
  | nil => exact absurd (ha rfl) (by decide)
  | cons c r => rw [decide_eq_false (by omega)]; rfl
 | succ k ih =>
  intro n acc ρ hn ha hl h0 h1 h2
  have e : nY (k + 1) n acc = bif decide (0 < n) || acc.isEmpty then nY k (n / 16) (gL (n % 16) :: acc) else acc := rfl
  cases ht : decide (0 < n) || acc.isEmpty
  ·rw [e, ht]
   exact ⟨ρ, qP (zD (m := k + 1) h0 h1 h2 (by omega) ht), h2⟩
  ·rw [e, ht]
   obtain ⟨ρ2, g1, g2⟩ := ih (n / 16) (gL (n % 16) :: acc) ((ρ.set 2 (.d (.str (mk (gL (n % 16) :: acc))))).set 0 (.d (.int (n / 16 : Nat)))) (by rw [Nat.pow_succ] at hn; omega) (fun q => nomatch q) (by rw [List.length_cons]; omega) rfl h1 rfl
   exact ⟨ρ2, wM (zD (m := k + 1) h0 h1 h2 (by omega) ht) (jJ (aGZ h0 h2 (by omega)) (by omega) (fun q => nomatch q)) g1, g2⟩
theorem aG6 (h : n < 65536) : aN FT false 40 0 [.d (.int n)] σ = .ok (.d (.str (iR n))) σ := by
 obtain ⟨ρ', g1, g2⟩ := aG4 (hb := false) (σ := σ) 4 n [] (((aJ.set (fun _ => none) 1 (.d (.int 1))).set 0 (.d (.int n))).set 2 (.d (.str ""))) h (by decide) (by decide) rfl rfl rfl
 refine bA (q := f0) rfl rfl (sJ (sB (wN g1 (by decide)) (sJ ?_)))
 rw [<- aO g2]
 exact bL rfl
theorem zB (k : Nat) : ∀ (n : Nat) (acc : List Nat), n < 16 ^ k -> ∃ D, nY k n acc = D ++ acc /\ D.length <= k /\ (∀ c ∈ D, jP c) /\ (∀ r, iS 0 (D ++ r) = iS n r) /\ (acc = [] -> 1 <= k -> D ≠ []) := by
 induction k with
 | zero => exact fun n acc h => ⟨[], rfl, Nat.le_refl _, (fun _ h => nomatch h), fun r => by rw [Nat.lt_one_iff.mp h]; rfl, fun _ h => absurd h (by decide)⟩
 | succ k ih =>
  intro n acc h
  have e : nY (k + 1) n acc = bif decide (0 < n) || acc.isEmpty then nY k (n / 16) (gL (n % 16) :: acc) else acc := rfl
  cases ht : decide (0 < n) || acc.isEmpty
  ·rw [e, ht]
   have hn := Bool.or_eq_false_iff.mp ht
   obtain rfl : n = 0 := by have := of_decide_eq_false hn.1; omega
   exact ⟨[], rfl, Nat.zero_le _, (fun _ h => nomatch h), fun r => rfl, fun e _ => by rw [e] at hn; cases hn.2⟩
  ·rw [e, ht]
   obtain ⟨D, h1, h2, h3, h4, _⟩ := ih (n / 16) (gL (n % 16) :: acc) (by rw [Nat.pow_succ] at h; omega)
   obtain ⟨o1, o2⟩ := aGY (Nat.mod_lt n (by decide : 0 < 16))
   refine ⟨D ++ [gL (n % 16)], by rw [List.append_assoc]; exact h1, by rw [List.length_append]; exact Nat.succ_le_succ h2, fun c hc => (List.mem_append.mp hc).elim (h3 c) fun hc => List.mem_singleton.mp hc ▸ o1, fun r => ?_, fun _ _ q => nomatch (List.append_eq_nil_iff.mp q).2⟩
   rw [List.append_assoc, h4]
   show (mN (gL (n % 16))).bind _ = _
   rw [o2]
   show iS (n / 16 * 16 + n % 16) r = _
   rw [Nat.mul_comm, Nat.div_add_mod]
end
end PQ
namespace PQ
noncomputable def rN (g r : Nat) : Nat := bif g == 0 then r + 1 else 0
noncomputable def jT (gs : List Nat) : Nat -> Nat -> Nat -> Nat -> Nat × Nat := List.rec (fun _ b m _ => (b, m)) (fun g _ f p b m r => bif decide (m < rN g r) then f (p + 1) (p + 1 - rN g r) (rN g r) (rN g r) else f (p + 1) b m (rN g r)) gs
structure qU (G : List Nat) (p b m r : Nat) : Prop where
 r1 : r <= p
 r2 : ∀ i, p - r <= i -> i < p -> G.getD i 0 = 0
 m1 : b + m <= p
 m2 : ∀ i, b <= i -> i < b + m -> G.getD i 0 = 0
noncomputable def foB : bH -> List bH
 | .for_ _ _ _ b => b
 | _ => []
section
variable {σ : aG} {ρ : aJ} {n m p g b r : Nat} {G gs : List Nat} {ts : List Str}
theorem qU.step (h : qU G p b m r) (hg : G.getD p 0 = g) : qU G (p + 1) (bif decide (m < rN g r) then p + 1 - rN g r else b) (bif decide (m < rN g r) then rN g r else m) (rN g r) := by
 have k : rN g r <= p + 1 /\ ∀ i, p + 1 - rN g r <= i -> i < p + 1 -> G.getD i 0 = 0 := by
  have := h.r1
  cases z : g == 0
  ·have e : rN g r = 0 := by unfold rN; rw [z]; rfl
   rw [e]; exact ⟨Nat.zero_le _, fun i h1 h2 => by omega⟩
  ·have e : rN g r = r + 1 := by unfold rN; rw [z]; rfl
   rw [e]
   refine ⟨by omega, fun i h1 h2 => ?_⟩
   by_cases e : i = p
   ·rw [e, hg]; exact beq_iff_eq.mp z
   ·exact h.r2 i (by omega) (by omega)
 have := h.m1
 cases z : decide (m < rN g r)
 ·exact ⟨k.1, k.2, Nat.le_succ_of_le h.m1, h.m2⟩
 ·exact ⟨k.1, k.2, Nat.le_of_eq (Nat.sub_add_cancel k.1), fun i h1 h2 => k.2 i h1 (Nat.lt_of_lt_of_eq h2 (Nat.sub_add_cancel k.1))⟩
theorem aC1 : jT (g :: gs) p b m r = jT gs (p + 1) (bif decide (m < rN g r) then p + 1 - rN g r else b) (bif decide (m < rN g r) then rN g r else m) (rN g r) := by
 show (bif decide (m < rN g r) then _ else _) = _
 cases decide (m < rN g r) <;> rfl
theorem aIE (gs : List Nat) : ∀ (pre : List Nat) (b m r : Nat), G = pre ++ gs -> qU G pre.length b m r -> ∃ r', qU G G.length (jT gs pre.length b m r).1 (jT gs pre.length b m r).2 r' := by
 induction gs with
 | nil => exact fun pre b m r hG h => ⟨r, by rw [List.append_nil] at hG; subst hG; exact h⟩
 | cons g gs ih =>
  intro pre b m r hG h
  have z := ih (pre ++ [g]) _ _ _ (by rw [hG, List.append_assoc]; rfl) (by rw [List.length_append]; exact h.step (g := g) (by rw [hG]; simp))
  rw [List.length_append] at z
  rw [aC1]; exact z
noncomputable abbrev nB : List bH := foB (f2.body.getD 2 (.ret .stuck))
theorem aJ8 (h5 : ρ 5 = some (.d (.int b))) (h6 : ρ 6 = some (.d (.int m))) (h7 : ρ 7 = some (.d (.int r))) (h8 : ρ 8 = some (.d (.int p))) (h9 : ρ 9 = some (.d (.int g))) (hr : r <= p) :
  ∃ ρ' : aJ, bS FT false 19 nB ρ σ = .ok (.next ρ') σ /\ ρ' 7 = some (.d (.int (rN g r : Nat))) /\ ρ' 5 = some (.d (.int ((bif decide (m < rN g r) then p + 1 - rN g r else b : Nat) : Int))) /\ ρ' 6 = some (.d (.int ((bif decide (m < rN g r) then rN g r else m : Nat) : Int))) := by
 rw [<- aO h5, <- aO (ρ := ρ) h6, <- aO (ρ := ρ) h7, <- aO (ρ := ρ) h8, <- aO (ρ := ρ) h9]
 have s : ∀ x : Nat, x <= p + 1 -> (p : Int) + 1 - x = ((p + 1 - x : Nat) : Int) := fun x h => by omega
 cases z : g == 0
 ·have e : rN g r = 0 := by unfold rN; rw [z]; rfl
  rw [e]
  exact ⟨_, fU.trans (sL (jB g 0) (sF z (sJ (sL (gQ 0 m) (sF rfl (sJ rfl)))))), rfl, rfl, rfl⟩
 ·have e : rN g r = r + 1 := by unfold rN; rw [z]; rfl
  rw [e]
  cases y : decide (m < r + 1)
  ·exact ⟨_, fU.trans (sL (jB g 0) (sT z (sL dQ (sJ (sL (gQ (r + 1) m) (sF y (sJ rfl))))))), rfl, rfl, rfl⟩
  ·exact ⟨_, fU.trans (sL (jB g 0) (sT z (sL dQ (sJ (sL (gQ (r + 1) m) (sT y (sL dQ (sL rfl (sJ (sJ rfl)))))))))), rfl, congrArg (fun i => some (aB.d (.int i))) (s (r + 1) (by omega)), rfl⟩
theorem aJ6 (gs : List Nat) : ∀ (p b m r : Nat) (ρ : aJ), ρ 5 = some (.d (.int b)) -> ρ 6 = some (.d (.int m)) -> ρ 7 = some (.d (.int r)) -> r <= p ->
  ∃ ρ' : aJ, evF FT false (gs.length + 20) [8, 9] nB (((gs.map fun g : Nat => PyData.int g).zipIdx p).map fun q => .tuple [.int (q.2 : Nat), q.1]) ρ σ = .ok (.next ρ') σ /\ ρ' 5 = some (.d (.int ((jT gs p b m r).1 : Nat))) /\ ρ' 6 = some (.d (.int ((jT gs p b m r).2 : Nat))) := by
 induction gs with
 | nil => exact fun p b m r ρ h5 h6 h7 hr => ⟨ρ, rfl, h5, h6⟩
 | cons g gs ih =>
  intro p b m r ρ h5 h6 h7 hr
  obtain ⟨ρ1, e1, e7, e5, e6⟩ := aJ8 (σ := σ) (ρ := (ρ.set 8 (.d (.int p))).set 9 (.d (.int g))) h5 h6 h7 rfl rfl hr
  obtain ⟨ρ2, g1, g2⟩ := ih (p + 1) _ _ _ ρ1 e5 e6 e7 (by unfold rN; cases g == 0; exact Nat.zero_le _; exact Nat.succ_le_succ hr)
  rw [aC1]
  exact ⟨ρ2, fX rfl (jJ e1 (show 19 <= gs.length + 20 by omega) (fun q => nomatch q)) g1, g2⟩
theorem aJ7 (hl : gs.length <= 8) : aN FT false 50 2 [.d (.list (gs.map fun g : Nat => PyData.int g))] σ = .ok (.d (.tuple [.int ((jT gs 0 0 0 0).1 : Nat), .int ((jT gs 0 0 0 0).2 : Nat)])) σ := by
 obtain ⟨ρ', g1, g5, g6⟩ := aJ6 (σ := σ) gs 0 0 0 0 (((((aJ.set (fun _ => none) 4 (.d (.list (gs.map fun g : Nat => PyData.int g)))).set 5 (.d (.int 0))).set 6 (.d (.int 0))).set 7 (.d (.int 0)))) rfl rfl rfl (Nat.le_refl _)
 refine bA (q := f2) rfl rfl (sJ (sJ (sL (cG (show (gs.map fun g : Nat => PyData.int g).length <= 1000 by rw [List.length_map]; omega)) (sB (nW g1 (Nat.le_trans (Nat.add_le_add_right hl 20) (by decide))) (sJ ?_)))))
 rw [<- aO g5, <- aO (ρ := ρ') g6]
 exact bL rfl
noncomputable def fR (n : Nat) : List Nat := [112, 96, 80, 64, 48, 32, 16, 0].map fun s => n / 2 ^ s % 65536
@[irreducible] noncomputable def cK (n : Nat) : Nat × Nat := jT (fR n) 0 0 0 0
noncomputable def dI (n : Nat) : List Str := (fR n).map iR
noncomputable def gD (n : Nat) : Str := bif decide ((cK n).2 < 2) then Str.join ":" (dI n) else Str.join ":" ((dI n).take (cK n).1) ++ "::" ++ Str.join ":" ((dI n).drop ((cK n).1 + (cK n).2))
theorem aCv {g : Nat} (h : g < 65536) : (iR g).length <= 4 := by
 obtain ⟨D, h1, h2, _⟩ := zB 4 g [] h
 unfold iR
 rw [sE, h1, List.append_nil]; exact h2
theorem mM {g : Nat} (h : g ∈ fR n) : g < 65536 := (List.mem_map.mp h).elim fun s q => q.2 ▸ Nat.mod_lt _ (by decide)
theorem lM : ∀ y ∈ dI n, y.length <= 4 := fun y hy => (List.mem_map.mp hy).elim fun g q => q.2 ▸ aCv (mM q.1)
theorem aDU (h1 : n < 2 ^ 128) (h : n = 0 \/ 2 ^ 112 <= n) : (cK n).1 + (cK n).2 <= 8 /\ (∀ i, (cK n).1 <= i -> i < (cK n).1 + (cK n).2 -> (fR n).getD i 0 = 0) /\
  (2 <= (cK n).2 -> (n = 0 /\ (cK n).1 = 0 /\ (cK n).2 = 8) \/ (cK n).1 ≠ 0) := by
 obtain ⟨r', hr⟩ := aIE (G := fR n) (fR n) [] 0 0 0 rfl ⟨Nat.le_refl _, fun i h1 h2 => absurd h2 (Nat.not_lt_zero _), Nat.le_refl _, fun i h1 h2 => absurd h2 (Nat.not_lt_zero _)⟩
 unfold cK
 refine ⟨hr.m1, hr.m2, fun hm => ?_⟩
 rcases h with rfl | h
 ·exact .inl ⟨rfl, by decide, by decide⟩
 ·refine .inr fun e => ?_
  have z : n / 2 ^ 112 % 65536 = 0 := hr.m2 0 (Nat.le_of_eq e) (show 0 < (jT (fR n) 0 0 0 0).1 + (jT (fR n) 0 0 0 0).2 by omega)
  have y : n / 2 ^ 112 < 65536 := Nat.div_lt_of_lt_mul h1
  rw [Nat.mod_eq_of_lt y] at z
  exact Nat.ne_of_gt (Nat.div_pos h (by decide)) z
theorem jE {sep : Str} {B : Nat} {ts : List Str} (h : ∀ y ∈ ts, y.length <= B) : (Str.join sep ts).length <= ts.length * (B + sep.length) := by
 induction ts with
 | nil => exact Nat.zero_le _
 | cons x ts ih => cases ts with
  | nil =>
   have := h x (.head _)
   show x.length <= 1 * _
   omega
  | cons y r =>
   have h1 := h x (.head _)
   have h2 := ih fun z hz => h z (.tail _ hz)
   show (x ++ sep ++ Str.join sep (y :: r)).length <= ((y :: r).length + 1) * _
   rw [Str.length_append, Str.length_append, Nat.succ_mul]
   omega
theorem aAS (hl : ts.length <= 65536) (b : Nat) : gH σ (.d (.list (ts.map .str))) (.d .none) (.d (.int b)) = some (.d (.list ((ts.take b).map .str))) := by
 rw [List.map_take]
 exact congrArg (fun o : Option PyData => Option.map aB.d (o.or _)) (cG (p := (none : Option Int).isNone = true /\ 0 <= (b : Int) /\ (ts.map PyData.str).length <= 65536) ⟨rfl, Int.natCast_nonneg b, by rw [List.length_map]; exact hl⟩)
theorem aKB (hl : ts.length <= 65536) (b : Nat) : gH σ (.d (.list (ts.map .str))) (.d (.int b)) (.d .none) = some (.d (.list ((ts.drop b).map .str))) := by
 rw [List.map_drop]
 exact congrArg (fun o : Option PyData => Option.map aB.d (o.or _)) (cG (p := (none : Option Int).isNone = true /\ 0 <= (b : Int) /\ (ts.map PyData.str).length <= 65536) ⟨rfl, Int.natCast_nonneg b, by rw [List.length_map]; exact hl⟩)
theorem aHu (h1 : n < 2 ^ 128) (h : n = 0 \/ 2 ^ 112 <= n) : aN FT false 100 3 [.d (.int n)] σ = .ok (.d (.str (gD n))) σ := by
 obtain ⟨f1, _, f3'⟩ := aDU h1 h
 have lP : (dI n).length = 8 := rfl
 have rs : aN FT false 50 2 [.d (.list ((fR n).map fun g : Nat => PyData.int g))] σ = .ok (.d (.tuple [.int (cK n).1, .int (cK n).2])) σ := by unfold cK; exact aJ7 (Nat.le_of_ble_eq_true rfl)
 have lt : ∀ b, ((dI n).take b).length <= 8 := fun b => List.length_take_le' b (dI n)
 have ld : ∀ b, ((dI n).drop b).length <= 8 := fun b => by rw [List.length_drop]; exact Nat.sub_le ..
 have pt : ∀ b, ∀ y ∈ (dI n).take b, y.length <= 4 := fun b y hy => lM y (List.mem_of_mem_take hy)
 have pd : ∀ b, ∀ y ∈ (dI n).drop b, y.length <= 4 := fun b y hy => lM y (List.mem_of_mem_drop hy)
 have l8 : (dI n).length <= 65536 := Nat.le_of_ble_eq_true rfl
 have jl : ∀ l, l <= 8 -> l * 4 + l * (Str.ofString ":").length <= 16777216 := fun l h => Nat.le_trans (Nat.add_le_add (Nat.mul_le_mul_right _ h) (Nat.mul_le_mul_right _ h)) (by decide)
 have jt := fun b => Nat.le_trans (jE (sep := ":") (pt b)) (Nat.mul_le_mul_right _ (lt b))
 have jd := fun b => Nat.le_trans (jE (sep := ":") (pd b)) (Nat.mul_le_mul_right _ (ld b))
 refine bA (q := f3) rfl rfl (sL rfl (sB (hV (jM (c := 8) (fun s : Nat => .int s) (fun s => n / 2 ^ s % 65536) (fun g : Nat => .int g) [112, 96, 80, 64, 48, 32, 16, 0] fun s _ => e_c.trans (sL (aAV n s) (sL (aE3 _) rfl))) (by decide)) (sJ (sB (bD rs (by decide)) (sJ (sL (oA (Nat.le_of_ble_eq_true rfl)) (sB (hV (jM (c := 45) (fun g : Nat => .int g) iR .str (fR n) fun g hg => e_c.trans (sB (bD (aG6 (mM hg)) (by decide)) rfl)) (Nat.le_of_ble_eq_true rfl)) (sJ (sL (vF (cK n).2 2) ?_)))))))))
 unfold gD
 cases hm : decide ((cK n).2 < 2)
 ·have tail : ∀ ρ : aJ, ρ 10 = some (.d (.list ((dI n).map .str))) -> ρ 5 = some (.d (.int (cK n).1)) -> ρ 6 = some (.d (.int (cK n).2)) -> cJ (dM (cN FT false 94) (f3.body.drop 5) ρ σ (dC σ.length)) = .ok (.d (.str (Str.join ":" ((dI n).take (cK n).1) ++ "::" ++ Str.join ":" ((dI n).drop ((cK n).1 + (cK n).2))))) σ := fun ρ h10 h5 h6 => by
   rw [<- aO h5, <- aO (ρ := ρ) h6, <- aO (ρ := ρ) h10]
   exact sJ (sL rfl (sL (aAS l8 _) (sB (vC 4 (pt _) (jl _ (lt _))) (sA (jt _) (Nat.le_refl _) fun q => sL rfl (sL dQ (sL (aKB l8 ((cK n).1 + (cK n).2)) (sB (vC 4 (pd _) (jl _ (ld _))) (sA q (jd _) fun _ => bL rfl))))))))
  refine sF rfl (sJ ?_)
  rcases f3' (Nat.le_of_not_lt (of_decide_eq_false hm)) with ⟨_, hb0, hm8⟩ | hb
  ·exact sL (uJ (b := 0) hb0) (sT rfl (sL (pH (b := 6) (by omega)) (sT rfl (sL (pH (b := 5) (by omega)) (sF rfl (sT rfl (sF rfl (sF rfl (tail _ rfl rfl rfl)))))))))
  ·exact sL (pH (b := 0) hb) (sF rfl (sF rfl (tail _ rfl rfl rfl)))
 ·exact sT rfl (sL rfl (sB (vC 4 lM (jl _ (Nat.le_of_eq lP))) (bL rfl)))
end
end PQ
namespace PQ
noncomputable def gK (m : Str) : List (Str × Nat) :=
 bif m == "icmp" then [("net-unreachable", 0), ("host-unreachable", 1), ("port-unreachable", 3), ("admin-prohibited", 13)]
 else bif m == "icmpv6" then [("no-route", 0), ("admin-prohibited", 1), ("port-unreachable", 4)]
 else [("no-route", 0), ("port-unreachable", 1), ("host-unreachable", 2), ("admin-prohibited", 3)]
noncomputable def fH (m : Str) : List (PyData × PyData) := (gK m).map fun p => (.str p.1, .int p.2)
noncomputable def rH : PyData := .dict [(.str "icmp", .dict (fH "icmp")), (.str "icmpv6", .dict (fH "icmpv6")), (.str "icmpx", .dict (fH "icmpx"))]
noncomputable def T4 : PyData := .tuple [.int 32, .str "big", .str "ip4", .dict []]
noncomputable def T6 : PyData := .tuple [.int 128, .str "big", .str "ip6", .dict []]
noncomputable def TC (m : Str) : PyData := .tuple [.int 8, .str "big", .str "number", .dict (fH m)]
noncomputable def gG : List Str := ["icmp", "icmpv6", "icmpx"]
noncomputable abbrev cod (m : Str) : Str := m ++ "_code"
noncomputable def mA : List (Str × aB) := gG.foldl (fun kvs m => kR (cod m) (.d (TC m)) kvs) [("ipv4_addr", .d T4), ("ipv6_addr", .d T6)]
noncomputable def TG (lt : Nat) (σ : aG) : Prop := σ[lt]? = some (.dct mA)
section
variable {σ : aG} {ρ : aJ} {lt n c l : Nat} {m k : Str} {kvs : List (Str × aB)} {x : PyData} {v : aB}
theorem sD {P : Str -> Prop} (h1 : P "icmp") (h2 : P "icmpv6") (h3 : P "icmpx") (hm : m ∈ gG) : P m := by
 rcases List.mem_cons.mp hm with rfl | hm
 ·exact h1
 ·rcases List.mem_cons.mp hm with rfl | hm
  ·exact h2
  ·exact List.mem_singleton.mp hm ▸ h3
theorem aBV : aN FT false 20 25 [] σ = .ok (.d rH) σ := bA (q := f25) rfl rfl (sB rfl (sB rfl (sB rfl (sB rfl (bL rfl)))))
theorem yM (h : σ[l]? = some (.dct kvs)) : hZ σ l = some kvs := by unfold hZ; rw [h]; rfl
theorem kJ (h : σ[l]? = some (.dct kvs)) (e : fD k kvs = some v) : dW σ (.loc l) (.d (.str k)) = some v := by
 show ((hZ σ l).bind (fD k)).or _ = _
 rw [yM h]
 show (fD k kvs).or _ = _
 rw [e]; rfl
theorem aK5 (h : σ[l]? = some (.dct kvs)) (hn : kvs.length <= 1000) : qI (.loc l) (.d (.str k)) (.d x) σ = some (σ.set l (.dct (kR k (.d x) kvs))) := by
 show (hZ σ l).bind _ = _
 rw [yM h]
 exact cG hn
theorem own (σ : aG) (o : bN) : (σ ++ [o])[σ.length]? = some o := by rw [List.getElem?_append_right (Nat.le_refl _), Nat.sub_self]; rfl
theorem aD3 (σ : aG) (o o' : bN) : (σ ++ [o]).set σ.length o' = σ ++ [o'] := by rw [List.set_append_right _ _ (Nat.le_refl _), Nat.sub_self]; rfl
theorem aA8 (hm : m ∈ gG) (h38 : ρ 38 = some (.loc σ.length)) (h18 : ρ 18 = some (.d (.str m))) (hn : kvs.length <= 1000) : bS FT false 40 (foB (f26.body.getD 1 (.ret .stuck))) ρ (σ ++ [.dct kvs]) = .ok (.next ρ) (σ ++ [.dct (kR (cod m) (.d (TC m)) kvs)]) := by
 have i1 : dW (σ ++ [.dct kvs]) (.d rH) (.d (.str m)) = some (.d (.dict (fH m))) := sD (P := fun m => dW (σ ++ [.dct kvs]) (.d rH) (.d (.str m)) = some (.d (.dict (fH m)))) rfl rfl rfl hm
 have l1 : m.length <= 6 := sD (P := fun m => m.length <= 6) (by decide) (by decide) (by decide) hm
 have e : ρ = (ρ.set 18 (.d (.str m))).set 38 (.loc σ.length) := by rw [aO h18, aO h38]
 have s := aK5 (k := cod m) (x := TC m) (own σ (.dct kvs)) hn
 rw [aD3] at s
 rw [e]
 exact fU.trans (sB (bD aBV (by decide)) (sL i1 (sA l1 (Nat.le_refl _) fun _ => sL s (sJ rfl))))
theorem aLR : aN FT false 60 26 [] σ = .ok (.inst σ.length) (σ ++ [.dct mA]) := by
 have h : ∀ {m}, m ∈ gG -> nM (aJ.set (fun _ => none) 38 (.loc σ.length)) [18] (.str m) = some ((aJ.set (fun _ => none) 38 (.loc σ.length)).set 18 (.d (.str m))) := fun _ => rfl
 refine bA (q := f26) rfl rfl (sB rfl (sB rfl (sB rfl (sJ (sL rfl (sB (nW (n := 44) (fX rfl (jJ (aA8 (.head _) rfl rfl (by decide)) (by decide) (fun q => nomatch q)) (fX rfl (jJ (aA8 (.tail _ (.head _)) rfl rfl (Nat.le_of_ble_eq_true rfl)) (by decide) (fun q => nomatch q)) (fX rfl (jJ (aA8 (.tail _ (.tail _ (.head _))) rfl rfl (Nat.le_of_ble_eq_true rfl)) (by decide) (fun q => nomatch q)) rfl))) (by decide)) (sJ (sB rfl rfl))))))))
theorem aH2 : fD "ipv4_addr" mA = some (.d T4) := rfl
theorem aH3 : fD "ipv6_addr" mA = some (.d T6) := rfl
theorem aH4 (h : m ∈ gG) : fD (cod m) mA = some (.d (TC m)) := sD (P := fun m => fD (cod m) mA = some (.d (TC m))) rfl rfl rfl h
theorem aL5 : aN FT false 60 4 [.d T4, .d (.int 32), .d (.int n)] σ = .ok (.d (.str (lK n))) σ :=
 bA (q := f4) rfl rfl (sL rfl (sJ (sL rfl (sL rfl (sB (nW (n := 1) rfl (by decide)) (sJ (sL rfl (sT (by decide) (sB (bD (aHq n) (by decide)) (bL rfl))))))))))
theorem aL6 (h1 : n < 2 ^ 128) (h : n = 0 \/ 2 ^ 112 <= n) : aN FT false 120 4 [.d T6, .d (.int 128), .d (.int n)] σ = .ok (.d (.str (gD n))) σ :=
 bA (q := f4) rfl rfl (sL rfl (sJ (sL rfl (sL rfl (sB (nW (n := 1) rfl (by decide)) (sJ (sL rfl (sF (by decide) (sJ (sL rfl (sT (by decide) (sB (bD (aHu h1 h) (by decide)) (bL rfl)))))))))))))
noncomputable def jN (m : Str) (c : Nat) : Str := Option.elim ((gK m).find? fun p => p.2 == c) (bE c) (·.1)
noncomputable abbrev vB : List bH := foB (f4.body.getD 1 (.ret .stuck))
variable {kv : List (PyData × PyData)} {A : PyData}
theorem aFP {w : Str} {k : Nat} (h11 : ρ 11 = some (.d A)) (h13 : ρ 13 = some (.d (.int c))) (h15 : ρ 15 = some (.d (.str w))) (hA : dW σ (.d A) (.d (.int 3)) = some (.d (.dict kv))) (hw : fS w kv = some (.int k)) :
  bS FT false 20 vB ρ σ = bif k == c then .ok (.ret (.d (.str w))) σ else .ok (.next ρ) σ := by
 have e : ρ = ((ρ.set 15 (.d (.str w))).set 13 (.d (.int c))).set 11 (.d A) := by rw [aO h15, aO h13, aO h11]
 have i2 : dW σ (.d (.dict kv)) (.d (.str w)) = some (.d (.int k)) := congrArg (Option.map aB.d) hw
 rw [e]
 refine fU.trans (sL hA (sL i2 (sL (jB k c) ?_)))
 cases z : k == c
 ·exact sF rfl (sJ rfl)
 ·exact sT rfl rfl
theorem aFO (h11 : ρ 11 = some (.d A)) (h13 : ρ 13 = some (.d (.int c))) (h14 : ρ 14 = some v) (hA : dW σ (.d A) (.d (.int 3)) = some (.d (.dict kv))) (cs : List (Str × Nat)) (h : ∀ p ∈ cs, fS p.1 kv = some (.int p.2)) :
  (∃ p, cs.find? (fun p => p.2 == c) = some p /\ evF FT false (cs.length + 20) [15] vB (cs.map fun p => PyData.str p.1) ρ σ = .ok (.ret (.d (.str p.1))) σ) \/
  (cs.find? (fun p => p.2 == c) = none /\ ∃ ρ' : aJ, ρ' 13 = some (.d (.int c)) /\ ρ' 14 = some v /\ evF FT false (cs.length + 20) [15] vB (cs.map fun p => PyData.str p.1) ρ σ = .ok (.next ρ') σ) := by
 induction cs generalizing ρ with
 | nil => exact .inr ⟨rfl, ρ, h13, h14, rfl⟩
 | cons p cs ih =>
  have t := aFP (ρ := ρ.set 15 (.d (.str p.1))) (σ := σ) h11 h13 rfl hA (h p (.head _))
  rw [List.find?_cons]
  cases z : p.2 == c
  ·rw [z] at t
   have t : bS FT false (cs.length + 20) vB (ρ.set 15 (.d (.str p.1))) σ = _ := jJ t (Nat.le_add_left ..) (fun q => nomatch q)
   rcases ih (ρ := ρ.set 15 (.d (.str p.1))) h11 h13 h14 fun q hq => h q (.tail _ hq) with ⟨q, h1, h2⟩ | ⟨h1, ρ', g1, g2, g3⟩
   ·exact .inl ⟨q, h1, fX rfl t h2⟩
   ·exact .inr ⟨h1, ρ', g1, g2, fX rfl t g3⟩
  ·rw [z] at t
   exact .inl ⟨p, rfl, aGq rfl (jJ t (Nat.le_add_left ..) (fun q => nomatch q))⟩
theorem aGr {n m : Nat} {is : List Nat} {b : List bH} {xs : List PyData} (e : evF FT false n is b xs ρ σ = .ok (.ret v) σ) (hm : n <= m) : xF FT false m is b xs ρ σ = .ok (.ret v) σ := aEM.trans (Le.up (fun n => (jG n).F is b xs ρ σ) hm e fun h => nomatch h)
theorem aBU (hm : m ∈ gG) : (gK m).length <= 4 /\ ∀ p ∈ gK m, fS p.1 (fH m) = some (.int p.2) := sD (P := fun m => (gK m).length <= 4 /\ ∀ p ∈ gK m, fS p.1 (fH m) = some (.int p.2))
 ⟨by decide, List.forall_mem_cons.mpr ⟨rfl, List.forall_mem_cons.mpr ⟨rfl, List.forall_mem_cons.mpr ⟨rfl, List.forall_mem_cons.mpr ⟨rfl, fun _ q => nomatch q⟩⟩⟩⟩⟩
 ⟨by decide, List.forall_mem_cons.mpr ⟨rfl, List.forall_mem_cons.mpr ⟨rfl, List.forall_mem_cons.mpr ⟨rfl, fun _ q => nomatch q⟩⟩⟩⟩
 ⟨by decide, List.forall_mem_cons.mpr ⟨rfl, List.forall_mem_cons.mpr ⟨rfl, List.forall_mem_cons.mpr ⟨rfl, List.forall_mem_cons.mpr ⟨rfl, fun _ q => nomatch q⟩⟩⟩⟩⟩ hm
theorem aL7 (hm : m ∈ gG) (hc : c < 256) : aN FT false 60 4 [.d (TC m), .d (.int 8), .d (.int c)] σ = .ok (.d (.str (jN m c))) σ := by
 have hk := aBU hm
 have it : (cS (.d (.dict (fH m)))).bind (fY false .seq) = some ((gK m).map fun p => PyData.str p.1) := by
  show some ((fH m).map (·.1)) = _
  unfold fH
  rw [List.map_map]; rfl
 refine bA (q := f4) rfl rfl (sL rfl (sJ (sL rfl (sL it ?_))))
 unfold jN
 rcases aFO (σ := σ) (ρ := ((((aJ.set (fun _ => none) 13 (.d (.int c))).set 12 (.d (.int 8))).set 11 (.d (TC m))).set 14 (.d (.str "number")))) rfl rfl rfl (A := TC m) rfl (gK m) hk.2 with ⟨p, h1, h2⟩ | ⟨h1, ρ', g1, g2, g3⟩
 ·rw [h1]
  exact sB (aGr h2 (Nat.le_trans (Nat.add_le_add_right hk.1 20) (by decide))) (bL rfl)
 ·rw [h1]
  refine sB (nW g3 (Nat.le_trans (Nat.add_le_add_right hk.1 20) (by decide))) (sJ ?_)
  rw [<- aO g1, <- aO (ρ := ρ') g2]
  exact sL rfl (sF (by decide) (sJ (sL rfl (sF (by decide) (sJ (sL rfl (sF (by decide) (sJ (sL rfl (sF (by decide) (sJ (sL rfl (sF (by decide) (sJ (sL rfl (sF (by decide) (sJ (sL rfl (sF (by decide) (sJ (sL (jV (Nat.lt_trans hc (by decide))) (bL rfl))))))))))))))))))))))
theorem aJi (h : TG lt σ) : aN FT false 130 6 [.inst lt, .d (.tuple [.str "ipv4_addr", .int 32]), .d (.int n)] σ = .ok (.d (.str (lK n))) σ :=
 bA (q := f6) rfl rfl (sL rfl (sL (kJ h aH2) (sL rfl (sB (bD aL5 (by decide)) (bL rfl)))))
theorem aJj (h : TG lt σ) (h1 : n < 2 ^ 128) (h2 : n = 0 \/ 2 ^ 112 <= n) : aN FT false 130 6 [.inst lt, .d (.tuple [.str "ipv6_addr", .int 128]), .d (.int n)] σ = .ok (.d (.str (gD n))) σ :=
 bA (q := f6) rfl rfl (sL rfl (sL (kJ h aH3) (sL rfl (sB (bD (aL6 h1 h2) (by decide)) (bL rfl)))))
theorem aJk (h : TG lt σ) (hm : m ∈ gG) (hc : c < 256) : aN FT false 130 6 [.inst lt, .d (.tuple [.str (cod m), .int 8]), .d (.int c)] σ = .ok (.d (.str (jN m c))) σ :=
 bA (q := f6) rfl rfl (sL rfl (sL (kJ h (aH4 hm)) (sL rfl (sB (bD (aL7 hm hc) (by decide)) (bL rfl)))))
end
end PQ
namespace PQ
noncomputable def iJ (m : Str) (c : Nat) : List Str := bif m == "tcp" then ["reject", "with", "tcp", "reset"] else ["reject", "with", m, jN m c]
noncomputable def poT (p : Po) : Str := Option.casesOn p "" fun q => bif q.1 == q.2 then ":" ++ bE q.1 else ":" ++ bE q.1 ++ "-" ++ bE q.2
noncomputable def bX (nf n : Nat) : Str := bif nf == 10 then gD n else lK n
noncomputable def eA (c : Bool) (x : Str) : Str := bif c then "[" ++ x ++ "]" else x
noncomputable def dG (x y : Str) : Str := bif x == y then x else x ++ ("-" ++ y)
noncomputable def jC (nf : Nat) (ps : Po) : Bool := nf == 10 && ps.isSome
noncomputable def dP (nf : Nat) (ps : Po) (ad : Ad) : Str := Ad.casesOn ad (poT ps) (fun b l => bX nf b ++ "/" ++ bE l) fun a b => dG (eA (jC nf ps) (bX nf a)) (eA (jC nf ps) (bX nf b)) ++ poT ps
noncomputable def mC (nf : Nat) (ad : Ad) (ps : Po) : Prop := Ad.casesOn ad True (fun b l => ps = none /\ eU nf b /\ l <= 128) fun a b => eU nf a /\ eU nf b
section
variable {σ : aG} {ρ : aJ} {lt n c l nf a b : Nat} {m : Str} {x y : Str} {p ps : Po} {ad : Ad}
theorem zP (hm : m ∈ qK) (h : (m == "tcp") = false) : m ∈ gG := (List.mem_append.mp (show m ∈ gG ++ [Str.ofString "tcp"] from hm)).elim id fun q => by rw [List.mem_singleton.mp q] at h; exact nomatch h.symm.trans (beq_self_eq_true _)
theorem aFM (hm : m ∈ gG) (hc : c < 256) : (jN m c).length <= 40 := by
 unfold jN
 cases h : (gK m).find? fun p => p.2 == c with
 | none => exact dY (Nat.lt_trans hc (by decide))
 | some p => exact (by decide : ∀ m ∈ gG, ∀ p ∈ gK m, p.1.length <= 40) m hm p (List.mem_of_find?_eq_some h)
theorem aJG (hm : m ∈ gG) : m.length <= 6 := (by decide : ∀ m ∈ gG, m.length <= 6) m hm
theorem aJz (hT : TG lt σ) (hm : m ∈ qK) (hc : c < 256) : aN FT false 190 15 [.inst lt, .d (St.reject m c).data] σ = .ok (.d (.str (bG (iJ m c)))) σ := by
 refine bA (q := f15) rfl rfl (sL rfl (sJ (sL rfl ?_)))
 unfold iJ
 cases z : m == "tcp"
 ·have hk := zP hm z
  have l1 := aJG hk
  exact sF rfl (sJ (sA (Nat.le_refl _) l1 fun q => sA q (Nat.le_refl _) fun q => sA l1 (Nat.le_refl _) fun _ => sL rfl (sB (bD (aJk hT hk hc) (by decide)) (sA q (aFM hk hc) fun _ => fJ (by simp only [cond_false, gM, jn1, jn2, eM])))))
 ·exact sT rfl (fJ (by simp only [cond_true, gM, jn1, jn2, eM]))
theorem gE (h : n < 65536) : n < 10 ^ 40 := Nat.lt_trans h (by decide)
theorem aAG (h : gY p) : aN FT false 40 17 [.d (fN p)] σ = .ok (.d (.str (poT p))) σ := by
 refine bA (q := f17) rfl rfl (sL rfl ?_)
 cases p with
 | none => exact sT rfl (bL rfl)
 | some q =>
  obtain ⟨h1, h2⟩ := h q.1 q.2 rfl
  refine sF rfl (sJ (sL rfl (sL rfl (sL (jB q.1 q.2) ?_))))
  unfold poT
  cases z : q.1 == q.2
  ·exact sF rfl (sJ (sL rfl (sL (jV (gE h1)) (sA (Nat.le_refl _) (dY (gE h1)) fun q => sA q (Nat.le_refl _) fun q => sL rfl (sL (jV (gE h2)) (sA q (dY (gE h2)) fun _ => fJ (by simp only [z, cond_false])))))))
  ·exact sT rfl (sL rfl (sL (jV (gE h1)) (sA (Nat.le_refl _) (dY (gE h1)) fun _ => fJ (by simp only [z, cond_true]))))
theorem aAE (h : gY p) : (poT p).length <= 100 := by
 cases p with
 | none => decide
 | some q =>
  obtain ⟨h1, h2⟩ := h q.1 q.2 rfl
  have l1 := dY (gE h1)
  have l2 := dY (gE h2)
  have c1 : (Str.ofString ":").length = 1 := rfl
  have c2 : (Str.ofString "-").length = 1 := rfl
  show (bif q.1 == q.2 then _ else _ : Str).length <= 100
  cases q.1 == q.2
  ·show ((Str.ofString ":" ++ bE q.1 ++ Str.ofString "-") ++ bE q.2).length <= 100
   rw [Str.length_append, Str.length_append, Str.length_append]; omega
  ·show (Str.ofString ":" ++ bE q.1).length <= 100
   rw [Str.length_append]; omega
theorem aCG (n : Nat) : (lK n).length <= 100 := Nat.le_trans (jE aCF) (Nat.le_of_ble_eq_true rfl)
theorem aHr (n : Nat) : (gD n).length <= 100 := by
 unfold gD
 cases decide ((cK n).2 < 2)
 ·have h1 := jE (sep := ":") fun y hy => lM (n := n) y (List.mem_of_mem_take (i := (cK n).1) hy)
  have h2 := jE (sep := ":") fun y hy => lM (n := n) y (List.mem_of_mem_drop (i := (cK n).1 + (cK n).2) hy)
  have k1 := List.length_take_le' (cK n).1 (dI n)
  have k2 : ((dI n).drop ((cK n).1 + (cK n).2)).length <= 8 := by rw [List.length_drop]; exact Nat.sub_le ..
  show (Str.join ":" ((dI n).take (cK n).1) ++ "::" ++ Str.join ":" ((dI n).drop ((cK n).1 + (cK n).2))).length <= 100
  rw [Str.length_append, Str.length_append]
  exact Nat.le_trans (Nat.add_le_add (Nat.add_le_add (Nat.le_trans h1 (Nat.mul_le_mul_right _ k1)) (Nat.le_refl _)) (Nat.le_trans h2 (Nat.mul_le_mul_right _ k2))) (Nat.le_of_ble_eq_true rfl)
 ·exact Nat.le_trans (jE lM) (Nat.le_of_ble_eq_true rfl)
theorem gZ : (bX nf n).length <= 100 := by unfold bX; cases nf == 10; exact aCG n; exact aHr n
theorem kD {c : Bool} (h : x.length <= 100) : (eA c x).length <= 102 := by
 cases c
 ·exact Nat.le_trans h (by decide)
 ·show (Str.ofString "[" ++ x ++ Str.ofString "]").length <= 102
  rw [Str.length_append, Str.length_append]; exact Nat.add_le_add (Nat.add_le_add (b := 1) (Nat.le_refl _) h) (Nat.le_refl _)
theorem qM (hx : x.length <= 102) (hy : y.length <= 102) : (dG x y).length <= 205 := by
 unfold dG
 cases x == y
 ·show (x ++ (Str.ofString "-" ++ y)).length <= 205
  rw [Str.length_append, Str.length_append]; exact Nat.add_le_add hx (Nat.add_le_add (b := 1) (Nat.le_refl _) hy)
 ·exact Nat.le_trans hx (by decide)
noncomputable def sC (nf : Nat) : PyData := bif nf == 10 then .tuple [.str "ipv6_addr", .int 128] else .tuple [.str "ipv4_addr", .int 32]
theorem aAB (h : TG lt σ) (ha : eU nf n) : aN FT false 130 6 [.inst lt, .d (sC nf), .d (.int n)] σ = .ok (.d (.str (bX nf n))) σ := by
 rcases ha with ⟨rfl, h1⟩ | ⟨rfl, h1, h2⟩
 ·exact aJi h
 ·exact aJj h h1 h2
theorem aA4 (h31 : ρ 31 = some (.d (.str x))) (h32 : ρ 32 = some (.d (.str y))) (h28 : ρ 28 = some (.d (fN ps))) (hx : x.length <= 102) (hy : y.length <= 102) (hp : gY ps) : cJ (dM (cN FT false 140) (f18.body.drop 9) ρ σ (dC σ.length)) = .ok (.d (.str (dG x y ++ poT ps))) σ := by
 rw [<- aO h31, <- aO (ρ := ρ) h32, <- aO (ρ := ρ) h28]
 refine sJ (sL rfl ?_)
 unfold dG
 cases z : x == y
 ·exact sT rfl (sA (Nat.le_refl _) hy fun q => sG hx q fun q => sJ (sJ (sB (bD (aAG hp) (by decide)) (sA q (aAE hp) fun _ => fJ rfl))))
 ·exact sF rfl (sJ (sB (bD (aAG hp) (by decide)) (sA hx (aAE hp) fun _ => fJ rfl)))
theorem aEr {σ : aG} (hT : TG lt σ) (hp : gY ps) (hA : eU nf a) (hB : eU nf b) (h17 : ρ 17 = some (.inst lt)) (h29 : ρ 29 = some (.d (.int nf))) (h30 : ρ 30 = some (.d (Ad.span a b).data)) (h28 : ρ 28 = some (.d (fN ps))) (h18 : ρ 18 = some (.d (sC nf))) :
  cJ (dM (cN FT false 145) (f18.body.drop 4) ρ σ (dC σ.length)) = .ok (.d (.str (dP nf ps (.span a b)))) σ := by
 rw [<- aO h18, <- aO (ρ := ρ) h28, <- aO (ρ := ρ) h30, <- aO (ρ := ρ) h29, <- aO (ρ := ρ) h17]
 refine sJ (sL rfl (sL rfl (sF (by decide) (sJ (sL rfl (sB (bD (aAB hT hA) (by decide)) (sJ (sL rfl (sL rfl (sF (by decide) (sJ (sL rfl (sB (bD (aAB hT hB) (by decide)) (sJ (sL (jB nf 10) ?_)))))))))))))))
 have e : dP nf ps (.span a b) = dG (eA (jC nf ps) (bX nf a)) (eA (jC nf ps) (bX nf b)) ++ poT ps := rfl
 have la := gZ (nf := nf) (n := a)
 have lb := gZ (nf := nf) (n := b)
 rw [e]
 unfold jC
 cases z : nf == 10
 ·exact sF rfl (sF rfl (aA4 rfl rfl rfl (kD (c := false) la) (kD (c := false) lb) hp))
 ·refine sT rfl (sL rfl ?_)
  cases ps with
  | none => exact sF rfl (sF rfl (aA4 rfl rfl rfl (kD (c := false) la) (kD (c := false) lb) hp))
  | some q => exact sT rfl (sT rfl (sA (Nat.le_refl _) la fun q => sA q (Nat.le_refl _) fun _ => sJ (sA (Nat.le_refl _) lb fun q => sA q (Nat.le_refl _) fun _ => sJ (aA4 rfl rfl rfl (kD (c := true) la) (kD (c := true) lb) hp))))
theorem aEs {σ : aG} (hT : TG lt σ) (hA : eU nf b) (hl : l <= 128) (h17 : ρ 17 = some (.inst lt)) (h30 : ρ 30 = some (.d (Ad.net b l).data)) (h18 : ρ 18 = some (.d (sC nf))) :
  cJ (dM (cN FT false 145) (f18.body.drop 4) ρ σ (dC σ.length)) = .ok (.d (.str (bX nf b ++ "/" ++ bE l))) σ := by
 rw [<- aO h18, <- aO (ρ := ρ) h30, <- aO (ρ := ρ) h17]
 have hn : l < 10 ^ 40 := Nat.lt_of_le_of_lt hl (by decide)
 exact sJ (sL rfl (sL rfl (sF (by decide) (sJ (sL rfl (sB (bD (aAB hT hA) (by decide)) (sJ (sL rfl (sL rfl (sT (by decide) (sA gZ (Nat.le_refl _) fun q => sL rfl (sL (jV hn) (sA q (dY hn) fun _ => fJ rfl)))))))))))))
theorem aEt (hT : TG lt σ) (hp : gY ps) (ha : mC nf ad ps) : aN FT false 150 18 [.inst lt, .d (.int nf), .d ad.data, .d (fN ps)] σ = .ok (.d (.str (dP nf ps ad))) σ := by
 refine bA (q := f18) rfl rfl (sL rfl ?_)
 cases ad with
 | no => exact sT rfl (sB (bD (aAG hp) (by decide)) (fJ rfl))
 | net b l =>
  obtain ⟨rfl, hA, hl⟩ := ha
  refine sF rfl (sJ (sL rfl (sL rfl (sT (by decide) (sL rfl (sF rfl (sF rfl (sJ (sJ (sL (jB nf 10) ?_))))))))))
  have k : ∀ {z}, (nf == 10) = z -> sC nf = bif z then .tuple [.str "ipv6_addr", .int 128] else .tuple [.str "ipv4_addr", .int 32] := fun h => by rw [<- h]; rfl
  cases z : nf == 10
  ·exact sF rfl (aEs hT hA hl rfl rfl (by rw [k z]; rfl))
  ·exact sT rfl (sJ (aEs hT hA hl rfl rfl (by rw [k z]; rfl)))
 | span a b =>
  refine sF rfl (sJ (sL rfl (sL rfl (sF (by decide) (sF rfl (sJ (sJ (sL (jB nf 10) ?_))))))))
  have k : ∀ {z}, (nf == 10) = z -> sC nf = bif z then .tuple [.str "ipv6_addr", .int 128] else .tuple [.str "ipv4_addr", .int 32] := fun h => by rw [<- h]; rfl
  cases z : nf == 10
  ·exact sF rfl (aEr hT hp ha.1 ha.2 rfl rfl rfl rfl (by rw [k z]; rfl))
  ·exact sT rfl (sJ (aEr hT hp ha.1 ha.2 rfl rfl rfl rfl (by rw [k z]; rfl)))
end
end PQ
namespace PQ
noncomputable def Ws (N : Nat) (ws : List Str) : Prop := ws.length <= N /\ ∀ y ∈ ws, y.length <= 400
noncomputable def kW (k : Str) (nf : Nat) : List Str := bif k == "snat" || k == "dnat" then [bif nf == 10 then "ip6" else "ip"] else []
noncomputable def pW (ad : Ad) : List Str := Ad.casesOn ad [] (fun _ _ => ["prefix"]) fun _ _ => []
noncomputable def tW (nf : Nat) (ps : Po) (ad : Ad) : List Str := bif eX (.d ad.data) && eX (.d (fN ps)) then [] else ["to", dP nf ps ad]
noncomputable def fW (fl : List Str) : List Str := bif fl.isEmpty then [] else [Str.join "," fl]
noncomputable def sQ (k : Str) (nf : Nat) (ad : Ad) (ps : Po) (fl : List Str) : List Str := k :: (kW k nf ++ (pW ad ++ (tW nf ps ad ++ fW fl)))
section
variable {σ : aG} {ρ : aJ} {lt l nf N M : Nat} {k x : Str} {ad : Ad} {ps : Po} {fl ws vs : List Str} {v : PyData} {o : bN}
theorem Ws.nil : Ws N [] := ⟨Nat.zero_le _, fun _ h => nomatch h⟩
theorem Ws.cons (hx : x.length <= 400) (h : Ws N ws) : Ws (N + 1) (x :: ws) := ⟨Nat.succ_le_succ h.1, fun y hy => (List.mem_cons.mp hy).elim (fun e => e ▸ hx) (h.2 y)⟩
theorem Ws.app (h : Ws N ws) (h' : Ws M vs) : Ws (N + M) (ws ++ vs) := ⟨List.length_append ▸ Nat.add_le_add h.1 h'.1, fun y hy => (List.mem_append.mp hy).elim (h.2 y) (h'.2 y)⟩
theorem Ws.le (h : Ws N ws) (hm : N <= M) : Ws M ws := ⟨Nat.le_trans h.1 hm, h.2⟩
theorem Ws.opt {b : Bool} (h : Ws N ws) : Ws N (dX b ws) := by cases b; exact h; exact .nil
theorem uG : dC σ.length (.ret (.d v)) (σ ++ [o]) = .ok (.d v) σ := by
 show aI.ok _ ((σ ++ [o]).take σ.length) = _
 rw [List.take_left]
theorem iP : aU (mK .append (.loc σ.length) (σ ++ [.lst (ws.map .str)]) = true) (some ()) = some () := tQ (own ..)
theorem qW (h : ws.length <= 1000) : cU (eY .append (.loc σ.length) [.d (.str x)] (σ ++ [.lst (ws.map .str)])) = .ok (.d .none) (σ ++ [.lst ((ws ++ [x]).map .str)]) := by
 rw [tR (own ..) (by rw [List.length_map]; omega), aD3, List.map_append]; rfl
theorem jZ (h : Ws N ws) (hN : N <= 1000 := by decide) : cU (eY .append (.loc σ.length) [.d (.str x)] (σ ++ [.lst (ws.map .str)])) = .ok (.d .none) (σ ++ [.lst ((ws ++ [x]).map .str)]) := qW (Nat.le_trans h.1 hN)
theorem aCM {sep : Str} (B : Nat) (hB : ∀ y ∈ ws, y.length <= B) (h : ws.length * B + ws.length * sep.length <= 16777216) : cU (eY .join (.d (.str sep)) [.loc σ.length] (σ ++ [.lst (ws.map .str)])) = .ok (.d (.str (Str.join sep ws))) (σ ++ [.lst (ws.map .str)]) := by
 show cU (((((fZ (σ ++ [bN.lst (ws.map .str)]) σ.length).map PyData.list).bind _)).bind _) = _
 rw [lO (own ..)]
 show cU (((pR sep (ws.map .str)).or none).map _) = _
 rw [zO B hB h]; rfl
noncomputable abbrev nE (lt l : Nat) (k : Str) (nf : Nat) (ad : Ad) (ps : Po) (fl : List Str) : aJ := (((((((aJ.set (fun _ => none) 22 (.d (St.nat k nf ad ps fl).data)).set 17 (.inst lt)).set 18 (.d (.str k))).set 29 (.d (.int nf))).set 30 (.d ad.data)).set 28 (.d (fN ps))).set 33 (.d (.tuple (fl.map .str)))).set 34 (.loc l)
theorem aC2 (hw : Ws 6 ws) : cJ (dM (cN FT false 183) (f19.body.drop 6) (nE lt σ.length k nf ad ps fl) (σ ++ [.lst (ws.map .str)]) (dC σ.length)) = .ok (.d (.str (bG ws))) σ :=
 sJ (sL rfl (sB (aCM 400 hw.2 (Nat.le_trans (Nat.add_le_add (Nat.mul_le_mul_right _ hw.1) (Nat.mul_le_mul_right _ hw.1)) (Nat.le_of_ble_eq_true rfl))) uG))
theorem Ws.one (hx : x.length <= 400) : Ws 1 [x] := Ws.cons hx Ws.nil
theorem aAe (hw : Ws 5 ws) (hf : fl ∈ gP) : cJ (dM (cN FT false 184) (f19.body.drop 5) (nE lt σ.length k nf ad ps fl) (σ ++ [.lst (ws.map .str)]) (dC σ.length)) = .ok (.d (.str (bG (ws ++ fW fl)))) σ := by
 have go : ∀ fl : List Str, fl.isEmpty = false -> fl.length <= 2 -> (∀ y ∈ fl, y.length <= 10) -> cJ (dM (cN FT false 184) (f19.body.drop 5) (nE lt σ.length k nf ad ps fl) (σ ++ [.lst (ws.map .str)]) (dC σ.length)) = .ok (.d (.str (bG (ws ++ fW fl)))) σ := fun fl h0 h1 h2 => by
  have len : dT false .len [.d (.tuple (fl.map .str))] (σ ++ [.lst (ws.map .str)]) = some (.d (.int (fl.map PyData.str).length)) := congrArg (Option.map aB.d) (cG (show (fl.map PyData.str).length < 2 ^ 62 by rw [List.length_map]; exact Nat.lt_of_le_of_lt h1 (by decide)))
  have e : fW fl = [Str.join "," fl] := by unfold fW; rw [h0]; rfl
  have jl : (Str.join "," fl).length <= 400 := Nat.le_trans (jE h2) (Nat.le_trans (Nat.mul_le_mul_right _ h1) (Nat.le_of_ble_eq_true rfl))
  rw [e]
  refine sJ (sL len (sL (gQ (fl.map PyData.str).length 0) (sT (decide_eq_true ?_) (sL iP (sL rfl (sB (aHE 10 h2 (Nat.le_trans (Nat.add_le_add (Nat.mul_le_mul_right _ h1) (Nat.mul_le_mul_right _ h1)) (Nat.le_of_ble_eq_true rfl))) (sB (jZ hw) (sJ (aC2 (hw.app (.one jl)))))))))))
  rw [List.length_map]
  exact List.length_pos_iff.mpr fun z => by rw [z] at h0; cases h0
 rcases List.mem_cons.mp hf with rfl | hf
 ·rw [show fW [] = [] from rfl, List.append_nil]
  exact sJ (sL rfl (sL rfl (sF rfl (aC2 (hw.le (by decide))))))
 ·exact (by decide : ∀ fl ∈ gP.tail, fl.isEmpty = false /\ fl.length <= 2 /\ ∀ y ∈ fl, y.length <= 10) fl hf |>.elim fun a b => go fl a b.1 b.2
theorem aEq (hp : gY ps) (ha : mC nf ad ps) : (dP nf ps ad).length <= 400 := by
 have pl := aAE hp
 cases ad with
 | no => exact Nat.le_trans pl (by decide)
 | net b m =>
  show (bX nf b ++ Str.ofString "/" ++ bE m).length <= 400
  rw [Str.length_append, Str.length_append]
  exact Nat.le_trans (Nat.add_le_add (Nat.add_le_add gZ (Nat.le_refl _)) (dY (Nat.lt_of_le_of_lt ha.2.2 (by decide)))) (Nat.le_of_ble_eq_true rfl)
 | span a b =>
  show (dG _ _ ++ poT ps).length <= 400
  rw [Str.length_append]
  exact Nat.le_trans (Nat.add_le_add (qM (kD gZ) (kD gZ)) pl) (by decide)
theorem aEv (hT : TG lt σ) : TG lt (σ ++ [o]) := by
 unfold TG at hT ⊢
 rw [List.getElem?_append_left (List.getElem?_eq_some_iff.mp hT).1, hT]
theorem aAd (hw : Ws 3 ws) (hf : fl ∈ gP) (hT : TG lt σ) (hp : gY ps) (ha : mC nf ad ps) : cJ (dM (cN FT false 185) (f19.body.drop 4) (nE lt σ.length k nf ad ps fl) (σ ++ [.lst (ws.map .str)]) (dC σ.length)) = .ok (.d (.str (bG (ws ++ (tW nf ps ad ++ fW fl))))) σ := by
 rw [<- List.append_assoc]
 unfold tW
 have l2 : (Str.ofString "to").length <= 400 := by decide
 have e : ws ++ [Str.ofString "to", dP nf ps ad] = ws ++ [Str.ofString "to"] ++ [dP nf ps ad] := by rw [List.append_assoc]; rfl
 have w5 := (hw.app (.one l2)).app (.one (aEq hp ha))
 refine sJ (sL rfl ?_)
 cases z : eX (.d ad.data)
 ·rw [show (false && eX (.d (fN ps))) = false from rfl, cond_false, e]
  exact sF rfl (sT rfl (sL iP (sB (jZ hw) (sJ (sL iP (sB (bD (aEt (aEv hT) hp ha) (by decide)) (sB (jZ (hw.app (.one l2))) (sJ (aAe w5 hf)))))))))
 ·refine sT rfl (sL rfl ?_)
  cases y : eX (.d (fN ps))
  ·rw [show (true && false) = false from rfl, cond_false, e]
   exact sF rfl (sT rfl (sL iP (sB (jZ hw) (sJ (sL iP (sB (bD (aEt (aEv hT) hp ha) (by decide)) (sB (jZ (hw.app (.one l2))) (sJ (aAe w5 hf)))))))))
  ·rw [show (true && true) = true from rfl, cond_true, List.append_nil]
   exact sT rfl (sF rfl (aAe (hw.le (by decide)) hf))
theorem sR (hw : Ws 2 ws) (hf : fl ∈ gP) (hT : TG lt σ) (hp : gY ps) (ha : mC nf ad ps) : cJ (dM (cN FT false 186) (f19.body.drop 3) (nE lt σ.length k nf ad ps fl) (σ ++ [.lst (ws.map .str)]) (dC σ.length)) = .ok (.d (.str (bG (ws ++ (pW ad ++ (tW nf ps ad ++ fW fl)))))) σ := by
 rw [<- List.append_assoc]
 cases ad with
 | no => exact sJ (sL rfl (sF rfl (sF rfl (by rw [show ws ++ pW .no = ws from List.append_nil _]; exact aAd (hw.le (by decide)) hf hT hp ha))))
 | net b m => exact sJ (sL rfl (sT rfl (sL rfl (sL rfl (sT (by decide) (sT rfl (sL iP (sB (jZ hw) (sJ (aAd (hw.app (.one (by decide))) hf hT hp ha))))))))))
 | span b m => exact sJ (sL rfl (sT rfl (sL rfl (sL rfl (sF (by decide) (sF (by decide) (by rw [show ws ++ pW (.span b m) = ws from List.append_nil _]; exact aAd (hw.le (by decide)) hf hT hp ha)))))))
theorem aII (hk : k.length <= 10) (hf : fl ∈ gP) (hT : TG lt σ) (hp : gY ps) (ha : mC nf ad ps) : cJ (dM (cN FT false 187) (f19.body.drop 2) (nE lt σ.length k nf ad ps fl) (σ ++ [.lst ([k].map .str)]) (dC σ.length)) = .ok (.d (.str (bG (sQ k nf ad ps fl)))) σ := by
 have e : sQ k nf ad ps fl = ([k] ++ kW k nf) ++ (pW ad ++ (tW nf ps ad ++ fW fl)) := by rw [List.append_assoc]; rfl
 have w1 : Ws 1 [k] := .one (Nat.le_trans hk (by decide))
 rw [e]
 unfold kW
 refine sJ (sL rfl ?_)
 cases z : k == "snat"
 ·refine sT rfl (sL rfl ?_)
  cases y : k == "dnat"
  ·exact sT rfl (sF rfl (sR (w1.le (by decide)) hf hT hp ha))
  ·refine sF rfl (sT rfl (sL iP (sL (jB nf 10) ?_)))
   cases x : nf == 10
   ·exact sF rfl (sB (jZ w1) (sJ (sR (w1.app (.one (by decide))) hf hT hp ha)))
   ·exact sT rfl (sB (jZ w1) (sJ (sR (w1.app (.one (by decide))) hf hT hp ha)))
 ·refine sF rfl (sT rfl (sL iP (sL (jB nf 10) ?_)))
  cases x : nf == 10
  ·exact sF rfl (sB (jZ w1) (sJ (sR (w1.app (.one (by decide))) hf hT hp ha)))
  ·exact sT rfl (sB (jZ w1) (sJ (sR (w1.app (.one (by decide))) hf hT hp ha)))
theorem mT (h : (St.nat k nf ad ps fl).Ok) : k ∈ fT ++ iK /\ mC nf ad ps := by
 rcases h.2.2 with ⟨h0, hk, rfl⟩ | ⟨h0, hk, ha⟩
 ·exact ⟨List.mem_append.mpr (.inr hk), trivial⟩
 ·refine ⟨List.mem_append.mpr (.inl hk), ?_⟩
  cases ad with
  | no => exact trivial
  | net b m => exact ha
  | span a b => exact ha
theorem aJu (hT : TG lt σ) (h : (St.nat k nf ad ps fl).Ok) : aN FT false 190 19 [.inst lt, .d (St.nat k nf ad ps fl).data] σ = .ok (.d (.str (bG (sQ k nf ad ps fl)))) σ := by
 obtain ⟨hk, ha⟩ := mT h
 have hk : k.length <= 10 := (by decide : ∀ k ∈ fT ++ iK, k.length <= 10) k hk
 exact bA (q := f19) rfl rfl (sL rfl (sJ (aII hk h.2.1 hT h.1 ha)))
end
end PQ
namespace PQ
noncomputable def okc (c : Nat) : Bool := Nat.ble 33 c && (Nat.blt c 128 && !Nat.beq c 34)
noncomputable def AO (w : Str) : Prop := (cl w).all okc = true
noncomputable def mQ (w : Str) : Bool := (cl w).all okc && (!(cl w).isEmpty && Nat.ble w.length 400)
noncomputable def Wl (N : Nat) (ws : List Str) : Prop := ws.length <= N /\ ∀ y ∈ ws, gJ y /\ y.length <= 400
section
variable {N M n nf c g : Nat} {x y w sep t u m k : Str} {ws vs ts : List Str} {b : Bool} {p ps : Po} {ad : Ad} {fl : List Str} {P : Nat -> Prop}
theorem Wl.nil : Wl 0 [] := ⟨Nat.le_refl _, fun _ h => nomatch h⟩
theorem Wl.none : Wl N [] := ⟨Nat.zero_le _, fun _ h => nomatch h⟩
theorem Wl.cons (hx : gJ x /\ x.length <= 400) (h : Wl N ws) : Wl (N + 1) (x :: ws) := ⟨Nat.succ_le_succ h.1, fun y hy => (List.mem_cons.mp hy).elim (fun e => e ▸ hx) (h.2 y)⟩
theorem Wl.app (h : Wl N ws) (h' : Wl M vs) : Wl (N + M) (ws ++ vs) := ⟨List.length_append ▸ Nat.add_le_add h.1 h'.1, fun y hy => (List.mem_append.mp hy).elim (h.2 y) (h'.2 y)⟩
theorem Wl.le (h : Wl N ws) (hm : N <= M) : Wl M ws := ⟨Nat.le_trans h.1 hm, h.2⟩
theorem Wl.opt (h : Wl N ws) : Wl N (dX b ws) := by cases b; exact h; exact .none
theorem aI4 (h : okc c = true) : 33 <= c /\ c < 128 /\ c ≠ 34 := ⟨Nat.le_of_ble_eq_true (aA h).1, Nat.le_of_ble_eq_true (aA (aA h).2).1, fun e => by rw [e] at h; cases h⟩
theorem aDd (h : 33 <= c /\ c < 128 /\ c ≠ 34) : okc c = true := by
 unfold okc
 rw [Nat.ble_eq_true_of_le h.1, show Nat.blt c 128 = true from Nat.ble_eq_true_of_le h.2.1, show Nat.beq c 34 = false from Bool.eq_false_iff.mpr fun e => h.2.2 (Nat.eq_of_beq_eq_true e)]; rfl
theorem AO.app (hx : AO x) (hy : AO y) : AO (x ++ y) := by
 unfold AO at hx hy ⊢
 rw [cE, List.all_append, hx, hy]; rfl
theorem tJ (h : AO w) (h0 : cl w ≠ []) (hl : w.length <= 400) : gJ w /\ w.length <= 400 := by
 have h : ∀ c ∈ cl w, 33 <= c /\ c < 128 /\ c ≠ 34 := fun c hc => aI4 (List.all_eq_true.mp h c hc)
 refine ⟨⟨fun c hc => (h c hc).2.1, .inl ?_⟩, hl⟩
 cases hw : cl w with
 | nil => exact absurd hw h0
 | cons c r =>
  rw [hw] at h
  exact ⟨c, r, rfl, (h c (.head _)).2.2, fun hm => absurd (h 32 hm).1 (by decide)⟩
theorem kM (h : mQ w = true) : gJ w /\ w.length <= 400 := tJ (aA h).1 (fun e => by have := (aA (aA h).2).1; rw [e] at this; cases this) (Nat.le_of_ble_eq_true (aA (aA h).2).2)
theorem vD (hw : w ∈ ws) (h : ws.all mQ = true) : gJ w /\ w.length <= 400 := kM (List.all_eq_true.mp h w hw)
theorem oI (n : Nat) : AO (bE n) := List.all_eq_true.mpr fun c hc => aDd (by have := oH n c hc; omega)
theorem qC (h : n < 10 ^ 40) : gJ (bE n) /\ (bE n).length <= 400 := tJ (oI n) (qB n) (Nat.le_trans (dY h) (by decide))
theorem zC (h : g < 65536) : AO (iR g) /\ cl (iR g) ≠ [] := by
 obtain ⟨D, h1, _, h3, _, h5⟩ := zB 4 g [] h
 have e : cl (iR g) = D := h1.trans (List.append_nil _)
 refine ⟨List.all_eq_true.mpr fun c hc => aDd ?_, e ▸ h5 rfl (by decide)⟩
 rw [e] at hc
 have := h3 c hc
 unfold jP at this; omega
theorem vA (hs : AO sep) (h : ∀ t ∈ ts, AO t) : AO (Str.join sep ts) := by
 induction ts with
 | nil => exact (rfl : ([] : List Nat).all okc = true)
 | cons x ts ih => cases ts with
  | nil => exact h x (.head _)
  | cons y r => exact ((h x (.head _)).app hs).app (ih fun t ht => h t (.tail _ ht))
theorem aHp (n : Nat) : AO (lK n) := vA (by unfold AO; decide) fun t ht => (List.mem_map.mp ht).elim fun s q => q.2 ▸ oI _
theorem zL : ∀ y ∈ dI n, AO y := fun y hy => (List.mem_map.mp hy).elim fun g q => q.2 ▸ (zC (mM q.1)).1
theorem aHs (n : Nat) : AO (gD n) := by
 have hs : AO ":" := by unfold AO; decide
 unfold gD
 cases decide ((cK n).2 < 2)
 ·exact ((vA hs fun y hy => zL y (List.mem_of_mem_take hy)).app (by unfold AO; decide)).app (vA hs fun y hy => zL y (List.mem_of_mem_drop hy))
 ·exact vA hs zL
theorem wX : AO (bX nf n) := by unfold bX; cases nf == 10; exact aHp n; exact aHs n
theorem aDC (p : Po) : AO (poT p) := by
 cases p with
 | none => exact (by decide : (cl "").all okc = true)
 | some q =>
  show AO (bif q.1 == q.2 then _ else _)
  have c1 : AO ":" := by unfold AO; decide
  cases q.1 == q.2
  ·exact ((c1.app (oI _)).app (by unfold AO; decide)).app (oI _)
  ·exact c1.app (oI _)
theorem aBM (h : AO x) : AO (eA b x) := by
 cases b
 ·exact h
 ·exact (AO.app (by unfold AO; decide) h).app (by unfold AO; decide)
theorem aLm (hx : AO x) (hy : AO y) : AO (dG x y) := by
 unfold dG
 cases x == y
 ·exact hx.app (AO.app (by unfold AO; decide) hy)
 ·exact hx
theorem aLI (nf : Nat) (ps : Po) (ad : Ad) : AO (dP nf ps ad) := by
 cases ad with
 | no => exact aDC ps
 | net b l => exact (wX.app (by unfold AO; decide)).app (oI l)
 | span a b => exact (aLm (aBM wX) (aBM wX)).app (aDC ps)
theorem hM (h : cl x ≠ []) : cl (x ++ y) ≠ [] := by
 rw [cE]; exact fun e => h (List.append_eq_nil_iff.mp e).1
theorem aBx (h : cl y ≠ []) : cl (x ++ y) ≠ [] := by
 rw [cE]; exact fun e => h (List.append_eq_nil_iff.mp e).2
theorem aCQ (h : cl x ≠ []) : cl (Str.join sep (x :: ts)) ≠ [] := by
 cases ts with
 | nil => exact h
 | cons y r => exact hM (hM h)
theorem nK : cl (bX nf n) ≠ [] := by
 unfold bX
 cases nf == 10
 ·exact aCQ (qB _)
 ·show cl (gD n) ≠ []
  unfold gD
  cases decide ((cK n).2 < 2)
  ·exact hM (aBx (by decide))
  ·exact aCQ (zC (Nat.mod_lt _ (by decide))).2
theorem aEB (r : Nat) : mQ (gX r) = true := match r with
 | 0 | 1 | 2 | 3 => by decide
 | _ + 4 => show mQ "gbytes" = true by decide
theorem aAW (h : n < 10 ^ 40) : Wl 2 (eG M n) := .cons (qC (sY h)) (.cons (kM (aEB _)) .nil)
theorem aAA (b : Bool) : Wl 1 (iI b) := by cases b; exact .none; exact .cons (kM (by decide)) .nil
theorem vT (h : t ∈ gI) (hp : fV t) : gJ (cX t) /\ (cX t).length <= 400 := by
 have hq : cl (cX t) = 34 :: cl t ++ [34] := by unfold cX; rw [cE, cE, lE]; rfl
 have ha := (by decide : ∀ t ∈ gI, (∀ c ∈ cl t, c < 128) /\ t.length <= 11) t h
 refine ⟨⟨?_, .inr ⟨cl t, hq, hp.1⟩⟩, by rw [nA]; exact Nat.le_trans (Nat.add_le_add_right ha.2 2) (by decide)⟩
 rw [hq]
 intro c hc
 rcases List.mem_append.mp hc with hc | hc
 ·rcases List.mem_cons.mp hc with rfl | hc
  ·decide
  ·exact ha.1 c hc
 ·rw [List.mem_singleton.mp hc]; decide
theorem aFN (hm : m ∈ gG) (hc : c < 256) : gJ (jN m c) /\ (jN m c).length <= 400 := by
 unfold jN
 cases h : (gK m).find? fun p => p.2 == c with
 | none => exact qC (Nat.lt_trans hc (by decide))
 | some p => exact kM ((by decide : ∀ m ∈ gG, ∀ p ∈ gK m, mQ p.1 = true) m hm p (List.mem_of_find?_eq_some h))
theorem aIJ (h : (St.nat k nf ad ps fl).Ok) : Wl 6 (sQ k nf ad ps fl) := by
 obtain ⟨hk, ha⟩ := mT h
 refine .cons (vD hk (by decide)) (Wl.app (N := 1) ?_ (Wl.app (N := 1) ?_ (Wl.app (N := 2) ?_ (?_ : Wl 1 _))))
 ·unfold kW
  cases k == "snat" || k == "dnat"
  ·exact .none
  ·exact .cons (by cases nf == 10 <;> exact kM (by decide)) .nil
 ·cases ad with
  | net b l => exact .cons (kM (by decide)) .nil
  | _ => exact .none
 ·unfold tW
  cases z : eX (.d ad.data) && eX (.d (fN ps))
  ·refine .cons (kM (by decide)) (.cons (tJ (aLI nf ps ad) ?_ (aEq h.1 ha)) .nil)
   have hb : ∀ b x, cl x ≠ [] -> cl (eA b x) ≠ [] := fun b x hx => by
    cases b
    ·exact hx
    ·exact hM (hM (by decide))
   cases ad with
   | no => cases ps with
    | none => cases z
    | some q =>
     show cl (bif q.1 == q.2 then _ else _) ≠ []
     cases q.1 == q.2
     ·exact hM (hM (hM (by decide)))
     ·exact hM (by decide)
   | net b l => exact hM (hM nK)
   | span a b =>
    refine hM ?_
    unfold dG
    cases eA (jC nf ps) (bX nf a) == eA (jC nf ps) (bX nf b)
    ·exact hM (hb _ _ nK)
    ·exact hb _ _ nK
  ·exact .none
 ·unfold fW
  cases z : fl.isEmpty
  ·exact .cons (kM ((by decide : ∀ fl ∈ gP, fl.isEmpty = true \/ mQ (Str.join "," fl) = true) fl h.2.1 |>.resolve_left (by rw [z]; decide))) .nil
  ·exact .none
noncomputable def St.words (s : St) : List Str := St.casesOn s (fun v w => ["counter", "packets", bE v, "bytes", bE w]) (fun b v w => "quota" :: (iI b ++ (eG 3 v ++ dX ((w : Int) == 0) ("used" :: eG 3 w)))) kL
 (fun m t => [m, "name", cX t]) pT iJ ["notrack"] (fun t => ["ct", "expectation", "set", cX t]) (fun t => ["flow", "add", "@" ++ t]) sQ
noncomputable def St.fn (s : St) : Nat := St.casesOn s (fun _ _ => 9) (fun _ _ _ => 10) (fun _ _ _ _ _ => 11) (fun _ _ => 12) (fun _ _ => 14) (fun _ _ => 15) 16 (fun _ => 20) (fun _ => 21) (fun _ _ _ _ _ => 19)
noncomputable def St.key (s : St) : Str := St.casesOn s (fun _ _ => "counter") (fun _ _ _ => "quota") (fun _ _ _ _ _ => "limit") (fun _ _ => "object") (fun _ _ => "log") (fun _ _ => "reject") "notrack" (fun _ => "expect") (fun _ => "flow") (fun _ _ _ _ _ => "nat")
noncomputable def St.Good (s : St) : Prop := St.casesOn s (fun _ _ => True) (fun _ _ _ => True) (fun _ _ _ _ _ => True) (fun _ t => fV t) (fun t _ => fV t) (fun _ _ => True) True (fun t => fV t) (fun _ => True) (fun _ _ _ _ _ => True)
theorem kX (h : t ∈ gI) : t.length <= 11 := (by decide : ∀ t ∈ gI, t.length <= 11) t h
theorem aEJ {s : St} (h : s.Ok) (hg : s.Good) : s.words ≠ [] /\ Wl 12 s.words := by
 have lit : ∀ {w : Str}, mQ w = true -> gJ w /\ w.length <= 400 := kM
 cases s with
 | counter v w => exact ⟨(fun e => nomatch e), Wl.le (.cons (lit (by decide)) (.cons (lit (by decide)) (.cons (qC (cO h.1)) (.cons (lit (by decide)) (.cons (qC (cO h.2)) .nil))))) (by decide : 5 <= 12)⟩
 | quota b v w => exact ⟨(fun e => nomatch e), Wl.le (.cons (lit (by decide)) ((aAA b).app ((aAW (cO h.1)).app (.opt (.cons (lit (by decide)) (aAW (cO h.2))))))) (by decide)⟩
 | limit b v u w o =>
  have hu := (by decide : ∀ u ∈ nC, (cl u).all okc = true /\ u.length <= 11) u h.2.2
  have c1 : AO "/" := by unfold AO; decide
  have us := aEB (bY 2 v).2
  cases o
  ·refine ⟨(fun e => nomatch e), Wl.le (.cons (lit (by decide)) (.cons (lit (by decide)) ((aAA b).app (.cons (tJ ((oI v).app (c1.app hu.1)) (hM (qB v)) ?_) (.cons (lit (by decide)) (.cons (qC (cO h.2.1)) (.cons (lit (by decide)) .nil))))))) (by decide)⟩
   rw [Str.length_append, Str.length_append]
   exact Nat.le_trans (Nat.add_le_add (dY (cO h.1)) (Nat.add_le_add_left hu.2 _)) (Nat.le_of_ble_eq_true rfl)
  ·refine ⟨(fun e => nomatch e), Wl.le (.cons (lit (by decide)) (.cons (lit (by decide)) ((aAA b).app (Wl.app (.cons (qC (sY (cO h.1))) (.cons (tJ (AO.app (aA us).1 (c1.app hu.1)) (aBx (hM (by decide))) ?_) .nil)) (.opt (.cons (lit (by decide)) (aAW (cO h.2.1)))))))) (by decide)⟩
   rw [Str.length_append, Str.length_append]
   exact Nat.le_trans (Nat.add_le_add (wK _) (Nat.add_le_add_left hu.2 _)) (Nat.le_of_ble_eq_true rfl)
 | object m t => exact ⟨(fun e => nomatch e), Wl.le (.cons (vD h.1 (by decide)) (.cons (lit (by decide)) (.cons (vT h.2 hg) .nil))) (by decide : 3 <= 12)⟩
 | log t l => exact ⟨(fun e => nomatch e), Wl.le (.cons (lit (by decide)) (Wl.app (.opt (.cons (lit (by decide)) (.cons (vT h.1 hg) .nil))) (.opt (.cons (lit (by decide)) (.cons (vD h.2 (by decide)) .nil))))) (by decide : 5 <= 12)⟩
 | reject m c =>
  show iJ m c ≠ [] /\ Wl 12 (iJ m c)
  unfold iJ
  cases z : m == "tcp"
  ·exact ⟨(fun e => nomatch e), Wl.le (.cons (lit (by decide)) (.cons (lit (by decide)) (.cons (vD h.1 (by decide)) (.cons (aFN (zP h.1 z) h.2.1) .nil)))) (by decide : 4 <= 12)⟩
  ·exact ⟨(fun e => nomatch e), Wl.le (.cons (lit (by decide)) (.cons (lit (by decide)) (.cons (lit (by decide)) (.cons (lit (by decide)) .nil)))) (by decide : 4 <= 12)⟩
 | notrack => exact ⟨(fun e => nomatch e), Wl.le (.cons (lit (by decide)) .nil) (by decide : 1 <= 12)⟩
 | expect t => exact ⟨(fun e => nomatch e), Wl.le (.cons (lit (by decide)) (.cons (lit (by decide)) (.cons (lit (by decide)) (.cons (vT h hg) .nil)))) (by decide : 4 <= 12)⟩
 | flow t =>
  exact ⟨(fun e => nomatch e), Wl.le (.cons (lit (by decide)) (.cons (lit (by decide)) (.cons (lit ((by decide : ∀ t ∈ oO, mQ ("@" ++ t) = true) t h)) .nil))) (by decide : 3 <= 12)⟩
 | nat k nf ad ps fl => exact ⟨(fun e => nomatch e), (aIJ h).le (by decide)⟩
end
end PQ
namespace PQ
noncomputable def lV : List (Str × aB) := [("counter", .fn 9), ("quota", .fn 10), ("limit", .fn 11), ("object", .fn 12), ("nat", .fn 19), ("expect", .fn 20), ("flow", .fn 21), ("log", .fn 14), ("reject", .fn 15), ("notrack", .fn 16)]
noncomputable def PRd (lp : Nat) (σ : aG) : Prop := σ[lp]? = some (.dct lV)
noncomputable def dA (ss : List St) (c : Str) : List (List Str) := ss.map St.words ++ bif c == "" then [] else [[Str.ofString "comment", cX c]]
noncomputable def nI (ss : List St) (c : Str) : Prop := (∀ s ∈ ss, s.Good) /\ fV c
section
variable {σ : aG} {ρ : aJ} {lt lp c x n l : Nat} {s : St} {t k w cm : Str} {v : aB} {kvs : List (Str × aB)} {ss : List St} {elt : aK} {α β : Type} {hb : Bool}
theorem aJA (hT : TG lt σ) (h : s.Ok) (hg : s.Good) : aN FT false 190 s.fn [.inst lt, .d s.data] σ = .ok (.d (.str (bG s.words))) σ := by
 cases s with
 | counter v w => exact aJn h.1 h.2
 | quota b v w => exact aJy h.1 h.2
 | limit b v u w o => exact aJr h.1 h.2.1 ((by decide : ∀ u ∈ nC, u.length <= 11) u h.2.2)
 | object m t => exact aJw ((by decide : ∀ u ∈ iX, u.length <= 11) m h.1) (kX h.2) hg
 | log t l => exact aJs (kX h.1) ((by decide : ∀ u ∈ wC, u.length <= 11) l h.2) hg
 | reject m c => exact aJz hT h.1 h.2.1
 | notrack => exact aJv
 | expect t => exact aJo (kX h) hg
 | flow t => exact aJq ((by decide : ∀ u ∈ oO, u.length <= 11) t h)
 | nat k nf ad ps fl => exact aJu hT h
theorem aJB (h : s.Ok) (hg : ¬s.Good) : aN FT false 190 s.fn [.inst lt, .d s.data] σ = .exc mD := by
 cases s with
 | object m t => exact aJx ((by decide : ∀ u ∈ iX, u.length <= 11) m h.1) hg
 | log t l => exact aJt hg
 | expect t => exact aJp hg
 | _ => exact absurd trivial hg
theorem sK (s : St) : fD s.key lV = some (.fn s.fn) := by cases s <;> rfl
theorem rV (s : St) : dW σ (.d s.data) (.d (.int 0)) = some (.d (.str s.key)) := by cases s <;> rfl
theorem aC6 (h : σ[l]? = some (.dct kvs)) (e : fD k kvs = some v) : bR .notIn (.d (.str k)) (.loc l) σ = some (bV false) := by
 show (((hZ σ l).bind fun kvs => some (fD k kvs).isSome).map fun r => bV (!r)).or _ = _
 rw [yM h]
 show (some (bV !(fD k kvs).isSome)).or _ = _
 rw [e]; rfl
theorem aLv (hP : PRd lp σ) (hT : TG lt σ) (h : s.Ok) (hg : s.Good) : aN FT false 200 23 [.inst lt, .loc lp, .d s.data] σ = .ok (.d (.str (bG s.words))) σ :=
 bA (q := f23) rfl rfl (sL (rV s) (sL (aC6 hP (sK s)) (sF rfl (sJ (sL (rV s) (sL (kJ hP (sK s)) (sB (bD (aJA hT h hg) (by decide)) (bL rfl))))))))
theorem aEg (hP : PRd lp σ) (h : s.Ok) (hg : ¬s.Good) : aN FT false 200 23 [.inst lt, .loc lp, .d s.data] σ = .exc mD :=
 bA (q := f23) rfl rfl (sL (rV s) (sL (aC6 hP (sK s)) (sF rfl (sJ (sL (rV s) (sL (kJ hP (sK s)) (sX (mE (aJB h hg) (by decide)))))))))
theorem aFq (g : α -> PyData) (f : α -> PyData) (as : List α) (h : ∀ s ∈ as, aP FT hb c elt (ρ.set x (.d (g s))) σ = .ok (.d (f s)) σ \/ aP FT hb c elt (ρ.set x (.d (g s))) σ = .exc w) (hx : ∃ s ∈ as, aP FT hb c elt (ρ.set x (.d (g s))) σ = .exc w) : cY FT hb (as.length + c + 2) elt x none (as.map g) ρ σ = .exc w := by
 induction as with
 | nil => exact hx.elim fun s q => nomatch q.1
 | cons s as ih =>
  rw [List.length_cons, show as.length + 1 + c + 2 = as.length + c + 2 + 1 by omega]
  show (aP FT hb (as.length + c + 2) elt (ρ.set x (.d (g s))) σ).bind _ = _
  rcases h s (.head _) with e | e
  ·have z := ih (fun s hs => h s (.tail _ hs)) (hx.elim fun s' q => (List.mem_cons.mp q.1).elim (fun q2 => nomatch (q2 ▸ q.2).symm.trans e) fun q2 => ⟨s', q2, q.2⟩)
   rw [uF e (show c <= as.length + c + 2 by omega) (fun q => nomatch q)]
   show (cY FT hb (as.length + c + 2) elt x none (as.map g) ρ σ).bind _ = _
   rw [z]; rfl
  ·rw [uF e (show c <= as.length + c + 2 by omega) (fun q => nomatch q)]; rfl
theorem aHC (ls : List (List Str)) (h : ∀ l ∈ ls, l ≠ []) : Str.join bT (ls.map bG) = bG ls.flatten := by
 have app : ∀ (l X : List Str), l ≠ [] -> X ≠ [] -> bG (l ++ X) = bG l ++ bT ++ bG X := fun l X hl hX => by
  induction l with
  | nil => exact absurd rfl hl
  | cons a l ih => cases l with
   | nil => cases X with
    | nil => exact absurd rfl hX
    | cons x X => rfl
   | cons b l =>
    have z := ih (fun e => nomatch e)
    show a ++ bT ++ bG (b :: l ++ X) = (a ++ bT ++ bG (b :: l)) ++ bT ++ bG X
    rw [z]
    simp only [eM]
 induction ls with
 | nil => rfl
 | cons l ls ih => cases ls with
  | nil => rw [List.flatten_cons, List.flatten_nil, List.append_nil]; rfl
  | cons m r =>
   have z := ih fun z hz => h z (.tail _ hz)
   show bG l ++ bT ++ Str.join bT ((m :: r).map bG) = _
   rw [z, List.flatten_cons (l := l), app l _ (h l (.head _)) fun e => h m (.tail _ (.head _)) (List.append_eq_nil_iff.mp (List.flatten_cons ▸ e)).1]
theorem aHA {N : Nat} {ws : List Str} (h : Wl N ws) : (bG ws).length <= N * 401 := Nat.le_trans (jE fun y hy => (h.2 y hy).2) (Nat.mul_le_mul_right 401 h.1)
theorem aJ3 (h : ∀ s ∈ ss, s.Ok) (hc : cm.length <= 20) (hg : nI ss cm) : ∀ l ∈ dA ss cm, l ≠ [] /\ l.length <= 12 /\ ∀ y ∈ l, y.length <= 400 := fun l hl => by
 unfold dA at hl
 rcases List.mem_append.mp hl with hl | hl
 ·obtain ⟨s, hs, rfl⟩ := List.mem_map.mp hl
  have z := aEJ (h s hs) (hg.1 s hs)
  exact ⟨z.1, z.2.1, fun y hy => (z.2.2 y hy).2⟩
 ·cases z : cm == ""
  ·rw [z] at hl
   obtain rfl := List.mem_singleton.mp hl
   refine ⟨(fun e => nomatch e), Nat.le_of_ble_eq_true rfl, fun y hy => ?_⟩
   rcases List.mem_cons.mp hy with rfl | hy
   ·decide
   ·rw [List.mem_singleton.mp hy, nA]; omega
  ·rw [z] at hl; cases hl
noncomputable abbrev rE0 (lt lp : Nat) (ss : List St) (c : Str) : aJ := ((((aJ.set (fun _ => none) 37 (.d (.str c))).set 36 (.d (.tuple (ss.map St.data)))).set 35 (.loc lp)).set 17 (.inst lt))
theorem aA9 (hP : PRd lp σ) (hT : TG lt σ) (h : s.Ok) (hg : s.Good) : aP FT false 210 (.call 23 [.var 17, .var 35, .var 22]) ((rE0 lt lp ss cm).set 22 (.d s.data)) σ = .ok (.d (.str (bG s.words))) σ := e_c.trans (sB (bD (aLv hP hT h hg) (by decide)) rfl)
theorem aCL {xs : List PyData} (h : xs.length <= 1000) : ((fY false .seq (.tuple xs)).bind fun is => aU (is.length <= 1000) (some is)) = some xs := cG h
theorem aJ5 (hP : PRd lp σ) (hT : TG lt σ) (h : ∀ s ∈ ss, s.Ok) (hn : ss.length <= 10) (hc : cm.length <= 20) (hg : nI ss cm) : aN FT false 250 24 [.inst lt, .loc lp, .d (.tuple (ss.map St.data)), .d (.str cm)] σ = .ok (.d (.str (bG (dA ss cm).flatten))) σ := by
 have hw := aJ3 h hc hg
 have hd : (ss.map St.data).length <= 1000 := by rw [List.length_map]; omega
 have el : (ss.map St.words).map bG = ss.map fun s => bG s.words := List.map_map ..
 have jl : ∀ y ∈ (dA ss cm).map bG, y.length <= 4812 := fun y hy => (List.mem_map.mp hy).elim fun l q => q.2 ▸ Nat.le_trans (jE (hw l q.1).2.2) (Nat.mul_le_mul_right 401 (hw l q.1).2.1)
 have fin : ∀ X : List Str, X = (dA ss cm).map bG -> X.length <= 11 -> cU (eY .join (.d (.str " ")) [.loc σ.length] (σ ++ [.lst (X.map .str)])) = .ok (.d (.str (bG (dA ss cm).flatten))) (σ ++ [.lst (X.map .str)]) := fun X e hX => by
  rw [aCM 4812 (e ▸ jl) (Nat.le_trans (Nat.add_le_add (Nat.mul_le_mul_right _ hX) (Nat.mul_le_mul_right _ hX)) (Nat.le_of_ble_eq_true rfl)), e, aHC _ fun l hl => (hw l hl).1]
 have er : (dA ss cm).map bG = (ss.map fun s => bG s.words) ++ bif cm == "" then [] else [bG [Str.ofString "comment", cX cm]] := by
  rw [<- el]
  unfold dA
  rw [List.map_append]
  cases cm == "" <;> rfl
 have ln : (ss.map fun s => bG s.words).length <= 10 := by rw [List.length_map]; exact hn
 refine bA (q := f24) rfl rfl (sL (aCL hd) (sB (hV (jM (c := 210) St.data (fun s => bG s.words) .str ss fun s hs => aA9 hP hT (h s hs) (hg.1 s hs)) (Nat.le_trans (show ss.length + 210 + 2 <= 222 by omega) (by decide))) (sJ (sL rfl ?_))))
 cases z : cm == ""
 ·rw [z] at er
  have lc : (cX cm).length <= 22 := by rw [nA]; omega
  have e2 : ("comment " : Str) ++ cX cm = bG ["comment", cX cm] := by simp only [gM, jn1, jn2, eM]
  have hf := fin _ er.symm (by rw [List.length_append]; exact Nat.add_le_add ln (Nat.le_refl 1))
  refine sT rfl (sL iP (sB (bD (vV hg.2 (Nat.le_trans hc (by decide))) (by decide)) (sA (Nat.le_refl _) lc fun _ => ?_)))
  rw [e2]
  exact sB (qW (Nat.le_trans ln (by decide))) (sJ (sJ (sL rfl (sB hf uG))))
 ·rw [z] at er
  exact sF rfl (sJ (sL rfl (sB (fin _ (er.trans (List.append_nil _)).symm (Nat.le_succ_of_le ln)) uG)))
theorem aFs {e : aK} {i m : Nat} {co : Option aK} {is : List PyData} (h : cY FT hb n e i co is ρ σ = .exc w) (hm : n <= m) : xC FT hb m e i co is ρ σ = .exc w := aEL.trans (Le.up (fun n => (jG n).C e i co is ρ σ) hm h fun h => nomatch h)
theorem aJ4 (hP : PRd lp σ) (hT : TG lt σ) (h : ∀ s ∈ ss, s.Ok) (hn : ss.length <= 10) (hg : ¬nI ss cm) : aN FT false 250 24 [.inst lt, .loc lp, .d (.tuple (ss.map St.data)), .d (.str cm)] σ = .exc mD := by
 have hd : (ss.map St.data).length <= 1000 := by rw [List.length_map]; omega
 refine bA (q := f24) rfl rfl (sL (aCL hd) ?_)
 by_cases hs : ∀ s ∈ ss, s.Good
 ·have hc : ¬fV cm := fun e => hg ⟨hs, e⟩
  refine sB (hV (jM (c := 210) St.data (fun s => bG s.words) .str ss fun s q => aA9 hP hT (h s q) (hs s q)) (Nat.le_trans (show ss.length + 210 + 2 <= 222 by omega) (by decide))) (sJ (sL rfl ?_))
  have z : (cm == "") = false := beq_eq_false_iff_ne.mpr fun e => hc (by rw [e]; unfold fV; decide)
  exact sT (congrArg not z) (sL iP (sX (mE (vU hc) (by decide))))
 ·refine sX (aFs (aFq (c := 210) St.data (fun s => .str (bG s.words)) ss (fun s q => ?_) ?_) (Nat.le_trans (show ss.length + 210 + 2 <= 222 by omega) (by decide)))
  ·by_cases q2 : s.Good
   ·exact .inl (aA9 hP hT (h s q) q2)
   ·exact .inr (e_c.trans (sX (mE (aEg hP (h s q) q2) (by decide))))
  ·obtain ⟨s, q⟩ := Classical.not_forall.mp hs
   obtain ⟨q, q2⟩ := Classical.not_forall.mp q
   exact ⟨s, q, e_c.trans (sX (mE (aEg hP (h s q) q2) (by decide)))⟩
end
end PQ
namespace PQ
noncomputable def kQ (lw : Nat) : List (Str × aB) := [("words", .loc lw), ("is_bad", .d (.bool false))]
structure cC (σ : aG) (l lw : Nat) : Prop where
 d : σ[l]? = some (.dct (kQ lw))
 lt : lw < σ.length
 ne : lw ≠ l
noncomputable def bM (ws : List Str) : Prop := ws.length <= 1000 /\ ∀ w ∈ ws, dE (cl w)
noncomputable def pw (σ : aG) (lw : Nat) (ws : List Str) : aG := σ.set lw (.lst (ws.map .str))
section
variable {R : Type} {r : aI R} {σ : aG} {l lw n m k : Nat} {w x t : Str} {ws vs : List Str} {K : aB -> aG -> aI R} {v : aB} {a b : Str} {xs : List PyData}
theorem bM.tl (h : bM (w :: ws)) : bM ws := ⟨Nat.le_of_succ_le h.1, fun v hv => h.2 v (.tail _ hv)⟩
theorem bM.hd (h : bM (w :: ws)) : dE (cl w) := h.2 w (.head _)
theorem bM.dr (h : bM (vs ++ ws)) : bM ws := ⟨Nat.le_trans (Nat.le_add_left ..) (List.length_append ▸ h.1), fun v hv => h.2 v (List.mem_append_right _ hv)⟩
theorem cW : (pw σ lw ws).length = (pw σ lw vs).length := (List.length_set ..).trans (List.length_set ..).symm
theorem cC.pd (P : cC σ l lw) : (pw σ lw ws)[l]? = some (.dct (kQ lw)) := by unfold pw; rw [List.getElem?_set_ne P.ne]; exact P.d
theorem cC.pl (P : cC σ l lw) : (pw σ lw ws)[lw]? = some (.lst (ws.map .str)) := List.getElem?_set_self P.lt
theorem cC.pk (P : cC σ l lw) : dW (pw σ lw ws) (.loc l) (.d (.str "words")) = some (.loc lw) := kJ P.pd rfl
theorem aF2 (xs : List Str) : (PyData.list (xs.map .str)).depth <= 20 := by
 have := yN xs
 rw [PyData.depth]; omega
theorem uR (h : ∀ w ∈ ws, dE (cl w)) : fC (.list (ws.map .str)) = true := by
 unfold fC; rw [Bool.and_eq_true]; exact ⟨yA ws h, decide_eq_true (aF2 ws)⟩
theorem uI {y : PyData} (h : ∀ w ∈ ws, dE (cl w)) (hy : fC y = true) (e : ss (fun a b => some (a == b)) (.list (ws.map .str)) y = none) (e' : ii (fun a b => some (a == b)) (.list (ws.map .str)) y = none) : eqD (.list (ws.map .str)) y = some (PyData.eqv (.list (ws.map .str)) y) := by
 unfold eqD
 rw [e, e', uR h, hy]; rfl
theorem rL (h : σ[lw]? = some (.lst xs)) : iF σ (.loc lw) = some (.list xs) := by
 show ((fZ σ lw).map PyData.list) = _
 rw [lO h]; rfl
theorem aIK (h : σ[lw]? = some (.lst (ws.map .str))) (ho : bM ws) : bR .ne (.loc lw) (.d (.list [])) σ = some (bV (!ws.isEmpty)) := by
 show (iF σ (.loc lw)).bind _ = _
 rw [rL h]
 show ((eqD (.list (ws.map .str)) (.list [])).map (!·)).map bV = _
 rw [uI ho.2 rfl rfl rfl]
 cases ws <;> rfl
theorem aDE (h : σ[lw]? = some (.lst xs)) : aU (mK .pop (.loc lw) σ = true) (some ()) = some () := cG (by show (false || (fZ σ lw).isSome) = true; rw [lO h]; rfl)
theorem aDF (P : cC σ l lw) (ho : bM (w :: ws)) : cU (eY .pop (.loc lw) [.d (.int 0)] (pw σ lw (w :: ws))) = .ok (.d (.str w)) (pw σ lw ws) := by
 show cU ((fZ (pw σ lw (w :: ws)) lw).bind _) = _
 rw [lO P.pl]
 show cU (aU ((0 : Int) = 0 /\ (ws.map PyData.str).length <= 100000) (some (.d (.str w), (pw σ lw (w :: ws)).set lw (.lst (ws.map .str))))) = _
 rw [cG ⟨rfl, by rw [List.length_map]; exact Nat.le_trans ho.tl.1 (by decide)⟩]
 unfold pw
 rw [List.set_set]; rfl
theorem aIO (P : cC σ l lw) (ho : bM (w :: ws)) : aN FT false 20 39 [.loc l] (pw σ lw (w :: ws)) = .ok (.d (.str w)) (pw σ lw ws) :=
 bA (q := f39) rfl rfl (sL P.pk (sL (aIK P.pl ho) (sT rfl (sL P.pk (sL (aDE P.pl) (sB (aDF P ho) (bL cW)))))))
theorem aD8 (h : σ[lw]? = some (.lst (ws.map .str))) (ho : bM ws) : gH σ (.loc lw) (.d .none) (.d (.int 1)) = some (.d (.list ((ws.take 1).map .str))) := by
 rw [<- aAS (σ := σ) (Nat.le_trans ho.1 (by decide)) 1]
 show (iF σ (.loc lw)).bind _ = _
 rw [rL h]; rfl
theorem aDz (ho : bM ws) (hx : dE (cl x)) : bR .eq (.d (.list ((ws.take 1).map .str))) (.d (.list [.str x])) σ = some (bV (ws.take 1 == [x])) := by
 have h1 : ∀ w ∈ ws.take 1, dE (cl w) := fun w hw => ho.2 w (List.mem_of_mem_take hw)
 have h2 : ∀ w ∈ [x], dE (cl w) := fun w hw => List.mem_singleton.mp hw ▸ hx
 show (eqD (.list ((ws.take 1).map .str)) (.list ([x].map .str))).map bV = _
 rw [uI h1 (uR h2) rfl rfl]
 cases ws with
 | nil => rfl
 | cons w ws => show some (bV ((w == x) && true)) = some (bV ((w == x) && true)); rfl
theorem aD7 (P : cC σ l lw) (ho : bM (w :: ws)) : aN FT false 20 40 [.loc l, .d (.str w)] (pw σ lw (w :: ws)) = .ok (.d (.bool true)) (pw σ lw ws) := by
 have e : bR .eq (.d (.list (((w :: ws).take 1).map .str))) (.d (.list [.str w])) (pw σ lw (w :: ws)) = some (bV true) := (aDz ho ho.hd).trans (congrArg (fun b => some (bV b)) (beq_self_eq_true [w]))
 exact bA (q := f40) rfl rfl (sL P.pk (sL (aD8 P.pl ho) (sL e (sJ (sT rfl (sL P.pk (sL (aDE P.pl) (sB (aDF P ho) (sJ (sJ (bL cW)))))))))))
theorem aLc (P : cC σ l lw) (ho : bM ws) (hx : dE (cl x)) (h : (ws.take 1 == [x]) = false) : aN FT false 20 40 [.loc l, .d (.str x)] (pw σ lw ws) = .ok (.d (.bool false)) (pw σ lw ws) := by
 have e : bR .eq (.d (.list ((ws.take 1).map .str))) (.d (.list [.str x])) (pw σ lw ws) = some (bV false) := (aDz ho hx).trans (congrArg (fun b => some (bV b)) h)
 exact bA (q := f40) rfl rfl (sL P.pk (sL (aD8 P.pl ho) (sL e (sJ (sF rfl (sJ (bL rfl)))))))
theorem aMh (P : cC σ l lw) (ho : bM (w :: ws)) : aN FT false 30 41 [.loc l, .d (.str w)] (pw σ lw (w :: ws)) = .ok (.d (.str w)) (pw σ lw ws) :=
 bA (q := f41) rfl rfl (sB (bD (aD7 P ho) (by decide)) (sT rfl (bL cW)))
theorem pN (P : cC σ l lw) (ho : bM (w :: ws)) (g : bM ws -> K (.d (.str w)) (pw σ lw ws) = r) (hn : 20 <= n := by decide) : cB (aN FT false n 39 [.loc l] (pw σ lw (w :: ws))) K = r := sB (bD (aIO P ho) hn) (g ho.tl)
theorem pS (P : cC σ l lw) (ho : bM (w :: ws)) (g : bM ws -> K (.d (.bool true)) (pw σ lw ws) = r) (hn : 20 <= n := by decide) : cB (aN FT false n 40 [.loc l, .d (.str w)] (pw σ lw (w :: ws))) K = r := sB (bD (aD7 P ho) hn) (g ho.tl)
theorem pZ (P : cC σ l lw) (ho : bM ws) (h : (ws.take 1 == [x]) = false) (g : K (.d (.bool false)) (pw σ lw ws) = r) (hx : (cl x).all (Nat.blt · 128) = true := by decide) (hn : 20 <= n := by decide) : cB (aN FT false n 40 [.loc l, .d (.str x)] (pw σ lw ws)) K = r :=
 sB (bD (aLc P ho (fun c hc => Nat.le_of_ble_eq_true (List.all_eq_true.mp hx c hc)) h) hn) g
theorem pG (P : cC σ l lw) (ho : bM (w :: ws)) (g : bM ws -> K (.d (.str w)) (pw σ lw ws) = r) (hn : 30 <= n := by decide) : cB (aN FT false n 41 [.loc l, .d (.str w)] (pw σ lw (w :: ws))) K = r := sB (bD (aMh P ho) hn) (g ho.tl)
theorem uL (h : cl a ≠ cl b) : bR .eq (.d (.str a)) (.d (.str b)) σ = some (bV false) := uM (beq_eq_false_iff_ne.mpr h)
theorem nU (h : cl a = cl b) : bR .eq (.d (.str a)) (.d (.str b)) σ = some (bV true) := uM (beq_iff_eq.mpr h)
theorem aEm (h : x.length <= 65536) (hc : ∀ c ∈ cl x, c ∈ cl a) : cU (eY .strip (.d (.str x)) [.d (.str a)] σ) = .ok (.d (.str "")) σ := by
 rw [<- aLB hc]
 exact congrArg (fun o : Option PyData => cU (o.map fun r => (aB.d r, σ))) (cG h)
theorem aCD (h : n < 10 ^ 40) : dT false .int [.d (.str (bE n))] σ = some (.d (.int n)) := by
 have e : dT false .int [.d (.str (bE n))] σ = ((aU ((bE n).length <= 640) ((PySem.intText? (bE n)).map PyData.int)).or none).map .d := rfl
 rw [e, cG (Nat.le_trans (dY h) (by decide)), aAo h]; rfl
theorem aDb (h : n < 10 ^ 40) : aN FT false 30 42 [v, .d (.str (bE n))] σ = .ok (.d (.int n)) σ := by
 have c10 : ∀ c, 48 <= c /\ c <= 57 -> c ∈ cl "0123456789" := fun c h => (by decide : ∀ c : Fin 58, 48 <= c.val -> c.val ∈ cl "0123456789") ⟨c, Nat.lt_succ_of_le h.2⟩ h.1
 have st := aEm (σ := σ) (x := bE n) (a := "0123456789") (Nat.le_trans (dY h) (by decide)) fun c hc => c10 c (oH n c hc)
 have e0 : cl (bE n) ≠ cl "" := fun e => qB n (e.trans uD)
 have go : ∀ {x : Str} {t : Bool}, bR .eq (.d (.str x)) (.d (.str "0")) σ = some (bV t) -> dW σ (.d (.str (bE n))) (.d (.int 0)) = some (.d (.str x)) -> (t = true -> bE n = "0") -> aN FT false 30 42 [v, .d (.str (bE n))] σ = .ok (.d (.int n)) σ := fun {x t} h1 h2 h3 => by
  refine bA (q := f42) rfl rfl (sL (uL e0) (sT rfl (sL rfl (sB st (sL (lR (t := true) rfl) (sT rfl (sL h2 (sL h1 ?_))))))))
  cases t
  ·exact sF rfl (sT rfl (sF rfl (sJ (sL (aCD h) (bL rfl)))))
  ·exact sT rfl (sL (lR (t := true) (by rw [h3 rfl]; exact beq_self_eq_true _)) (sF rfl (sT rfl (sF rfl (sJ (sL (aCD h) (bL rfl)))))))
 rcases aIY n with rfl | ⟨c, r, h1, h2⟩
 ·exact go (x := "0") (t := true) (nU rfl) (rU (c := 48) (r := []) (by decide)) fun _ => by decide
 ·exact go (uL (b := "0") (a := mk [c]) (fun e => by have e := (List.cons.inj (e.trans (by decide : cl "0" = [48]))).1; omega)) (rU h1) (fun q => nomatch q)
theorem aLA (P : cC σ l lw) (ho : bM (cX t :: ws)) (ht : t.length <= 1000) : aN FT false 40 43 [.loc l] (pw σ lw (cX t :: ws)) = .ok (.d (.str t)) (pw σ lw ws) := by
 have hq : cl (cX t) = 34 :: cl t ++ [34] := by unfold cX; rw [cE, cE, lE]; rfl
 have ql : (cX t).length <= 65536 := by rw [nA]; omega
 have sl : gH (pw σ lw ws) (.d (.str (cX t))) (.d (.int 1)) (.d (.int (-1))) = some (.d (.str t)) := (wB ql rfl rfl).trans (by rw [aLh hq]; rfl)
 exact bA (q := f43) rfl rfl (pN P ho fun ho => sJ (sL (sH ql) (sL (gQ (cl (cX t)).length 1) (sT (by rw [decide_eq_true (by rw [<- fK, nA]; omega)]; rfl) (sL (rU (hq.trans (List.cons_append ..))) (sL (nU (b := quo) (by decide)) (sT rfl (sT rfl (sL sl (bL cW))))))))))
theorem pQ (P : cC σ l lw) (ho : bM (cX t :: ws)) (ht : t.length <= 1000) (g : bM ws -> K (.d (.str t)) (pw σ lw ws) = r) (hn : 40 <= n := by decide) : cB (aN FT false n 43 [.loc l] (pw σ lw (cX t :: ws))) K = r := sB (bD (aLA P ho ht) hn) (g ho.tl)
end
end PQ
namespace PQ
noncomputable def tE : List Str := ["counter", "quota", "limit", "log", "reject", "notrack", "ct", "flow", "snat", "dnat", "masquerade", "redirect", "comment"]
noncomputable def iD (ws : List Str) : Prop := ∀ x, x ∉ tE -> (ws.take 1 == [x]) = false
noncomputable abbrev units : List Str := ["bytes", "kbytes", "mbytes", "gbytes"]
section
variable {R : Type} {r : aI R} {σ : aG} {l lw n m k v w : Nat} {x y t u A B C : Str} {ws vs : List Str} {K : aB -> aG -> aI R} {p : aB} {b o : Bool} {c : Nat}
theorem pY (P : cC σ l lw) (ho : bM (y :: ws)) (g : K (.d (.bool false)) (pw σ lw (y :: ws)) = r) (h : (y == x) = false := by decide) (hx : (cl x).all (Nat.blt · 128) = true := by decide) (hn : 20 <= n := by decide) : cB (aN FT false n 40 [.loc l, .d (.str x)] (pw σ lw (y :: ws))) K = r :=
 pZ P ho (by show ((y == x) && true) = false; rw [h]; rfl) g hx hn
theorem vO (h : (cl x).any (Nat.blt 57) = true := by decide) : (bE n == x) = false := beq_eq_false_iff_ne.mpr fun e => by
 obtain ⟨c, hc, h⟩ := List.any_eq_true.mp h
 exact absurd (oH n c (e ▸ hc)).2 (Nat.not_le_of_lt (Nat.le_of_ble_eq_true h))
theorem aLZ {k r : Nat} (hk : k ∈ [2, 3]) (hr : r <= k) : (units.take (k + 1)).any (· == gX r) = true /\ lJ (gX r) (units.take (k + 1)) 0 = some r :=
 (by decide : ∀ k ∈ [2, 3], ∀ r ∈ List.range (k + 1), (units.take (k + 1)).any (· == gX r) = true /\ lJ (gX r) (units.take (k + 1)) 0 = some r) k hk r (List.mem_range.mpr (Nat.lt_succ_of_le hr))
theorem aIS (ha : dE (cl x)) (h : ∀ y ∈ ws, dE (cl y)) (e : ws.any (· == x) = true) : bR .notIn (.d (.str x)) (.d (.list (ws.map .str))) σ = some (bV false) := by
 have z : bR .notIn (.d (.str x)) (.d (.list (ws.map .str))) σ = (((inX (.str x) (ws.map .str)).or none).map (!·)).map bV := rfl
 rw [z, zH ha h, e]; rfl
theorem aHh (h : ws.length <= 65536) (e : lJ x ws 0 = some n) : cU (eY .index (.d (.list (ws.map .str))) [.d (.str x)] σ) = .ok (.d (.int n)) σ := by
 have z : cU (eY .index (.d (.list (ws.map .str))) [.d (.str x)] σ) = cU ((((kT (ws.map .str)).bind fun ts => aU ((ws.map PyData.str).length <= 65536) ((lJ x ts 0).map fun i : Nat => PyData.int i))).map fun r => (aB.d r, σ)) := rfl
 rw [z, aEn]
 show cU (Option.map _ (aU _ _)) = _
 rw [cG (by rw [List.length_map]; exact h), e]; rfl
theorem aIw (m k : Nat) (h : k ≠ 0) : fB .mod (.d (.int m)) (.d (.int k)) = some (.d (.int (m % k : Nat))) := by
 have g : fB .mod (.d (.int m)) (.d (.int k)) = some (.d (.int ((m : Int).fmod k))) := pV fun e => h (Int.ofNat.inj e)
 rw [g, aAf]
theorem aAH (a k : Nat) (h : a < 2 ^ 64) (hk : k <= 1000000) : fB .pow (.d (.int a)) (.d (.int k)) = some (.d (.int (a ^ k : Nat))) := by
 rw [iC (a := (a : Int)) (b := (k : Int)) ⟨Int.natCast_nonneg k, Int.ofNat_le.mpr hk, h⟩, Int.toNat_natCast, <- Int.natCast_pow]
theorem aAa (ha : m < 2 ^ 256) (hb : n < 2 ^ 256) : fB .mul (.d (.int m)) (.d (.int n)) = some (.d (.int (m * n : Nat))) := by
 rw [gA (a := (m : Int)) (b := (n : Int)) ⟨ha, hb⟩, <- Int.natCast_mul]
theorem aD5 (hk : k ∈ [2, 3]) (hn : n < 10 ^ 40) : aN FT false 60 44 [p, .d (.str (bE (bY k n).1)), .d (.str (gX (bY k n).2)), .d (.int ((k + 1 : Nat) : Int))] σ = .ok (.d (.int n)) σ := by
 obtain ⟨h1, h2, h3, h4, h5, h6⟩ := aAK k n
 have hm := sY (k := k) hn
 obtain ⟨u1, u2⟩ := aLZ hk h2
 have k3 : k <= 3 := (by decide : ∀ k ∈ [2, 3], k <= 3) k hk
 have lk : (units.take (k + 1)).length <= 65536 := Nat.le_trans (List.length_take_le' _ _) (by decide)
 have asc := (by decide : ∀ y ∈ units, ∀ c ∈ cl y, c < 128)
 have uk : gX (bY k n).2 ∈ units.take (k + 1) := by
  obtain ⟨y, hy, e⟩ := List.any_eq_true.mp u1
  exact eq_of_beq e ▸ hy
 have pr : 1024 ^ (bY k n).2 < 2 ^ 256 := Nat.lt_of_le_of_lt (Nat.pow_le_pow_right (by decide) (Nat.le_trans h2 k3)) (by decide)
 have hm2 : (bY k n).1 < 2 ^ 256 := Nat.lt_trans hm (by decide)
 have fin : ∀ ρ : aJ, ρ 13 = some (.d (.int (bY k n).1)) -> ρ 21 = some (.d (.int (bY k n).2)) -> cJ (dM (cN FT false 55) (f44.body.drop 4) ρ σ (dC σ.length)) = .ok (.d (.int n)) σ := fun ρ h13 h21 => by
  rw [<- aO h13, <- aO (ρ := ρ) h21]
  refine sJ (sL (aAH 1024 _ (by decide) (by omega)) (sL (aAa hm2 pr) ?_))
  rw [<- h1]
  exact bL rfl
 refine bA (q := f44) rfl rfl (sB (bD (aDb hm) (by decide)) (sL (aAS (ts := units) (by decide) (k + 1)) (sJ (sL (aIS (asc _ (List.mem_of_mem_take uk)) (fun y hy => asc y (List.mem_of_mem_take hy)) u1) (sF rfl (sJ (sL rfl (sB (aHh lk u2) (sJ ?_)))))))))
 by_cases z : (bY k n).1 = 0
 ·exact sL (uJ (b := 0) z) (sT rfl (sL (gQ (bY k n).2 0) (sF (by rw [h3 (h6 z)]; rfl) (by
   rw [h3 (h6 z)]
   exact sT rfl (sL (gQ (bY k n).1 0) (sF (by rw [z]; rfl) (by rw [z]; exact sT rfl (sF rfl (fin _ (by rw [z]; rfl) (by rw [h3 (h6 z)]; rfl))))))))))
 ·refine sL (pH (b := 0) z) (sF rfl (sT rfl (sL (gQ (bY k n).1 0) (sT (by rw [decide_eq_true (Nat.pos_of_ne_zero z)]; rfl) (sL (aIw _ 1024 (by decide)) ?_)))))
  by_cases y : (bY k n).1 % 1024 = 0
  ·have hrk : bR .lt (.d (.int ((bY k n).2 + 1 : Nat))) (.d (.int (k + 1 : Nat))) σ = some (bV false) := (vF _ _).trans (congrArg (fun b => some (bV b)) (decide_eq_false fun q => (h4 (Nat.lt_of_succ_lt_succ q)).elim z fun q => q y))
   exact sL (uJ (b := 0) y) (sT rfl (sL dQ (sL hrk (sF rfl (sT rfl (sF rfl (fin _ rfl rfl)))))))
  ·exact sL (pH (b := 0) y) (sF rfl (sT rfl (sF rfl (fin _ rfl rfl))))
theorem aI2 (P : cC σ l lw) (ho : bM (eG k n ++ ws)) (hk : k ∈ [2, 3]) (hn : n < 10 ^ 40) (hb : b = false -> n ≠ 0) : aN FT false 80 45 [.loc l, .d (.int ((k + 1 : Nat) : Int)), .d (.bool b)] (pw σ lw (eG k n ++ ws)) = .ok (.d (.int n)) (pw σ lw ws) := by
 refine bA (q := f45) rfl rfl (pN (w := bE (bY k n).1) P ho fun ho => sJ (pN (w := gX (bY k n).2) P ho fun ho => sB (bD (aD5 hk hn) (by decide)) (sJ ?_)))
 by_cases z : n = 0
 ·cases b
  ·exact absurd z (hb rfl)
  ·exact sL (uJ (b := 0) z) (sT rfl (sF rfl (sF rfl (sJ (bL cW)))))
 ·exact sL (pH (b := 0) z) (sF rfl (sF rfl (sJ (bL cW))))
theorem pO (P : cC σ l lw) (ho : bM (eG k n ++ ws)) (hk : k ∈ [2, 3]) (hn : n < 10 ^ 40) (hb : b = false -> n ≠ 0) (g : bM ws -> K (.d (.int n)) (pw σ lw ws) = r) (hm : 80 <= m := by decide) : cB (aN FT false m 45 [.loc l, .d (.int ((k + 1 : Nat) : Int)), .d (.bool b)] (pw σ lw (eG k n ++ ws))) K = r :=
 sB (bD (aI2 P ho hk hn hb) hm) (g ho.dr)
theorem pM (h : n < 10 ^ 40) (g : K (.d (.int n)) σ = r) (hm : 30 <= m := by decide) : cB (aN FT false m 42 [p, .d (.str (bE n))] σ) K = r := sB (bD (aDb h) hm) g
theorem aJM (P : cC σ l lw) (ho : bM ("packets" :: bE v :: "bytes" :: bE w :: ws)) (hv : v < 2 ^ 64) (hw : w < 2 ^ 64) : aN FT false 120 47 [.loc l, .d (.str "counter")] (pw σ lw ("packets" :: bE v :: "bytes" :: bE w :: ws)) = .ok (.d (St.counter v w).data) (pw σ lw ws) :=
 bA (q := f47) rfl rfl (pY P ho (sF rfl (sJ (sL rfl (sF (by decide) (sJ (sL rfl (sT (by decide) (pG P ho fun ho => sJ (pN P ho fun ho => pM (cO hv) (sJ (pG P ho fun ho => sJ (pN P ho fun ho => pM (cO hw) (bL cW))))))))))))))
theorem aJR (P : cC σ l lw) (ho : bM ("name" :: cX t :: ws)) (ht : t.length <= 1000) : aN FT false 120 47 [.loc l, .d (.str u)] (pw σ lw ("name" :: cX t :: ws)) = .ok (.d (St.object u t).data) (pw σ lw ws) :=
 bA (q := f47) rfl rfl (pS P ho fun ho => sT rfl (pQ P ho ht fun ho => bL cW))
theorem aJT (P : cC σ l lw) (ho : bM (iI b ++ (eG 3 v ++ (dX ((w : Int) == 0) ("used" :: eG 3 w) ++ ws)))) (hv : v < 2 ^ 64) (hw : w < 2 ^ 64) (hs : iD ws) :
  aN FT false 120 47 [.loc l, .d (.str "quota")] (pw σ lw (iI b ++ (eG 3 v ++ (dX ((w : Int) == 0) ("used" :: eG 3 w) ++ ws)))) = .ok (.d (St.quota b v w).data) (pw σ lw ws) := by
 refine bA (q := f47) rfl rfl ?_
 cases b
 case' false => refine pY (y := bE (bY 3 v).1) P ho (sF rfl (sJ (sL rfl (sF (by decide) (sJ (sL rfl (sF (by decide) (sJ (pY (y := bE (bY 3 v).1) P ho (sJ ?_) vO))))))))) vO
 case' true =>
  refine pY (y := "over") P ho (sF rfl (sJ (sL rfl (sF (by decide) (sJ (sL rfl (sF (by decide) (sJ (pS (w := "over") P ho fun ho => sJ ?_)))))))))
 all_goals
  refine pO (k := 3) P ho (by decide) (cO hv) (fun q => nomatch q) fun ho => sJ ?_
  cases z : (w : Int) == 0
  ·rw [z] at ho
   exact pS (w := "used") P ho fun ho => sT rfl (pO (k := 3) P ho (by decide) (cO hw) (fun _ q => by rw [q] at z; cases z) fun ho => bL cW)
  ·obtain rfl : w = 0 := Int.ofNat.inj (eq_of_beq z)
   exact pZ P ho (hs "used" (by decide)) (sF rfl (bL cW))
theorem uE (hC : cl C = [c]) : cl (A ++ (C ++ B)) = cl A ++ c :: cl B := by rw [cE, cE, hC]; rfl
theorem rK (hC : cl C = [c]) (h : c ∉ cl A) : cU (eY .find (.d (.str (A ++ (C ++ B)))) [.d (.str C)] σ) = .ok (.d (.int (cl A).length)) σ := by rw [uQ, yU (uE hC) hC h]
theorem rJ (hL : (A ++ (C ++ B)).length <= 65536) : gH σ (.d (.str (A ++ (C ++ B)))) (.d .none) (.d (.int (cl A).length)) = some (.d (.str A)) := by rw [tB hL, cE, List.take_left]; rfl
theorem pD (hC : cl C = [c]) (hL : (A ++ (C ++ B)).length <= 65536) : gH σ (.d (.str (A ++ (C ++ B)))) (.d (.int ((cl A).length + 1 : Nat))) (.d .none) = some (.d (.str B)) := by
 rw [qJ hL, uE hC, <- List.drop_drop, List.drop_left]; rfl
theorem pF (h : c < 48 \/ 57 < c) : c ∉ cl (bE n) := fun hm => by have := oH n c hm; omega
theorem aIL (h : c ∈ cl y) (h2 : c ∉ cl x) : (y == x) = false := beq_eq_false_iff_ne.mpr fun e => h2 (e ▸ h)
theorem yL (hC : cl C = [c]) : c ∈ cl (A ++ (C ++ B)) := by rw [uE hC]; exact List.mem_append_right _ (.head _)
theorem aL0 (r : Nat) : 47 ∉ cl (gX r) := match r with
 | 0 | 1 | 2 | 3 => by decide
 | _ + 4 => show 47 ∉ cl "gbytes" by decide
theorem aJN (P : cC σ l lw) (ho : bM ((kL b v u w o).tail ++ ws)) (hv : v < 2 ^ 64) (hw : w < 2 ^ 64) (hu : u ∈ nC) (hs : iD ws) :
  aN FT false 110 46 [.loc l] (pw σ lw ((kL b v u w o).tail ++ ws)) = .ok (.d (St.limit b v u w o).data) (pw σ lw ws) := by
 have hu := (by decide : ∀ u ∈ nC, u.length <= 11) u hu
 have sl : cl "/" = [47] := by decide
 refine bA (q := f46) rfl rfl ?_
 cases o
 ·have lX : (bE v ++ (Str.ofString "/" ++ u)).length <= 65536 := by
   rw [Str.length_append, Str.length_append]; exact Nat.le_trans (Nat.add_le_add (dY (cO hv)) (Nat.add_le_add_left hu _)) (Nat.le_of_ble_eq_true rfl)
  have hX : (bE v ++ (Str.ofString "/" ++ u) == "over") = false := aIL (yL sl) (by decide)
  cases b
  case' false => refine pG (w := "rate") P ho fun ho => sJ (pY (y := bE v ++ (Str.ofString "/" ++ u)) P ho (sJ ?_) hX)
  case' true =>
   refine pG (w := "rate") P ho fun ho => sJ (pS (w := "over") P ho fun ho => sJ ?_)
  all_goals exact pN (w := bE v ++ (Str.ofString "/" ++ u)) P ho fun ho => sJ (sL (rX sl (yL sl)) (sT rfl (sL rfl (sB (rK sl (pF (by decide))) (sL (rJ lX) (sL rfl (sB (rK sl (pF (by decide))) (sL dQ (sL (pD sl lX) (sJ (pG (w := "burst") P ho fun ho => sJ (pN (w := bE w) P ho fun ho => pM (cO hw) (sJ (pG (w := "packets") P ho fun ho => sJ (pM (cO hv) (bL cW))))))))))))))))
 ·have lX : (gX (bY 2 v).2 ++ (Str.ofString "/" ++ u)).length <= 65536 := by
   rw [Str.length_append, Str.length_append]; exact Nat.le_trans (Nat.add_le_add (wK _) (Nat.add_le_add_left hu _)) (Nat.le_of_ble_eq_true rfl)
  cases b
  case' false => refine pG (w := "rate") P ho fun ho => sJ (pY (y := bE (bY 2 v).1) P ho (sJ ?_) vO)
  case' true =>
   refine pG (w := "rate") P ho fun ho => sJ (pS (w := "over") P ho fun ho => sJ ?_)
  all_goals
   refine pN (w := bE (bY 2 v).1) P ho fun ho => sJ (sL (rW sl (pF (by decide))) (sF rfl (sJ (pN (w := gX (bY 2 v).2 ++ (Str.ofString "/" ++ u)) P ho fun ho => sJ (sL rfl (sB (rK sl (aL0 _)) (sJ (sL rfl (sT (decide_eq_true (Int.natCast_nonneg _)) (sL (rJ lX) (sB (bD (aD5 (k := 2) (by decide) (cO hv)) (by decide)) (sJ ?_))))))))))))
   cases z : (w : Int) == 0
   ·rw [z] at ho
    exact pS (w := "burst") P ho fun ho => sT rfl (pO (k := 2) P ho (by decide) (cO hw) (fun _ q => by rw [q] at z; cases z) fun ho => sJ (sL dQ (sL (pD sl lX) (bL cW))))
   ·obtain rfl : w = 0 := Int.ofNat.inj (eq_of_beq z)
    exact pZ P ho (hs "burst" (by decide)) (sF rfl (sJ (sL dQ (sL (pD sl lX) (bL cW)))))
theorem aHS (P : cC σ l lw) (ho : bM ((kL b v u w o).tail ++ ws)) (hv : v < 2 ^ 64) (hw : w < 2 ^ 64) (hu : u ∈ nC) (hs : iD ws) :
  aN FT false 120 47 [.loc l, .d (.str "limit")] (pw σ lw ((kL b v u w o).tail ++ ws)) = .ok (.d (St.limit b v u w o).data) (pw σ lw ws) :=
 bA (q := f47) rfl rfl (pZ P ho (by cases o <;> rfl) (sF rfl (sJ (sL rfl (sT (by decide) (sB (bD (aJN P ho hv hw hu hs) (by decide)) (bL cW)))))))
end
end PQ
namespace PQ
section
variable {σ : aG} {l lw c : Nat} {t u m w : Str} {ws : List Str} {cs : List (Str × Nat)}
theorem uK (h : (cl t).all (Nat.blt · 128) = true := by decide) : bR .eq (.d .none) (.d (.str t)) σ = some (bV false) := by
 have e : bR .eq (.d .none) (.d (.str t)) σ = (aU ((fC .none && fC (.str t)) = true) (some (PyData.eqv .none (.str t)))).map bV := rfl
 have f : fC (.str t) = true := by unfold fC; rw [Bool.and_eq_true]; exact ⟨tU fun c hc => Nat.le_of_ble_eq_true (List.all_eq_true.mp h c hc), rfl⟩
 rw [e, f]; rfl
theorem aJO (P : cC σ l lw) (ho : bM (dX (t == "") ["prefix", cX t] ++ (dX (u == "warn") ["level", u] ++ ws))) (ht : t.length <= 1000) (hs : iD ws) :
  aN FT false 70 48 [.loc l] (pw σ lw (dX (t == "") ["prefix", cX t] ++ (dX (u == "warn") ["level", u] ++ ws))) = .ok (.d (St.log t u).data) (pw σ lw ws) := by
 refine bA (q := f48) rfl rfl ?_
 have e : ∀ (a b : Str) {z : Bool}, (a == b) = z -> bR .eq (.d (.str a)) (.d (.str b)) (pw σ lw ws) = some (bV z) := fun a b z h => h ▸ rfl
 cases c1 : t == ""
 ·rw [c1] at ho
  refine pS (w := "prefix") P ho fun ho => sT rfl (pQ P ho ht fun ho => sJ ?_)
  cases c2 : u == "warn"
  ·rw [c2] at ho
   exact pS (w := "level") P ho fun ho => sT rfl (pN (w := u) P ho fun ho => sJ (sL (e t "" c1) (sT rfl (sL (e u "warn" c2) (sT rfl (sF rfl (sJ (sL rfl (sF rfl (sL rfl (sF rfl (bL cW))))))))))))
  ·rw [c2] at ho
   obtain rfl := eq_of_beq c2
   exact pZ P ho (hs "level" (by decide)) (sF rfl (sJ (sL (e t "" c1) (sT rfl (sL uK (sT rfl (sF rfl (sJ (sL rfl (sF rfl (sL rfl (sT rfl (bL cW)))))))))))))
 ·rw [c1] at ho
  obtain rfl := eq_of_beq c1
  cases c2 : u == "warn"
  ·rw [c2] at ho
   exact pY (y := "level") P ho (sF rfl (sJ (pS (w := "level") P ho fun ho => sT rfl (pN (w := u) P ho fun ho => sJ (sL uK (sT rfl (sL (e u "warn" c2) (sT rfl (sF rfl (sJ (sL rfl (sT rfl (sL rfl (sF rfl (bL cW)))))))))))))))
  ·rw [c2] at ho
   obtain rfl := eq_of_beq c2
   exact pZ P ho (hs "prefix" (by decide)) (sF rfl (sJ (pZ P ho (hs "level" (by decide)) (sF rfl (sJ (sL uK (sT rfl (sL uK (sT rfl (sF rfl (sJ (sL rfl (sT rfl (sL rfl (sT rfl (bL rfl))))))))))))))))
theorem aH8 (h : ∀ p ∈ cs, (p.1 == w) = false) : fS w (cs.map fun p => (PyData.str p.1, PyData.int p.2)) = none := by
 induction cs with
 | nil => rfl
 | cons p cs ih =>
  show (if p.1 = w then _ else fS w _) = _
  rw [if_neg (beq_eq_false_iff_ne.mp (h p (.head _)))]
  exact ih fun q hq => h q (.tail _ hq)
theorem aHv {kv : List (PyData × PyData)} : bR .isIn (.d (.str w)) (.d (.dict kv)) σ = some (bV (fS w kv).isSome) := rfl
theorem aFQ (hm : m ∈ gG) : dT false .vals [.d (.dict (fH m))] σ = some (.d (.list ((fH m).map (·.2)))) /\ bR .isIn (.d (.int c)) (.d (.list ((fH m).map (·.2)))) σ = some (bV ((gK m).any fun p => (p.2 : Int) == c)) /\
  cU (eY .get (.d rH) [.d (.str m), .d (.dict [])] σ) = .ok (.d (.dict (fH m))) σ := sD (P := fun m => dT false .vals [.d (.dict (fH m))] σ = some (.d (.list ((fH m).map (·.2)))) /\ bR .isIn (.d (.int c)) (.d (.list ((fH m).map (·.2)))) σ = some (bV ((gK m).any fun p => (p.2 : Int) == c)) /\
  cU (eY .get (.d rH) [.d (.str m), .d (.dict [])] σ) = .ok (.d (.dict (fH m))) σ) ⟨rfl, rfl, rfl⟩ ⟨rfl, rfl, rfl⟩ ⟨rfl, rfl, rfl⟩ hm
theorem aJU (P : cC σ l lw) (ho : bM ((iJ m c).tail ++ ws)) (hm : m ∈ qK) (hc : c < 256) (h0 : m = "tcp" -> c = 0) : aN FT false 70 49 [.loc l] (pw σ lw ((iJ m c).tail ++ ws)) = .ok (.d (St.reject m c).data) (pw σ lw ws) := by
 refine bA (q := f49) rfl rfl ?_
 unfold iJ at ho ⊢
 cases z : m == "tcp"
 ·rw [z] at ho
  have hk := zP hm z
  obtain ⟨v1, v2, v3⟩ := aFQ (c := c) (σ := pw σ lw ws) hk
  have ez : bR .eq (.d (.str m)) (.d (.str "tcp")) (pw σ lw ws) = some (bV false) := z ▸ rfl
  refine pG (w := "with") P ho fun ho => sJ (pN (w := m) P ho fun ho => pN (w := jN m c) P ho fun ho => sJ (sL ez (sF rfl (sJ (sB (bD aBV (by decide)) (sL rfl (sB rfl (sB v3 (sJ (sL aHv ?_))))))))))
  unfold jN
  cases hf : (gK m).find? fun p => p.2 == c with
  | some p =>
   have lk := (aBU hk).2 p (List.mem_of_find?_eq_some hf)
   have hp : (p.2 == c) = true := List.find?_some (p := fun p : Str × Nat => p.2 == c) hf
   rw [beq_iff_eq.mp hp] at lk
   have ix : dW (pw σ lw ws) (.d (.dict (fH m))) (.d (.str p.1)) = some (.d (.int c)) := congrArg (Option.map aB.d) lk
   exact sT (congrArg Option.isSome lk) (sL ix (bL cW))
  | none =>
   have hno := List.find?_eq_none.mp hf
   have lk : fS (bE c) (fH m) = none := aH8 fun p hp => by
    rw [BEq.comm]
    exact vO ((by decide : ∀ m ∈ gG, ∀ p ∈ gK m, (cl p.1).any (Nat.blt 57) = true) m hk p hp)
   have ha : (gK m).any (fun p => (p.2 : Int) == c) = false := List.any_eq_false.mpr fun p hp q => hno p hp (beq_iff_eq.mpr (Int.ofNat.inj (eq_of_beq q)))
   exact sF (congrArg Option.isSome lk) (sJ (pM (Nat.lt_trans hc (by decide)) (sJ (sL v1 (sL v2 (sF ha (bL cW)))))))
 ·rw [z] at ho
  obtain rfl := eq_of_beq z
  obtain rfl := h0 rfl
  exact pG (w := "with") P ho fun ho => sJ (pN (w := "tcp") P ho fun ho => pN (w := "reset") P ho fun ho => sJ (sL rfl (sT (by decide) (sL rfl (sT (by decide) (bL cW))))))
end
end PQ
namespace PQ
section
variable {hb : Bool} {σ : aG} {ρ : aJ} {n m k c i x : Nat} {t y : Str} {ts : List Str} {v : aB} {cond : aK} {α : Type} {as bs : List PyData}
theorem aB4 (B n N : Nat) : Nat.rec 0 (fun j s => s + n / B ^ j % B * B ^ j) N = n % B ^ N := by
 induction N with
 | zero => exact (Nat.mod_one n).symm
 | succ N ih =>
  show Nat.rec 0 (fun j s => s + n / B ^ j % B * B ^ j) N + n / B ^ N % B * B ^ N = _
  rw [ih, Nat.pow_succ, Nat.mod_mul, Nat.mul_comm (B ^ N)]
theorem aJ0 (a b c d : Nat) : d + (c + (b + (a + 0))) = 0 + a + b + c + d := by omega
theorem aJ1 (a b c d e f g h : Nat) : h + (g + (f + (e + (d + (c + (b + (a + 0))))))) = 0 + a + b + c + d + e + f + g + h := by omega
theorem aLE (q p : Nat -> Nat) : ([0, 1, 2, 3].map fun i => ([3, 2, 1, 0].map q).getD i 0 * p (3 - i)).sum = Nat.rec 0 (fun j s => s + q j * p j) 4 := aJ0 ..
theorem aLF (q p : Nat -> Nat) : ([0, 1, 2, 3, 4, 5, 6, 7].map fun i => ([7, 6, 5, 4, 3, 2, 1, 0].map q).getD i 0 * p (7 - i)).sum = Nat.rec 0 (fun j s => s + q j * p j) 8 := aJ1 ..
theorem aDH {w B : Nat} (h : 2 ^ w = B) (xs : List Nat) : ((xs.map (w * ·)).map fun s => n / 2 ^ s % B) = xs.map fun j => n / B ^ j % B := by
 rw [List.map_map]
 exact List.map_congr_left fun j _ => by show n / 2 ^ (w * j) % B = _; rw [Nat.pow_mul, h]
noncomputable def aAp (n : Nat) : List Nat := ([3, 2, 1, 0].map (8 * ·)).map fun s => n / 2 ^ s % 256
theorem aFB (h : n < 2 ^ 32) : ([0, 1, 2, 3].map fun i => (aAp n).getD i 0 * 256 ^ (3 - i)).sum = n := by
 unfold aAp
 rw [aDH (by decide), aLE _ fun j => 256 ^ j]
 exact (aB4 256 n 4).trans (Nat.mod_eq_of_lt h)
theorem aFC (h : n < 2 ^ 128) : ([0, 1, 2, 3, 4, 5, 6, 7].map fun i => (fR n).getD i 0 * 65536 ^ (7 - i)).sum = n := by
 have e : fR n = ([7, 6, 5, 4, 3, 2, 1, 0].map (16 * ·)).map fun s => n / 2 ^ s % 65536 := rfl
 rw [e, aDH (by decide), aLF _ fun j => 65536 ^ j]
 exact (aB4 65536 n 8).trans (Nat.mod_eq_of_lt h)
theorem aGQ {M : Nat} {xs : List Nat} (h : ∀ d ∈ xs, d < M) (h0 : 0 < M) : xs.getD i 0 < M := by
 rw [List.getD_eq_getElem?_getD]
 cases q : xs[i]? with
 | none => exact h0
 | some d => exact h d (List.mem_of_getElem? q)
theorem qN (hx : t.length <= 65536) (e : Txt.split t y = ts) (hy : y.length ≠ 0 := by decide) : cU (eY .split (.d (.str t)) [.d (.str y)] σ) = .ok (.d (.list (ts.map .str))) σ := by
 rw [<- e]
 exact congrArg (fun o : Option PyData => cU (o.map fun r => (aB.d r, σ))) (cG ⟨hx, hy⟩)
theorem xQ {xs : List PyData} (h : i < 2 ^ 62) : dW σ (.d (.list xs)) (.d (.int i)) = (xs[i]?).map .d := by
 have h2 : (i : Int).natAbs < 2 ^ 62 := h
 show (Option.or (aU ((i : Int).natAbs < 2 ^ 62) (atD xs i)) none).map aB.d = _
 unfold atD
 rw [cG h2, if_pos (Int.natCast_nonneg i), Int.toNat_natCast]
 cases xs[i]? <;> rfl
theorem aA1 (h : k <= n) : fB .sub (.d (.int n)) (.d (.int k)) = some (.d (.int (n - k : Nat))) := congrArg (fun i => some (aB.d (.int i))) (show (n : Int) - k = _ by omega)
theorem aHn (xs : List Nat) : (iT (xs.map fun n : Nat => .int n)).map List.sum = some (xs.sum : Int) := by
 have e : iT (xs.map fun n : Nat => .int n) = some (xs.map fun n : Nat => (n : Int)) := by
  induction xs with
  | nil => rfl
  | cons x xs ih => show (iT (xs.map fun n : Nat => .int n)).map _ = _; rw [ih]; rfl
 rw [e]
 refine congrArg some ?_
 clear e
 induction xs with
 | nil => rfl
 | cons x xs ih => show (x : Int) + (xs.map fun n : Nat => (n : Int)).sum = ((x + xs.sum : Nat) : Int); rw [ih]; rfl
theorem aA2 (xs : List Nat) : dT false .sum [.d (.list (xs.map fun n : Nat => .int n))] σ = some (.d (.int xs.sum)) := by
 have e : dT false .sum [.d (.list (xs.map fun n : Nat => .int n))] σ = ((iT (xs.map fun n : Nat => .int n)).map fun r => .int r.sum).map .d := rfl
 have z := congrArg (fun o : Option Int => (o.map PyData.int).map aB.d) (aHn xs)
 rw [e]
 cases q : iT (xs.map fun n : Nat => .int n) <;> rw [q] at z <;> exact z
theorem aIe {M : Int} (is : List Int) : ∀ i : Int, i <= M -> (∀ j ∈ is, j <= M) -> jS i is <= M := by
 induction is with
 | nil => exact fun i h _ => h
 | cons j is ih => exact fun i h h2 => ih _ (by split; exact h2 j (.head _); exact h) fun k hk => h2 k (.tail _ hk)
theorem aHa {ds : List Nat} (h : i < ds.length) (hi : i < 2 ^ 62) : dW σ (.d (.list (ds.map fun d : Nat => .int d))) (.d (.int i)) = some (.d (.int (ds.getD i 0 : Nat))) := by
 rw [xQ hi, List.getElem?_map, List.getD_eq_getElem?_getD, List.getElem?_eq_getElem h]; rfl
theorem aF8 (n : Nat) : Txt.split (lK n) "." = uW n := by
 have e : Str.ofString "." = mk [46] := by decide
 unfold lK
 rw [e]
 exact tD rfl (fun q => nomatch q) fun t ht => (List.mem_map.mp ht).elim fun s q => q.2 ▸ pF (by decide)
theorem aJJ (h : n < 2 ^ 32) : aN FT false 60 50 [v, .d (.str (lK n)), .d (.int 2)] σ = .ok (.d (.int n)) σ := by
 have hd : ∀ s : Nat, n / 2 ^ s % 256 < 256 := fun s => Nat.mod_lt _ (by decide)
 have hmx : ∀ s : Nat, ((n / 2 ^ s % 256 : Nat) : Int) <= 255 := fun s => Int.ofNat_le.mpr (Nat.le_of_lt_succ (hd s))
 refine bA (q := f50) rfl rfl (sL rfl (sT rfl (sL rfl (sB (qN (Nat.le_trans (aCG n) (by decide)) (aF8 n)) (sL (oA (Nat.le_of_ble_eq_true rfl)) (sB (hV (jM (c := 40) (fun s : Nat => .str (bE (n / 2 ^ s % 256))) (fun s => n / 2 ^ s % 256) (fun d : Nat => .int d) ([3, 2, 1, 0].map (8 * ·)) fun s _ => e_c.trans (pM (Nat.lt_trans (hd s) (by decide)) rfl)) (by decide)) (sJ (sL rfl (sL rfl (sT rfl (sL rfl (sL rfl (sT ?_ (sF rfl (sJ (sL rfl (sB (hV (jM (c := 10) (fun i : Nat => .int i) (fun i => (aAp n).getD i 0 * 256 ^ (3 - i)) (fun d : Nat => .int d) [0, 1, 2, 3] fun i hi => ?_) (by decide)) (sL (aA2 _) ?_))))))))))))))))))
 ·have z : decide (jS ((n / 2 ^ 24 % 256 : Nat) : Int) [((n / 2 ^ 16 % 256 : Nat) : Int), ((n / 2 ^ 8 % 256 : Nat) : Int), ((n / 2 ^ 0 % 256 : Nat) : Int)] > 255) = false := decide_eq_false (Int.not_lt.mpr (aIe _ _ (hmx _) fun j hj => by
   rcases List.mem_cons.mp hj with rfl | hj
   ·exact hmx _
   ·rcases List.mem_cons.mp hj with rfl | hj
    ·exact hmx _
    ·exact List.mem_singleton.mp hj ▸ hmx _))
  exact (congrArg (· == false) z : _)
 ·have hi : i <= 3 := (by decide : ∀ i ∈ [0, 1, 2, 3], i <= 3) i hi
  exact e_c.trans (sL (aHa (Nat.lt_succ_of_le hi) (Nat.lt_of_le_of_lt hi (by decide))) (sL (aA1 hi) (sL (aAH 256 (3 - i) (by decide) (by omega)) (sL (aAa (aGQ (fun d hd' => (List.mem_map.mp hd').elim fun s q => q.2 ▸ Nat.lt_trans (hd s) (by decide)) (by decide)) (Nat.lt_of_le_of_lt (Nat.pow_le_pow_right (by decide) (Nat.sub_le 3 i)) (by decide))) rfl))))
 ·rw [aFB h]
  exact bL rfl
end
end PQ
namespace PQ
structure nH (s : Str) (g : Nat) : Prop where
 ne : cl s ≠ []
 len : s.length <= 4
 ok : ∀ c ∈ cl s, jP c
 val : iS 0 (cl s) = some g
 lt : g < 65536
noncomputable def qS (G : List Str) (gs : List Nat) : Prop := G.length = 8 /\ ∀ i, i < 8 -> ∃ s g, G[i]? = some s /\ gs[i]? = some g /\ nH s g
noncomputable def jX (T : List Str) : Prop := ∀ t ∈ T, cl t ≠ [] /\ 58 ∉ cl t
noncomputable def LP (ps : List (List Nat)) : Prop := ∀ p ∈ ps, p ≠ [] /\ 58 ∉ p
section
variable {hb : Bool} {σ : aG} {ρ : aJ} {n m g c x : Nat} {s : Str} {v : aB} {cond : aK} {α : Type} {as bs xs : List PyData} {G T T1 T2 : List Str} {Ts : List (List Str)} {J : Str}
theorem nZ (h : g < 65536) : nH (iR g) g := by
 obtain ⟨D, h1, h2, h3, h4, h5⟩ := zB 4 g [] h
 have e : cl (iR g) = D := h1.trans (List.append_nil _)
 have z := h4 []
 rw [List.append_nil] at z
 exact ⟨(zC h).2, aCv h, e ▸ h3, by rw [e, z]; rfl, h⟩
theorem aMp : nH "0" 0 := ⟨by decide, by decide, by unfold jP; decide, by decide, by decide⟩
theorem aG3 (h : nH s g) : dT false .int [.d (.str s), .d (.int 16)] σ = some (.d (.int g)) := by
 have e : dT false .int [.d (.str s), .d (.int 16)] σ = (aU ((16 : Int) = 16 /\ 0 < s.length /\ s.length <= 8) ((iS 0 s.cps.toList).map fun n : Nat => PyData.int (n : Int))).map .d := rfl
 rw [e, cG ⟨rfl, by rw [fK]; exact List.length_pos_iff.mpr h.ne, Nat.le_trans h.len (by decide)⟩, show iS 0 s.cps.toList = _ from h.val]; rfl
theorem aG8 (h : nH s g) : cU (eY .strip (.d (.str s)) [.d (.str "0123456789abcdef")] σ) = .ok (.d (.str "")) σ := aEm (Nat.le_trans h.len (by decide)) fun c hc => by
 have z : (48 <= c /\ c <= 57) \/ (97 <= c /\ c <= 102) := h.ok c hc
 exact (by decide : ∀ c : Fin 103, (48 <= c.val /\ c.val <= 57) \/ (97 <= c.val /\ c.val <= 102) -> c.val ∈ cl "0123456789abcdef") ⟨c, z.elim (fun q => Nat.lt_of_le_of_lt q.2 (by decide)) fun q => Nat.lt_succ_of_le q.2⟩ z
theorem zR (h : xs.length = n) (hn : n <= 1000) : dT false .len [.d (.list xs)] σ = some (.d (.int n)) := by
 rw [<- h]
 exact congrArg (Option.map aB.d) (cG (show xs.length < 2 ^ 62 from Nat.lt_of_le_of_lt (h ▸ hn) (by decide)))
theorem xY (g : α -> PyData) (p : α -> Bool) (as : List α) (h : ∀ s ∈ as, dF FT hb c cond (ρ.set x (.d (g s))) σ = .ok (p s) σ) : cY FT hb (as.length + c + 3) (.var x) x (some cond) (as.map g) ρ σ = .ok ((as.filter p).map g) σ := by
 induction as with
 | nil => rfl
 | cons s as ih =>
  rw [List.length_cons, show as.length + 1 + c + 3 = as.length + c + 2 + 1 + 1 by omega]
  have t : dF FT hb (as.length + c + 2) cond (ρ.set x (.d (g s))) σ = .ok (p s) σ := Le.up (fun n => (jG n).T' cond _ σ) (show c <= as.length + c + 2 by omega) (h s (.head _)) fun q => nomatch q
  rw [List.filter_cons]
  cases q : p s
  ·rw [q] at t
   exact aFr t (ih fun s hs => h s (.tail _ hs))
  ·rw [q] at t
   refine xZ t ?_ (ih fun s hs => h s (.tail _ hs))
   show lift ((ρ.set x (.d (g s))) x) σ = _
   rw [aJ.set_if, if_pos rfl]; rfl
theorem aGu (as : List α) : as.filter (fun _ => false) = [] := List.filter_eq_nil_iff.mpr fun _ _ q => nomatch q
theorem qS.mem (h : qS G (fR n)) (hs : s ∈ G) : ∃ g, nH s g := by
 obtain ⟨i, hi⟩ := List.getElem?_of_mem hs
 obtain ⟨s', g, h1, _, h3⟩ := h.2 i (h.1 ▸ (List.getElem?_eq_some_iff.mp hi).1)
 exact ⟨g, Option.some.inj (hi.symm.trans h1) ▸ h3⟩
theorem aIP : bR .ne (.d (.list [])) (.d (.list [])) σ = some (bV false) := congrArg (fun o : Option Bool => (o.map (!·)).map bV) (uI (ws := []) (y := .list []) (fun _ h => nomatch h) rfl rfl rfl)
theorem aBw (h4 : ρ 4 = some (.d (.list (G.map .str)))) (h : qS G (fR n)) (hn : n < 2 ^ 128) : cJ (dM (cN FT false 85) (f50.body.drop 4) ρ σ (dC σ.length)) = .ok (.d (.int n)) σ := by
 have l8 : (G.map PyData.str).length = 8 := by rw [List.length_map, h.1]
 have f := xY (hb := false) (σ := σ) (ρ := ρ.set 4 (.d (.list (G.map .str)))) (c := 20) (x := 56) (cond := .boolop false [.cmp .ne (.meth (.var 56) .strip [.lit (.str "0123456789abcdef")]) (.lit (.str "")), .cmp .gt (.bi .len [.var 56]) (.lit (.int 4))]) .str (fun _ => false) G fun s hs => by
  obtain ⟨g, hg⟩ := h.mem hs
  exact t_c.trans (sL rfl (sB (aG8 hg) (sL (lR (t := true) rfl) (sT rfl (sL (sH (Nat.le_trans hg.len (by decide))) (sL (gQ _ 4) (sT (by rw [decide_eq_false (by have := hg.len; rw [fK] at this; omega)]; rfl) rfl)))))))
 rw [aGu, aO h4] at f
 rw [<- aO h4] at f ⊢
 refine sJ (sL (zR l8 (by decide)) (sL rfl (sT rfl (sL (oA (by rw [l8]; decide)) (sB (hV f (by rw [h.1]; decide)) (sL aIP (sT rfl (sF rfl (sJ (sL rfl (sB (hV (jM (c := 20) (fun i : Nat => .int i) (fun i => (fR n).getD i 0 * 65536 ^ (7 - i)) (fun d : Nat => .int d) [0, 1, 2, 3, 4, 5, 6, 7] fun i hi => ?_) (by decide)) (sL (aA2 _) ?_))))))))))))
 ·have hi : i < 8 := (by decide : ∀ i ∈ [0, 1, 2, 3, 4, 5, 6, 7], i < 8) i hi
  obtain ⟨s, g, g1, g2, g3⟩ := h.2 i hi
  have ix : dW σ (.d (.list (G.map .str))) (.d (.int i)) = some (.d (.str s)) := by rw [xQ (Nat.lt_trans hi (by decide)), List.getElem?_map, g1]; rfl
  rw [List.getD_eq_getElem?_getD, g2]
  exact e_c.trans (sL ix (sL (aG3 g3) (sL (aA1 (Nat.le_of_lt_succ hi)) (sL (aAH 65536 (7 - i) (by decide) (by omega)) (sL (aAa (Nat.lt_trans g3.lt (by decide)) (Nat.lt_of_le_of_lt (Nat.pow_le_pow_right (by decide) (Nat.sub_le 7 i)) (by decide))) rfl)))))
 ·rw [aFC hn]
  exact bL rfl
theorem aFR : Str.ofString ":" = mk [58] := by decide
theorem fQ : cl ":" = [58] := by decide
theorem nR : cl "::" = [58, 58] := by decide
theorem zK {q : List Nat} {r : List (List Nat)} (h : LP (q :: r)) : ∃ c t, gR [58] (q :: r) = c :: t /\ c ≠ 58 := by
 obtain ⟨h1, h2⟩ := h q (.head _)
 cases q with
 | nil => exact absurd rfl h1
 | cons c q =>
  have hc : c ≠ 58 := fun e => h2 (e ▸ .head _)
  cases r with
  | nil => exact ⟨c, q, rfl, hc⟩
  | cons s r => exact ⟨c, _, rfl, hc⟩
theorem aBf {d : Nat} {t : List Nat} (hc : d ≠ x) : cZ [c, x] (c :: d :: t) = (cZ [c, x] (d :: t)).map (· + 1) := by
 show (if [c, x].isPrefixOf (c :: d :: t) then some 0 else _) = _
 rw [if_neg]
 simp [List.isPrefixOf]
 exact fun e => hc e.symm
theorem aCe (ps : List (List Nat)) (h : LP ps) : cZ [58, 58] (gR [58] ps) = none := by
 induction ps with
 | nil => rfl
 | cons p ps ih =>
  cases ps with
  | nil =>
   have z := kI (c := 58) (y := [58]) (a := p) [] (h p (.head _)).2
   rw [List.append_nil] at z
   exact z
  | cons q r =>
   have ih := ih fun z hz => h z (.tail _ hz)
   obtain ⟨c, t, e, hc⟩ := zK (q := q) (r := r) fun z hz => h z (.tail _ hz)
   show cZ [58, 58] (p ++ (58 :: gR [58] (q :: r))) = none
   rw [kI _ (h p (.head _)).2]
   rw [e] at ih ⊢
   rw [aBf hc, ih]; rfl
theorem aGw (ps : List (List Nat)) (r : List Nat) (h : LP ps) : cZ [58, 58] (gR [58] ps ++ 58 :: 58 :: r) = some (gR [58] ps).length := by
 induction ps with
 | nil => rfl
 | cons p ps ih =>
  cases ps with
  | nil =>
   show cZ [58, 58] (p ++ 58 :: 58 :: r) = some p.length
   rw [kI _ (h p (.head _)).2]
   exact congrArg some (Nat.zero_add _)
  | cons q s =>
   have ih := ih fun z hz => h z (.tail _ hz)
   obtain ⟨c, t, e, hc⟩ := zK (q := q) (r := s) fun z hz => h z (.tail _ hz)
   show cZ [58, 58] ((p ++ (58 :: gR [58] (q :: s))) ++ 58 :: 58 :: r) = some (p ++ (58 :: gR [58] (q :: s))).length
   rw [List.append_assoc, kI _ (h p (.head _)).2]
   rw [e] at ih ⊢
   show Option.map _ (cZ [58, 58] (58 :: c :: (t ++ 58 :: 58 :: r))) = _
   rw [aBf hc, show cZ [58, 58] (c :: (t ++ 58 :: 58 :: r)) = some (c :: t).length from ih, List.length_append]
   exact congrArg some (Nat.add_comm ..)
theorem vE (h : jX T) : LP (T.map cl) := fun p hp => (List.mem_map.mp hp).elim fun t q => q.2 ▸ h t q.1
theorem aLo (h : jX T) : ∃ S : List Str, Txt.split (Str.join ":" T) ":" = S /\ S.filter (fun s => !(s == Str.ofString "")) = T /\ S.length <= T.length + 1 := by
 cases T with
 | nil => exact ⟨[""], aEe (x := "") (by decide) (by decide), by decide, by decide⟩
 | cons t T =>
  refine ⟨t :: T, ?_, List.filter_eq_self.mpr fun t ht => ?_, Nat.le_succ _⟩
  ·rw [aFR]
   exact tD rfl (fun q => nomatch q) fun t ht => (h t ht).2
  ·exact congrArg not (beq_eq_false_iff_ne.mpr fun e => (h t ht).1 ((congrArg cl e).trans uD))
noncomputable abbrev inE : aK := .comp false (.var 56) 56 .seq (.meth (.var 59) .split [.lit (.str ":")]) (some (.cmp .ne (.var 56) (.lit (.str ""))))
theorem aHk (h : jX T) (hl : T.length <= 8) (hL : (Str.join ":" T).length <= 65536) : aP FT false 40 inE (ρ.set 59 (.d (.str (Str.join ":" T)))) σ = .ok (.d (.list (T.map .str))) σ := by
 obtain ⟨S, s1, s2, s3⟩ := aLo h
 have f := xY (hb := false) (σ := σ) (ρ := ρ.set 59 (.d (.str (Str.join ":" T)))) (c := 10) (x := 56) (cond := .cmp .ne (.var 56) (.lit (.str ""))) .str (fun s => !(s == Str.ofString "")) S fun s hs => t_c.trans (sL (mU rfl) rfl)
 rw [s2] at f
 exact e_c.trans (sL rfl (sB (qN hL s1) (sL (oA (by rw [List.length_map]; omega)) (sB (hV f (Nat.le_trans (show S.length + 10 + 3 <= 22 by omega) (by decide))) rfl))))
theorem aDP (hJ : J.length <= 65536) (hs : Txt.split J "::" = Ts.map (Str.join ":")) (hl : Ts.length <= 2) (hT : ∀ T ∈ Ts, jX T /\ T.length <= 8 /\ (Str.join ":" T).length <= 65536) (h8 : (Ts.map List.length).sum <= 8)
  (g : ∀ ρ : aJ, ρ 58 = some (.d (.list (Ts.map fun T => .list (T.map .str)))) -> ρ 60 = some (.d (.int (8 - (Ts.map List.length).sum : Nat))) -> cJ (dM (cN FT false 86) (f50.body.drop 3) ρ σ (dC σ.length)) = .ok (.d (.int n)) σ) :
  aN FT false 90 50 [v, .d (.str J), .d (.int 10)] σ = .ok (.d (.int n)) σ := by
 refine bA (q := f50) rfl rfl (sL rfl (sF rfl (sJ (sL rfl (sB (qN hJ hs) (sL (oA (by rw [List.length_map, List.length_map]; omega)) ?_))))))
 rw [List.map_map]
 refine sB (hV (jM (c := 40) (fun T : List Str => .str (Str.join ":" T)) id (fun T : List Str => .list (T.map .str)) Ts fun T hT' => aHk (hT T hT').1 (hT T hT').2.1 (hT T hT').2.2) (Nat.le_trans (show Ts.length + 40 + 2 <= 44 by omega) (by decide))) ?_
 rw [List.map_id]
 exact sJ (sL (oA (by rw [List.length_map]; omega)) (sB (hV (jM (c := 10) (fun T : List Str => .list (T.map .str)) List.length (fun d : Nat => .int d) Ts fun T hT' => e_c.trans (sL (zR (by rw [List.length_map]) (Nat.le_trans (hT T hT').2.1 (by decide))) rfl)) (Nat.le_trans (show Ts.length + 10 + 2 <= 14 by omega) (by decide))) (sL (aA2 _) (sL (aA1 (n := 8) h8) (g _ rfl rfl)))))
theorem wY (h : as.length + bs.length <= 1000) : fB .add (.d (.list as)) (.d (.list bs)) = some (.d (.list (as ++ bs))) := congrArg (Option.map aB.d) (cG h)
theorem aJK (hT : jX T) (hn : n < 2 ^ 128) (hp : qS T (fR n)) (hL : (Str.join ":" T).length <= 65536) : aN FT false 90 50 [v, .d (.str (Str.join ":" T)), .d (.int 10)] σ = .ok (.d (.int n)) σ := by
 refine aDP (Ts := [T]) hL (aEe (by decide) (by rw [iZ, nR, fQ]; exact aCe _ (vE hT))) (Nat.le_of_ble_eq_true rfl) (fun U hU => List.mem_singleton.mp hU ▸ ⟨hT, Nat.le_of_eq hp.1, hL⟩) (Nat.le_of_eq hp.1) fun ρ h58 h60 => ?_
 rw [<- aO h58, <- aO (ρ := ρ) h60]
 exact sJ (sL rfl (sL rfl (sL rfl (sF rfl (sL (wY (bs := []) (by rw [List.length_map, hp.1]; decide)) (by rw [List.append_nil]; exact aBw rfl hp hn))))))
theorem aID {y : PyData} (h : m <= 8) : fB .mul (.d (.list [y])) (.d (.int m)) = some (.d (.list (List.replicate m y))) := by
 have e : fB .mul (.d (.list [y])) (.d (.int m)) = (aU (-1000 <= (m : Int) /\ (m : Int) <= 1000 /\ [y].length <= 1) (some (PyData.list (List.replicate (m : Int).toNat [y]).flatten))).map .d := rfl
 have f : ∀ m, (List.replicate m [y]).flatten = List.replicate m y := fun m => by
  induction m with
  | zero => rfl
  | succ m ih => rw [List.replicate_succ, List.flatten_cons, ih]; rfl
 rw [e, cG ⟨by omega, by omega, Nat.le_refl _⟩, Int.toNat_natCast, f]; rfl
theorem aJL (hT1 : jX T1) (hT2 : jX T2) (hn : n < 2 ^ 128) (hm : T1.length + T2.length + m = 8) (hp : qS (T1 ++ (List.replicate m (Str.ofString "0") ++ T2)) (fR n))
  (hL1 : (Str.join ":" T1).length <= 100) (hL2 : (Str.join ":" T2).length <= 100) : aN FT false 90 50 [v, .d (.str (Str.join ":" T1 ++ "::" ++ Str.join ":" T2)), .d (.int 10)] σ = .ok (.d (.int n)) σ := by
 have h1 := aGw (T1.map cl) (gR [58] (T2.map cl)) (vE hT1)
 have h2 := aCe _ (vE hT2)
 have lc : (Str.ofString "::").length = 2 := rfl
 have sp : Txt.split (Str.join ":" T1 ++ "::" ++ Str.join ":" T2) "::" = [Str.join ":" T1, Str.join ":" T2] := aLq (a := cl (Str.join ":" T1)) (b := cl (Str.join ":" T2)) (by rw [cE, cE]) (by decide) (by decide) (by
  rw [cE, cE, nR, iZ, iZ, fQ, List.append_assoc]; exact h1) (by rw [iZ, nR, fQ]; exact h2)
 have h8 : ([T1, T2].map List.length).sum = T1.length + T2.length := rfl
 refine aDP (Ts := [T1, T2]) (by rw [Str.length_append, Str.length_append]; omega) sp (Nat.le_of_ble_eq_true rfl) (fun U hU => ?_) (by rw [h8]; omega) fun ρ h58 h60 => ?_
 ·rcases List.mem_cons.mp hU with rfl | hU
  ·exact ⟨hT1, by omega, by omega⟩
  ·exact List.mem_singleton.mp hU ▸ ⟨hT2, by omega, by omega⟩
 ·rw [h8, show 8 - (T1.length + T2.length) = m by omega] at h60
  rw [<- aO h58, <- aO (ρ := ρ) h60]
  refine sJ (sL rfl (sL rfl (sL rfl (sT rfl (sL (aID (by omega)) (sL rfl (sL (wY (by rw [List.length_replicate, List.length_map]; omega)) (sL (wY (by rw [List.length_append, List.length_replicate, List.length_map, List.length_map]; omega)) ?_))))))))
  rw [<- List.map_replicate, <- List.map_append, <- List.map_append]
  exact aBw rfl hp hn
theorem aAJ {nf : Nat} (h : eU nf n) : aN FT false 90 50 [v, .d (.str (bX nf n)), .d (.int nf)] σ = .ok (.d (.int n)) σ := by
 rcases h with ⟨rfl, h⟩ | ⟨rfl, hn, h⟩
 ·exact bD (aJJ h) (by decide)
 ·obtain ⟨f1, f2, _⟩ := aDU hn h
  have hP : ∀ t ∈ dI n, ∃ g, nH t g := fun t ht => (List.mem_map.mp ht).elim fun g q => ⟨g, q.2 ▸ nZ (mM q.1)⟩
  have hOk : jX (dI n) := fun t ht => (hP t ht).elim fun g q => ⟨q.ne, fun hm => by have := q.ok 58 hm; unfold jP at this; omega⟩
  have at_P : ∀ i, i < 8 -> ∃ g, (fR n)[i]? = some g /\ (dI n)[i]? = some (iR g) /\ g < 65536 := fun i hi => by
   have hi' : i < (fR n).length := hi
   refine ⟨(fR n)[i], List.getElem?_eq_getElem hi', ?_, mM (List.getElem_mem hi')⟩
   unfold dI
   rw [List.getElem?_map, List.getElem?_eq_getElem hi']; rfl
  have lP : (dI n).length = 8 := rfl
  show aN FT false 90 50 [v, .d (.str (gD n)), .d (.int 10)] σ = _
  unfold gD
  generalize cK n = q at *
  cases hm : decide (q.2 < 2)
  ·have t1 : ((dI n).take q.1).length = q.1 := by rw [List.length_take, lP]; omega
   have t2 : ((dI n).drop (q.1 + q.2)).length = 8 - (q.1 + q.2) := by rw [List.length_drop, lP]
   have j1 := jE (sep := ":") fun y hy => lM (n := n) y (List.mem_of_mem_take (i := q.1) hy)
   have j2 := jE (sep := ":") fun y hy => lM (n := n) y (List.mem_of_mem_drop (i := q.1 + q.2) hy)
   have lc : (Str.ofString ":").length = 1 := rfl
   rw [t1, lc] at j1
   rw [t2, lc] at j2
   refine aJL (m := q.2) (fun t ht => hOk t (List.mem_of_mem_take ht)) (fun t ht => hOk t (List.mem_of_mem_drop ht)) hn (by omega) ⟨by rw [List.length_append, List.length_append, List.length_replicate, t1, t2]; omega, fun i hi => ?_⟩ (by omega) (by omega)
   obtain ⟨g, g1, g2, g3⟩ := at_P i hi
   by_cases c1 : i < q.1
   ·exact ⟨iR g, g, by rw [List.getElem?_append_left (by omega), List.getElem?_take_of_lt c1, g2], g1, nZ g3⟩
   ·rw [List.getElem?_append_right (by omega), t1]
    by_cases c2 : i < q.1 + q.2
    ·have hz := f2 i (by omega) c2
     rw [List.getD_eq_getElem?_getD, g1] at hz
     obtain rfl : g = 0 := hz
     exact ⟨"0", 0, by rw [List.getElem?_append_left (by rw [List.length_replicate]; omega), List.getElem?_replicate, if_pos (by omega)], g1, aMp⟩
    ·exact ⟨iR g, g, by rw [List.getElem?_append_right (by rw [List.length_replicate]; omega), List.length_replicate, List.getElem?_drop, show q.1 + q.2 + (i - q.1 - q.2) = i by omega, g2], g1, nZ g3⟩
  ·refine aJK hOk hn ⟨lP, fun i hi => ?_⟩ (Nat.le_trans (jE lM) (Nat.le_of_ble_eq_true rfl))
   obtain ⟨g, g1, g2, g3⟩ := at_P i hi
   exact ⟨_, g, g2, g1, nZ g3⟩
end
end PQ
namespace PQ
noncomputable abbrev fF (a b : Nat) : Str := dG (bE a) (bE b)
section
variable {σ : aG} {ρ : aJ} {l lw n m a b c d lo hi nf N : Nat} {v : aB} {x y T sep : Str} {ws ts : List Str} {pd : PyData} {r : List Nat} {Q : Nat -> Prop}
theorem aBZ : Str.ofString "-" = mk [45] := by decide
theorem yQ {t : Bool} (h : (x == y) = t) : bR .eq (.d (.str x)) (.d (.str y)) σ = some (bV t) := h ▸ rfl
theorem aCr (hx : 45 ∉ cl x) (hy : 45 ∉ cl y) (lx : x.length <= 102) (ly : y.length <= 102) : aN FT false 40 51 [v, .d (.str (dG x y))] σ = .ok (.d (.tuple [.str x, .str y])) σ := by
 have sl := Nat.le_trans (qM lx ly) (by decide : 205 <= 65536)
 refine bA (q := f51) rfl rfl (sL rfl ?_)
 unfold dG at sl ⊢
 cases z : x == y
 ·rw [z] at sl
  have sp : Txt.split (x ++ (Str.ofString "-" ++ y)) "-" = [x, y] := by
   rw [aBZ, <- eM]
   exact tD rfl (fun q => nomatch q) fun t ht => (List.mem_cons.mp ht).elim (fun q => q ▸ hx) fun q => List.mem_singleton.mp q ▸ hy
  exact sB (qN sl sp) (sJ (sL rfl (sL rfl (sT rfl (sL rfl (sL rfl (sL (yQ z) (sF rfl (sT rfl (sF rfl (sJ (sL rfl (sL rfl (bL rfl))))))))))))))
 ·rw [z] at sl
  obtain rfl := eq_of_beq z
  have sp : Txt.split x "-" = [x] := by
   rw [aBZ]
   exact tD (ts := [x]) rfl (fun q => nomatch q) fun t ht => List.mem_singleton.mp ht ▸ hx
  exact sB (qN sl sp) (sJ (sL rfl (sL rfl (sT rfl (sL rfl (sL rfl (sL (yQ z) (sT rfl (sL rfl (sL rfl (sF rfl (sT rfl (sF rfl (sJ (sL rfl (sL rfl (bL rfl)))))))))))))))))
theorem aIX (ha : a < 65536) (hb : b < 65536) : (bE a == bE b) = (a == b) := by
 rw [Bool.eq_iff_iff, beq_iff_eq, beq_iff_eq]
 refine ⟨fun e => ?_, fun e => e ▸ rfl⟩
 have z := aAo (gE ha)
 rw [e, aAo (gE hb)] at z
 exact (Int.ofNat.inj (Option.some.inj z)).symm
theorem aDD (ha : a < 65536) (hb : b < 65536) : poT (some (a, b)) = ":" ++ fF a b := by
 show (bif a == b then _ else _) = Str.ofString ":" ++ bif bE a == bE b then _ else _
 rw [aIX ha hb]
 cases a == b
 ·simp only [cond_false, eM]
 ·rfl
theorem vS (ha : a < 65536) (hb : b < 65536) : aN FT false 70 52 [v, .d (.str (fF a b))] σ = .ok (.d (.tuple [.int a, .int b])) σ :=
 bA (q := f52) rfl rfl (sB (bD (aCr (pF (by decide)) (pF (by decide)) (Nat.le_trans (dY (gE ha)) (by decide)) (Nat.le_trans (dY (gE hb)) (by decide))) (by decide)) (sJ (pM (gE ha) (pM (gE hb) (bL rfl)))))
theorem wD (h : cl x ≠ []) : ∃ c r, cl (dG x y) = c :: r /\ ∃ t, cl x = c :: t /\ ∃ u, r = t ++ u := by
 cases hx : cl x with
 | nil => exact absurd hx h
 | cons c r =>
  unfold dG
  cases x == y
  ·exact ⟨c, _, (cE ..).trans (by rw [hx]; rfl), r, rfl, _, rfl⟩
  ·exact ⟨c, r, hx, r, rfl, [], (List.append_nil _).symm⟩
theorem aEa (hx : d ∉ cl x) (hy : d ∉ cl y) (hd : d ≠ 45) : d ∉ cl (dG x y) := by
 unfold dG
 cases x == y
 ·show d ∉ cl (x ++ (Str.ofString "-" ++ y))
  rw [cE, cE]
  exact fun h => (List.mem_append.mp h).elim hx fun h => (List.mem_append.mp h).elim (fun h => hd (List.mem_singleton.mp ((by decide : cl "-" = [45]) ▸ h))) hy
 ·exact hx
theorem aJm (a b : Nat) : ∃ c r, cl (fF a b) = c :: r /\ 48 <= c /\ c <= 57 := by
 obtain ⟨c, r, e, t, h, _⟩ := wD (y := bE b) (qB a)
 exact ⟨c, r, e, oH a c (h ▸ .head _)⟩
theorem aAF (ha : a < 65536) (hb : b < 65536) : (fF a b).length <= 205 := qM (Nat.le_trans (dY (gE ha)) (by decide)) (Nat.le_trans (dY (gE hb)) (by decide))
theorem uZ (hs : ∀ c ∈ cl sep, Q c) (h : ∀ t ∈ ts, ∀ c ∈ cl t, Q c) : ∀ c ∈ cl (Str.join sep ts), Q c := by
 induction ts with
 | nil => exact fun c hc => nomatch hc
 | cons t ts ih => cases ts with
  | nil => exact h t (.head _)
  | cons u ts =>
   show ∀ c ∈ cl (t ++ sep ++ Str.join sep (u :: ts)), Q c
   rw [cE, cE]
   exact fun c hc => (List.mem_append.mp hc).elim (fun hc => (List.mem_append.mp hc).elim (h t (.head _) c) (hs c)) (ih (fun z hz => h z (.tail _ hz)) c)
theorem aBs (h : ∀ c, jP c -> Q c) (h46 : Q 46) (h58 : nf = 10 -> Q 58) : ∀ c ∈ cl (bX nf n), Q c := by
 unfold bX
 cases z : nf == 10
 ·refine uZ (fun c hc => ?_) fun t ht c hc => ?_
  ·rw [(by decide : cl "." = [46])] at hc
   exact List.mem_singleton.mp hc ▸ h46
  ·obtain ⟨s, _, rfl⟩ := List.mem_map.mp ht
   exact h c (.inl (oH _ c hc))
 ·have h58 := h58 (eq_of_beq z)
  have hp : ∀ t ∈ dI n, ∀ c ∈ cl t, Q c := fun t ht c hc => by
   obtain ⟨g, q, rfl⟩ := List.mem_map.mp ht
   exact h c ((nZ (mM q)).ok c hc)
  have hc : ∀ c ∈ cl ":", Q c := fun c hc => by
   rw [fQ] at hc
   exact List.mem_singleton.mp hc ▸ h58
  show ∀ c ∈ cl (gD n), Q c
  unfold gD
  cases decide ((cK n).2 < 2)
  ·show ∀ c ∈ cl (Str.join ":" _ ++ "::" ++ Str.join ":" _), Q c
   rw [cE, cE]
   refine fun c q => (List.mem_append.mp q).elim (fun q => (List.mem_append.mp q).elim (uZ hc (fun t ht => hp t (List.mem_of_mem_take ht)) c) fun q => ?_) (uZ hc (fun t ht => hp t (List.mem_of_mem_drop ht)) c)
   rw [nR] at q
   rcases List.mem_cons.mp q with rfl | q
   ·exact h58
   ·exact List.mem_singleton.mp q ▸ h58
  ·exact uZ hc hp
theorem kZ (h : d = 45 \/ d = 91 \/ d = 93 \/ d = 47 := by decide) : d ∉ cl (bX nf n) := fun hm => aBs (Q := (· ≠ d)) (nf := nf) (fun c hc => by unfold jP at hc; omega) (by omega) (by omega) d hm rfl
theorem tP (h : nf ≠ 10) : 58 ∉ cl (bX nf n) := fun hm => aBs (Q := (· ≠ 58)) (nf := nf) (fun c hc => by unfold jP at hc; omega) (by decide) (fun q => absurd q h) 58 hm rfl
theorem aHt (n : Nat) : (∃ c r, cl (gD n) = c :: r /\ c ≠ 58) \/ ∃ r, cl (gD n) = 58 :: 58 :: r := by
 have hOk : jX (dI n) := fun t ht => by
  obtain ⟨g, q, rfl⟩ := List.mem_map.mp ht
  exact ⟨(nZ (mM q)).ne, fun hm => by have := (nZ (mM q)).ok 58 hm; unfold jP at this; omega⟩
 have head : ∀ (q : Str) (r : List Str), jX (q :: r) -> ∃ c t, cl (Str.join ":" (q :: r)) = c :: t /\ c ≠ 58 := fun q r h => by
  rw [iZ, fQ]
  exact zK (vE h)
 unfold gD
 cases decide ((cK n).2 < 2)
 ·show (∃ c r, cl (Str.join ":" _ ++ "::" ++ Str.join ":" _) = c :: r /\ c ≠ 58) \/ ∃ r, cl (Str.join ":" _ ++ "::" ++ Str.join ":" _) = 58 :: 58 :: r
  cases hb : (dI n).take (cK n).1 with
  | nil => exact .inr ⟨_, by rw [cE, cE, nR]; rfl⟩
  | cons q r =>
   obtain ⟨c, t, e, hc⟩ := head q r fun z hz => hOk z (List.mem_of_mem_take (hb ▸ hz))
   exact .inl ⟨c, _, by rw [cE, cE, e]; rfl, hc⟩
 ·exact .inl (head _ _ hOk)
theorem sl1 (hc : cl T = c :: r) (hL : T.length <= 65536) : gH σ (.d (.str T)) (.d .none) (.d (.int 1)) = some (.d (.str (mk [c]))) := (tB hL 1).trans (by rw [hc]; rfl)
theorem sl2 (hc : cl T = c :: d :: r) (hL : T.length <= 65536) : gH σ (.d (.str T)) (.d .none) (.d (.int 2)) = some (.d (.str (mk [c, d]))) := (tB hL 2).trans (by rw [hc]; rfl)
theorem rP (hy : cl y = [d]) (h : c ≠ d) : bR .eq (.d (.str (mk [c]))) (.d (.str y)) σ = some (bV false) := uL (by rw [hy, mH]; exact fun e => h (List.cons.inj e).1)
theorem uH (hy : cl y = [d]) (h : c = d) : bR .eq (.d (.str (mk [c]))) (.d (.str y)) σ = some (bV true) := nU (by rw [hy, mH, h])
theorem pC : cl "[" = [91] := by decide
theorem aDN : cl "]" = [93] := by decide
theorem aAi (h : a ≠ b) : bR .ne (.d (.int a)) (.d (.int b)) σ = some (bV true) := congrArg (fun t => some (bV (!t))) (beq_eq_false_iff_ne.mpr fun e => h (Int.ofNat.inj e))
theorem tF (h39 : ρ 39 = some (.loc l)) (h29 : ρ 29 = some (.d (.int nf))) (h16 : ρ 16 = some (.d (.str (dG (bX nf lo) (bX nf hi))))) (h28 : ρ 28 = some (.d pd)) (h1 : eU nf lo) (h2 : eU nf hi) (hN : σ.length = N) :
  cJ (dM (cN FT false 107) (f53.body.drop 2) ρ σ (dC N)) = .ok (.d (.tuple [(Ad.span lo hi).data, pd])) σ := by
 rw [<- aO h39, <- aO (ρ := ρ) h29, <- aO (ρ := ρ) h16, <- aO (ρ := ρ) h28]
 obtain ⟨c, r, e, _⟩ := wD (y := bX nf hi) (nK (nf := nf) (n := lo))
 refine sJ (sL (uL (by rw [e, uD]; exact fun q => nomatch q)) (sF rfl (sJ (sB (bD (aCr kZ kZ (Nat.le_trans gZ (by decide)) (Nat.le_trans gZ (by decide))) (by decide)) (sJ (sB (bD (aAJ h1) (by decide)) (sB (bD (aAJ h2) (by decide)) (bL hN))))))))
theorem aLJ (P : cC σ l lw) (ho : bM (dP nf (some (a, b)) .no :: ws)) (ha : a < 65536) (hb : b < 65536) : aN FT false 110 53 [.loc l, .d (.int nf)] (pw σ lw (dP nf (some (a, b)) .no :: ws)) = .ok (.d (.tuple [.none, .tuple [.int a, .int b]])) (pw σ lw ws) := by
 have hT : dP nf (some (a, b)) .no = ":" ++ fF a b := aDD ha hb
 rw [hT] at ho ⊢
 obtain ⟨c, r, hc, hc1, hc2⟩ := aJm a b
 have hcl : cl (":" ++ fF a b) = 58 :: c :: r := by rw [cE, fQ, hc]; rfl
 have lT : (":" ++ fF a b).length <= 65536 := by rw [Str.length_append]; exact Nat.le_trans (Nat.add_le_add_left (aAF ha hb) _) (Nat.le_of_ble_eq_true rfl)
 have d1 : mk ((cl (":" ++ fF a b)).drop 1) = fF a b := by rw [cE, fQ]; rfl
 have s3 : gH (pw σ lw ws) (.d (.str (":" ++ fF a b))) (.d (.int 1)) (.d .none) = some (.d (.str (fF a b))) := (qJ lT 1).trans (by rw [d1])
 refine bA (q := f53) rfl rfl (pN P ho fun ho => sJ (sL (sl1 hcl lT) (sL (rP pC (by decide)) (sF rfl ?_))))
 by_cases h10 : nf = 10
 ·subst h10
  exact sL rfl (sF rfl (sF rfl (sL (sl1 hcl lT) (sL (uH fQ rfl) (sT rfl (sL (sl2 hcl lT) (sL (lR (t := false) (by rw [nR, mH]; exact beq_eq_false_iff_ne.mpr fun e => by have := (List.cons.inj (List.cons.inj e).2).1; omega)) (sT rfl (sT rfl (sL s3 (sB (bD (vS ha hb) (by decide)) (sJ (sJ (sJ (sJ (sL (nU rfl) (sT rfl (bL cW))))))))))))))))))
 ·have f0 : Txt.find (":" ++ fF a b) ":" = 0 := yU (a := []) hcl fQ (fun q => nomatch q)
  exact sL (aAi (b := 10) h10) (sT rfl (sL (rX fQ (hcl ▸ .head _)) (sT rfl (sT rfl (sL rfl (sB uQ (sJ (by
   rw [f0]
   exact sL (tB lT 0) (sL rfl (sL s3 (sB (bD (vS ha hb) (by decide)) (sJ (sJ (sJ (sL (nU rfl) (sT rfl (bL cW)))))))))))))))))
theorem aLM (P : cC σ l lw) (ho : bM (dP nf none (.span lo hi) :: ws)) (h1 : eU nf lo) (h2 : eU nf hi) : aN FT false 110 53 [.loc l, .d (.int nf)] (pw σ lw (dP nf none (.span lo hi) :: ws)) = .ok (.d (.tuple [(Ad.span lo hi).data, .none])) (pw σ lw ws) := by
 have hT : dP nf none (.span lo hi) = dG (bX nf lo) (bX nf hi) := by
  show dG (eA (jC nf none) _) (eA (jC nf none) _) ++ "" = _
  rw [xE, show jC nf none = false by unfold jC; rw [show (none : Po).isSome = false from rfl, Bool.and_false]]; rfl
 rw [hT] at ho ⊢
 obtain ⟨c, r, hc, t, ht, u, hu⟩ := wD (y := bX nf hi) (nK (nf := nf) (n := lo))
 have lT : (dG (bX nf lo) (bX nf hi)).length <= 65536 := Nat.le_trans (qM (Nat.le_trans gZ (by decide)) (Nat.le_trans gZ (by decide))) (by decide)
 have c91 : c ≠ 91 := fun e => kZ (d := 91) (nf := nf) (n := lo) (by decide) (ht ▸ e ▸ .head _)
 refine bA (q := f53) rfl rfl (pN P ho fun ho => sJ (sL (sl1 hc lT) (sL (rP pC c91) (sF rfl ?_))))
 by_cases h10 : nf = 10
 ·subst h10
  refine sL rfl (sF rfl (sF rfl (sL (sl1 hc lT) ?_)))
  by_cases c58 : c = 58
  ·have hd : ∃ r', cl (dG (bX 10 lo) (bX 10 hi)) = 58 :: 58 :: r' := by
    rcases aHt lo with ⟨c', r', e, hne⟩ | ⟨r', e⟩
    ·exact absurd ((List.cons.inj (ht.symm.trans e)).1.symm.trans c58) hne
    ·exact ⟨r' ++ u, by rw [hc, c58, hu, (List.cons.inj (ht.symm.trans e)).2]; rfl⟩
   obtain ⟨r', e⟩ := hd
   exact sL (uH fQ c58) (sT rfl (sL (sl2 e lT) (sL (lR (t := true) (by rw [nR]; rfl)) (sF rfl (sF rfl (sJ (sJ (tF rfl rfl rfl rfl h1 h2 cW))))))))
  ·exact sL (rP fQ c58) (sF rfl (sF rfl (sJ (sJ (tF rfl rfl rfl rfl h1 h2 cW)))))
 ·have n58 := aEa (tP (n := lo) h10) (tP (n := hi) h10) (by decide)
  exact sL (aAi (b := 10) h10) (sT rfl (sL (rW fQ n58) (sF rfl (sF rfl (sL (sl1 hc lT) (sL (rP fQ fun e => n58 (hc ▸ e ▸ .head _)) (sF rfl (sF rfl (sJ (sJ (tF rfl rfl rfl rfl h1 h2 cW)))))))))))
end
end PQ
namespace PQ
section
variable {σ : aG} {ρ : aJ} {l lw a b lo hi nf c n m : Nat} {x y X C k : Str} {ws W cur fl vs : List Str} {v : aB} {ad : Ad} {ps : Po}
theorem aEw (b0 : Bool) (h : jC nf (some (a, b)) = b0) (ha : a < 65536) (hb : b < 65536) : dP nf (some (a, b)) (.span lo hi) = dG (eA b0 (bX nf lo)) (eA b0 (bX nf hi)) ++ (":" ++ fF a b) := by
 rw [<- h, <- aDD ha hb]; rfl
theorem brF (x : Str) : eA false x = x := rfl
theorem aLK (P : cC σ l lw) (ho : bM (dP 2 (some (a, b)) (.span lo hi) :: ws)) (h1 : eU 2 lo) (h2 : eU 2 hi) (ha : a < 65536) (hb : b < 65536) :
  aN FT false 110 53 [.loc l, .d (.int 2)] (pw σ lw (dP 2 (some (a, b)) (.span lo hi) :: ws)) = .ok (.d (.tuple [(Ad.span lo hi).data, .tuple [.int a, .int b]])) (pw σ lw ws) := by
 have hT : dP 2 (some (a, b)) (.span lo hi) = dG (bX 2 lo) (bX 2 hi) ++ (":" ++ fF a b) := by rw [aEw false rfl ha hb, brF, brF]
 rw [hT] at ho ⊢
 obtain ⟨c, r, hc, t, ht, u, hu⟩ := wD (y := bX 2 hi) (nK (nf := 2) (n := lo))
 have lT : (dG (bX 2 lo) (bX 2 hi) ++ (":" ++ fF a b)).length <= 65536 := by
  rw [Str.length_append, Str.length_append]
  exact Nat.le_trans (Nat.add_le_add (qM (Nat.le_trans gZ (by decide)) (Nat.le_trans gZ (by decide))) (Nat.add_le_add_left (aAF ha hb) _)) (Nat.le_of_ble_eq_true rfl)
 have c91 : c ≠ 91 := fun e => kZ (d := 91) (nf := 2) (n := lo) (by decide) (ht ▸ e ▸ .head _)
 have n58 := aEa (tP (nf := 2) (n := lo) (by decide)) (tP (nf := 2) (n := hi) (by decide)) (by decide)
 exact bA (q := f53) rfl rfl (pN P ho fun ho => sJ (sL (sl1 ((cE ..).trans (by rw [hc]; rfl)) lT) (sL (rP pC c91) (sF rfl (sL (aAi (a := 2) (b := 10) (by decide)) (sT rfl (sL (rX fQ (yL fQ)) (sT rfl (sT rfl (sL rfl (sB (rK fQ n58) (sJ (sL (rJ lT) (sL dQ (sL (pD fQ lT) (sB (bD (vS ha hb) (by decide)) (sJ (sJ (tF (nf := 2) rfl rfl rfl rfl h1 h2 cW)))))))))))))))))))
theorem rG (x : Str) : cl (eA true x) = 91 :: (cl x ++ [93]) := by
 show cl ("[" ++ x ++ "]") = _
 rw [cE, cE, pC, aDN]; rfl
theorem vM {a b : Nat} {l : List Nat} (h1 : a ≠ b) (h2 : a ∉ l) : a ∉ b :: l := fun h => (List.mem_cons.mp h).elim h1 h2
theorem pK {l : List Nat} (h : c ∉ l) : l.filter (· != c) = l := List.filter_eq_self.mpr fun d hd => bne_iff_ne.mpr fun e => h (e ▸ hd)
theorem aFp {R : List Nat} (hx : 93 ∉ cl x /\ 91 ∉ cl x) (hy : 93 ∉ cl y /\ 91 ∉ cl y) :
  ∃ X : List Nat, cl (dG (eA true x) (eA true y)) = 91 :: X ++ [93] /\ cZ [93, 58] (91 :: X ++ 93 :: 58 :: R) = some (X.length + 1) /\ ((91 :: X ++ [93]).filter (· != 91)).filter (· != 93) = cl (dG x y) := by
 have hb : (eA true x == eA true y) = (x == y) := by
  rw [Bool.eq_iff_iff, beq_iff_eq, beq_iff_eq]
  refine ⟨fun e => ?_, fun e => e ▸ rfl⟩
  have z := congrArg cl e
  rw [rG, rG] at z
  exact gW (List.append_cancel_right (List.cons.inj z).2)
 have go : cZ [93, 58] (93 :: 58 :: R) = some 0 := rfl
 have d : cl "-" = [45] := by decide
 unfold dG
 rw [hb]
 cases x == y
 ·refine ⟨cl x ++ 93 :: 45 :: 91 :: cl y, ?_, ?_, ?_⟩
  ·show cl (eA true x ++ ("-" ++ eA true y)) = _
   rw [cE, cE, rG, rG, d]; simp
  ·have e : (91 :: (cl x ++ 93 :: 45 :: 91 :: cl y) ++ 93 :: 58 :: R) = (91 :: cl x) ++ (93 :: 45 :: ((91 :: cl y) ++ 93 :: 58 :: R)) := by simp
   rw [e, kI _ (vM (by decide) hx.1), aBf (by decide), <- List.cons_append, kI _ (vM (by decide) (vM (by decide) hy.1)), go]
   simp; omega
  ·show _ = cl (x ++ ("-" ++ y))
   have e : (91 :: (cl x ++ 93 :: 45 :: 91 :: cl y) ++ [93]) = [91] ++ (cl x ++ ([93, 45, 91] ++ (cl y ++ [93]))) := by simp
   rw [e, cE, cE, d]
   simp [pK hx.2, pK hx.1, pK hy.2, pK hy.1]
 ·refine ⟨cl x, rG x, ?_, ?_⟩
  ·exact (kI _ (vM (by decide) hx.1)).trans (by rw [go]; exact congrArg some (Nat.zero_add _))
  ·show List.filter (· != 93) (List.filter (· != 91) ([91] ++ (cl x ++ [93]))) = cl x
   simp [pK hx.2, pK hx.1]
theorem aDS (hC : cl C = [c]) (hx : x.length <= 65536) : cU (eY .replace (.d (.str x)) [.d (.str C), .d (.str "")] σ) = .ok (.d (.str (Txt.replace x (mk [c]) (mk [])))) σ := by
 obtain rfl : C = mk [c] := gW hC
 exact congrArg (fun o : Option PyData => cU (o.map fun r => (aB.d r, σ))) (cG ⟨beq_eq_false_iff_ne.mpr fun e => (nomatch congrArg cl e : False), hx, by decide⟩)
theorem aLL (P : cC σ l lw) (ho : bM (dP 10 (some (a, b)) (.span lo hi) :: ws)) (h1 : eU 10 lo) (h2 : eU 10 hi) (ha : a < 65536) (hb : b < 65536) :
  aN FT false 110 53 [.loc l, .d (.int 10)] (pw σ lw (dP 10 (some (a, b)) (.span lo hi) :: ws)) = .ok (.d (.tuple [(Ad.span lo hi).data, .tuple [.int a, .int b]])) (pw σ lw ws) := by
 have hT : dP 10 (some (a, b)) (.span lo hi) = dG (eA true (bX 10 lo)) (eA true (bX 10 hi)) ++ (":" ++ fF a b) := aEw true rfl ha hb
 have lS := qM (kD (c := true) (gZ (nf := 10) (n := lo))) (kD (c := true) (gZ (nf := 10) (n := hi)))
 rw [hT] at ho ⊢
 obtain ⟨X, x1, x2, x3⟩ := aFp (x := bX 10 lo) (y := bX 10 hi) (R := cl (fF a b)) ⟨kZ, kZ⟩ ⟨kZ, kZ⟩
 generalize dG (eA true (bX 10 lo)) (eA true (bX 10 hi)) = S at *
 have lT : (S ++ (":" ++ fF a b)).length <= 65536 := by
  rw [Str.length_append, Str.length_append]
  exact Nat.le_trans (Nat.add_le_add lS (Nat.add_le_add_left (aAF ha hb) _)) (Nat.le_of_ble_eq_true rfl)
 have hcl : cl (S ++ (":" ++ fF a b)) = 91 :: X ++ 93 :: 58 :: cl (fF a b) := by rw [uE fQ, x1, List.append_assoc]; rfl
 have lX : (cl S).length = X.length + 2 := by rw [x1, List.length_append]; rfl
 have hf : Txt.find (S ++ (":" ++ fF a b)) "]:" = ((X.length + 1 : Nat) : Int) := by rw [yT, hcl, (by decide : cl "]:" = [93, 58]), x2]
 have cA := rJ (σ := pw σ lw ws) lT
 have cB := pD (σ := pw σ lw ws) fQ lT
 rw [lX] at cA cB
 have e1 : cl (Txt.replace S (mk [91]) (mk [])) = (91 :: X ++ [93]).filter (· != 91) := by rw [aDT, x1]
 have e2 : Txt.replace (Txt.replace S (mk [91]) (mk [])) (mk [93]) (mk []) = dG (bX 10 lo) (bX 10 hi) := gW (by rw [aDT, e1, x3])
 have lY : (Txt.replace S (mk [91]) (mk [])).length <= 65536 := by
  rw [fK, e1]
  exact Nat.le_trans (List.length_filter_le ..) (by rw [<- x1, <- fK]; exact Nat.le_trans lS (by decide))
 have r2 := aDS (σ := pw σ lw ws) aDN lY
 rw [e2] at r2
 refine bA (q := f53) rfl rfl (pN P ho fun ho => sJ (sL (sl1 (r := X ++ 93 :: 58 :: cl (fF a b)) hcl lT) (sL (uH pC rfl) (sT rfl (sL rfl (sB (uQ.trans (by rw [hf])) (sJ ?_)))))))
 refine sL dQ (sL cA (sL rfl (sB (aDS pC (Nat.le_trans lS (by decide))) (sL rfl (sB r2 (sL dQ (sL cB (sJ ?_))))))))
 refine sL (gQ (X.length + 1) 0) (sT (by rw [decide_eq_true (Nat.succ_pos _)]; rfl) ?_)
 exact sL rfl (sT rfl (sT rfl (sB (bD (vS ha hb) (by decide)) (sJ (tF (nf := 10) rfl rfl rfl rfl h1 h2 cW)))))
theorem aA5 (P : cC σ l lw) (ho : bM (dP nf ps ad :: ws)) (hp : gY ps) (h : mC nf ad ps) (hn : ∀ b m, ad ≠ .net b m) (h0 : (eX (.d ad.data) && eX (.d (fN ps))) = false) :
  aN FT false 110 53 [.loc l, .d (.int nf)] (pw σ lw (dP nf ps ad :: ws)) = .ok (.d (.tuple [ad.data, fN ps])) (pw σ lw ws) := by
 cases ad with
 | net b m => exact absurd rfl (hn b m)
 | no => cases ps with
  | none => cases h0
  | some q => exact aLJ P ho (hp q.1 q.2 rfl).1 (hp q.1 q.2 rfl).2
 | span lo hi => cases ps with
  | none => exact aLM P ho h.1 h.2
  | some q =>
   obtain ⟨ha, hb⟩ := hp q.1 q.2 rfl
   have hnf : nf = 2 \/ nf = 10 := h.1.imp (·.1) (·.1)
   rcases hnf with rfl | rfl
   ·exact aLK P ho h.1 h.2 ha hb
   ·exact aLL P ho h.1 h.2 ha hb
end
end PQ
namespace PQ
noncomputable abbrev rB : List bH := foB (f54.body.getD 4 (.ret .stuck))
section
variable {σ : aG} {ρ : aJ} {l lw nf m n N : Nat} {x y X k : Str} {ws W cur fl xs : List Str} {v : aB} {ad : Ad} {ps : Po} {b : Bool}
theorem aCi (h : ∀ w ∈ cur, dE (cl w)) : fC (.tuple (cur.map .str)) = true := by
 unfold fC
 rw [Bool.and_eq_true]
 have := yN cur
 exact ⟨yA cur h, decide_eq_true (by rw [PyData.depth]; omega)⟩
theorem yR (h : ∀ w ∈ cur, dE (cl w)) : bR .eq (.d (.tuple (cur.map .str))) (.d (.tuple [])) σ = some (bV cur.isEmpty) := by
 have e : bR .eq (.d (.tuple (cur.map .str))) (.d (.tuple [])) σ = (aU ((fC (.tuple (cur.map .str)) && fC (.tuple ([].map PyData.str))) = true) (some (PyData.eqv (.tuple (cur.map .str)) (.tuple [])))).map bV := rfl
 rw [e, aCi h, aCi (cur := []) fun _ h => nomatch h]
 cases cur <;> rfl
theorem uX (hk : dE (cl k)) (h : ∀ x ∈ xs, dE (cl x)) : bR .isIn (.d (.str k)) (.d (.tuple (xs.map .str))) σ = some (bV (xs.any (· == k))) := by
 have e : bR .isIn (.d (.str k)) (.d (.tuple (xs.map .str))) σ = (inX (.str k) (xs.map .str)).map bV := rfl
 rw [e, zH hk h]; rfl
theorem aBa (h33 : ρ 33 = some (.d (.tuple (cur.map .str)))) (hc : ∀ w ∈ cur, dE (cl w)) (he : cur.isEmpty = false) : bS FT false 60 rB ρ σ = .ok (.next ρ) σ := by
 rw [<- aO h33]
 refine fU.trans (sL (yR hc) (sF (by rw [he]; rfl) ?_))
 rw [he]
 exact sF rfl (sJ rfl)
theorem qO (P : cC σ l lw) (ho : bM W) (h33 : ρ 33 = some (.d (.tuple []))) (h39 : ρ 39 = some (.loc l)) (h61 : ρ 61 = some (.d (.str X))) (h : (W.take 1 == [X]) = false) (hX : (cl X).all (Nat.blt · 128) = true := by decide) : bS FT false 60 rB ρ (pw σ lw W) = .ok (.next ρ) (pw σ lw W) := by
 have e : ρ = ((ρ.set 61 (.d (.str X))).set 39 (.loc l)).set 33 (.d (.tuple [])) := by rw [aO h61, aO h39, aO h33]
 rw [e]
 exact fU.trans (sL (yR (cur := []) fun _ h => nomatch h) (sT rfl (pZ P ho h (sF rfl (sF rfl (sJ rfl))) hX)))
theorem aBb (P : cC σ l lw) (ho : bM (X :: W)) (h33 : ρ 33 = some (.d (.tuple []))) (h39 : ρ 39 = some (.loc l)) (h61 : ρ 61 = some (.d (.str X))) (hs : Txt.split X "," = cur) (hl : cur.length <= 10) (hX : X.length <= 100) : bS FT false 60 rB ρ (pw σ lw (X :: W)) = .ok (.next (ρ.set 33 (.d (.tuple (cur.map .str))))) (pw σ lw W) := by
 have e : ρ = ((ρ.set 61 (.d (.str X))).set 39 (.loc l)).set 33 (.d (.tuple [])) := by rw [aO h61, aO h39, aO h33]
 have e2 : ρ.set 33 (.d (.tuple (cur.map .str))) = (((ρ.set 61 (.d (.str X))).set 39 (.loc l)).set 33 (.d (.tuple []))).set 33 (.d (.tuple (cur.map .str))) := by rw [<- e]
 have t : dT false .tuple [.d (.list (cur.map .str))] (pw σ lw W) = some (.d (.tuple (cur.map .str))) := congrArg (Option.map aB.d) (cG (by rw [List.length_map]; omega))
 rw [e2]
 conv => lhs; rw [e]
 exact fU.trans (sL (yR (cur := []) fun _ h => nomatch h) (sT rfl (pS P ho fun ho => sT rfl (sT rfl (sL rfl (sB (qN (Nat.le_trans hX (by decide)) hs) (sL t (sJ (sJ rfl)))))))))
theorem yI (h : X = Str.join (mk [44]) cur) (h0 : cur ≠ []) (hc : ∀ t ∈ cur, 44 ∉ cl t) : Txt.split X "," = cur := by
 rw [show Str.ofString "," = mk [44] by decide]
 exact tD h h0 hc
theorem aGC (P : cC σ l lw) (ho : bM (fW fl ++ ws)) (hf : fl ∈ gP) (hs : iD ws) (h33 : ρ 33 = some (.d (.tuple []))) (h39 : ρ 39 = some (.loc l)) :
  ∃ ρ' : aJ, evF FT false 64 [61] rB [.str "random,persistent", .str "random", .str "persistent"] ρ (pw σ lw (fW fl ++ ws)) = .ok (.next ρ') (pw σ lw ws) /\ ρ' 33 = some (.d (.tuple (fl.map .str))) /\ ρ' 30 = ρ 30 /\ ρ' 28 = ρ 28 /\ ρ' 29 = ρ 29 /\ ρ' 15 = ρ 15 := by
 have up : ∀ {ρ ρ' : aJ} {σ σ' : aG} {n : Nat}, 60 <= n -> bS FT false 60 rB ρ σ = .ok (.next ρ') σ' -> bS FT false n rB ρ σ = .ok (.next ρ') σ' := fun h e => jJ e h fun q => nomatch q
 have asc : ∀ w ∈ fl, dE (cl w) := (by decide : ∀ fl ∈ gP, ∀ w ∈ fl, ∀ c ∈ cl w, c < 128) fl hf
 rcases List.mem_cons.mp hf with rfl | hf
 ·exact ⟨_, fX rfl (up (by decide) (qO P ho h33 h39 rfl (hs _ (by decide)))) (fX rfl (up (by decide) (qO P ho h33 h39 rfl (hs _ (by decide)))) (fX rfl (up (by decide) (qO P ho h33 h39 rfl (hs _ (by decide)))) rfl)), h33, rfl, rfl, rfl, rfl⟩
 rcases List.mem_cons.mp hf with rfl | hf
 ·exact ⟨_, fX rfl (up (by decide) (qO (W := "random" :: ws) P ho h33 h39 rfl rfl)) (fX rfl (up (by decide) (aBb (cur := ["random"]) P ho h33 h39 rfl (yI (by decide) (by decide) (by decide)) (by decide) (by decide))) (fX rfl (up (by decide) (aBa (cur := ["random"]) rfl asc rfl)) rfl)), rfl, rfl, rfl, rfl, rfl⟩
 rcases List.mem_cons.mp hf with rfl | hf
 ·exact ⟨_, fX rfl (up (by decide) (qO (W := "persistent" :: ws) P ho h33 h39 rfl rfl)) (fX rfl (up (by decide) (qO (W := "persistent" :: ws) P ho h33 h39 rfl rfl)) (fX rfl (up (by decide) (aBb (cur := ["persistent"]) P ho h33 h39 rfl (yI (by decide) (by decide) (by decide)) (by decide) (by decide))) rfl)), rfl, rfl, rfl, rfl, rfl⟩
 obtain rfl := List.mem_singleton.mp hf
 have e : fW ["random", "persistent"] = [Str.ofString "random,persistent"] := by decide
 rw [e] at ho ⊢
 exact ⟨_, fX rfl (up (by decide) (aBb (cur := ["random", "persistent"]) P ho h33 h39 rfl (yI (by decide) (by decide) (by decide)) (by decide) (by decide))) (fX rfl (up (by decide) (aBa (cur := ["random", "persistent"]) rfl asc rfl)) (fX rfl (up (by decide) (aBa (cur := ["random", "persistent"]) rfl asc rfl)) rfl)), rfl, rfl, rfl, rfl, rfl⟩
theorem sS (P : cC σ l lw) (ho : bM (fW fl ++ ws)) (hf : fl ∈ gP) (hs : iD ws) (h39 : ρ 39 = some (.loc l)) (h15 : ρ 15 = some (.d (.str k))) (h29 : ρ 29 = some (.d (.int nf))) (h30 : ρ 30 = some (.d ad.data)) (h28 : ρ 28 = some (.d (fN ps))) (hN : (pw σ lw ws).length = N) :
  cJ (dM (cN FT false 146) (f54.body.drop 3) ρ (pw σ lw (fW fl ++ ws)) (dC N)) = .ok (.d (St.nat k nf ad ps fl).data) (pw σ lw ws) := by
 obtain ⟨ρ', g, g33, g30, g28, g29, g15⟩ := aGC (ρ := ρ.set 33 (.d (.tuple []))) P ho hf hs rfl h39
 refine sJ (sJ (sL rfl (sB (nW g (by decide)) (sJ ?_))))
 rw [<- aO g33, <- aO (ρ := ρ') (g30.trans h30), <- aO (ρ := ρ') (g28.trans h28), <- aO (ρ := ρ') (g29.trans h29), <- aO (ρ := ρ') (g15.trans h15)]
 exact bL hN
noncomputable abbrev aCh : List Str := ["random", "persistent", "random,persistent"]
theorem aGB (hf : fl ∈ gP) (hs : iD ws) (h : x ∉ tE) (hx : x ∉ aCh) : ((fW fl ++ ws).take 1 == [x]) = false := by
 have f := (by decide : ∀ fl ∈ gP, fl = [] \/ ∃ w ∈ aCh, fW fl = [w]) fl hf
 rcases f with rfl | ⟨w, hw, e⟩
 ·exact hs x h
 ·rw [e]
  show ((w == x) && true) = false
  rw [beq_eq_false_iff_ne.mpr fun q => hx (by rw [<- q]; exact hw)]; rfl
theorem aAg (P : cC σ l lw) (ho : bM (pW ad ++ (tW nf ps ad ++ (fW fl ++ ws)))) (hp : gY ps) (hf : fl ∈ gP) (hs : iD ws) (ht : mC nf ad ps) (h0 : nf = 0 -> ad = .no) (hn : nf ≠ 0 -> (eX (.d ad.data) && eX (.d (fN ps))) = false)
  (h39 : ρ 39 = some (.loc l)) (h15 : ρ 15 = some (.d (.str k))) (h29 : ρ 29 = some (.d (.int nf))) (h30 : ρ 30 = some (.d .none)) (h28 : ρ 28 = some (.d .none)) (hN : (pw σ lw ws).length = N) :
  cJ (dM (cN FT false 147) (f54.body.drop 2) ρ (pw σ lw (pW ad ++ (tW nf ps ad ++ (fW fl ++ ws)))) (dC N)) = .ok (.d (St.nat k nf ad ps fl).data) (pw σ lw ws) := by
 rw [<- aO h28, <- aO (ρ := ρ) h30, <- aO (ρ := ρ) h29, <- aO (ρ := ρ) h15, <- aO (ρ := ρ) h39]
 have go : ∀ {W}, W = tW nf ps ad ++ (fW fl ++ ws) -> (eX (.d ad.data) && eX (.d (fN ps))) = false -> W = Str.ofString "to" :: dP nf ps ad :: (fW fl ++ ws) := fun {W} e h => by
  unfold tW at e
  rw [h] at e; exact e
 by_cases z : nf = 0
 ·subst z
  obtain rfl := h0 rfl
  refine sJ (sL (gQ 0 0) (sF rfl (sF rfl ?_)))
  cases ps with
  | none => exact pZ P ho (aGB hf hs (by decide) (by decide)) (sF rfl (sJ (sS (ad := .no) (ps := none) P ho hf hs rfl rfl rfl rfl rfl hN)))
  | some q => exact pS (w := "to") P ho fun ho => sT rfl (sB (bD (aA5 P ho hp trivial (fun _ _ q => nomatch q) rfl) (by decide)) (sJ (sJ (sS (ad := .no) (ps := some q) P ho.tl hf hs rfl rfl rfl rfl rfl hN))))
 ·refine sJ (sL (gQ nf 0) (sT (by rw [decide_eq_true (Nat.pos_of_ne_zero z)]; rfl) ?_))
  cases ad with
  | net b m =>
   obtain ⟨rfl, hb, hm⟩ := ht
   have hm := Nat.lt_of_le_of_lt hm (by decide : 128 < 10 ^ 40)
   have sl : cl "/" = [47] := by decide
   have lX : (bX nf b ++ (Str.ofString "/" ++ bE m)).length <= 65536 := by
    rw [Str.length_append, Str.length_append]; exact Nat.le_trans (Nat.add_le_add gZ (Nat.add_le_add_left (dY hm) _)) (Nat.le_of_ble_eq_true rfl)
   have e : dP nf none (.net b m) = bX nf b ++ (Str.ofString "/" ++ bE m) := eM ..
   have ho : bM ("prefix" :: "to" :: dP nf none (.net b m) :: (fW fl ++ ws)) := ho
   show _ = aI.ok (aB.d (St.nat k nf (.net b m) none fl).data) (pw σ lw ws)
   refine pS (w := "prefix") P ho fun ho => sT rfl (sT rfl (pG (w := "to") P ho fun ho => sJ (pN P ho fun ho => sJ ?_)))
   rw [e]
   refine sL rfl (sB (rK sl kZ) (sJ (sL (gQ _ 0) (sT (decide_eq_true (List.length_pos_iff.mpr nK)) (sL (rJ lX) (sB (bD (aAJ hb) (by decide)) (sJ (sL dQ (sL (pD sl lX) (pM hm (sJ ?_)))))))))))
   exact sS (ad := .net b m) (ps := none) P ho hf hs rfl rfl rfl rfl rfl hN
  | no =>
   have ho : bM ("to" :: dP nf ps .no :: (fW fl ++ ws)) := go rfl (hn z) ▸ ho
   have e : pW .no ++ (tW nf ps .no ++ (fW fl ++ ws)) = Str.ofString "to" :: dP nf ps .no :: (fW fl ++ ws) := go rfl (hn z)
   rw [e]
   exact pY (y := "to") P ho (sF rfl (sF rfl (pS (w := "to") P ho fun ho => sT rfl (sB (bD (aA5 P ho hp ht (fun _ _ q => nomatch q) (hn z)) (by decide)) (sJ (sJ (sS P ho.tl hf hs rfl rfl rfl rfl rfl hN)))))))
  | span lo hi =>
   exact pY (y := "to") P ho (sF rfl (sF rfl (pS (w := "to") P ho fun ho => sT rfl (sB (bD (aA5 P ho hp ht (fun _ _ q => nomatch q) rfl) (by decide)) (sJ (sJ (sS (ad := .span lo hi) P ho.tl hf hs rfl rfl rfl rfl rfl hN)))))))
theorem aJQ (P : cC σ l lw) (ho : bM (kW k nf ++ (pW ad ++ (tW nf ps ad ++ (fW fl ++ ws))))) (h : (St.nat k nf ad ps fl).Ok) (hs : iD ws) :
  aN FT false 150 54 [.loc l, .d (.str k)] (pw σ lw (kW k nf ++ (pW ad ++ (tW nf ps ad ++ (fW fl ++ ws))))) = .ok (.d (St.nat k nf ad ps fl).data) (pw σ lw ws) := by
 have ht := (mT h).2
 have asc : ∀ k ∈ fT ++ iK, ∀ c ∈ cl k, c < 128 := by decide
 have sd := uX (σ := pw σ lw (kW k nf ++ (pW ad ++ (tW nf ps ad ++ (fW fl ++ ws))))) (xs := fT) (asc k (mT h).1) fun x hx => asc x (List.mem_append.mpr (.inl hx))
 rcases h.2.2 with ⟨rfl, hk, rfl⟩ | ⟨hn, hk, ha⟩
 ·have e1 : fT.any (· == k) = false := (by decide : ∀ k ∈ iK, fT.any (· == k) = false) k hk
  have e2 : kW k 0 = [] := (by decide : ∀ k ∈ iK, kW k 0 = []) k hk
  rw [e1, e2] at sd
  rw [e2] at ho ⊢
  exact bA (q := f54) rfl rfl (sJ (sL sd (sF rfl (aAg (ad := .no) P ho h.1 h.2.1 hs ht (fun _ => rfl) (fun q => absurd rfl q) rfl rfl rfl rfl rfl cW))))
 ·have e1 : fT.any (· == k) = true := (by decide : ∀ k ∈ fT, fT.any (· == k) = true) k hk
  have h0 : nf = 0 -> ad = .no := fun q => by omega
  have hd : nf ≠ 0 -> (eX (.d ad.data) && eX (.d (fN ps))) = false := fun _ => by
   cases ad with
   | no => cases ps with
    | none => exact absurd rfl ha
    | some q => rfl
   | _ => rfl
  rw [e1] at sd
  rcases hn with rfl | rfl
  ·have e2 : kW k 2 = [Str.ofString "ip"] := (by decide : ∀ k ∈ fT, kW k 2 = [Str.ofString "ip"]) k hk
   rw [e2] at ho sd ⊢
   exact bA (q := f54) rfl rfl (sJ (sL sd (sT rfl (sB rfl (sL rfl (pN (w := "ip") P ho fun ho => sB rfl (sJ (aAg (nf := 2) P ho h.1 h.2.1 hs ht h0 hd rfl rfl rfl rfl rfl cW))))))))
  ·have e2 : kW k 10 = [Str.ofString "ip6"] := (by decide : ∀ k ∈ fT, kW k 10 = [Str.ofString "ip6"]) k hk
   rw [e2] at ho sd ⊢
   exact bA (q := f54) rfl rfl (sJ (sL sd (sT rfl (sB rfl (sL rfl (pN (w := "ip6") P ho fun ho => sB rfl (sJ (aAg (nf := 10) P ho h.1 h.2.1 hs ht h0 hd rfl rfl rfl rfl rfl cW))))))))
end
end PQ
namespace PQ
section
variable {σ : aG} {l lw : Nat} {ws R : List Str} {W t : Str} {D : PyData} {N : Nat} {r : aI aB} {K : aB -> aG -> aI aB}
theorem inM (h : (cl W).all (Nat.blt · 128) = true) : bR .isIn (.d (.str W)) (.d (.tuple (iX.map .str))) σ = some (bV (iX.any (· == W))) := uX (fun c hc => Nat.le_of_ble_eq_true (List.all_eq_true.mp h c hc)) (by unfold dE; decide)
theorem inN (h : (cl W).all (Nat.blt · 128) = true) : bR .isIn (.d (.str W)) (.d (.tuple ((fT ++ iK).map .str))) σ = some (bV ((fT ++ iK).any (· == W))) := uX (fun c hc => Nat.le_of_ble_eq_true (List.all_eq_true.mp h c hc)) (by unfold dE; decide)
theorem vR (P : cC σ l lw) (ho : bM (W :: R)) (hW : W ∈ iX) (h : bM R -> aN FT false 120 47 [.loc l, .d (.str W)] (pw σ lw R) = .ok (.d D) (pw σ lw ws)) : aN FT false 170 55 [.loc l] (pw σ lw (W :: R)) = .ok (.d D) (pw σ lw ws) := by
 obtain ⟨h1, h2⟩ := (by decide : ∀ W ∈ iX, (cl W).all (Nat.blt · 128) = true /\ iX.any (· == W) = true) W hW
 refine bA (q := f55) rfl rfl (pN P ho fun ho => sJ (sL (inM h1) ?_))
 rw [h2]
 exact sT rfl (sB (bD (h ho) (by decide)) (bL cW))
theorem sW (P : cC σ l lw) (ho : bM (W :: R)) (hW : ((cl W).all (Nat.blt · 128) && (!iX.any (· == W) && !(fT ++ iK).any (· == W))) = true)
  (g : bM R -> cJ (dM (cN FT false 166) (f55.body.drop 3) ((aJ.set (fun _ => none) 39 (.loc l)).set 15 (.d (.str W))) (pw σ lw R) (dC (pw σ lw (W :: R)).length)) = r) : aN FT false 170 55 [.loc l] (pw σ lw (W :: R)) = r := by
 have h := aA hW
 have h2 := aA h.2
 refine bA (q := f55) rfl rfl (pN P ho fun ho => sJ (sL (inM h.1) ?_))
 rw [fE h2.1]
 refine sF rfl (sJ (sL (inN h.1) ?_))
 rw [fE h2.2]
 exact sF rfl (g ho)
theorem aJS {s : St} (P : cC σ l lw) (ho : bM (s.words ++ ws)) (h : s.Ok) (hs : iD ws) : aN FT false 170 55 [.loc l] (pw σ lw (s.words ++ ws)) = .ok (.d s.data) (pw σ lw ws) := by
 cases s with
 | counter v w => exact vR (W := "counter") P ho (by decide) fun ho => aJM P ho h.1 h.2
 | quota b v w =>
  have e : (St.quota b v w).words ++ ws = Str.ofString "quota" :: (iI b ++ (eG 3 v ++ (dX ((w : Int) == 0) ("used" :: eG 3 w) ++ ws))) := by show Str.ofString "quota" :: ((iI b ++ (eG 3 v ++ dX _ _)) ++ ws) = _; rw [List.append_assoc, List.append_assoc]
  rw [e] at ho ⊢
  exact vR P ho (by decide) fun ho => aJT P ho h.1 h.2 hs
 | limit b v u w o =>
  have e : (St.limit b v u w o).words ++ ws = Str.ofString "limit" :: ((kL b v u w o).tail ++ ws) := by cases o <;> rfl
  rw [e] at ho ⊢
  exact vR P ho (by decide) fun ho => aHS P ho h.1 h.2.1 h.2.2 hs
 | object m t => exact vR P ho h.1 fun ho => aJR P ho (Nat.le_trans (kX h.2) (by decide))
 | log t u =>
  have e : (St.log t u).words ++ ws = Str.ofString "log" :: (dX (t == "") ["prefix", cX t] ++ (dX (u == "warn") ["level", u] ++ ws)) := congrArg (Str.ofString "log" :: ·) (List.append_assoc ..)
  rw [e] at ho ⊢
  exact sW P ho (by decide) fun ho => sJ (sL rfl (sT (by decide) (sB (bD (aJO P ho (Nat.le_trans (kX h.1) (by decide)) hs) (by decide)) (bL cW))))
 | reject m c =>
  have e : (St.reject m c).words ++ ws = Str.ofString "reject" :: ((iJ m c).tail ++ ws) := by show iJ m c ++ ws = _; unfold iJ; cases m == "tcp" <;> rfl
  rw [e] at ho ⊢
  exact sW P ho (by decide) fun ho => sJ (sL rfl (sF (by decide) (sJ (sL rfl (sT (by decide) (sB (bD (aJU P ho h.1 h.2.1 h.2.2) (by decide)) (bL cW)))))))
 | notrack => exact sW (W := "notrack") P ho (by decide) fun ho => sJ (sL rfl (sF (by decide) (sJ (sL rfl (sF (by decide) (sJ (sL rfl (sF (by decide) (sJ (sL rfl (sF (by decide) (sJ (sL rfl (sT (by decide) (bL cW)))))))))))))))
 | expect t => exact sW (W := "ct") P ho (by decide) fun ho => sJ (sL rfl (sF (by decide) (sJ (sL rfl (sF (by decide) (sJ (sL rfl (sT (by decide) (pG (w := "expectation") P ho fun ho => sJ (pG (w := "set") P ho fun ho => sJ (pQ (t := t) P ho (Nat.le_trans (kX h) (by decide)) fun ho => bL cW)))))))))))
 | flow t =>
  have at1 : cl "@" = [64] := by decide
  have lT : (Str.ofString "@" ++ t).length <= 65536 := by rw [Str.length_append]; exact Nat.le_trans (Nat.add_le_add_left ((by decide : ∀ u ∈ oO, u.length <= 11) t h) _) (Nat.le_of_ble_eq_true rfl)
  have hc : cl (Str.ofString "@" ++ t) = 64 :: cl t := by rw [cE, at1]; rfl
  have s2 : gH (pw σ lw ws) (.d (.str (Str.ofString "@" ++ t))) (.d (.int 1)) (.d .none) = some (.d (.str t)) := (qJ lT 1).trans (by rw [hc]; rfl)
  exact sW (W := "flow") P ho (by decide) fun ho => sJ (sL rfl (sF (by decide) (sJ (sL rfl (sF (by decide) (sJ (sL rfl (sF (by decide) (sJ (sL rfl (sT (by decide) (pG (w := "add") P ho fun ho => sJ (pN (w := Str.ofString "@" ++ t) P ho fun ho => sJ (sL (sl1 hc lT) (sL (uH at1 rfl) (sT rfl (sL s2 (bL cW))))))))))))))))))
 | nat k nf ad ps fl =>
  have e : (St.nat k nf ad ps fl).words ++ ws = k :: (kW k nf ++ (pW ad ++ (tW nf ps ad ++ (fW fl ++ ws)))) := by
   show k :: ((kW k nf ++ (pW ad ++ (tW nf ps ad ++ fW fl))) ++ ws) = _
   rw [List.append_assoc, List.append_assoc, List.append_assoc]
  rw [e] at ho ⊢
  have hk := (mT h).1
  obtain ⟨h1, h2, h3⟩ := (by decide : ∀ W ∈ fT ++ iK, (cl W).all (Nat.blt · 128) = true /\ iX.any (· == W) = false /\ (fT ++ iK).any (· == W) = true) k hk
  refine bA (q := f55) rfl rfl (pN P ho fun ho => sJ (sL (inM h1) ?_))
  rw [h2]
  refine sF rfl (sJ (sL (inN h1) ?_))
  rw [h3]
  exact sT rfl (sB (bD (aJQ P ho h hs) (by decide)) (bL cW))
end
noncomputable def Dk (k : Nat) (d : PyData) : Prop := d.canLay0 = true /\ d.depth <= k
section
variable {k : Nat} {x : Str} {xs : List PyData} {d : PyData} {i : Int} {b : Bool}
theorem Dk.le {m : Nat} (h : Dk k d) (hm : k <= m) : Dk m d := ⟨h.1, Nat.le_trans h.2 hm⟩
theorem iH : Dk k (.int i) := ⟨rfl, by rw [PyData.depth]; exact Nat.zero_le _⟩
theorem yO : Dk k (.bool b) := ⟨rfl, by rw [PyData.depth]; exact Nat.zero_le _⟩
theorem aB5 : Dk k .none := ⟨rfl, by rw [PyData.depth]; exact Nat.zero_le _⟩
theorem iO (h : dE (cl x)) : Dk k (.str x) := ⟨tU h, by rw [PyData.depth]; exact Nat.zero_le _⟩
theorem jA (h : (cl x).all (Nat.blt · 128) = true := by decide) : Dk k (.str x) := iO fun c hc => Nat.le_of_ble_eq_true (List.all_eq_true.mp h c hc)
theorem rM (h : ∀ x ∈ xs, Dk k x) : PyData.canLayAll0 xs = true /\ PyData.depthAll xs <= k := by
 induction xs with
 | nil => exact ⟨rfl, by rw [PyData.depthAll]; exact Nat.zero_le _⟩
 | cons x xs ih =>
  have z := ih fun z hz => h z (.tail _ hz)
  have y := h x (.head _)
  exact ⟨by rw [PyData.canLayAll0, y.1, z.1]; rfl, by rw [PyData.depthAll]; exact Nat.max_le.mpr ⟨y.2, z.2⟩⟩
theorem iA (h : ∀ x ∈ xs, Dk k x) : Dk (k + 1) (.tuple xs) := ⟨(rM h).1, by rw [PyData.depth]; have := (rM h).2; omega⟩
theorem cF (h : Dk k d) (h2 : ∀ x ∈ xs, Dk k x) : ∀ x ∈ d :: xs, Dk k x := List.forall_mem_cons.mpr ⟨h, h2⟩
theorem iG : ∀ x ∈ ([] : List PyData), Dk k x := fun _ h => nomatch h
theorem kU (h : x ∈ gI) : dE (cl x) := (by decide : ∀ t ∈ gI, ∀ c ∈ cl t, c < 128) x h
theorem aB0 {s : St} (h : s.Ok) : Dk 3 s.data := by
 cases s with
 | counter v w => exact (iA (cF jA (cF iH (cF iH iG)))).le (by decide : 1 <= 3)
 | quota b v w => exact (iA (cF jA (cF yO (cF iH (cF iH iG))))).le (by decide : 1 <= 3)
 | limit b v u w o => exact (iA (cF jA (cF yO (cF iH (cF (iO ((by decide : ∀ t ∈ nC, ∀ c ∈ cl t, c < 128) u h.2.2)) (cF iH (cF yO iG))))))).le (by decide : 1 <= 3)
 | object m t => exact (iA (cF jA (cF (iO ((by decide : ∀ t ∈ iX, ∀ c ∈ cl t, c < 128) m h.1)) (cF (iO (kU h.2)) iG)))).le (by decide : 1 <= 3)
 | log t l => exact (iA (cF jA (cF (iO (kU h.1)) (cF (iO ((by decide : ∀ t ∈ wC, ∀ c ∈ cl t, c < 128) l h.2)) iG)))).le (by decide : 1 <= 3)
 | reject m c => exact (iA (cF jA (cF (iO ((by decide : ∀ t ∈ qK, ∀ c ∈ cl t, c < 128) m h.1)) (cF iH iG)))).le (by decide : 1 <= 3)
 | notrack => exact (iA (cF jA iG)).le (by decide : 1 <= 3)
 | expect t => exact (iA (cF jA (cF (iO (kU h)) iG))).le (by decide : 1 <= 3)
 | flow t => exact (iA (cF jA (cF (iO ((by decide : ∀ t ∈ oO, ∀ c ∈ cl t, c < 128) t h)) iG))).le (by decide : 1 <= 3)
 | nat k nf ad ps fl =>
  have ha : Dk 2 ad.data := by
   cases ad with
   | no => exact aB5
   | net a b => exact iA (k := 1) (cF jA (cF iH (cF iH iG)))
   | span a b => exact iA (k := 1) (cF jA (cF iH (cF iH iG)))
  have hp : Dk 2 (fN ps) := by
   cases ps with
   | none => exact aB5
   | some q => exact iA (k := 1) (cF iH (cF iH iG))
  have hf := (by decide : ∀ fl ∈ gP, ∀ w ∈ fl, ∀ c ∈ cl w, c < 128) fl h.2.1
  exact iA (cF jA (cF (iO ((by decide : ∀ t ∈ fT ++ iK, ∀ c ∈ cl t, c < 128) k (mT h).1)) (cF iH (cF ha (cF hp (cF (iA (k := 1) fun x hx => (List.mem_map.mp hx).elim fun w q => q.2 ▸ iO (hf w q.1)) iG))))))
theorem yV {s : St} (h : s.Ok) : ∃ w r, s.words = w :: r /\ w ∈ tE /\ (w == "comment") = false := by
 have st : ∀ W ∈ iX ++ fT ++ iK, W ∈ tE /\ (W == "comment") = false := by decide
 cases s with
 | object m t => exact ⟨_, _, rfl, st _ (List.mem_append.mpr (.inl (List.mem_append.mpr (.inl h.1))))⟩
 | nat k nf ad ps fl => exact ⟨_, _, rfl, st _ (List.append_assoc .. ▸ List.mem_append.mpr (.inr (mT h).1))⟩
 | limit b v u w o => cases o <;> exact ⟨_, _, rfl, by decide, by decide⟩
 | reject m c =>
  show ∃ w r, iJ m c = w :: r /\ _
  unfold iJ
  cases m == "tcp" <;> exact ⟨_, _, rfl, by decide, by decide⟩
 | _ => exact ⟨_, _, rfl, by decide, by decide⟩
end
end PQ
namespace PQ
structure RI (σ0 σ : aG) (l lw ls : Nat) (done : List PyData) : Prop where
 P : cC σ l lw
 s : σ[ls]? = some (.lst done)
 n1 : lw ≠ ls
 n2 : l ≠ ls
 t : σ.take σ0.length = σ0
 m1 : σ0.length <= lw
 m2 : σ0.length <= ls
noncomputable abbrev rC : aK := whC (f56.body.getD 2 (.ret .stuck))
noncomputable abbrev rD : List bH := whB (f56.body.getD 2 (.ret .stuck))
section
variable {σ0 σ : aG} {l lw ls e : Nat} {W ws : List Str} {done d' xs : List PyData} {ρ : aJ} {o : bN} {c : Str} {ss : List St}
theorem RI.app (h : RI σ0 σ l lw ls done) (o : bN) : RI σ0 (σ ++ [o]) l lw ls done := by
 have up : ∀ {i : Nat} {x : bN}, σ[i]? = some x -> (σ ++ [o])[i]? = some x := fun q => (List.getElem?_append_left (List.getElem?_eq_some_iff.mp q).1).trans q
 exact ⟨⟨up h.P.d, Nat.lt_of_lt_of_le h.P.lt (by rw [List.length_append]; exact Nat.le_add_right ..), h.P.ne⟩, up h.s, h.n1, h.n2, (List.take_append_of_le_length (Nat.le_of_lt (Nat.lt_of_le_of_lt h.m1 h.P.lt))).trans h.t, h.m1, h.m2⟩
theorem RI.push (h : RI σ0 σ l lw ls done) (d' : List PyData) : RI σ0 (σ.set ls (.lst d')) l lw ls d' :=
 ⟨⟨by rw [List.getElem?_set_ne h.n2.symm]; exact h.P.d, by rw [List.length_set]; exact h.P.lt, h.P.ne⟩, aD1 h.s, h.n1, h.n2, by rw [List.take_set_of_le h.m2]; exact h.t, h.m1, h.m2⟩
theorem RI.sl (h : RI σ0 σ l lw ls done) : (pw σ lw ws)[ls]? = some (.lst done) := by unfold pw; rw [List.getElem?_set_ne h.n1]; exact h.s
theorem RI.tk (h : RI σ0 σ l lw ls done) : (pw σ lw ws).take σ0.length = σ0 := by unfold pw; rw [List.take_set_of_le h.m1]; exact h.t
theorem oM (P : cC σ l lw) : pw σ lw ws ++ [o] = pw (σ ++ [o]) lw ws := (List.set_append_left _ _ P.lt).symm
theorem aJF (h : lw ≠ ls) : (pw σ lw ws).set ls o = pw (σ.set ls o) lw ws := List.set_comm _ _ h
theorem aAh (h : σ[lw]? = some (.lst xs)) (h2 : σ[e]? = some (.lst [])) (hd : ∀ d ∈ xs, Dk 3 d) : bR .ne (.loc lw) (.loc e) σ = some (bV (!xs.isEmpty)) := by
 show (iF σ (.loc lw)).bind (fun x => (iF σ (.loc e)).bind fun y => (yH .ne x y).map bV) = _
 rw [rL h, rL h2]
 have f : fC (.list xs) = true := by
  unfold fC
  rw [Bool.and_eq_true]
  have := (rM hd).2
  exact ⟨(rM hd).1, decide_eq_true (by rw [PyData.depth]; omega)⟩
 show ((aU ((fC (.list xs) && fC (.list ([].map PyData.str))) = true) (some (PyData.eqv (.list xs) (.list [])))).map (!·)).map bV = _
 rw [f, uR (ws := []) fun _ h => nomatch h]
 cases xs <;> rfl
theorem aF7 (h : bM ws) : ∀ d ∈ ws.map PyData.str, Dk 3 d := fun d hd => (List.mem_map.mp hd).elim fun w q => q.2 ▸ iO (h.2 w q.1)
theorem isE : (ws.map PyData.str).isEmpty = ws.isEmpty := by cases ws <;> rfl
theorem yJ (P : cC σ l lw) (ho : bM ws) (h39 : ρ 39 = some (.loc l)) : dF FT false 20 rC ρ (pw σ lw ws) = .ok (!ws.isEmpty) (pw (σ ++ [bN.lst []]) lw ws) := by
 have e := oM (ws := ws) (o := .lst []) P
 have hw : (pw σ lw ws ++ [bN.lst []])[lw]? = some (.lst (ws.map .str)) := (List.getElem?_append_left (by rw [pw, List.length_set]; exact P.lt)).trans P.pl
 have hd : (pw σ lw ws ++ [bN.lst []])[l]? = some (.dct (kQ lw)) := (List.getElem?_append_left (List.getElem?_eq_some_iff.mp P.pd).1).trans P.pd
 have n := aAh hw (own ..) (aF7 ho)
 rw [isE] at n
 rw [<- aO h39, <- e]
 refine t_c.trans (sL P.pk (sL n ?_))
 cases ws with
 | nil => exact sF rfl rfl
 | cons w ws => exact sT rfl (sL (kJ hd rfl) (sT rfl rfl))
theorem aB6 (h : RI σ0 σ l lw ls done) (hd : ∀ d ∈ done, Dk 3 d) : bR .ne (.loc ls) (.loc (pw σ lw ws).length) (pw σ lw ws ++ [bN.lst []]) = some (bV (!done.isEmpty)) :=
 aAh ((List.getElem?_append_left (List.getElem?_eq_some_iff.mp h.sl).1).trans h.sl) (own ..) hd
theorem aFl {s : St} (h : RI σ0 σ l lw ls done) (ho : bM (s.words ++ W)) (hs : s.Ok) (hW : iD W) (hd : ∀ d ∈ done, Dk 3 d) (hl : done.length <= 100) (h39 : ρ 39 = some (.loc l)) (h36 : ρ 36 = some (.loc ls)) :
  bS FT false 190 rD ρ (pw σ lw (s.words ++ W)) = .ok (.next ρ) (pw ((σ ++ [bN.lst []]).set ls (.lst (done ++ [s.data]))) lw W) := by
 have h1 := h.app (.lst [])
 have n := aB6 (ws := s.words ++ W) h hd
 have fin : cJ (dM (cN FT false 189) (rD.drop 1) ρ (pw (σ ++ [bN.lst []]) lw (s.words ++ W)) .ok) = .ok (.next ρ) (pw ((σ ++ [bN.lst []]).set ls (.lst (done ++ [s.data]))) lw W) := by
  have e : ρ = (ρ.set 36 (.loc ls)).set 39 (.loc l) := by rw [aO h36, aO h39]
  rw [<- aJF h.n1, e]
  exact sJ (sL (tQ h1.sl) (sB (bD (aJS h1.P ho hs hW) (by decide)) (sB (tR h1.sl (by omega)) (sJ rfl))))
 have e : ρ = (ρ.set 36 (.loc ls)).set 39 (.loc l) := by rw [aO h36, aO h39]
 rw [oM h.P] at n
 rw [e] at fin ⊢
 refine fU.trans ?_
 refine (?_ : cL (bR .ne (.loc ls) (.loc (pw σ lw (s.words ++ W)).length) (pw σ lw (s.words ++ W) ++ [bN.lst []])) (pw σ lw (s.words ++ W) ++ [bN.lst []]) _ = _)
 rw [oM h.P]
 cases done with
 | nil => exact sL n (sF rfl (sF rfl fin))
 | cons d done =>
  obtain ⟨w, r, e1, _, e3⟩ := yV hs
  exact sL n (sT rfl (pZ h1.P ho (by rw [e1]; show ((w == _) && true) = false; rw [e3]; rfl) (sF rfl (sF rfl fin))))
theorem aEA (h : σ[ls]? = some (.lst done)) (hl : done.length <= 1000) : dT false .tuple [.loc ls] σ = some (.d (.tuple done)) := by
 have e : dT false .tuple [.loc ls] σ = (((iF σ (.loc ls)).bind fun x => some [x]).bind fun ds => (biD .tuple ds).map .d) := rfl
 rw [e, rL h]
 exact congrArg (Option.map aB.d) (cG hl)
theorem aFk (h : RI σ0 σ l lw ls done) (ho : bM ["comment", cX c]) (hc : (c == "") = false) (hcl : c.length <= 100) (hd : ∀ d ∈ done, Dk 3 d) (hne : done.isEmpty = false) (hl : done.length <= 100) (h39 : ρ 39 = some (.loc l)) (h36 : ρ 36 = some (.loc ls)) :
  ∃ σ2, σ2.take σ0.length = σ0 /\ bS FT false 190 rD ρ (pw σ lw ["comment", cX c]) = .ok (.ret (.d (.tuple [.tuple done, .str c]))) σ2 := by
 have h1 := h.app (.lst [])
 have h2 := h1.app (.lst [])
 have n := aB6 (ws := ["comment", cX c]) h hd
 rw [hne, oM h.P] at n
 refine ⟨_, h2.tk (ws := []), ?_⟩
 rw [<- aO h39, <- aO (ρ := ρ) h36]
 refine fU.trans ?_
 refine (?_ : cL (bR .ne (.loc ls) (.loc (pw σ lw ["comment", cX c]).length) (pw σ lw ["comment", cX c] ++ [bN.lst []])) (pw σ lw ["comment", cX c] ++ [bN.lst []]) _ = _)
 have ne2 : bR .ne (.loc lw) (.loc (pw (σ ++ [bN.lst []]) lw []).length) (pw (σ ++ [bN.lst []]) lw [] ++ [bN.lst []]) = some (bV false) := aAh ((List.getElem?_append_left (by rw [pw, List.length_set]; exact h1.P.lt)).trans h1.P.pl) (own ..) fun _ h => nomatch h
 have tl : dT false .tuple [.loc ls] (pw (σ ++ [bN.lst []]) lw [] ++ [bN.lst []]) = some (.d (.tuple done)) := by rw [oM h1.P]; exact aEA h2.sl (by omega)
 rw [oM h.P, <- oM h1.P]
 exact sL n (sT rfl (pS h1.P ho fun ho => sT rfl (sT rfl (pQ h1.P ho (by omega) fun ho => sJ (sL (kJ h1.P.pd rfl) (sT rfl (sL (yQ hc) (sT rfl (sL h1.P.pk (sL ne2 (sT rfl (sF rfl (sL tl rfl)))))))))))))
theorem aEi {w : Str} {r : List Str} (h : w ∈ tE) : iD (w :: r) := fun x hx => by
 show ((w == x) && true) = false
 rw [beq_eq_false_iff_ne.mpr fun e => hx (by rw [<- e]; exact h)]; rfl
theorem aJZ (h : ∀ s ∈ ss, s.Ok) : iD (dA ss c).flatten := by
 cases ss with
 | nil =>
  unfold dA
  cases c == ""
  ·exact aEi (by decide)
  ·exact fun x _ => rfl
 | cons s ss =>
  obtain ⟨w, r, e1, e2, _⟩ := yV (h s (.head _))
  show iD (s.words ++ (dA ss c).flatten)
  rw [e1]
  exact aEi e2
theorem aA3 {n m : Nat} {t : Bool} {e : aK} {σ' : aG} (h : dF FT false n e ρ σ = .ok t σ') (hm : n <= m) : dF FT false m e ρ σ = .ok t σ' := Le.up (fun n => (jG n).T' e ρ σ) hm h fun q => nomatch q
theorem aJP (hcl : c.length <= 100) (h39 : ρ 39 = some (.loc l)) (h36 : ρ 36 = some (.loc ls)) (ss : List St) : ∀ (σ : aG) (done : List PyData), RI σ0 σ l lw ls done -> bM (dA ss c).flatten -> (∀ s ∈ ss, s.Ok) -> (∀ d ∈ done, Dk 3 d) -> (done.isEmpty = true -> ss ≠ []) -> done.length + ss.length <= 100 ->
  ∃ σ', ((c == "") = false /\ σ'.take σ0.length = σ0 /\ evW FT false (ss.length + 200) rC rD ρ (pw σ lw (dA ss c).flatten) = .ok (.ret (.d (.tuple [.tuple (done ++ ss.map St.data), .str c]))) σ') \/
   ((c == "") = true /\ RI σ0 σ' l lw ls (done ++ ss.map St.data) /\ evW FT false (ss.length + 200) rC rD ρ (pw σ lw (dA ss c).flatten) = .ok (.next ρ) (pw σ' lw [])) := by
 induction ss with
 | nil =>
  intro σ done h ho hs hd hne hl
  have hne : done.isEmpty = false := by
   cases q : done.isEmpty
   ·rfl
   ·exact absurd rfl (hne q)
  rw [List.map_nil, List.append_nil]
  unfold dA at ho ⊢
  cases z : c == ""
  ·rw [z] at ho
   obtain ⟨σ2, t2, b⟩ := aFk (ρ := ρ) (h.app (.lst [])) ho z hcl hd hne hl h39 h36
   exact ⟨σ2, .inl ⟨rfl, t2, aMc (aA3 (yJ h.P ho h39) (by decide)) (jJ b (by decide) fun q => nomatch q)⟩⟩
  ·rw [z] at ho
   exact ⟨_, .inr ⟨rfl, h.app (.lst []), qP (aA3 (yJ (ws := []) h.P ho h39) (by decide))⟩⟩
 | cons s ss ih =>
  intro σ done h ho hs hd hne hl
  rw [List.length_cons] at hl
  have hsO := hs s (.head _)
  have hss : ∀ z ∈ ss, z.Ok := fun z hz => hs z (.tail _ hz)
  have ho : bM (s.words ++ (dA ss c).flatten) := ho
  obtain ⟨w, r, e1, _⟩ := yV hsO
  have cs := yJ h.P ho h39
  rw [e1] at cs
  have b := aFl (ρ := ρ) (h.app (.lst [])) ho hsO (aJZ hss) hd (by omega) h39 h36
  rw [e1] at b
  obtain ⟨σ', H⟩ := ih _ (done ++ [s.data]) (((h.app (.lst [])).app (.lst [])).push (done ++ [s.data])) ho.dr hss (fun d hd' => (List.mem_append.mp hd').elim (hd d) fun q => List.mem_singleton.mp q ▸ aB0 hsO) (fun q => by cases done <;> cases q) (by rw [List.length_append]; show done.length + 1 + _ <= _; omega)
  have e2 : done ++ [s.data] ++ ss.map St.data = done ++ (s :: ss).map St.data := List.append_assoc ..
  have go : ∀ {x}, evW FT false (ss.length + 200) rC rD ρ (pw ((σ ++ [bN.lst []] ++ [bN.lst []]).set ls (.lst (done ++ [s.data]))) lw (dA ss c).flatten) = x -> evW FT false ((s :: ss).length + 200) rC rD ρ (pw σ lw (dA (s :: ss) c).flatten) = x := fun {x} hx => by
   show evW FT false (ss.length + 1 + 200) rC rD ρ (pw σ lw (s.words ++ (dA ss c).flatten)) = x
   rw [e1, show ss.length + 1 + 200 = ss.length + 200 + 1 by omega]
   exact wM (aA3 cs (by omega)) (jJ b (by omega) fun q => nomatch q) hx
  rw [e2] at H
  exact ⟨σ', H.imp (fun q => ⟨q.1, q.2.1, go q.2.2⟩) fun q => ⟨q.1, q.2.1, go q.2.2⟩⟩
theorem aJ2 (h : ∀ s ∈ ss, s.Ok) (hc : c ∈ gI) (hg : nI ss c) : Wl (ss.length * 12 + 2) (dA ss c).flatten := by
 induction ss with
 | nil =>
  unfold dA
  cases c == ""
  ·exact Wl.le (.cons (kM (by decide)) (.cons (vT hc hg.2) .nil)) (by decide : 2 <= 2)
  ·exact .none
 | cons s ss ih => exact ((aEJ (h s (.head _)) (hg.1 s (.head _))).2.app (ih (fun z hz => h z (.tail _ hz)) ⟨fun z hz => hg.1 z (.tail _ hz), hg.2⟩)).le (by rw [List.length_cons]; omega)
theorem aGv (σ : aG) (o : bN) : uN true ["words", "is_bad"] [.loc σ.length, .d (.bool false)] (σ ++ [o]) = .ok (.loc (σ ++ [o]).length) (σ ++ [o] ++ [.dct (kQ σ.length)]) := by
 show cU (aU ([aB.loc σ.length, .d (.bool false)].all (zU (σ ++ [o]).length) = true) _) = _
 rw [cG (by show (decide (σ.length < (σ ++ [o]).length) && (true && true)) = true; rw [decide_eq_true (by rw [List.length_append]; exact Nat.lt_succ_self _)]; rfl)]; rfl
theorem aJE (h : σ[lw]? = some (.lst (ws.map .str))) : pw σ lw ws = σ := by
 obtain ⟨h1, h2⟩ := List.getElem?_eq_some_iff.mp h
 unfold pw
 rw [<- h2, List.set_getElem_self]
theorem aJV (h : ∀ s ∈ ss, s.Ok) (hn : ss ≠ []) (hl : ss.length <= 4) (hg : nI ss c) (hc : c ∈ gI) : aN FT false 240 56 [.d (.str (bG (dA ss c).flatten))] σ = .ok (.d (.tuple [.tuple (ss.map St.data), .str c])) σ := by
 have w := (aJ2 h hc hg).le (show ss.length * 12 + 2 <= 50 by omega)
 have ho : bM (dA ss c).flatten := ⟨Nat.le_trans w.1 (by decide), fun x hx => (w.2 x hx).1.1⟩
 have ws := aMn (σ := σ) (fun x hx => (w.2 x hx).1) (Nat.le_trans w.1 (by decide)) (Nat.le_trans (aHA w) (by decide))
 have R : RI σ (σ ++ [bN.lst ((dA ss c).flatten.map .str)] ++ [bN.dct (kQ σ.length)] ++ [bN.lst []]) (σ ++ [bN.lst ((dA ss c).flatten.map .str)]).length σ.length (σ ++ [bN.lst ((dA ss c).flatten.map .str)] ++ [bN.dct (kQ σ.length)]).length [] := by
  refine ⟨⟨?_, ?_, ?_⟩, own .., ?_, ?_, ?_, Nat.le_refl _, ?_⟩
  ·rw [List.getElem?_append_left (by rw [List.length_append (as := σ ++ _)]; exact Nat.lt_succ_self _)]; exact own ..
  all_goals simp only [List.length_append, List.length_cons, List.length_nil, List.append_assoc]
  ·omega
  ·omega
  ·omega
  ·omega
  ·exact List.take_left
  ·omega
 have hS : (σ ++ [bN.lst ((dA ss c).flatten.map .str)] ++ [bN.dct (kQ σ.length)] ++ [bN.lst []])[σ.length]? = some (.lst ((dA ss c).flatten.map .str)) := by
  rw [List.append_assoc, List.getElem?_append_left (by rw [List.length_append]; exact Nat.lt_succ_self _)]; exact own ..
 have e : pw (σ ++ [bN.lst ((dA ss c).flatten.map .str)] ++ [bN.dct (kQ σ.length)] ++ [bN.lst []]) σ.length (dA ss c).flatten = (σ ++ [bN.lst ((dA ss c).flatten.map .str)] ++ [bN.dct (kQ σ.length)] ++ [bN.lst []]) := aJE hS
 have tk : ∀ {σ' : aG} {v : PyData}, σ'.take σ.length = σ -> dC σ.length (.ret (.d v)) σ' = .ok (.d v) σ := fun {σ' v} q => by
  show aI.ok _ (σ'.take σ.length) = _
  rw [q]
 refine bA (q := f56) rfl rfl (sB (bD ws (by decide)) (sB (aGv ..) (sJ (sL (kJ R.P.d rfl) (sL rfl (sF rfl (sJ ?_)))))))
 obtain ⟨σ', H⟩ := aJP (c := c) (ρ := (((aJ.set (fun _ => none) 16 (.d (.str (bG (dA ss c).flatten)))).set 39 (.loc (σ ++ [bN.lst ((dA ss c).flatten.map .str)]).length)).set 36 (.loc (σ ++ [bN.lst ((dA ss c).flatten.map .str)] ++ [bN.dct (kQ σ.length)]).length)).set 37 (.d (.str ""))) (Nat.le_trans (kX hc) (by decide)) rfl rfl ss _ [] R ho h (fun _ q => nomatch q) (fun _ => hn) (by rw [List.length_nil]; omega)
 rw [e] at H
 have lm : ss.length + 200 <= 204 := by omega
 rcases H with ⟨_, ht, ev⟩ | ⟨hc0, R2, ev⟩
 ·exact sB (aMd ev (Nat.le_trans lm (by decide))) (tk ht)
 ·obtain rfl := eq_of_beq hc0
  exact sB (wN ev (Nat.le_trans lm (by decide))) (sJ (sL (kJ R2.P.pd rfl) (sF rfl (sL (aEA R2.sl (by rw [List.nil_append, List.length_map]; omega)) (tk R2.tk)))))
end
end PQ
namespace PQ
noncomputable def qF (t : Str) : Bool := !decide (34 ∈ cl t) && !decide (10 ∈ cl t)
theorem aAC (t : Str) : qF t = true ↔ fV t := by
 unfold qF fV
 rw [Bool.and_eq_true, Bool.not_eq_true', Bool.not_eq_true', decide_eq_false_iff_not, decide_eq_false_iff_not]
noncomputable def St.texts (s : St) : List Str := St.casesOn s (fun _ _ => []) (fun _ _ _ => []) (fun _ _ _ _ _ => []) (fun _ t => [t]) (fun t _ => [t]) (fun _ _ => []) [] (fun t => [t]) (fun _ => []) (fun _ _ _ _ _ => [])
noncomputable abbrev tx3 : List Str := ["object", "log", "expect"]
noncomputable abbrev xV : List bH := foB (f58.body.getD 1 (.ret .stuck))
noncomputable def jY (ss : List St) : List Str := (ss.map St.texts).flatten
noncomputable def rR (ss : List St) (c : Str) : Bool := (c :: jY ss).all qF
section
variable {hb : Bool} {σ : aG} {ρ : aJ} {c : Nat} {s : St} {ss : List St} {y h : Str} {ts : List Str} {cm : Str} {l : Nat}
theorem aC7 (hy : cl y = [c]) : bR .notIn (.d (.str y)) (.d (.str h)) σ = some (bV (!decide (c ∈ cl h))) := by
 obtain rfl : y = mk [c] := gW hy
 rw [<- aCH]; rfl
theorem aGX (t : Str) : aN FT hb 20 57 [.d (.str t)] σ = .ok (.d (.bool (qF t))) σ := by
 refine bA (q := f57) rfl rfl (sL (aC7 lE) ?_)
 unfold qF
 cases decide (34 ∈ cl t)
 ·exact sT rfl (sL (aC7 yF) (bL rfl))
 ·exact sF rfl (bL rfl)
theorem aH7 {kvs : List (Str × aB)} {v : aB} (e : fD y kvs = some v) : y ∈ kvs.map (·.1) := by
 induction kvs with
 | nil => cases e
 | cons p r ih =>
  by_cases q : p.1 = y
  ·exact q ▸ .head _
  ·exact .tail _ (ih ((if_neg q).symm.trans e))
theorem aHF (s : St) : dE (cl s.key) := (by decide : ∀ k ∈ lV.map (·.1), ∀ c ∈ cl k, c < 128) _ (aH7 (sK s))
theorem aLO (h64 : ρ 64 = some (.loc σ.length)) (h65 : ρ 65 = some (.d s.data)) (hn : ts.length <= 1000) : bS FT hb 20 xV ρ (σ ++ [.lst (ts.map .str)]) = .ok (.next ρ) (σ ++ [.lst ((ts ++ s.texts).map .str)]) := by
 have e : ρ = (ρ.set 65 (.d s.data)).set 64 (.loc σ.length) := by rw [aO h65, aO h64]
 have i := uX (σ := σ ++ [.lst (ts.map .str)]) (xs := tx3) (aHF s) (by unfold dE; decide)
 have no : tx3.any (· == s.key) = false -> s.texts = [] -> bS FT hb 20 xV ρ (σ ++ [.lst (ts.map .str)]) = .ok (.next ρ) (σ ++ [.lst ((ts ++ s.texts).map .str)]) := fun h1 h2 => by
  rw [h1] at i
  rw [h2, List.append_nil, e]
  exact fU.trans (sL (rV s) (sL i (sF rfl (sJ rfl))))
 cases s with
 | object m t => rw [e]; exact fU.trans (sL rfl (sL i (sT (show tx3.any (· == Str.ofString "object") = true by decide) (sL iP (sL rfl (sL rfl (sT (by decide) (sL rfl (sB (qW hn) (sJ (sJ rfl)))))))))))
 | log t u => rw [e]; exact fU.trans (sL rfl (sL i (sT (show tx3.any (· == Str.ofString "log") = true by decide) (sL iP (sL rfl (sL rfl (sF (by decide) (sL rfl (sB (qW hn) (sJ (sJ rfl)))))))))))
 | expect t => rw [e]; exact fU.trans (sL rfl (sL i (sT (show tx3.any (· == Str.ofString "expect") = true by decide) (sL iP (sL rfl (sL rfl (sF (by decide) (sL rfl (sB (qW hn) (sJ (sJ rfl)))))))))))
 | _ => exact no rfl rfl
theorem aEu (s : St) : s.texts.length <= 1 := by cases s <;> exact Nat.le_of_ble_eq_true rfl
theorem aLN (ss : List St) : ∀ (ts : List Str) (ρ : aJ), ρ 64 = some (.loc σ.length) -> ts.length + ss.length <= 900 ->
  ∃ ρ' : aJ, evF FT hb (ss.length + 21) [65] xV (ss.map St.data) ρ (σ ++ [.lst (ts.map .str)]) = .ok (.next ρ') (σ ++ [.lst ((ts ++ jY ss).map .str)]) /\ ρ' 64 = some (.loc σ.length) := by
 induction ss with
 | nil => exact fun ts ρ h64 _ => ⟨ρ, by rw [show jY [] = [] from rfl, List.append_nil]; rfl, h64⟩
 | cons s ss ih =>
  intro ts ρ h64 hn
  rw [List.length_cons] at hn
  have tl := aEu s
  obtain ⟨ρ', g1, g2⟩ := ih (ts ++ s.texts) (ρ.set 65 (.d s.data)) h64 (by rw [List.length_append]; omega)
  rw [List.append_assoc] at g1
  exact ⟨ρ', fX rfl (jJ (aLO (ρ := ρ.set 65 (.d s.data)) h64 rfl (by omega)) (show 20 <= ss.length + 21 by omega) (fun q => nomatch q)) g1, g2⟩
theorem aCq : rR ss cm = true ↔ nI ss cm := by
 unfold rR jY
 rw [List.all_eq_true]
 have tx : ∀ s : St, s.Good ↔ ∀ t ∈ s.texts, fV t := fun s => by
  cases s
  case object => exact ⟨fun h t ht => List.mem_singleton.mp ht ▸ h, fun h => h _ (.head _)⟩
  case log => exact ⟨fun h t ht => List.mem_singleton.mp ht ▸ h, fun h => h _ (.head _)⟩
  case expect => exact ⟨fun h t ht => List.mem_singleton.mp ht ▸ h, fun h => h _ (.head _)⟩
  all_goals exact ⟨(fun _ _ h => nomatch h), fun _ => trivial⟩
 refine ⟨fun h => ⟨fun s hs => (tx s).mpr fun t ht => (aAC t).mp (h t (.tail _ (List.mem_flatten.mpr ⟨_, List.mem_map.mpr ⟨s, hs, rfl⟩, ht⟩))), (aAC cm).mp (h cm (.head _))⟩, fun h t ht => (aAC t).mpr ?_⟩
 rcases List.mem_cons.mp ht with rfl | ht
 ·exact h.2
 ·obtain ⟨L, hL, ht⟩ := List.mem_flatten.mp ht
  obtain ⟨s, hs, rfl⟩ := List.mem_map.mp hL
  exact (tx s).mp (h.1 s hs) t ht
theorem aH0 {xs : List PyData} (h : σ[l]? = some (.lst xs)) (hn : xs.length <= 1000) : oB .seq false σ l = some xs := by
 have e : oB .seq false σ l = (fZ σ l).bind fun xs => aU (xs.length <= 1000) (some xs) := rfl
 rw [e, lO h]
 exact cG hn
theorem aGg (h : ∀ w ∈ ts, dE (cl w)) : bR .eq (.d (.list (ts.map .str))) (.d (.list [])) σ = some (bV ts.isEmpty) :=
 (congrArg (Option.map bV) (uI (y := .list []) h (uR (ws := []) fun _ h => nomatch h) rfl rfl)).trans (by cases ts <;> rfl)
theorem aGt {p : Str -> Bool} (l : List Str) : (l.filter fun s => !p s).isEmpty = l.all p := by
 induction l with
 | nil => rfl
 | cons s l ih => rw [List.filter_cons, List.all_cons]; cases p s; rfl; exact ih
theorem aEK (h : ∀ s ∈ ss, s.Ok) (hn : ss.length <= 10) (hc : cm ∈ gI) : aN FT hb 80 58 [.d (.tuple (ss.map St.data)), .d (.str cm)] σ = .ok (.d (.bool (rR ss cm))) σ := by
 obtain ⟨ρ', g1, g2⟩ := aLN (hb := hb) (σ := σ) ss [cm] (((aJ.set (fun _ => none) 37 (.d (.str cm))).set 36 (.d (.tuple (ss.map St.data)))).set 64 (.loc σ.length)) rfl (by show 1 + ss.length <= 900; omega)
 have asc : ∀ t ∈ cm :: jY ss, dE (cl t) := fun t ht => by
  rcases List.mem_cons.mp ht with rfl | ht
  ·exact kU hc
  ·obtain ⟨L, hL, ht⟩ := List.mem_flatten.mp ht
   obtain ⟨s, hs, rfl⟩ := List.mem_map.mp hL
   have ok := h s hs
   cases s with
   | object m u => exact List.mem_singleton.mp ht ▸ kU ok.2
   | log u m => exact List.mem_singleton.mp ht ▸ kU ok.1
   | expect u => exact List.mem_singleton.mp ht ▸ kU ok
   | _ => cases ht
 have tl : ∀ ss : List St, (jY ss).length <= ss.length := fun ss => by
  induction ss with
  | nil => exact Nat.le_refl _
  | cons s ss ih =>
   have := aEu s
   show (s.texts ++ jY ss).length <= ss.length + 1
   rw [List.length_append]; omega
 have len : (cm :: jY ss).length <= 11 := Nat.succ_le_succ (Nat.le_trans (tl ss) hn)
 refine bA (q := f58) rfl rfl (sJ (sL rfl (sB (nW g1 (Nat.le_trans (Nat.add_le_add_right hn 21) (by decide))) (sJ ?_))))
 rw [<- aO g2]
 unfold rR
 show dM _ _ _ (σ ++ [.lst ((cm :: jY ss).map .str)]) _ = _
 generalize cm :: jY ss = TS at *
 refine sL (aH0 (own ..) (by rw [List.length_map]; omega)) (sB (hV (xY (c := 30) .str (fun s => !qF s) TS fun s _ => t_c.trans (sB (bD (aGX s) (by decide)) rfl)) (Nat.le_trans (show TS.length + 30 + 3 <= 44 by omega) (by decide))) (sL (aGg fun w hw => asc w (List.mem_filter.mp hw).1) ?_))
 rw [aGt]
 exact uG
end
end PQ
namespace PQ
noncomputable def Sk (b : Nat) (d : PyData) : Prop := d.showable = true /\ d.leavesShort 45 = true /\ d.bulk <= b
noncomputable def Sa (b : Nat) (xs : List PyData) : Prop := PyData.showableAll xs = true /\ PyData.leavesShortAll 45 xs = true /\ PyData.bulkAll xs <= b
section
variable {a b n m k : Nat} {d : PyData} {xs : List PyData} {x : Str} {ws : List Str} {s : St} {ss : List St} {t : Bool} {σ : aG} {hb : Bool}
theorem Sk.up (h : Sk a d) (hb : a <= b) : Sk b d := ⟨h.1, h.2.1, Nat.le_trans h.2.2 hb⟩
theorem iL (h : n < 10 ^ 40) : Sk b (.int n) := by
 refine ⟨?_, ?_, by rw [PyData.bulk]; exact Nat.zero_le _⟩
 ·rw [PyData.showable]
  refine decide_eq_true (show n.log2 < 1920 from ?_)
  by_cases h0 : n = 0
  ·rw [h0]; decide
  ·exact Nat.lt_of_lt_of_le ((Nat.log2_lt h0).mpr (Nat.lt_trans h (show 10 ^ 40 < 2 ^ 256 by decide))) (by decide)
 ·rw [PyData.leavesShort]
  refine decide_eq_true ?_
  have e : PyData.shown (.int n) = bE n := by rw [PyData.shown]; rfl
  rw [e]
  exact Nat.le_trans (dY h) (by decide)
theorem aAY (h : dE (cl x)) (hl : x.length <= b) : Sk b (.str x) := by
 refine ⟨by rw [PyData.showable], ?_, by rw [PyData.bulk]; exact hl⟩
 rw [PyData.leavesShort]
 exact List.all_eq_true.mpr fun c hc => decide_eq_true (Nat.lt_trans (h c hc) (by decide))
theorem iM (h : ((cl x).all (Nat.blt · 128) && Nat.ble x.length b) = true := by decide) : Sk b (.str x) := aAY (fun c hc => Nat.le_of_ble_eq_true (List.all_eq_true.mp (aA h).1 c hc)) (Nat.le_of_ble_eq_true (aA h).2)
theorem aAX : Sk b (.bool t) := ⟨by rw [PyData.showable], by rw [PyData.leavesShort], by rw [PyData.bulk]; exact Nat.zero_le _⟩
theorem aD6 : Sk b .none := ⟨by rw [PyData.showable], by rw [PyData.leavesShort], by rw [PyData.bulk]; exact Nat.zero_le _⟩
theorem gU : Sa 0 [] := ⟨by rw [PyData.showableAll], by rw [PyData.leavesShortAll], by rw [PyData.bulkAll]; exact Nat.le_refl _⟩
theorem bZ (h : Sk a d) (hs : Sa b xs) : Sa (a + 1 + b) (d :: xs) := by
 refine ⟨by rw [PyData.showableAll, h.1, hs.1]; rfl, by rw [PyData.leavesShortAll, h.2.1, hs.2.1]; rfl, ?_⟩
 rw [PyData.bulkAll]
 have := h.2.2; have := hs.2.2; omega
theorem gV (h : Sa b xs) (hm : b <= m) : Sk m (.tuple xs) := ⟨by rw [PyData.showable, h.1], by rw [PyData.leavesShort, h.2.1], by rw [PyData.bulk]; exact Nat.le_trans h.2.2 hm⟩
theorem xD {nf : Nat} (h : eU nf n) : n < 10 ^ 40 := h.elim (fun q => Nat.lt_trans q.2 (by decide)) fun q => Nat.lt_trans q.2.1 (by decide)
theorem aK0 (h : ∀ x ∈ ws, Sk 20 (.str x)) : Sa (ws.length * 21) (ws.map .str) := by
 induction ws with
 | nil => exact gU
 | cons x ws ih =>
  have z := bZ (h x (.head _)) (ih fun z hz => h z (.tail _ hz))
  exact ⟨z.1, z.2.1, Nat.le_trans z.2.2 (by rw [List.length_cons]; omega)⟩
theorem aLb (h : s.Ok) : Sk 150 s.data := by
 have tx : ∀ {t}, t ∈ gI -> Sk 11 (.str t) := fun h => aAY (kU h) (kX h)
 have lt : ∀ {ws : List Str} {t : Str}, t ∈ ws -> ws.all (fun x => (cl x).all (Nat.blt · 128) && Nat.ble x.length 11) = true -> Sk 11 (.str t) := fun h h2 => iM (List.all_eq_true.mp h2 _ h)
 cases s with
 | counter v w => exact gV (bZ (iM (b := 11)) (bZ (iL (b := 0) (cO h.1)) (bZ (iL (b := 0) (cO h.2)) gU))) (by decide)
 | quota b v w => exact gV (bZ (iM (b := 11)) (bZ (aAX (b := 0)) (bZ (iL (b := 0) (cO h.1)) (bZ (iL (b := 0) (cO h.2)) gU)))) (by decide)
 | limit b v u w o => exact gV (bZ (iM (b := 11)) (bZ (aAX (b := 0)) (bZ (iL (b := 0) (cO h.1)) (bZ (lt h.2.2 (by decide)) (bZ (iL (b := 0) (cO h.2.1)) (bZ (aAX (b := 0)) gU)))))) (by decide)
 | object m t => exact gV (bZ (iM (b := 11)) (bZ (lt h.1 (by decide)) (bZ (tx h.2) gU))) (by decide)
 | log t l => exact gV (bZ (iM (b := 11)) (bZ (tx h.1) (bZ (lt h.2 (by decide)) gU))) (by decide)
 | reject m c => exact gV (bZ (iM (b := 11)) (bZ (lt h.1 (by decide)) (bZ (iL (b := 0) (Nat.lt_trans h.2.1 (by decide))) gU))) (by decide)
 | notrack => exact gV (bZ (iM (b := 11)) gU) (by decide)
 | expect t => exact gV (bZ (iM (b := 11)) (bZ (tx h) gU)) (by decide)
 | flow t => exact gV (bZ (iM (b := 11)) (bZ (lt h (by decide)) gU)) (by decide)
 | nat k nf ad ps fl =>
  obtain ⟨hk, ha⟩ := mT h
  have hn : nf < 10 ^ 40 := h.2.2.elim (fun q => by rw [q.1]; decide) fun q => q.1.elim (fun q => by rw [q]; decide) fun q => by rw [q]; decide
  have ka : Sk 20 ad.data := by
   cases ad with
   | no => exact aD6
   | net b m => exact gV (bZ (iM (b := 11)) (bZ (iL (b := 0) (xD ha.2.1)) (bZ (iL (b := 0) (Nat.lt_of_le_of_lt ha.2.2 (by decide))) gU))) (by decide)
   | span a b => exact gV (bZ (iM (b := 11)) (bZ (iL (b := 0) (xD ha.1)) (bZ (iL (b := 0) (xD ha.2)) gU))) (by decide)
  have kp : Sk 2 (fN ps) := by
   cases ps with
   | none => exact aD6
   | some q => exact gV (bZ (iL (b := 0) (gE (h.1 q.1 q.2 rfl).1)) (bZ (iL (b := 0) (gE (h.1 q.1 q.2 rfl).2)) gU)) (by decide)
  have hf := (by decide : ∀ fl ∈ gP, fl.length <= 2 /\ ∀ x ∈ fl, ((cl x).all (Nat.blt · 128) && Nat.ble x.length 20) = true) fl h.2.1
  exact gV (bZ (iM (b := 11)) (bZ (lt hk (by decide)) (bZ (iL (b := 0) hn) (bZ ka (bZ kp (bZ (gV (m := 42) (aK0 fun x hx => iM (hf.2 x hx)) (Nat.mul_le_mul_right 21 hf.1)) gU)))))) (by decide)
theorem aKZ (h : ∀ s ∈ ss, s.Ok) : Sa (ss.length * 151) (ss.map St.data) := by
 induction ss with
 | nil => exact gU
 | cons s ss ih =>
  have z := bZ (aLb (h s (.head _))) (ih fun z hz => h z (.tail _ hz))
  exact ⟨z.1, z.2.1, Nat.le_trans z.2.2 (by rw [List.length_cons]; omega)⟩
theorem aJY (h : ∀ s ∈ ss, s.Ok) (hn : ss.length <= 4) (hc : x ∈ gI) : ∃ R, ∀ σ : aG, dT false .repr [.d (.tuple [.tuple (ss.map St.data), .str x])] σ = some (.d (.str R)) := by
 have sa := bZ (gV (aKZ h) (Nat.mul_le_mul_right 151 hn)) (bZ (aAY (kU hc) (kX hc)) gU)
 have dk : ∀ d ∈ [PyData.tuple (ss.map St.data), .str x], Dk 4 d := cF (iA fun d hd => (List.mem_map.mp hd).elim fun s q => q.2 ▸ aB0 (h s q.1)) (cF (iO (kU hc)) iG)
 have lay := rM dk
 have fl : nX [PyData.tuple (ss.map St.data), .str x] = true := by
  unfold nX
  rw [lay.1, decide_eq_true (Nat.le_trans lay.2 (by decide))]; rfl
 have nd : PyData.hasDictAll [.tuple (ss.map St.data), .str x] = false := by
  have z := PyData.hasDict_of_canLay (.tuple [.tuple (ss.map St.data), .str x]) (by rw [PyData.canLay0]; exact lay.1)
  rw [PyData.hasDict] at z; exact z
 have st := gV sa (Nat.le_refl _)
 have ln : (PyData.shown (.tuple [.tuple (ss.map St.data), .str x])).length <= 65536 := Nat.le_trans (PyData.shown_le_bulk 45 (by decide) _ st.2.1) (Nat.le_trans (Nat.add_le_add_right (Nat.mul_le_mul_left _ st.2.2) _) (by decide))
 refine ⟨PyData.shown (.tuple [.tuple (ss.map St.data), .str x]), fun σ => congrArg (Option.map aB.d) (cG ?_)⟩
 rw [sa.1, fl, nd, decide_eq_true ln]; rfl
end
end PQ
namespace PQ
noncomputable def nT : Int := 95279062737862769769818677057189937414147
noncomputable def jW : List Int := [1, 110, 27, 235710984068728022648072831506914990443931747496243942]
noncomputable abbrev lS (i : Nat) : bH := vI.getD i (.ret .stuck)
noncomputable def oE : List (Str × aB) := [("counter", .fn 9), ("quota", .fn 10), ("limit", .fn 11), ("object", .fn 12)]
noncomputable def jU : List (Str × aB) := [("nat", .fn 19), ("expect", .fn 20), ("flow", .fn 21)]
noncomputable def pX : List (Str × aB) := [("log", .fn 14), ("reject", .fn 15), ("notrack", .fn 16)]
noncomputable def rI : List Str := ["", "x", "two  blanks", "comment", "a\"b"]
section
variable {ρ : aJ} {σ σ' : aG} {hb : Bool} {n : Nat} {ns is xs : List Int} {i : Nat}
theorem s_c {s : bH} : dD FT hb n s ρ σ = rS (cN FT hb n) s ρ σ .ok := rF.symm.trans ((cps n).S ..)
theorem oP {ρ' : aJ} {S : bH} {r : List bH} (h : dD FT hb n S ρ σ = .ok (.next ρ') σ') : bS FT hb (n + 1) (S :: r) ρ σ = bS FT hb n r ρ' σ' := by
 show (dD FT hb n S ρ σ).bind _ = _
 rw [h]; rfl
theorem aJ9 : aP FT false 20 vG ρ [] = .ok (.d (.int (nT - 3))) [] := by
 refine e_c.trans (sL (iC (by decide)) (sL (gA (by decide)) (sL (gA (by decide)) (sL (iC (by decide)) (sL (gA (by decide)) (sL dQ (sL (gA (by decide)) (sL dQ (sL (gA (by decide)) ?_)))))))))
 exact congrArg (fun i => aI.ok (aB.d (PyData.int i)) []) (by decide)
theorem aKa (h : ρ 67 = some (.d (.int nT))) : dD FT false 599 (lS 0) ρ [] = .ok (.next (ρ.set 68 (.d (.list (jW.map .int))))) [] := by
 rw [<- aO h]
 refine s_c.trans (sL (gA (by decide)) (sL dQ (sL (gA (by decide)) (sL dQ (sL (gA (by decide)) (sL (gA (by decide)) (sL dQ (sL (gA (by decide)) (sL dQ (sL (gA (by decide)) (sL dQ (sL (gA (by decide)) (sL dQ (sL (gA (by decide)) (sL dQ (sL (gA (by decide)) (sL dQ ?_)))))))))))))))))
 exact congrArg (fun l : List Int => aI.ok (Fl.next ((ρ.set 67 (.d (.int nT))).set 68 (.d (.list (l.map .int))))) []) (show [_, _, _, _] = jW by decide)
theorem zG (h : i < xs.length) (hi : i < 2 ^ 62) : dW σ (.d (.list (xs.map .int))) (.d (.int i)) = some (.d (.int (xs.getD i 0))) := by
 rw [xQ hi, List.getElem?_map, List.getD_eq_getElem?_getD, List.getElem?_eq_getElem h]; rfl
noncomputable def sU (ns : List Int) : List Int := [0, 1, 2, 3].map fun i => jW.getD i 0 + ns.getD i 0
theorem zQ (hn : ns.length <= 63) : dT false .len [.d (.list (ns.map .int))] σ = some (.d (.int ns.length)) := zR (List.length_map ..) (Nat.le_trans hn (by decide))
theorem aKb (hn : ns.length <= 63) (h66 : ρ 66 = some (.d (.list (ns.map .int)))) (h68 : ρ 68 = some (.d (.list (jW.map .int)))) : dD FT false 598 (lS 1) ρ [] = .ok (.next (ρ.set 69 (.d (.list ((sU ns).map .int))))) [] := by
 have e : ρ = (ρ.set 68 (.d (.list (jW.map .int)))).set 66 (.d (.list (ns.map .int))) := by rw [aO h68, aO h66]
 rw [e]
 refine s_c.trans (sL rfl (sB (hV (jM (c := 20) (fun i : Nat => .int i) (fun i => jW.getD i 0 + ns.getD i 0) (fun i : Int => .int i) [0, 1, 2, 3] fun i hi => ?_) (by decide)) rfl))
 have hi : i < 4 := (by decide : ∀ i ∈ [0, 1, 2, 3], i < 4) i hi
 refine e_c.trans (sL (zG (xs := jW) hi (Nat.lt_trans hi (by decide))) (sL (zQ hn) (sL (vF i ns.length) ?_)))
 cases z : decide (i < ns.length)
 ·have g0 : ns.getD i 0 = 0 := by rw [List.getD_eq_getElem?_getD, List.getElem?_eq_none (Nat.le_of_not_lt (of_decide_eq_false z))]; rfl
  rw [g0]
  exact sF rfl (sL dQ rfl)
 ·exact sT rfl (sL (zG (of_decide_eq_true z) (Nat.lt_trans hi (by decide))) (sL dQ rfl))
theorem stmts (is : List Int) : ∃ ss : List St, ss.length = is.length /\ (∀ s ∈ ss, s.Ok) /\ cY FT false (is.length + 330) (.call 36 [.var 0]) 0 none (is.map .int) ρ [] = .ok (ss.map St.data) [] := by
 induction is with
 | nil => exact ⟨[], rfl, (fun _ h => nomatch h), rfl⟩
 | cons i is ih =>
  obtain ⟨s, hs, e⟩ := aLy i []
  obtain ⟨ss, h1, h2, h3⟩ := ih
  exact ⟨s :: ss, congrArg (· + 1) h1, List.forall_mem_cons.mpr ⟨hs, h2⟩, xZ (n := is.length + 330) rfl (uF (n := 330) (e_c.trans (sB (bD e (by decide)) rfl)) (by omega) (fun q => nomatch q)) h3⟩
theorem aKc (hl : is.length <= 10) (h : ρ 69 = some (.d (.list (is.map .int)))) : ∃ ss : List St, ss.length = is.length /\ (∀ s ∈ ss, s.Ok) /\ dD FT false 597 (lS 2) ρ [] = .ok (.next (ρ.set 36 (.d (.tuple (ss.map St.data))))) [] := by
 obtain ⟨ss, h1, h2, h3⟩ := stmts (ρ := ρ) is
 refine ⟨ss, h1, h2, ?_⟩
 rw [<- aO h] at h3 ⊢
 exact s_c.trans (sL (oA (by rw [List.length_map]; omega)) (sB (hV h3 (Nat.le_trans (Nat.add_le_add_right hl 330) (by decide))) (sL (congrArg (Option.map aB.d) (cG (show (ss.map St.data).length <= 1000 by rw [List.length_map]; omega))) rfl)))
theorem aKd (hn : ns.length <= 63) (h66 : ρ 66 = some (.d (.list (ns.map .int)))) : ∃ c ∈ rI, dD FT false 596 (lS 3) ρ [] = .ok (.next (ρ.set 37 (.d (.str c)))) [] := by
 have go : ∀ x : Int, ∃ c ∈ rI, dW [] (.d (.tuple (rI.map .str))) (.d (.int ((1 + x).fmod 5))) = some (.d (.str c)) := fun x => aDB .str rI (aCm (1 + x) 5 (by decide)) (by decide)
 rw [<- aO h66]
 cases z : decide (4 < ns.length)
 ·obtain ⟨c, hc, ix⟩ := go 0
  refine ⟨c, hc, s_c.trans (sL (zQ hn) (sL (gQ ns.length 4) ?_))⟩
  rw [z]
  exact sF rfl (sL dQ (sL (pV (by decide)) (sL ix rfl)))
 ·obtain ⟨c, hc, ix⟩ := go (ns.getD 4 0)
  refine ⟨c, hc, s_c.trans (sL (zQ hn) (sL (gQ ns.length 4) ?_))⟩
  rw [z]
  exact sT rfl (sL (zG (i := 4) (of_decide_eq_true z) (by decide)) (sL dQ (sL (pV (by decide)) (sL ix rfl))))
theorem aFt : aN FT false 20 13 [] [] = .ok (.loc 0) [.dct oE] := bA (q := f13) rfl rfl (sB rfl rfl)
theorem aFu : aN FT false 20 22 [] [.dct oE] = .ok (.loc 1) [.dct oE, .dct jU] := bA (q := f22) rfl rfl (sB rfl rfl)
theorem aKe : dD FT false 595 (lS 4) ρ [] = .ok (.next (ρ.set 35 (.loc 0))) [.dct oE] := s_c.trans (sB (bD aFt (by decide)) rfl)
theorem aKf (h : ρ 35 = some (.loc 0)) : dD FT false 594 (lS 5) ρ [.dct oE] = .ok (.next ρ) [.dct (oE ++ jU), .dct jU] := by
 rw [<- aO h]
 exact s_c.trans (sL rfl (sB (bD aFu (by decide)) (sB rfl rfl)))
theorem aKg (h : ρ 35 = some (.loc 0)) : dD FT false 593 (lS 6) ρ [.dct (oE ++ jU), .dct jU] = .ok (.next ρ) [.dct lV, .dct jU, .dct pX] := by
 rw [<- aO h]
 exact s_c.trans (sL rfl (sB rfl (sB rfl rfl)))
theorem aHP (ns : List Int) (hn : ns.length <= 63) : wU ns := by
 refine .mk 20 (.int (nT - 3)) (.int nT) (by decide) aJ9 (congrArg (fun i => some (PyData.int i)) (by decide)) ?_
 generalize hρ : (qH 66 (ns.map .int)).set lwI (.d (.int nT)) = ρ0
 have h66 : ρ0 66 = some (.d (.list (ns.map .int))) := by rw [<- hρ]; rfl
 have h67 : ρ0 67 = some (.d (.int nT)) := by rw [<- hρ]; rfl
 obtain ⟨ss, l1, hs, q3⟩ := aKc (ρ := (ρ0.set 68 (.d (.list (jW.map .int)))).set 69 (.d (.list ((sU ns).map .int)))) (is := sU ns) (Nat.le_of_ble_eq_true rfl) rfl
 have l4 : ss.length = 4 := l1
 obtain ⟨c, hc, q4⟩ := aKd (ρ := ((ρ0.set 68 (.d (.list (jW.map .int)))).set 69 (.d (.list ((sU ns).map .int)))).set 36 (.d (.tuple (ss.map St.data)))) hn h66
 have hc : c ∈ gI := (by decide : ∀ c ∈ rI, c ∈ gI) c hc
 have pre : bS FT false 600 vI ρ0 [] = .ok (.next (((((ρ0.set 68 (.d (.list (jW.map .int)))).set 69 (.d (.list ((sU ns).map .int)))).set 36 (.d (.tuple (ss.map St.data)))).set 37 (.d (.str c))).set 35 (.loc 0))) [.dct lV, .dct jU, .dct pX] := by
  show bS FT false 600 [lS 0, lS 1, lS 2, lS 3, lS 4, lS 5, lS 6] ρ0 [] = _
  exact (oP (aKa h67)).trans ((oP (aKb (ρ := ρ0.set 68 (.d (.list (jW.map .int)))) hn h66 rfl)).trans ((oP q3).trans ((oP q4).trans ((oP aKe).trans ((oP (aKf rfl)).trans ((oP (aKg rfl)).trans rfl))))))
 have tg := aLR (σ := [.dct lV, .dct jU, .dct pX])
 have hT : TG 3 [.dct lV, .dct jU, .dct pX, .dct mA] := rfl
 have hP : PRd 0 [.dct lV, .dct jU, .dct pX, .dct mA] := rfl
 have cl20 : c.length <= 20 := Nat.le_trans (kX hc) (by decide)
 have ln : ss.length <= 10 := by omega
 by_cases hg : nI ss c
 ·have gb := aCq.mpr hg
  obtain ⟨R, hR⟩ := aJY hs (Nat.le_of_eq l4) hc
  have w := aEK (hb := false) (σ := [.dct lV, .dct jU, .dct pX, .dct mA]) hs ln hc
  rw [gb] at w
  exact .fine _ _ _ _ _ pre (e_c.trans (sB (bD tg (by decide)) (sB (bD (aJ5 hP hT hs ln cl20 hg) (by decide)) rfl))) (fU.trans (sB (bD w (by decide)) (sF rfl (sJ (sB (bD (aJV hs (fun e => by rw [e] at l4; cases l4) (Nat.le_of_eq l4) hg hc) (by decide)) (sL (hR _) (sL (hR _) (sL (nU rfl) rfl))))))))
 ·have gb : rR ss c = false := Bool.eq_false_iff.mpr fun e => hg (aCq.mp e)
  have w := aEK (hb := true) (σ := []) hs ln hc
  rw [gb] at w
  exact .caught _ _ mD [] pre (e_c.trans (sB (bD tg (by decide)) (sX (mE (aJ4 hP hT hs ln hg) (by decide))))) (fU.trans (sL (nU rfl) (sT rfl (sB (bD w (by decide)) rfl))))
end
end PQ
namespace PQ
noncomputable def Kof (h : Heap) : Frag := (List.range 700).filterMap fun a => (h.get? a).map fun o => (a, o)
theorem zT (h : Heap) (a : Addr) (o : Obj) : ∀ l : List Nat, ((l.filterMap fun a => (h.get? a).map fun o => (a, o)) : Frag).lookup a = some o -> h.get? a = some o
 | [], e => by cases e
 | b :: l, e => by
  cases q : h.get? b with
  | none => rw [List.filterMap_cons_none (by rw [q]; rfl)] at e; exact zT h a o l e
  | some o' =>
   rw [List.filterMap_cons_some (by rw [q]; rfl)] at e
   unfold List.lookup at e
   split at e
   ·rename_i hb
    cases e
    rw [eq_of_beq hb]; exact q
   ·exact zT h a o l e
theorem Kof_in (h : Heap) : (Kof h).In h := fun a o e => zT h a o _ e
noncomputable def chkK (K : Frag) : Bool := aAI K && oR K && wI K && aBn K && tX K "Tongue" "types" (.builtin "object.__getattribute__")
noncomputable def YP (h : Heap) : Prop := ∃ K : Frag, K.In h /\ chkK K = true
noncomputable def aMB (K : Frag) : Bool := (aFj K && (nsIn K mainGlobals ("range" : Str) == some none && nsIn K mainGlobals ("enumerate" : Str) == some none)) && (oR K && (wI K && (aBn K && tX K "Tongue" "types" (.builtin "object.__getattribute__"))))
theorem aMD (K : Frag) (n : Nat) : ∀ (xs : List Str) (rs : List aW), yY K (xs.take n) (rs.take n) = true -> yY K (xs.drop n) (rs.drop n) = true -> yY K xs rs = true := by
 induction n with
 | zero => exact fun xs rs _ h => h
 | succ n ih =>
  intro xs rs h h2
  cases xs with
  | nil => cases rs with
   | nil => exact h
   | cons r rs => exact bK h
  | cons x xs => cases rs with
   | nil => exact bK h
   | cons r rs =>
    have h : (cM (iN K x) (fun a => pL K a r) && yY K (xs.take n) (rs.take n)) = true := h
    exact an (aA h).1 (ih xs rs (aA h).2 h2)
theorem aMC {K : Frag} (h1 : yY K (jO.take 30) (FTl.take 30) = true) (h2 : yY K (jO.drop 30) (FTl.drop 30) = true) (h3 : aMB K = true) : chkK K = true := by
 have a := aA h3; have b := aA a.2; have c := aA b.2; have d := aA c.2
 exact an (an (an (an (an (aMD K 30 jO FTl h1 h2) a.1) b.1) c.1) d.1) d.2
end PQ
namespace PQ
noncomputable def spl {α : Type} : List α -> List α × List α
 | [] => ([], [])
 | [a] => ([a], [])
 | a :: b :: r => (a :: (spl r).1, b :: (spl r).2)
theorem aEb {α : Type} : ∀ (l : List α) (k : Nat), (spl l).1[k]? = l[2 * k]?
 | [], k => by simp [spl]
 | [a], 0 => rfl
 | [a], k + 1 => by simp [spl]
 | a :: b :: r, 0 => rfl
 | a :: b :: r, k + 1 => by
  show (spl r).1[k]? = _
  rw [aEb r k, show 2 * (k + 1) = 2 * k + 1 + 1 by omega]; rfl
theorem aEd {α : Type} : ∀ (l : List α) (k : Nat), (spl l).2[k]? = l[2 * k + 1]?
 | [], k => by simp [spl]
 | [a], k => by simp [spl]
 | a :: b :: r, 0 => rfl
 | a :: b :: r, k + 1 => by
  show (spl r).2[k]? = _
  rw [aEd r k, show 2 * (k + 1) + 1 = 2 * k + 1 + 1 + 1 by omega]; rfl
theorem aEc {α : Type} : ∀ (l : List α), (spl l).1.length <= l.length /\ (spl l).2.length <= l.length
 | [] => by simp [spl]
 | [a] => by simp [spl]
 | a :: b :: r => by have := aEc r; simp [spl]; omega
noncomputable def mkT : Nat -> List Obj -> BT
 | 0, _ => .nil
 | _ + 1, [] => .nil
 | n + 1, v :: r => .node v (mkT n (spl r).1) (mkT n (spl r).2)
theorem zY : ∀ (n : Nat) (l : List Obj) (i : Nat), l.length <= n -> (mkT n l).get i = l[i]?
 | 0, l, i, h => by
  have : l = [] := List.length_eq_zero_iff.mp (by omega)
  subst this; simp [mkT, BT.get]
 | n + 1, [], i, h => by simp [mkT, BT.get]
 | n + 1, v :: r, i, h => by
  have q := aEc r
  simp only [List.length_cons] at h
  unfold mkT
  rw [BT.get_node]
  by_cases h0 : i = 0
  ·subst h0; rfl
  ·rw [if_neg h0]
   by_cases h1 : i % 2 = 1
   ·rw [if_pos h1, zY n _ _ (by omega), aEb]
    obtain ⟨k, rfl⟩ : ∃ k, i = k + 1 := ⟨i - 1, by omega⟩
    rw [List.getElem?_cons_succ]
    congr 1; omega
   ·rw [if_neg h1, zY n _ _ (by omega), aEd]
    obtain ⟨k, rfl⟩ : ∃ k, i = k + 1 := ⟨i - 1, by omega⟩
    rw [List.getElem?_cons_succ]
    congr 1; omega
theorem aIv (l : List Obj) : (mkT l.length l).list l.length = l := by
 unfold BT.list
 apply List.ext_getElem?
 intro i
 rw [List.getElem?_map]
 by_cases h : i < l.length
 ·rw [List.getElem?_range h, Option.map_some, zY _ _ _ (Nat.le_refl _), List.getElem?_eq_getElem h]; rfl
 ·rw [List.getElem?_eq_none (by rw [List.length_range]; omega), List.getElem?_eq_none (by omega)]; rfl
noncomputable def ofS (s : Shared) : SharedT := ⟨mkT s.heap.objs.toList.length s.heap.objs.toList, s.heap.objs.toList.length, s.heap.life, s.gens, s.drawn, s.toks, s.os⟩
theorem aAq (s : Shared) : (ofS s).abs = s := by
 obtain ⟨⟨objs, life⟩, gens, drawn, toks, os⟩ := s
 show Shared.mk ⟨((mkT objs.toList.length objs.toList).list objs.toList.length).toArray, life⟩ gens drawn toks os = _
 rw [aIv]
noncomputable def wT (T : BT) (n : Nat) : Frag := (List.range 700).filterMap fun a => match Nat.blt a n with
 | true => (alive ((T.get a).getD default)).map fun o => (a, o)
 | false => none
theorem aEP (T : BT) (n : Nat) (life : Life) : Kof (absHeap T n life) = wT T n := by
 unfold Kof wT
 congr 1
 funext a
 cases e : Nat.blt a n with
 | true =>
  have lt : a < n := Nat.le_of_ble_eq_true e
  have : (absHeap T n life).get? a = alive ((T.get a).getD default) := by
   unfold Heap.get?
   rw [absHeap_at, if_pos lt]
   generalize (T.get a).getD default = o
   obtain ⟨c, d, dt, sl⟩ := o
   cases dt <;> rfl
  rw [this]
 | false =>
  have lt : ¬ a < n := fun q => by rw [show Nat.blt a n = true from Nat.ble_eq_true_of_le q] at e; cases e
  rw [abs_get_none lt]; rfl
noncomputable abbrev St1 := SharedT -> Thread -> Option (SharedT × Thread)
noncomputable def wJ (ok : Thread -> Bool) (st : St1) : Nat -> SharedT -> Thread -> Option SharedT
 | 0, _, _ => none
 | n + 1, s, t => match through t with
  | true => some s
  | false => match ok t with
   | false => none
   | true => match st s t with
    | some (s', t') => wJ ok st n s' t'
    | none => none
theorem aEz {tb : String -> Option Builtin} {p : Program} {w : World} {n₀ : Nat} {ann : Option Value} : ∀ {n : Nat} {s s' : SharedT} {t : Thread}, wJ (stepOk n₀ ann) (stepT (denote tb) p w) n s t = some s' -> topRun tb p w n₀ ann n s.abs t = some s'.abs
 | 0, _, _, _, h => by cases h
 | n + 1, s, s', t, h => by
  unfold wJ at h
  unfold topRun
  cases he : through t with
  | true => rw [he] at h; cases h; rfl
  | false =>
   rw [he] at h
   cases hk : stepOk n₀ ann t with
   | false => rw [hk] at h; cases h
   | true =>
    rw [hk] at h
    cases hs : stepT (denote tb) p w s t with
    | none => rw [hs] at h; cases h
    | some r => obtain ⟨s₂, t₂⟩ := r; rw [hs] at h; dsimp only; rw [stepT_spec hs]; exact aEz h
noncomputable def uV (at_ : Thread -> Option (List Value)) (st : St1) : Nat -> SharedT -> Thread -> Option SharedT
 | 0, _, _ => none
 | n + 1, s, t => match at_ t with
  | some l => (match l with | [] => some s | _ :: _ => none)
  | none => match st s t with
   | some (s', t') => uV at_ st n s' t'
   | none => none
theorem aCz {tb : String -> Option Builtin} {p : Program} {w : World} : ∀ {n : Nat} {s s' : SharedT} {t : Thread}, uV Thread.atExitBegin (stepT (denote tb) p w) n s t = some s' -> importEnds tb p w n s.abs t = some s'.abs
 | 0, _, _, _, h => by cases h
 | n + 1, s, s', t, h => by
  unfold uV at h
  unfold importEnds
  cases he : t.atExitBegin with
  | some l =>
   rw [he] at h
   cases l with
   | nil => cases h; rfl
   | cons => cases h
  | none =>
   rw [he] at h
   cases hs : stepT (denote tb) p w s t with
   | none => rw [hs] at h; cases h
   | some r => obtain ⟨s₂, t₂⟩ := r; rw [hs] at h; dsimp only; rw [stepT_spec hs]; exact aCz h
end PQ
namespace PQ
noncomputable abbrev stQ (p : Program) (w : World) : St1 := Fast.tw10156331382660048174 (Fast.tw11892475500146522536 Fast.tw14364793385576792824) p w
theorem aEf (p : Program) (w : World) : stQ p w = stepT (denote treeTable) p w := by
 unfold stQ
 rw [<- Fast.te10156331382660048174, <- Fast.te11892475500146522536, <- Fast.te14364793385576792824]
noncomputable def r0 (w : World) : Option SharedT := uV Fast.tw3805553451399329143 (stQ (opening P0) w) 6000 (ofS (Fast.tw1435165496053646825 (opening P0)).1) (Fast.tw1435165496053646825 (opening P0)).2
noncomputable def r1 (w : World) : Option SharedT := (r0 w).bind fun s => (Fast.tw14289696077712309145 P0 s.abs).map ofS
noncomputable def r2 (w : World) : Option (SharedT × SharedT) := (r1 w).bind fun s => (wJ (Fast.tw6613529449190102663 s.n (Fast.tw8920871248978507458 s.abs.heap mainGlobals "__annotations__")) (stQ P0 w) 6000 s (topStub P0)).map fun t => (s, t)
noncomputable def o1 (w : World) := (r2 w).map fun t => (Fast.tw4187177175401517315 q0 l0 (importedModules P0.main.body) (fun _ => true) true t.2.abs, (t.1.abs.heap.isNs mainGlobals && t.1.gens.size == 0) && (staticsOk (importedModules P0.main.body) t.1.abs.heap t.2.abs.heap && namesBound P0 t.2.abs.heap && gensDone t.2.abs && laidKept t.1.abs.heap t.2.abs.heap), aMB (wT t.2.tree t.2.n))
theorem aI0 (w : World) : o1 w = some (openGood q0 l0, true, true) := by kernel_rfl
theorem aME (w : World) : ((r2 w).map fun t => yY (wT t.2.tree t.2.n) (jO.take 30) (FTl.take 30)) = some true := by kernel_rfl
theorem aMF (w : World) : ((r2 w).map fun t => yY (wT t.2.tree t.2.n) (jO.drop 30) (FTl.drop 30)) = some true := by kernel_rfl
theorem left0 : LeftO P0 q0 l0 (fun _ => true) (fun s => chkK (Kof s.heap)) (fun _ => true) 6000 := fun w => by
 obtain ⟨⟨s, t⟩, h, e⟩ := Option.map_eq_some_iff.mp (aI0 w)
 have k1 := aME w
 have k2 := aMF w
 rw [h] at k1 k2
 obtain ⟨s', h1, h2⟩ := Option.bind_eq_some_iff.mp h
 obtain ⟨t', h3, h4⟩ := Option.map_eq_some_iff.mp h2
 obtain ⟨rfl, rfl⟩ : s' = s /\ t' = t := by simpa using h4
 obtain ⟨i, h5, h6⟩ := Option.bind_eq_some_iff.mp h1
 obtain ⟨f, h7, rfl⟩ := Option.map_eq_some_iff.mp h6
 unfold r0 at h5
 rw [aEf, <- Fast.te3805553451399329143, <- Fast.te1435165496053646825] at h5
 have h5 := aCz h5
 rw [aAq] at h5
 rw [<- Fast.te14289696077712309145] at h7
 rw [aEf, <- Fast.te6613529449190102663, <- Fast.te8920871248978507458] at h3
 have h3 := aEz h3
 rw [aAq] at h3
 simp only [Prod.mk.injEq, Bool.and_eq_true] at e
 rw [<- Fast.te4187177175401517315, aAq] at e
 obtain ⟨e1, ⟨e2, e3⟩, e4⟩ := e
 have e2' := Bool.and_eq_true_iff.mpr e2
 have e3' := Bool.and_eq_true_iff.mpr ⟨Bool.and_eq_true_iff.mpr ⟨Bool.and_eq_true_iff.mpr e3.1.1, e3.1.2⟩, e3.2⟩
 have n1 : (ofS f).n = f.heap.objs.size := Array.length_toList
 have g1 : (ofS f).gens = f.gens := rfl
 rw [n1] at h3
 rw [g1] at e2'
 have T : topFrom treeTable P0 w 6000 f = some t'.abs := by
  unfold topFrom
  rw [e2']
  dsimp only
  rw [h3, Option.bind_some, e3']
 have F : fencedOpening treeTable P0 w 6000 = some f := by
  unfold fencedOpening
  rw [h5]; exact h7
 unfold openEnds
 rw [F, Option.bind_some, T, Option.map_some]
 exact congrArg some (Prod.ext e1 (by show chkK (Kof (absHeap t'.tree t'.n t'.life)) = true; rw [aEP]; exact aMC (Option.some.inj k1) (Option.some.inj k2) e4))
end PQ
namespace PQ
theorem aHO (pm cd doc dV kV : Value) : aCR { docDef dk.1.name dk.1.params dk.1.body dk.1.scope pm cd doc with defaults := dV, kwdefaults := kV } = true := by kernel_rfl
theorem aHM (pm cd doc kV : Value) : aDX { docDef dk.1.name dk.1.params dk.1.body dk.1.scope pm cd doc with defaults := .none, kwdefaults := kV } = true := by kernel_rfl
theorem aF6 : dk.1.params.defaults = [] := by kernel_rfl
theorem aIR {mg : Str -> Option Value} {h : Heap} {dV kV : Value} (hD : Dflts mg h dk.1.params dk.2 dV kV) : dV = .none := hD.pos.elim (·.2) fun y => absurd aF6 y.1
theorem call0 : WalkO q0 l0 (fun _ _ => True) (fun _ h => YP h) L0.row.toRowW dk.1 dk.2 fun f vs => PySem.call f vs := by
 intro w s₀ s₁ mg mb G Y fa o pm cd doc dV kV ho hd' hcd hD hmg hg args vals as hpre hlay hrd hwl hlo
 obtain ⟨K, KX, hK⟩ := Y
 unfold chkK at hK
 simp only [Bool.and_eq_true] at hK
 obtain ⟨⟨⟨⟨k0, k1⟩, k2⟩, k3⟩, k4⟩ := hK
 have T := G.T
 wrow_args hpre hlay hrd hwl hlo
 rename_i ns hs hlay0 hLa hr0 hl2 as1 as2 la vs as3 hLst ra w1 r0 hI hr1 hcond hcond2
 have hl : s₁.heap.get? la = some { cls := .type "list", data := .seq vs.toArray } := by
  obtain ⟨o', ho', hc', n', hd''⟩ := hLst
  cases w1 with | list h1 h2 =>
  rw [h1] at ho'
  cases ho'
  injection hd'' with q1 q2
  rw [<- q1]; exact h1
 obtain ⟨oc, od, dt, sl⟩ := o
 dsimp only at hd'
 subst hd'
 have WW := aMi (S := ⟨L0.row.prog, w, K, q0, looseW q0 l0, mg, mb⟩) k0 k4 k2 k1 k3
 obtain rfl : dV = .none := aIR hD
 exact aHL WW k1 KX (topRead_of T) ho hcd (aHO ..) (aHM ..) hl hI (aHP ns (by omega)) fun h' tk k => GoodW.toG ⟨.inl ⟨.bool true, .bool true, [], rfl, fun _ => rfl, .bool true, by first | rfl | kernel_rfl, fun _ => ⟨List.nodup_nil, fun _ h => nomatch h⟩⟩, k, rfl, hg⟩
end PQ
set_option maxRecDepth 100000 in
set_option maxHeartbeats 8000000 in
theorem PySem.Challenge.cw_pq1095_01_holds : PySem.Challenge.rw_pq1095_01.Holds := by
 exact holds_law PQ.said0 fun said => holds_open (q := PQ.q0) (loose := PQ.l0) (Xt := fun _ => true) (XP := fun _ _ => True) (Yf := fun s => PQ.chkK (PQ.Kof s.heap)) (Ya := fun _ => true) (YP := fun _ h => PQ.YP h) (N := 6000) PQ.left0 (fun _ s e => ⟨_, PQ.Kof_in s.heap, e⟩) (fun _ _ _ ⟨K, a, b⟩ k => ⟨K, a.keeps k, b⟩) (fun _ _ => trivial) (fun _ _ _ _ _ => trivial) PQ.def0 PQ.the0 PQ.kw0 (fun _ _ => recFacts_of rfl) rfl said PQ.ok0 PQ.bare0 PQ.prom0 PQ.call0
