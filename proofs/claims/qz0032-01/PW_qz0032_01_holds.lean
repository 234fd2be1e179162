import PyProof.Rows.All
import Wide.All
import OpenK.AllK
import Wide.FinOn
import Lean
import PySem.Challenge.RW_qz0032_01
set_option Elab.async false
section
namespace Mine

inductive MV where
  | none
  | bool (b : Bool)
  | int (i : Int)
  | str (k : Nat)
  | tup (l : List MV)
  | lst (l : List MV)
  | ref (i : Nat)
  | obj (c i : Nat)
deriving Inhabited

inductive GO where
  | lst (l : List MV)
  | sd (l : List (Nat × MV))
  | nd (ep : Nat) (l : List (Int × MV))
deriving Inhabited

noncomputable abbrev GH := List GO
noncomputable abbrev Lo := List (Option MV)

inductive B2 | add | sub | mul | mod | fdiv | shr | band
deriving DecidableEq
inductive C2 | eq | ne | lt | le | gt | ge | isin | nin | is | isn
deriving DecidableEq
inductive Bl | len | abs | int | list (m : Bool) | tuple | sorted
deriving DecidableEq
inductive Lm | append | pop
deriving DecidableEq
inductive SK | vals | rng | enum | zip
deriving DecidableEq

mutual
inductive ME where
  | kN | kB (b : Bool) | kI (i : Int) | kS (k : Nat)
  | loc (i : Nat)
  | gI (k : Nat) (i : Int)
  | attr (e : ME) (k : Nat)
  | sub (e i : ME)
  | slc (e lo hi : ME)
  | rev (e : ME)
  | bin (o : B2) (a b : ME)
  | neg (a : ME)
  | no (a : ME)
  | and_ (es : List ME)
  | or_ (es : List ME)
  | truth (a : ME)
  | cmp (o : C2) (a b : ME)
  | cmp2 (o1 o2 : C2) (a b c : ME)
  | ite (c a b : ME)
  | tup (es : List ME)
  | lst (m : Bool) (es : List ME)
  | dct (ks : List Nat) (es : List ME)
  | dct0
  | comp (m : Bool) (k : Nat) (elt : ME) (gs : List MG)
  | call (f : Nat) (es : List ME)
  | new (c : Nat) (es : List ME)
  | meth (e : ME) (m : Nat) (es : List ME)
  | blt (b : Bl) (a : ME)
  | app (e a : ME)
  | pop (e : ME)
  | get (e a b : ME)
  | srtK (a e : ME) (m : Nat)
  | sup (f C : Nat) (es : List ME)
inductive MG where
  | mk (tgt : List Nat) (one : Bool) (k : SK) (srcs : List ME) (ifs : List ME)
end

inductive MS where
  | expr (e : ME)
  | asg (i : Nat) (e : ME)
  | asgT (is : List Nat) (e : ME)
  | asgW (is : List Nat) (e : ME)
  | asgA (o : ME) (k : Nat) (e : ME)
  | asgS (o i : ME) (e : ME)
  | ifS (c : ME) (a b : List MS)
  | whileS (c : ME) (b : List MS)
  | forS (tgt : List Nat) (one : Bool) (k : SK) (srcs : List ME) (b : List MS)
  | ret (e : ME)
  | cont
  | brk
  | pass

inductive Fl where
  | next | brk | cont | ret (v : MV)
deriving Inhabited

structure Ctx where
  call : Nat → List MV → GH → Option (MV × GH)
  init : Nat → Option Nat
  mth : Nat → Nat → Option Nat
  atr : Nat → Nat → Bool
  W : Nat

theorem noS {α : Type} {a : α} {P : Prop} (h : none = some a) : P := nomatch h
theorem noF {P : Prop} (h : false = true) : P := nomatch h
section
variable {P : MV → Prop} {v : MV}
noncomputable def iInt (v : MV) : Option Int := match v with | .int i => some i | _ => none
noncomputable def iStr (v : MV) : Option Nat := match v with | .str i => some i | _ => none
noncomputable def iRef (v : MV) : Option Nat := match v with | .ref i => some i | _ => none
noncomputable def iLst (v : MV) : Option (List MV) := match v with | .lst l => some l | _ => none
noncomputable def iTup (v : MV) : Option (List MV) := match v with | .tup l => some l | _ => none
noncomputable def iObj (v : MV) : Option (Nat × Nat) := match v with | .obj c i => some (c, i) | _ => none
noncomputable def isN (v : MV) : Bool := match v with | .none => true | _ => false
noncomputable def truthO (v : MV) : Option Bool := match v with | .bool b => some b | _ => none
@[simp] theorem iInt_int {i : Int} : iInt (.int i) = some i := rfl
@[simp] theorem iInt_str {i : Nat} : iInt (.str i) = none := rfl
@[simp] theorem iInt_lst {l : List MV} : iInt (.lst l) = none := rfl
@[simp] theorem iStr_str {i : Nat} : iStr (.str i) = some i := rfl
@[simp] theorem iRef_ref {i : Nat} : iRef (.ref i) = some i := rfl
@[simp] theorem iRef_lst {l : List MV} : iRef (.lst l) = none := rfl
@[simp] theorem iRef_tup {l : List MV} : iRef (.tup l) = none := rfl
@[simp] theorem iLst_lst {l : List MV} : iLst (.lst l) = some l := rfl
@[simp] theorem iTup_tup {l : List MV} : iTup (.tup l) = some l := rfl
@[simp] theorem iTup_lst {l : List MV} : iTup (.lst l) = none := rfl
@[simp] theorem iTup_ref {i : Nat} : iTup (.ref i) = none := rfl
@[simp] theorem iTup_int {i : Int} : iTup (.int i) = none := rfl
@[simp] theorem iObj_obj {c i : Nat} : iObj (.obj c i) = some (c, i) := rfl
@[simp] theorem isN_none : isN .none = true := rfl
@[simp] theorem truthO_bool {b : Bool} : truthO (.bool b) = some b := rfl
theorem iInt_k {i : Int} (h : iInt v = some i) (g : P (.int i)) : P v := by cases v <;> first | exact noS h | exact Option.some.inj h ▸ g
theorem iStr_k {i : Nat} (h : iStr v = some i) (g : P (.str i)) : P v := by cases v <;> first | exact noS h | exact Option.some.inj h ▸ g
theorem iRef_k {i : Nat} (h : iRef v = some i) (g : P (.ref i)) : P v := by cases v <;> first | exact noS h | exact Option.some.inj h ▸ g
theorem iLst_k {i : List MV} (h : iLst v = some i) (g : P (.lst i)) : P v := by cases v <;> first | exact noS h | exact Option.some.inj h ▸ g
theorem iTup_k {i : List MV} (h : iTup v = some i) (g : P (.tup i)) : P v := by cases v <;> first | exact noS h | exact Option.some.inj h ▸ g
theorem iObj_k {p : Nat × Nat} (h : iObj v = some p) (g : P (.obj p.1 p.2)) : P v := by cases v <;> first | exact noS h | (have h := Option.some.inj h; subst h; exact g)
theorem isN_k (h : isN v = true) (g : P .none) : P v := by cases v <;> first | exact noF h | exact g
theorem truthO_k {b : Bool} (h : truthO v = some b) (g : P (.bool b)) : P v := by cases v <;> first | exact noS h | exact Option.some.inj h ▸ g
end
noncomputable def goL (g : GO) : Option (List MV) := match g with | .lst l => some l | _ => none
noncomputable def goS (g : GO) : Option (List (Nat × MV)) := match g with | .sd l => some l | _ => none
noncomputable def goN (g : GO) : Option (Nat × List (Int × MV)) := match g with | .nd e l => some (e, l) | _ => none
@[simp] theorem goL_lst {l : List MV} : goL (.lst l) = some l := rfl
@[simp] theorem goS_sd {l : List (Nat × MV)} : goS (.sd l) = some l := rfl
@[simp] theorem goN_nd {e : Nat} {l : List (Int × MV)} : goN (.nd e l) = some (e, l) := rfl
@[simp] theorem goN_lst {l : List MV} : goN (.lst l) = none := rfl
section
variable {P : GO → Prop} {g : GO}
theorem goL_k {l : List MV} (h : goL g = some l) (k : P (.lst l)) : P g := by cases g <;> first | exact noS h | exact Option.some.inj h ▸ k
theorem goS_k {l : List (Nat × MV)} (h : goS g = some l) (k : P (.sd l)) : P g := by cases g <;> first | exact noS h | exact Option.some.inj h ▸ k
theorem goN_k {p : Nat × List (Int × MV)} (h : goN g = some p) (k : P (.nd p.1 p.2)) : P g := by cases g <;> first | exact noS h | (have h := Option.some.inj h; subst h; exact k)
end
noncomputable def hL (G : GH) (i : Nat) : Option (List MV) := G[i]?.bind goL
noncomputable def hS (G : GH) (i : Nat) : Option (List (Nat × MV)) := G[i]?.bind goS
noncomputable def hN (G : GH) (i : Nat) : Option (Nat × List (Int × MV)) := G[i]?.bind goN
theorem hL_of {G : GH} {i : Nat} {l : List MV} (h : G[i]? = some (.lst l)) : hL G i = some l := by unfold hL; rw [h]; rfl
theorem hS_of {G : GH} {i : Nat} {l : List (Nat × MV)} (h : G[i]? = some (.sd l)) : hS G i = some l := by unfold hS; rw [h]; rfl
theorem hN_of {G : GH} {i e : Nat} {l : List (Int × MV)} (h : G[i]? = some (.nd e l)) : hN G i = some (e, l) := by unfold hN; rw [h]; rfl
theorem hN_lst {G : GH} {i : Nat} {l : List MV} (h : G[i]? = some (.lst l)) : hN G i = none := by unfold hN; rw [h]; rfl
theorem hL_at {G : GH} {i : Nat} {l : List MV} (h : hL G i = some l) : G[i]? = some (.lst l) := (Option.bind_eq_some_iff.mp h).elim fun g q => goL_k (P := fun g => G[i]? = some g → G[i]? = some (.lst l)) q.2 id q.1
theorem hS_at {G : GH} {i : Nat} {l : List (Nat × MV)} (h : hS G i = some l) : G[i]? = some (.sd l) := (Option.bind_eq_some_iff.mp h).elim fun g q => goS_k (P := fun g => G[i]? = some g → G[i]? = some (.sd l)) q.2 id q.1
theorem hN_at {G : GH} {i : Nat} {p : Nat × List (Int × MV)} (h : hN G i = some p) : G[i]? = some (.nd p.1 p.2) := (Option.bind_eq_some_iff.mp h).elim fun g q => goN_k (P := fun g => G[i]? = some g → G[i]? = some (.nd p.1 p.2)) q.2 id q.1

noncomputable def lsO (G : GH) : MV → Option (List MV)
  | .lst l => some l
  | .ref i => hL G i
  | _ => none

noncomputable def sqO (G : GH) : MV → Option (List MV)
  | .tup l => some l
  | v => lsO G v

noncomputable def intsO : List MV → Option (List Int)
  | [] => some []
  | v :: r => (iInt v).bind fun i => (intsO r).map (i :: ·)

noncomputable def i2 {β : Type} (v w : MV) (k : Int → Int → Option β) : Option β := (iInt v).bind fun a => (iInt w).bind fun b => k a b
theorem i2_k {β : Type} {v w : MV} {k : Int → Int → Option β} {r : β} {P : MV → MV → Prop} (h : i2 v w k = some r) (g : ∀ a b, k a b = some r → P (.int a) (.int b)) : P v w :=
  (Option.bind_eq_some_iff.mp h).elim fun a q => (Option.bind_eq_some_iff.mp q.2).elim fun b q2 => iInt_k (P := fun v => P v w) q.1 (iInt_k (P := fun w => P (.int a) w) q2.1 (g a b q2.2))
noncomputable def rL {β : Type} (G : GH) (v : MV) (k : Nat → List MV → Option β) : Option β := (iRef v).bind fun i => (hL G i).bind fun l => k i l
noncomputable def rS {β : Type} (G : GH) (v : MV) (k : Nat → List (Nat × MV) → Option β) : Option β := (iRef v).bind fun i => (hS G i).bind fun l => k i l
noncomputable def rN (G : GH) (v : MV) : Option (Nat × Nat × List (Int × MV)) := (iRef v).bind fun i => (hN G i).map fun p => (i, p)
theorem rL_k {β : Type} {G : GH} {v : MV} {k : Nat → List MV → Option β} {r : β} {P : MV → Prop} (h : rL G v k = some r) (z : ∀ i l, G[i]? = some (.lst l) → k i l = some r → P (.ref i)) : P v :=
  (Option.bind_eq_some_iff.mp h).elim fun i q => (Option.bind_eq_some_iff.mp q.2).elim fun l q2 => iRef_k q.1 (z i l (hL_at q2.1) q2.2)
theorem rS_k {β : Type} {G : GH} {v : MV} {k : Nat → List (Nat × MV) → Option β} {r : β} {P : MV → Prop} (h : rS G v k = some r) (g : ∀ i l, G[i]? = some (.sd l) → k i l = some r → P (.ref i)) : P v :=
  (Option.bind_eq_some_iff.mp h).elim fun i q => (Option.bind_eq_some_iff.mp q.2).elim fun l q2 => iRef_k q.1 (g i l (hS_at q2.1) q2.2)
theorem rN_k {G : GH} {v : MV} {p : Nat × Nat × List (Int × MV)} {P : MV → Prop} (h : rN G v = some p) (g : G[p.1]? = some (.nd p.2.1 p.2.2) → P (.ref p.1)) : P v := by
  obtain ⟨i, h1, h2⟩ := Option.bind_eq_some_iff.mp h
  obtain ⟨q, h3, rfl⟩ := Option.map_eq_some_iff.mp h2
  exact iRef_k h1 (g (hN_at h3))

inductive DT where
  | none
  | bool (b : Bool)
  | int (i : Int)
  | tup (l : List DT)
  | lst (l : List DT)
deriving Inhabited

noncomputable def datsW (f : MV → Option DT) : List MV → Option (List DT)
  | [] => some []
  | v :: r => (f v).bind fun d => (datsW f r).map (d :: ·)
noncomputable def atomD (v : MV) : Option DT := match v with
  | .none => some .none
  | .bool b => some (.bool b)
  | .int i => some (.int i)
  | _ => none
noncomputable def datO (G : GH) : Nat → MV → Option DT
  | 0, v => atomD v
  | n + 1, v => match iTup v with
    | some l => (datsW (datO G n) l).map .tup
    | none => match lsO G v with
      | some l => (datsW (datO G n) l).map .lst
      | none => atomD v
noncomputable def datsO (G : GH) (n : Nat) (l : List MV) : Option (List DT) := datsW (datO G n) l

noncomputable def numD (d : DT) : Option Int := match d with
  | .bool b => some (if b then 1 else 0)
  | .int i => some i
  | _ => none
noncomputable def lstD (d : DT) : Option (List DT) := match d with | .lst l => some l | _ => none
noncomputable def tupD (d : DT) : Option (List DT) := match d with | .tup l => some l | _ => none
noncomputable def isND (d : DT) : Bool := match d with | .none => true | _ => false
noncomputable def numEq (i : Int) (d : DT) : Bool := match numD d with
  | some j => i == j
  | none => false
mutual
noncomputable def dEq : DT → DT → Bool
  | .none, e => isND e
  | .bool a, e => numEq (if a then 1 else 0) e
  | .int i, e => numEq i e
  | .lst a, e => match lstD e with
    | some b => dEqs a b
    | none => false
  | .tup a, e => match tupD e with
    | some b => dEqs a b
    | none => false
noncomputable def dEqs : List DT → List DT → Bool
  | [], b => b.isEmpty
  | x :: a, b => match b with
    | [] => false
    | y :: b => dEq x y && dEqs a b
end

noncomputable def eqO (G : GH) (a b : MV) : Option Bool := (datO G 8 a).bind fun d => (datO G 8 b).map fun e => dEq d e

noncomputable def small (a : Int) : Bool := decide (-18446744073709551616 < a ∧ a < 18446744073709551616)

noncomputable def binO (G : GH) (o : B2) (v w : MV) : Option MV := match o with
  | .add => (match iInt v with
    | some a => (iInt w).map fun b => .int (a + b)
    | none => (lsO G v).bind fun a => (lsO G w).bind fun b => if a.length + b.length < 4096 then some (.lst (a ++ b)) else none)
  | .sub => i2 v w fun a b => some (.int (a - b))
  | .mul => i2 v w fun a b => if small a && small b then some (.int (a * b)) else none
  | .mod => i2 v w fun a b => if ¬ b = 0 then some (.int (a.fmod b)) else none
  | .fdiv => i2 v w fun a b => if b ≠ 0 ∧ small a = true ∧ small b = true then some (.int (a.fdiv b)) else none
  | .shr => i2 v w fun a b => if 0 ≤ b then some (.int (a.fdiv (2 ^ b.toNat))) else none
  | .band => i2 v w fun a b => if b = 1 ∧ 0 ≤ a then some (.int (a % 2)) else none

noncomputable def isO (v : MV) : Option Bool := match v with
  | .none => some true
  | .int _ => some false
  | .lst _ => some false
  | _ => none
noncomputable def cmpO (G : GH) (o : C2) (v w : MV) : Option Bool := match o with
  | .eq => eqO G v w
  | .ne => (eqO G v w).map (!·)
  | .lt => i2 v w fun a b => some (decide (a < b))
  | .le => i2 v w fun a b => some (decide (a ≤ b))
  | .gt => i2 v w fun a b => some (decide (a > b))
  | .ge => i2 v w fun a b => some (decide (a ≥ b))
  | .isin => (iInt v).bind fun a => ((sqO G w).bind intsO).map (fun l => l.contains a)
  | .nin => (iInt v).bind fun a => ((sqO G w).bind intsO).map (fun l => !l.contains a)
  | .is => if isN w then isO v else none
  | .isn => if isN w then (isO v).map (!·) else none

noncomputable def subO (G : GH) (v w : MV) : Option MV := match iInt w with
  | some a => (match rN G v with
    | some p => p.2.2.lookup a
    | none => (lsO G v).bind fun l => if 0 ≤ a then l[a.toNat]? else none)
  | none => (iStr w).bind fun k => rS G v fun _ l => l.lookup k

noncomputable def setL {κ : Type} [DecidableEq κ] (l : List (κ × MV)) (k : κ) (v : MV) : List (κ × MV) :=
  match l with
  | [] => [(k, v)]
  | (a, x) :: r => if a = k then (a, v) :: r else (a, x) :: setL r k v

noncomputable def subSet (G : GH) (v w x : MV) : Option GH := match iInt w with
  | some a => (match rN G v with
    | some p => if p.2.2.length < 4096 then some (G.set p.1 (.nd (if (p.2.2.lookup a).isSome then p.2.1 else p.2.1 + 1) (setL p.2.2 a x))) else none
    | none => rL G v fun i l => if 0 ≤ a ∧ a < l.length then some (G.set i (.lst (l.set a.toNat x))) else none)
  | none => (iStr w).bind fun k => rS G v fun i l => if l.length < 4096 then some (G.set i (.sd (setL l k x))) else none

noncomputable def boundO (n : Nat) (v : MV) : Option Nat := match iInt v with
  | some a => if 0 ≤ a then some a.toNat else none
  | none => if isN v then some n else none

noncomputable def slcO (G : GH) (v lo hi : MV) : Option MV := (lsO G v).bind fun l => (boundO 0 lo).bind fun a => (boundO l.length hi).map fun b => .lst ((l.take b).drop a)

noncomputable def revO (G : GH) (v : MV) : Option MV := (lsO G v).map fun l => .lst l.reverse

noncomputable def negO (v : MV) : Option MV := (iInt v).map fun a => .int (-a)

noncomputable def aGet (X : Ctx) (G : GH) (k : Nat) (v : MV) : Option MV := (iObj v).bind fun p => if X.atr p.1 k = true then (hS G p.2).bind fun l => l.lookup k else none

noncomputable def aSet (X : Ctx) (G : GH) (k : Nat) (x : MV) (v : MV) : Option GH := (iObj v).bind fun p => if X.atr p.1 k = true then (hS G p.2).bind fun l => if l.length < 4096 then some (G.set p.2 (.sd (setL l k x))) else none else none

noncomputable def mkL (m : Bool) (l : List MV) (G : GH) : MV × GH := if m then (.ref G.length, G ++ [.lst l]) else (.lst l, G)

noncomputable def bltO (G : GH) (b : Bl) (v : MV) : Option (MV × GH) := match b with
  | .len => (lsO G v).map fun l => (.int l.length, G)
  | .abs => (iInt v).map fun a => (.int a.natAbs, G)
  | .int => (iInt v).map fun a => (.int a, G)
  | .list m => (sqO G v).bind fun l => if l.length < 4096 then some (mkL m l G) else none
  | .tuple => (lsO G v).bind fun l => if l.length < 4096 then some (.tup l, G) else none
  | .sorted => ((lsO G v).bind intsO).bind fun l => if l.length < 64 then some (.lst ((l.mergeSort (· ≤ ·)).map .int), G) else none

noncomputable def appO (G : GH) (v x : MV) : Option GH := rL G v fun i l => if l.length < 4096 then some (G.set i (.lst (l ++ [x]))) else none

noncomputable def popO (G : GH) (v : MV) : Option (MV × GH) := rL G v fun i l => l.getLast?.map fun x => (x, G.set i (.lst l.dropLast))

noncomputable def getO (G : GH) (v k d : MV) : Option MV := (iInt k).bind fun a => (rN G v).map fun p => (p.2.2.lookup a).getD d

noncomputable def isNd (G : GH) (v : MV) : Bool := (rN G v).isSome

inductive Gd where
  | no
  | lst (id n : Nat)
  | dct (id ep : Nat) (ks : List Int)
deriving Inhabited

inductive Itm where
  | val (v : MV)
  | at (k : Nat)
deriving Inhabited

noncomputable def gdOk (G : GH) (g : Gd) : Bool := match g with
  | .no => true
  | .lst id n => (match hL G id with | some l => decide (l.length = n) | none => false)
  | .dct id ep ks => (match hN G id with | some p => decide (p.1 = ep ∧ p.2.map (·.1) = ks) | none => false)

noncomputable def fetch (G : GH) (gd : Gd) (x : Itm) : Option MV := match x with
  | .val v => some v
  | .at k => match gd with
    | .lst id _ => (hL G id).bind fun l => l[k]?
    | .no => none
    | .dct _ _ _ => none

noncomputable def rangeO (a b c : Int) : List Itm :=
  if 0 < c then (List.range (((b - a + c - 1).fdiv c).toNat)).map fun (k : Nat) => .val (.int (a + c * (k : Int)))
  else []

noncomputable def zipT : List MV → List MV → List Itm
  | [], _ => []
  | a :: r, l => match l with
    | [] => []
    | b :: t => .val (.tup [a, b]) :: zipT r t

noncomputable def enumT (n : Nat) : List MV → List Itm
  | [] => []
  | a :: r => .val (.tup [.int n, a]) :: enumT (n + 1) r

noncomputable def l1 {β : Type} (vs : List MV) (k : MV → Option β) : Option β := match vs with
  | [] => none
  | v :: r => if r.isEmpty then k v else none
noncomputable def l2 {β : Type} (vs : List MV) (k : MV → MV → Option β) : Option β := match vs with
  | [] => none
  | v :: r => l1 r fun w => k v w
theorem l1_k {β : Type} {vs : List MV} {k : MV → Option β} {r : β} {P : List MV → Prop} (h : l1 vs k = some r) (g : ∀ v, k v = some r → P [v]) : P vs := match vs, h with
  | v :: [], h => g v h
theorem l2_k {β : Type} {vs : List MV} {k : MV → MV → Option β} {r : β} {P : List MV → Prop} (h : l2 vs k = some r) (g : ∀ v w, k v w = some r → P [v, w]) : P vs := match vs, h with
  | v :: [w], h => g v w h

noncomputable def valsO (G : GH) (v : MV) : Option (Gd × List Itm) := match iRef v with
  | none => (sqO G v).map fun l => (.no, l.map .val)
  | some i => match hN G i with
    | some p => some (.dct i p.1 (p.2.map (·.1)), p.2.map fun q => .val (.int q.1))
    | none => (hL G i).map fun l => (.lst i l.length, (List.range l.length).map .at)
noncomputable def rng1 (v : MV) : Option (Gd × List Itm) := (iInt v).bind fun b => if 0 ≤ b ∧ b < 4096 then some (.no, rangeO 0 b 1) else none
noncomputable def rng2 (v w : MV) : Option (Gd × List Itm) := i2 v w fun a b => if 0 ≤ a ∧ a < 4096 ∧ 0 ≤ b ∧ b < 4096 then some (.no, rangeO a b 1) else none
noncomputable def srcO (G : GH) (k : SK) (vs : List MV) : Option (Gd × List Itm) := match k with
  | .vals => l1 vs fun v => valsO G v
  | .rng => if vs.length = 1 then l1 vs rng1 else l2 vs rng2
  | .enum => l1 vs fun v => (iLst v).map fun l => (.no, enumT 0 l)
  | .zip => l2 vs fun v w => (iLst v).bind fun a => (iLst w).map fun b => (.no, zipT a b)

noncomputable def set1 (ρ : Lo) (i : Nat) (v : MV) : Option Lo := if i < ρ.length then some (ρ.set i (some v)) else none

noncomputable def setAll : Lo → List Nat → List MV → Option Lo
  | ρ, [], vs => if vs.isEmpty then some ρ else none
  | ρ, i :: r, vs => match vs with
    | [] => none
    | v :: t => (set1 ρ i v).bind fun ρ' => setAll ρ' r t

noncomputable def asgO (one : Bool) (tgt : List Nat) (v : MV) (ρ : Lo) : Option Lo := match one with
  | true => (match tgt with
    | [] => none
    | i :: r => if r.isEmpty then set1 ρ i v else none)
  | false => (iTup v).bind fun l => setAll ρ tgt l

noncomputable def loopC (gd : Gd) (step : MV → GH → List MV → Option (List MV × GH)) : List Itm → GH → List MV → Option (List MV × GH)
  | [], G, acc => if gdOk G gd = true then some (acc, G) else none
  | x :: r, G, acc => if gdOk G gd = true then (fetch G gd x).bind fun v => (step v G acc).bind fun p => loopC gd step r p.2 p.1 else none

noncomputable def flO (o : Fl × Lo × GH) (k : Lo → GH → Option (Fl × Lo × GH)) : Option (Fl × Lo × GH) := match o.1 with
  | .next => k o.2.1 o.2.2
  | .cont => k o.2.1 o.2.2
  | .brk => some (.next, o.2)
  | .ret _ => some o

noncomputable def loopS (gd : Gd) (step : MV → Lo → GH → Option (Fl × Lo × GH)) : List Itm → Lo → GH → Option (Fl × Lo × GH)
  | [], ρ, G => if gdOk G gd = true then some (.next, ρ, G) else none
  | x :: r, ρ, G => if gdOk G gd = true then (fetch G gd x).bind fun v => (step v ρ G).bind fun o => flO o fun ρ' G' => loopS gd step r ρ' G' else none

noncomputable def onB {β : Type} (o : Option (MV × GH)) (t f : GH → Option β) : Option β := o.bind fun p => (truthO p.1).bind fun b => match b with
  | true => t p.2
  | false => f p.2
theorem onB_t {β : Type} {o : Option (MV × GH)} {t f : GH → Option β} {G : GH} (h : o = some (.bool true, G)) : onB o t f = t G := by rw [h]; rfl
theorem onB_f {β : Type} {o : Option (MV × GH)} {t f : GH → Option β} {G : GH} (h : o = some (.bool false, G)) : onB o t f = f G := by rw [h]; rfl

noncomputable def loopW (test : Lo → GH → Option (MV × GH)) (step : Lo → GH → Option (Fl × Lo × GH)) : Nat → Lo → GH → Option (Fl × Lo × GH)
  | 0, _, _ => none
  | n + 1, ρ, G => onB (test ρ G) (fun G1 => (step ρ G1).bind fun o => flO o fun ρ' G' => loopW test step n ρ' G') fun G1 => some (.next, ρ, G1)

noncomputable def keysO (f : MV → GH → Option (MV × GH)) : List MV → GH → Option (List Int × GH)
  | [], G => some ([], G)
  | v :: r, G => (f v G).bind fun p => (iInt p.1).bind fun k => (keysO f r p.2).map fun q => (k :: q.1, q.2)

noncomputable def mthO (X : Ctx) (G : GH) (m c i : Nat) : Option Nat := (X.mth c m).bind fun f => (hS G i).bind fun l => if l.lookup m = none then some f else none

mutual
noncomputable def mE (X : Ctx) : ME → Lo → GH → Option (MV × GH)
  | .kN, _, G => some (.none, G)
  | .kB b, _, G => some (.bool b, G)
  | .kI i, _, G => some (.int i, G)
  | .kS k, _, G => some (.str k, G)
  | .loc i, ρ, G => ρ[i]?.bind fun v => v.map (·, G)
  | .gI _ i, _, G => some (.int i, G)
  | .attr e k, ρ, G => (mE X e ρ G).bind fun p => (aGet X p.2 k p.1).map (·, p.2)
  | .sub e i, ρ, G => (mE X e ρ G).bind fun p => (mE X i ρ p.2).bind fun q => (subO q.2 p.1 q.1).map (·, q.2)
  | .slc e lo hi, ρ, G => (mE X e ρ G).bind fun p => (mE X lo ρ p.2).bind fun q => (mE X hi ρ q.2).bind fun r => (slcO r.2 p.1 q.1 r.1).map (·, r.2)
  | .rev e, ρ, G => (mE X e ρ G).bind fun p => (revO p.2 p.1).map (·, p.2)
  | .bin o a b, ρ, G => (mE X a ρ G).bind fun p => (mE X b ρ p.2).bind fun q => (binO q.2 o p.1 q.1).map (·, q.2)
  | .neg a, ρ, G => (mE X a ρ G).bind fun p => (negO p.1).map (·, p.2)
  | .no a, ρ, G => (mE X a ρ G).bind fun p => (truthO p.1).map fun b => (.bool (!b), p.2)
  | .and_ es, ρ, G => mAnd X es ρ G
  | .or_ es, ρ, G => mOr X es ρ G
  | .truth a, ρ, G => (mE X a ρ G).bind fun p => (truthO p.1).map fun b => (.bool b, p.2)
  | .cmp o a b, ρ, G => (mE X a ρ G).bind fun p => (mE X b ρ p.2).bind fun q => (cmpO q.2 o p.1 q.1).map fun b => (.bool b, q.2)
  | .cmp2 o1 o2 a b c, ρ, G => (mE X a ρ G).bind fun p => (mE X b ρ p.2).bind fun q => onB ((cmpO q.2 o1 p.1 q.1).map fun b => (MV.bool b, q.2))
      (fun G2 => (mE X c ρ G2).bind fun r => (cmpO r.2 o2 q.1 r.1).map fun b => (.bool b, r.2)) fun G2 => some (.bool false, G2)
  | .ite c a b, ρ, G => onB (mE X c ρ G) (fun G1 => mE X a ρ G1) fun G1 => mE X b ρ G1
  | .tup es, ρ, G => (mEs X es ρ G).map fun p => (.tup p.1, p.2)
  | .lst m es, ρ, G => (mEs X es ρ G).map fun p => mkL m p.1 p.2
  | .dct ks es, ρ, G => (mEs X es ρ G).bind fun p => if ks.length = p.1.length then some (.ref p.2.length, p.2 ++ [.sd (ks.zip p.1)]) else none
  | .dct0, _, G => some (.ref G.length, G ++ [.nd 0 []])
  | .comp m k elt gs, ρ, G => (mC X gs (fun ρ' G' => mE X elt ρ' G') (ρ ++ List.replicate k none) G []).bind fun p => if p.1.length < 4096 then some (mkL m p.1 p.2) else none
  | .call f es, ρ, G => (mEs X es ρ G).bind fun p => X.call f p.1 p.2
  | .new c es, ρ, G => (mEs X es ρ G).bind fun p => (X.init c).bind fun f => (X.call f (.obj c p.2.length :: p.1) (p.2 ++ [.sd []])).bind fun q => if isN q.1 = true then some (.obj c p.2.length, q.2) else none
  | .meth e m es, ρ, G => (mE X e ρ G).bind fun p => (iObj p.1).bind fun o => (mthO X p.2 m o.1 o.2).bind fun f => (mEs X es ρ p.2).bind fun q => X.call f (.obj o.1 o.2 :: q.1) q.2
  | .blt b a, ρ, G => (mE X a ρ G).bind fun p => bltO p.2 b p.1
  | .app e a, ρ, G => (mE X e ρ G).bind fun p => if (lsO p.2 p.1).isSome = true then (mE X a ρ p.2).bind fun q => (appO q.2 p.1 q.1).map fun G3 => (.none, G3) else none
  | .pop e, ρ, G => (mE X e ρ G).bind fun p => popO p.2 p.1
  | .get e a b, ρ, G => (mE X e ρ G).bind fun p => if isNd p.2 p.1 = true then (mE X a ρ p.2).bind fun q => (mE X b ρ q.2).bind fun r => (getO r.2 p.1 q.1 r.1).map (·, r.2) else none
  | .srtK a e m, ρ, G => (mE X a ρ G).bind fun p => (mE X e ρ p.2).bind fun q => (iObj q.1).bind fun o => (mthO X q.2 m o.1 o.2).bind fun f => ((lsO q.2 p.1).bind intsO).bind fun xs =>
      if xs.length < 64 then (keysO (fun v G => X.call f [.obj o.1 o.2, v] G) (xs.map .int) q.2).bind fun r => if r.1.Nodup then some (.lst (((r.1.zip xs).mergeSort (fun p q => decide (q.1 ≤ p.1))).map fun p => .int p.2), r.2) else none else none
  | .sup f C es, ρ, G => (mEs X es ρ G).bind fun p => ρ[0]?.bind fun v => v.bind fun v => (iObj v).bind fun o => if o.1 = C then X.call f (.obj o.1 o.2 :: p.1) p.2 else none
noncomputable def mEs (X : Ctx) : List ME → Lo → GH → Option (List MV × GH)
  | [], _, G => some ([], G)
  | e :: r, ρ, G => (mE X e ρ G).bind fun p => (mEs X r ρ p.2).map fun q => (p.1 :: q.1, q.2)
noncomputable def mAnd (X : Ctx) : List ME → Lo → GH → Option (MV × GH)
  | [], _, G => some (.bool true, G)
  | e :: r, ρ, G => onB (mE X e ρ G) (fun G1 => mAnd X r ρ G1) fun G1 => some (.bool false, G1)
noncomputable def mOr (X : Ctx) : List ME → Lo → GH → Option (MV × GH)
  | [], _, G => some (.bool false, G)
  | e :: r, ρ, G => onB (mE X e ρ G) (fun G1 => some (.bool true, G1)) fun G1 => mOr X r ρ G1
noncomputable def mC (X : Ctx) : List MG → (Lo → GH → Option (MV × GH)) → Lo → GH → List MV → Option (List MV × GH)
  | [], emit, ρ, G, acc => (emit ρ G).bind fun p => if acc.length < 4096 then some (acc ++ [p.1], p.2) else none
  | .mk tgt one k srcs ifs :: gs, emit, ρ, G, acc => (mEs X srcs ρ G).bind fun p => (srcO p.2 k p.1).bind fun t => loopC t.1 (fun v G acc => (asgO one tgt v ρ).bind fun ρ' =>
      onB (mAnd X ifs ρ' G) (fun G2 => mC X gs emit ρ' G2 acc) fun G2 => some (acc, G2)) t.2 p.2 acc
end

mutual
noncomputable def mS (X : Ctx) : MS → Lo → GH → Option (Fl × Lo × GH)
  | .expr e, ρ, G => (mE X e ρ G).map fun p => (.next, ρ, p.2)
  | .asg i e, ρ, G => (mE X e ρ G).bind fun p => (set1 ρ i p.1).map fun ρ' => (.next, ρ', p.2)
  | .asgT is e, ρ, G => (mE X e ρ G).bind fun p => (iTup p.1).bind fun l => (setAll ρ is l).map fun ρ' => (.next, ρ', p.2)
  | .asgW is e, ρ, G => (mE X e ρ G).bind fun p => (iTup p.1).bind fun l => if is.length = l.length then (setAll ρ is.reverse l.reverse).map fun ρ' => (.next, ρ', p.2) else none
  | .asgA o k e, ρ, G => (mE X e ρ G).bind fun p => (mE X o ρ p.2).bind fun q => (aSet X q.2 k p.1 q.1).map fun G3 => (.next, ρ, G3)
  | .asgS o i e, ρ, G => (mE X e ρ G).bind fun p => (mE X o ρ p.2).bind fun q => (mE X i ρ q.2).bind fun r => (subSet r.2 q.1 r.1 p.1).map fun G4 => (.next, ρ, G4)
  | .ifS c a b, ρ, G => onB (mE X c ρ G) (fun G1 => mSs X a ρ G1) fun G1 => mSs X b ρ G1
  | .whileS c b, ρ, G => loopW (fun ρ G => mE X c ρ G) (fun ρ G => mSs X b ρ G) X.W ρ G
  | .forS tgt one k srcs b, ρ, G => (mEs X srcs ρ G).bind fun p => (srcO p.2 k p.1).bind fun t => loopS t.1 (fun v ρ G => (asgO one tgt v ρ).bind fun ρ' => mSs X b ρ' G) t.2 ρ p.2
  | .ret e, ρ, G => (mE X e ρ G).map fun p => (.ret p.1, ρ, p.2)
  | .cont, ρ, G => some (.cont, ρ, G)
  | .brk, ρ, G => some (.brk, ρ, G)
  | .pass, ρ, G => some (.next, ρ, G)
noncomputable def mSs (X : Ctx) : List MS → Lo → GH → Option (Fl × Lo × GH)
  | [], ρ, G => some (.next, ρ, G)
  | x :: r, ρ, G => (mS X x ρ G).bind fun o => match o.1 with
    | .next => mSs X r o.2.1 o.2.2
    | .brk => some o
    | .cont => some o
    | .ret _ => some o
end

structure MFun where
  n : Nat
  k : Nat
  dfl : List MV
  body : List MS
deriving Inhabited

noncomputable def bindO (f : MFun) (args : List MV) : Option Lo :=
  if args.length + f.dfl.length = f.n then some ((args ++ f.dfl).map some ++ List.replicate f.k none) else none

structure Prog where
  fn : Nat → Option MFun
  init : Nat → Option Nat
  mth : Nat → Nat → Option Nat
  atr : Nat → Nat → Bool

noncomputable def ctx (P : Prog) (W : Nat) (call : Nat → List MV → GH → Option (MV × GH)) : Ctx :=
  { call := call, init := P.init, mth := P.mth, atr := P.atr, W := W }

noncomputable def outF (o : Fl × Lo × GH) : Option (MV × GH) := match o.1 with
  | .ret v => some (v, o.2.2)
  | .next => some (.none, o.2.2)
  | .brk => none
  | .cont => none
noncomputable def outO (o : Option (Fl × Lo × GH)) : Option (MV × GH) := o.bind outF

noncomputable def mcall (P : Prog) (W : Nat) : Nat → Nat → List MV → GH → Option (MV × GH)
  | 0, _, _, _ => none
  | d + 1, f, args, G => (P.fn f).bind fun mf => (bindO mf args).bind fun ρ => outO (mSs (ctx P W (mcall P W d)) mf.body ρ G)

end Mine
end
section
namespace Mine
open PySem

noncomputable abbrev Sp := List (Str × NameKind)
noncomputable abbrev Nm := List (Option Str)

structure Sta where
  tab : List Str
  globs : List (Str × Nat)
  gints : List (Str × Int)
  blts : List Str
  sups : List Nat
  skey : Bool

noncomputable def locK (sc : Sp) (x : Str) : Bool := sc.lookup x == some .local || sc.lookup x == some .cell || sc.lookup x == some .free
noncomputable def gloK (sc : Sp) (x : Str) : Bool := sc.lookup x == some .globalImplicit && !(x == ("__debug__" : Str))
noncomputable def bltK (S : Sta) (sc : Sp) (x : Str) : Bool := gloK sc x && S.blts.contains x
theorem dq {c : Prop} [d : Decidable c] {k : c → Bool} (h : (if q : c then k q else false) = true) : ∃ q : c, k q = true :=
  match d, h with
  | .isTrue q, h => ⟨q, h⟩
noncomputable def qECon (x : PySem.Expr) (k : Const → Nat → Pos → Bool) : Bool := if q : x.ctorIdx = 19 then PySem.Expr.Constant.elim x q k else false
theorem kECon {x : PySem.Expr} {k : Const → Nat → Pos → Bool} {P : PySem.Expr → Prop} (h : qECon x k = true) (g : ∀ a b c, k a b c = true → P (.Constant a b c)) : P x :=
  (dq h).elim fun q h => PySem.Expr.Constant.elim (motive_1 := fun x => ∀ q : x.ctorIdx = 19, (PySem.Expr.Constant.elim x q k : Bool) = true → (∀ a b c, k a b c = true → P (.Constant a b c)) → P x) x q (fun _ _ _ _ h g => g _ _ _ h) q h g
noncomputable def qENam (x : PySem.Expr) (k : Str → Pos → Bool) : Bool := if q : x.ctorIdx = 23 then PySem.Expr.Name.elim x q k else false
theorem kENam {x : PySem.Expr} {k : Str → Pos → Bool} {P : PySem.Expr → Prop} (h : qENam x k = true) (g : ∀ a b, k a b = true → P (.Name a b)) : P x :=
  (dq h).elim fun q h => PySem.Expr.Name.elim (motive_1 := fun x => ∀ q : x.ctorIdx = 23, (PySem.Expr.Name.elim x q k : Bool) = true → (∀ a b, k a b = true → P (.Name a b)) → P x) x q (fun _ _ _ h g => g _ _ h) q h g
noncomputable def qEAtt (x : PySem.Expr) (k : Expr → Str → Pos → Bool) : Bool := if q : x.ctorIdx = 20 then PySem.Expr.Attribute.elim x q k else false
theorem kEAtt {x : PySem.Expr} {k : Expr → Str → Pos → Bool} {P : PySem.Expr → Prop} (h : qEAtt x k = true) (g : ∀ a b c, k a b c = true → P (.Attribute a b c)) : P x :=
  (dq h).elim fun q h => PySem.Expr.Attribute.elim (motive_1 := fun x => ∀ q : x.ctorIdx = 20, (PySem.Expr.Attribute.elim x q k : Bool) = true → (∀ a b c, k a b c = true → P (.Attribute a b c)) → P x) x q (fun _ _ _ _ h g => g _ _ _ h) q h g
noncomputable def qESub (x : PySem.Expr) (k : Expr → Expr → Pos → Bool) : Bool := if q : x.ctorIdx = 21 then PySem.Expr.Subscript.elim x q k else false
theorem kESub {x : PySem.Expr} {k : Expr → Expr → Pos → Bool} {P : PySem.Expr → Prop} (h : qESub x k = true) (g : ∀ a b c, k a b c = true → P (.Subscript a b c)) : P x :=
  (dq h).elim fun q h => PySem.Expr.Subscript.elim (motive_1 := fun x => ∀ q : x.ctorIdx = 21, (PySem.Expr.Subscript.elim x q k : Bool) = true → (∀ a b c, k a b c = true → P (.Subscript a b c)) → P x) x q (fun _ _ _ _ h g => g _ _ _ h) q h g
noncomputable def qESlc (x : PySem.Expr) (k : Option Expr → Option Expr → Option Expr → Pos → Bool) : Bool := if q : x.ctorIdx = 26 then PySem.Expr.Slice.elim x q k else false
theorem kESlc {x : PySem.Expr} {k : Option Expr → Option Expr → Option Expr → Pos → Bool} {P : PySem.Expr → Prop} (h : qESlc x k = true) (g : ∀ a b c d, k a b c d = true → P (.Slice a b c d)) : P x :=
  (dq h).elim fun q h => PySem.Expr.Slice.elim (motive_1 := fun x => ∀ q : x.ctorIdx = 26, (PySem.Expr.Slice.elim x q k : Bool) = true → (∀ a b c d, k a b c d = true → P (.Slice a b c d)) → P x) x q (fun _ _ _ _ _ h g => g _ _ _ _ h) q h g
noncomputable def qEUna (x : PySem.Expr) (k : UnaryOp → Expr → Pos → Bool) : Bool := if q : x.ctorIdx = 3 then PySem.Expr.UnaryOp.elim x q k else false
theorem kEUna {x : PySem.Expr} {k : UnaryOp → Expr → Pos → Bool} {P : PySem.Expr → Prop} (h : qEUna x k = true) (g : ∀ a b c, k a b c = true → P (.UnaryOp a b c)) : P x :=
  (dq h).elim fun q h => PySem.Expr.UnaryOp.elim (motive_1 := fun x => ∀ q : x.ctorIdx = 3, (PySem.Expr.UnaryOp.elim x q k : Bool) = true → (∀ a b c, k a b c = true → P (.UnaryOp a b c)) → P x) x q (fun _ _ _ _ h g => g _ _ _ h) q h g
noncomputable def qEBin (x : PySem.Expr) (k : Expr → Operator → Expr → Pos → Bool) : Bool := if q : x.ctorIdx = 2 then PySem.Expr.BinOp.elim x q k else false
theorem kEBin {x : PySem.Expr} {k : Expr → Operator → Expr → Pos → Bool} {P : PySem.Expr → Prop} (h : qEBin x k = true) (g : ∀ a b c d, k a b c d = true → P (.BinOp a b c d)) : P x :=
  (dq h).elim fun q h => PySem.Expr.BinOp.elim (motive_1 := fun x => ∀ q : x.ctorIdx = 2, (PySem.Expr.BinOp.elim x q k : Bool) = true → (∀ a b c d, k a b c d = true → P (.BinOp a b c d)) → P x) x q (fun _ _ _ _ _ h g => g _ _ _ _ h) q h g
noncomputable def qECmp (x : PySem.Expr) (k : Expr → List CmpOp → List Expr → Pos → Bool) : Bool := if q : x.ctorIdx = 15 then PySem.Expr.Compare.elim x q k else false
theorem kECmp {x : PySem.Expr} {k : Expr → List CmpOp → List Expr → Pos → Bool} {P : PySem.Expr → Prop} (h : qECmp x k = true) (g : ∀ a b c d, k a b c d = true → P (.Compare a b c d)) : P x :=
  (dq h).elim fun q h => PySem.Expr.Compare.elim (motive_1 := fun x => ∀ q : x.ctorIdx = 15, (PySem.Expr.Compare.elim x q k : Bool) = true → (∀ a b c d, k a b c d = true → P (.Compare a b c d)) → P x) x q (fun _ _ _ _ _ h g => g _ _ _ _ h) q h g
noncomputable def qEIte (x : PySem.Expr) (k : Expr → Expr → Expr → Pos → Bool) : Bool := if q : x.ctorIdx = 5 then PySem.Expr.IfExp.elim x q k else false
theorem kEIte {x : PySem.Expr} {k : Expr → Expr → Expr → Pos → Bool} {P : PySem.Expr → Prop} (h : qEIte x k = true) (g : ∀ a b c d, k a b c d = true → P (.IfExp a b c d)) : P x :=
  (dq h).elim fun q h => PySem.Expr.IfExp.elim (motive_1 := fun x => ∀ q : x.ctorIdx = 5, (PySem.Expr.IfExp.elim x q k : Bool) = true → (∀ a b c d, k a b c d = true → P (.IfExp a b c d)) → P x) x q (fun _ _ _ _ _ h g => g _ _ _ _ h) q h g
noncomputable def qETup (x : PySem.Expr) (k : List Expr → Nat → Pos → Bool) : Bool := if q : x.ctorIdx = 25 then PySem.Expr.Tuple.elim x q k else false
theorem kETup {x : PySem.Expr} {k : List Expr → Nat → Pos → Bool} {P : PySem.Expr → Prop} (h : qETup x k = true) (g : ∀ a b c, k a b c = true → P (.Tuple a b c)) : P x :=
  (dq h).elim fun q h => PySem.Expr.Tuple.elim (motive_1 := fun x => ∀ q : x.ctorIdx = 25, (PySem.Expr.Tuple.elim x q k : Bool) = true → (∀ a b c, k a b c = true → P (.Tuple a b c)) → P x) x q (fun _ _ _ _ h g => g _ _ _ h) q h g
noncomputable def qELst (x : PySem.Expr) (k : List Expr → Pos → Bool) : Bool := if q : x.ctorIdx = 24 then PySem.Expr.List.elim x q k else false
theorem kELst {x : PySem.Expr} {k : List Expr → Pos → Bool} {P : PySem.Expr → Prop} (h : qELst x k = true) (g : ∀ a b, k a b = true → P (.List a b)) : P x :=
  (dq h).elim fun q h => PySem.Expr.List.elim (motive_1 := fun x => ∀ q : x.ctorIdx = 24, (PySem.Expr.List.elim x q k : Bool) = true → (∀ a b, k a b = true → P (.List a b)) → P x) x q (fun _ _ _ h g => g _ _ h) q h g
noncomputable def qEDic (x : PySem.Expr) (k : List (Option Expr) → List Expr → Pos → Bool) : Bool := if q : x.ctorIdx = 6 then PySem.Expr.Dict.elim x q k else false
theorem kEDic {x : PySem.Expr} {k : List (Option Expr) → List Expr → Pos → Bool} {P : PySem.Expr → Prop} (h : qEDic x k = true) (g : ∀ a b c, k a b c = true → P (.Dict a b c)) : P x :=
  (dq h).elim fun q h => PySem.Expr.Dict.elim (motive_1 := fun x => ∀ q : x.ctorIdx = 6, (PySem.Expr.Dict.elim x q k : Bool) = true → (∀ a b c, k a b c = true → P (.Dict a b c)) → P x) x q (fun _ _ _ _ h g => g _ _ _ h) q h g
noncomputable def qELcm (x : PySem.Expr) (k : Expr → List Comprehension → Scope → Pos → Bool) : Bool := if q : x.ctorIdx = 8 then PySem.Expr.ListComp.elim x q k else false
theorem kELcm {x : PySem.Expr} {k : Expr → List Comprehension → Scope → Pos → Bool} {P : PySem.Expr → Prop} (h : qELcm x k = true) (g : ∀ a b c d, k a b c d = true → P (.ListComp a b c d)) : P x :=
  (dq h).elim fun q h => PySem.Expr.ListComp.elim (motive_1 := fun x => ∀ q : x.ctorIdx = 8, (PySem.Expr.ListComp.elim x q k : Bool) = true → (∀ a b c d, k a b c d = true → P (.ListComp a b c d)) → P x) x q (fun _ _ _ _ _ h g => g _ _ _ _ h) q h g
noncomputable def qECal (x : PySem.Expr) (k : Expr → List Expr → List Keyword → Pos → Bool) : Bool := if q : x.ctorIdx = 16 then PySem.Expr.Call.elim x q k else false
theorem kECal {x : PySem.Expr} {k : Expr → List Expr → List Keyword → Pos → Bool} {P : PySem.Expr → Prop} (h : qECal x k = true) (g : ∀ a b c d, k a b c d = true → P (.Call a b c d)) : P x :=
  (dq h).elim fun q h => PySem.Expr.Call.elim (motive_1 := fun x => ∀ q : x.ctorIdx = 16, (PySem.Expr.Call.elim x q k : Bool) = true → (∀ a b c d, k a b c d = true → P (.Call a b c d)) → P x) x q (fun _ _ _ _ _ h g => g _ _ _ _ h) q h g
noncomputable def qEBoo (x : PySem.Expr) (k : BoolOp → List Expr → Pos → Bool) : Bool := if q : x.ctorIdx = 0 then PySem.Expr.BoolOp.elim x q k else false
theorem kEBoo {x : PySem.Expr} {k : BoolOp → List Expr → Pos → Bool} {P : PySem.Expr → Prop} (h : qEBoo x k = true) (g : ∀ a b c, k a b c = true → P (.BoolOp a b c)) : P x :=
  (dq h).elim fun q h => PySem.Expr.BoolOp.elim (motive_1 := fun x => ∀ q : x.ctorIdx = 0, (PySem.Expr.BoolOp.elim x q k : Bool) = true → (∀ a b c, k a b c = true → P (.BoolOp a b c)) → P x) x q (fun _ _ _ _ h g => g _ _ _ h) q h g
noncomputable def qSRet (x : PySem.Stmt) (k : Option Expr → Pos → Bool) : Bool := if q : x.ctorIdx = 3 then PySem.Stmt.Return.elim x q k else false
theorem kSRet {x : PySem.Stmt} {k : Option Expr → Pos → Bool} {P : PySem.Stmt → Prop} (h : qSRet x k = true) (g : ∀ a b, k a b = true → P (.Return a b)) : P x :=
  (dq h).elim fun q h => PySem.Stmt.Return.elim (motive_2 := fun x => ∀ q : x.ctorIdx = 3, (PySem.Stmt.Return.elim x q k : Bool) = true → (∀ a b, k a b = true → P (.Return a b)) → P x) x q (fun _ _ _ h g => g _ _ h) q h g
noncomputable def qSAsg (x : PySem.Stmt) (k : List Expr → Expr → Pos → Bool) : Bool := if q : x.ctorIdx = 5 then PySem.Stmt.Assign.elim x q k else false
theorem kSAsg {x : PySem.Stmt} {k : List Expr → Expr → Pos → Bool} {P : PySem.Stmt → Prop} (h : qSAsg x k = true) (g : ∀ a b c, k a b c = true → P (.Assign a b c)) : P x :=
  (dq h).elim fun q h => PySem.Stmt.Assign.elim (motive_2 := fun x => ∀ q : x.ctorIdx = 5, (PySem.Stmt.Assign.elim x q k : Bool) = true → (∀ a b c, k a b c = true → P (.Assign a b c)) → P x) x q (fun _ _ _ _ h g => g _ _ _ h) q h g
noncomputable def qSFor (x : PySem.Stmt) (k : Expr → Expr → List Stmt → List Stmt → Pos → Bool) : Bool := if q : x.ctorIdx = 9 then PySem.Stmt.For.elim x q k else false
theorem kSFor {x : PySem.Stmt} {k : Expr → Expr → List Stmt → List Stmt → Pos → Bool} {P : PySem.Stmt → Prop} (h : qSFor x k = true) (g : ∀ a b c d e, k a b c d e = true → P (.For a b c d e)) : P x :=
  (dq h).elim fun q h => PySem.Stmt.For.elim (motive_2 := fun x => ∀ q : x.ctorIdx = 9, (PySem.Stmt.For.elim x q k : Bool) = true → (∀ a b c d e, k a b c d e = true → P (.For a b c d e)) → P x) x q (fun _ _ _ _ _ _ h g => g _ _ _ _ _ h) q h g
noncomputable def qSWhi (x : PySem.Stmt) (k : Expr → List Stmt → List Stmt → Pos → Bool) : Bool := if q : x.ctorIdx = 11 then PySem.Stmt.While.elim x q k else false
theorem kSWhi {x : PySem.Stmt} {k : Expr → List Stmt → List Stmt → Pos → Bool} {P : PySem.Stmt → Prop} (h : qSWhi x k = true) (g : ∀ a b c d, k a b c d = true → P (.While a b c d)) : P x :=
  (dq h).elim fun q h => PySem.Stmt.While.elim (motive_2 := fun x => ∀ q : x.ctorIdx = 11, (PySem.Stmt.While.elim x q k : Bool) = true → (∀ a b c d, k a b c d = true → P (.While a b c d)) → P x) x q (fun _ _ _ _ _ h g => g _ _ _ _ h) q h g
noncomputable def qSIff (x : PySem.Stmt) (k : Expr → List Stmt → List Stmt → Pos → Bool) : Bool := if q : x.ctorIdx = 12 then PySem.Stmt.If.elim x q k else false
theorem kSIff {x : PySem.Stmt} {k : Expr → List Stmt → List Stmt → Pos → Bool} {P : PySem.Stmt → Prop} (h : qSIff x k = true) (g : ∀ a b c d, k a b c d = true → P (.If a b c d)) : P x :=
  (dq h).elim fun q h => PySem.Stmt.If.elim (motive_2 := fun x => ∀ q : x.ctorIdx = 12, (PySem.Stmt.If.elim x q k : Bool) = true → (∀ a b c d, k a b c d = true → P (.If a b c d)) → P x) x q (fun _ _ _ _ _ h g => g _ _ _ _ h) q h g
noncomputable def qSExp (x : PySem.Stmt) (k : Expr → Pos → Bool) : Bool := if q : x.ctorIdx = 24 then PySem.Stmt.Expr.elim x q k else false
theorem kSExp {x : PySem.Stmt} {k : Expr → Pos → Bool} {P : PySem.Stmt → Prop} (h : qSExp x k = true) (g : ∀ a b, k a b = true → P (.Expr a b)) : P x :=
  (dq h).elim fun q h => PySem.Stmt.Expr.elim (motive_2 := fun x => ∀ q : x.ctorIdx = 24, (PySem.Stmt.Expr.elim x q k : Bool) = true → (∀ a b, k a b = true → P (.Expr a b)) → P x) x q (fun _ _ _ h g => g _ _ h) q h g
noncomputable def qSPas (x : PySem.Stmt) (k : Pos → Bool) : Bool := if q : x.ctorIdx = 25 then PySem.Stmt.Pass.elim x q k else false
theorem kSPas {x : PySem.Stmt} {k : Pos → Bool} {P : PySem.Stmt → Prop} (h : qSPas x k = true) (g : ∀ a, k a = true → P (.Pass a)) : P x :=
  (dq h).elim fun q h => PySem.Stmt.Pass.elim (motive_2 := fun x => ∀ q : x.ctorIdx = 25, (PySem.Stmt.Pass.elim x q k : Bool) = true → (∀ a, k a = true → P (.Pass a)) → P x) x q (fun _ _ h g => g _ h) q h g
noncomputable def qSBre (x : PySem.Stmt) (k : Pos → Bool) : Bool := if q : x.ctorIdx = 26 then PySem.Stmt.Break.elim x q k else false
theorem kSBre {x : PySem.Stmt} {k : Pos → Bool} {P : PySem.Stmt → Prop} (h : qSBre x k = true) (g : ∀ a, k a = true → P (.Break a)) : P x :=
  (dq h).elim fun q h => PySem.Stmt.Break.elim (motive_2 := fun x => ∀ q : x.ctorIdx = 26, (PySem.Stmt.Break.elim x q k : Bool) = true → (∀ a, k a = true → P (.Break a)) → P x) x q (fun _ _ h g => g _ h) q h g
noncomputable def qSCon (x : PySem.Stmt) (k : Pos → Bool) : Bool := if q : x.ctorIdx = 27 then PySem.Stmt.Continue.elim x q k else false
theorem kSCon {x : PySem.Stmt} {k : Pos → Bool} {P : PySem.Stmt → Prop} (h : qSCon x k = true) (g : ∀ a, k a = true → P (.Continue a)) : P x :=
  (dq h).elim fun q h => PySem.Stmt.Continue.elim (motive_2 := fun x => ∀ q : x.ctorIdx = 27, (PySem.Stmt.Continue.elim x q k : Bool) = true → (∀ a, k a = true → P (.Continue a)) → P x) x q (fun _ _ h g => g _ h) q h g
noncomputable def qCNon (x : PySem.Const) (k : Bool) : Bool := if q : x.ctorIdx = 0 then PySem.Const.none.elim x q k else false
theorem kCNon {x : PySem.Const} {k : Bool} {P : PySem.Const → Prop} (h : qCNon x k = true) (g : k = true → P .none) : P x :=
  (dq h).elim fun q h => PySem.Const.none.elim (motive := fun x => ∀ q : x.ctorIdx = 0, (PySem.Const.none.elim x q k : Bool) = true → (k = true → P .none) → P x) x q (fun _ h g => g h) q h g
noncomputable def qCBoo (x : PySem.Const) (k : Bool → Bool) : Bool := if q : x.ctorIdx = 1 then PySem.Const.bool.elim x q k else false
theorem kCBoo {x : PySem.Const} {k : Bool → Bool} {P : PySem.Const → Prop} (h : qCBoo x k = true) (g : ∀ a, k a = true → P (.bool a)) : P x :=
  (dq h).elim fun q h => PySem.Const.bool.elim (motive := fun x => ∀ q : x.ctorIdx = 1, (PySem.Const.bool.elim x q k : Bool) = true → (∀ a, k a = true → P (.bool a)) → P x) x q (fun _ _ h g => g _ h) q h g
noncomputable def qCInt (x : PySem.Const) (k : Int → Bool) : Bool := if q : x.ctorIdx = 2 then PySem.Const.int.elim x q k else false
theorem kCInt {x : PySem.Const} {k : Int → Bool} {P : PySem.Const → Prop} (h : qCInt x k = true) (g : ∀ a, k a = true → P (.int a)) : P x :=
  (dq h).elim fun q h => PySem.Const.int.elim (motive := fun x => ∀ q : x.ctorIdx = 2, (PySem.Const.int.elim x q k : Bool) = true → (∀ a, k a = true → P (.int a)) → P x) x q (fun _ _ h g => g _ h) q h g
noncomputable def qCStr (x : PySem.Const) (k : Str → Bool) : Bool := if q : x.ctorIdx = 5 then PySem.Const.str.elim x q k else false
theorem kCStr {x : PySem.Const} {k : Str → Bool} {P : PySem.Const → Prop} (h : qCStr x k = true) (g : ∀ a, k a = true → P (.str a)) : P x :=
  (dq h).elim fun q h => PySem.Const.str.elim (motive := fun x => ∀ q : x.ctorIdx = 5, (PySem.Const.str.elim x q k : Bool) = true → (∀ a, k a = true → P (.str a)) → P x) x q (fun _ _ h g => g _ h) q h g
noncomputable def q1 {α : Type} (l : List α) (k : α → Bool) : Bool := match l with
  | [] => false
  | a :: r => r.isEmpty && k a
noncomputable def q2 {α : Type} (l : List α) (k : α → α → Bool) : Bool := match l with
  | [] => false
  | a :: r => q1 r fun b => k a b
theorem k0 {α : Type} {l : List α} {P : List α → Prop} (h : l.isEmpty = true) (g : P []) : P l := match l, h with
  | [], _ => g
theorem k1 {α : Type} {l : List α} {k : α → Bool} {P : List α → Prop} (h : q1 l k = true) (g : ∀ a, k a = true → P [a]) : P l := match l, h with
  | a :: r, h => k0 (P := fun r => P (a :: r)) (Bool.and_eq_true_iff.mp h).1 (g a (Bool.and_eq_true_iff.mp h).2)
theorem k2 {α : Type} {l : List α} {k : α → α → Bool} {P : List α → Prop} (h : q2 l k = true) (g : ∀ a b, k a b = true → P [a, b]) : P l := match l, h with
  | a :: r, h => k1 (P := fun r => P (a :: r)) (l := r) (k := fun b => k a b) h fun b h => g a b h
noncomputable def qS {α : Type} (o : Option α) (k : α → Bool) : Bool := match o with
  | none => false
  | some a => k a
theorem kS {α : Type} {o : Option α} {k : α → Bool} {P : Option α → Prop} (h : qS o k = true) (g : ∀ a, k a = true → P (some a)) : P o := match o, h with
  | some a, h => g a h
theorem kN {α : Type} {o : Option α} {P : Option α → Prop} (h : o.isNone = true) (g : P none) : P o := match o, h with
  | none, _ => g
theorem kEq {α : Type} [BEq α] [LawfulBEq α] {a b : α} {P : α → Prop} (h : (a == b) = true) (g : P b) : P a := eq_of_beq h ▸ g
noncomputable def nameO (e : PySem.Expr) : Option Str := if q : e.ctorIdx = 23 then PySem.Expr.Name.elim e q fun x _ => some x else none
noncomputable def tupO (e : PySem.Expr) : Option (List PySem.Expr) := if q : e.ctorIdx = 25 then PySem.Expr.Tuple.elim e q fun x _ _ => some x else none
noncomputable def noSup (e : PySem.Expr) : Bool := !(e.ctorIdx == 16)
noncomputable def isComp (e : PySem.Expr) : Bool := [8, 9, 10].contains e.ctorIdx
noncomputable def okE (e : PySem.Expr) : Bool := ![1, 4, 7, 9, 10, 11, 12, 13, 14, 17, 18, 22].contains e.ctorIdx
noncomputable def plainT (e : PySem.Expr) : Bool := ![0, 3, 5, 15].contains e.ctorIdx
noncomputable def tgtOk (sc : Sp) (nm : Nm) (i : Nat) (x : Str) : Bool := nm[i]? == some (some x) && (sc.lookup x == some .local || sc.lookup x == some .cell)
noncomputable def tgtsOk (sc : Sp) (nm : Nm) : List Nat → List PySem.Expr → Bool
  | [], l => l.isEmpty
  | i :: r, l => match l with
    | [] => false
    | t :: l => qENam t fun x _ => tgtOk sc nm i x && tgtsOk sc nm r l
noncomputable def tgtE (sc : Sp) (nm : Nm) (one : Bool) (is : List Nat) (e : PySem.Expr) : Bool := match one with
  | true => qENam e fun x _ => q1 is fun i => tgtOk sc nm i x
  | false => qETup e fun ts _ _ => tgtsOk sc nm is ts
noncomputable def namesT (e : PySem.Expr) : List Str := match tupO e with
  | some ts => ts.filterMap nameO
  | none => (nameO e).toList
noncomputable def namesG (gs : List Comprehension) : List Str := gs.flatMap fun g => namesT g.target
noncomputable def maskN (nm : Nm) (names : Sp) : Nm := nm.map fun o => o.bind fun x => if names.lookup x == some .free then some x else none
noncomputable def relN (sc names : Sp) : Sp := names.map fun p => if p.2 == .free && sc.lookup p.1 == some .cell then (p.1, .cell) else p
noncomputable def uniqN (nm : Nm) : Bool := decide ((nm.filterMap id).Nodup)
noncomputable def scopeOk (sc names : Sp) : Bool :=
  decide ((names.map (·.1)).Nodup) && names.all fun p => !(p.1 == ("__class__" : Str)) && (!(p.2 == .free) || sc.lookup p.1 == some .cell || sc.lookup p.1 == some .free)

noncomputable def b2Ok : B2 → Operator → Bool
  | .add, o => o == .Add
  | .sub, o => o == .Sub
  | .mul, o => o == .Mult
  | .mod, o => o == .Mod
  | .fdiv, o => o == .FloorDiv
  | .shr, o => o == .RShift
  | .band, o => o == .BitAnd
noncomputable def c2Ok : C2 → CmpOp → Bool
  | .eq, o => o == .Eq
  | .ne, o => o == .NotEq
  | .lt, o => o == .Lt
  | .le, o => o == .LtE
  | .gt, o => o == .Gt
  | .ge, o => o == .GtE
  | .isin, o => o == .In
  | .nin, o => o == .NotIn
  | .is, o => o == .Is
  | .isn, o => o == .IsNot
noncomputable def blN : Bl → Str
  | .len => "len" | .abs => "abs" | .int => "int" | .list _ => "list" | .tuple => "tuple" | .sorted => "sorted"
noncomputable def keysE (S : Sta) : List Nat → List (Option PySem.Expr) → Bool
  | [], l => l.isEmpty
  | k :: r, l => match l with
    | [] => false
    | o :: t => qS o fun e => qECon e fun c _ _ => qCStr c fun x => S.tab[k]? == some x && keysE S r t
noncomputable def isKN (e : ME) : Bool := e.ctorIdx == 0
noncomputable def kOne (k : SK) (one : Bool) : Bool := match k with
  | .enum => !one
  | .zip => !one
  | .vals => true
  | .rng => true
noncomputable def tgtG : MG → List Nat
  | .mk t _ _ _ _ => t
noncomputable def noFree (names : Sp) (l : List Str) : Bool := l.all fun x => !(names.lookup x == some .free) && !(x == ("__class__" : Str))
noncomputable def firstG : List Comprehension → Bool
  | [] => false
  | _ :: _ => true

mutual
noncomputable def chkE (S : Sta) : ME → Sp → Nm → PySem.Expr → Bool
  | .kN, _, _, e => qECon e fun c _ _ => qCNon c true
  | .kB b, _, _, e => qECon e fun c _ _ => qCBoo c fun c => c == b
  | .kI i, _, _, e => qECon e fun c _ _ => qCInt c fun c => c == i
  | .kS k, _, _, e => qECon e fun c _ _ => qCStr c fun x => S.tab[k]? == some x
  | .loc i, sc, nm, e => qENam e fun x _ => nm[i]? == some (some x) && locK sc x && !(x == ("__debug__" : Str))
  | .gI k i, sc, _, e => qENam e fun x _ => S.tab[k]? == some x && gloK sc x && S.gints.lookup x == some i
  | .attr a k, sc, nm, e => qEAtt e fun x n _ => chkE S a sc nm x && S.tab[k]? == some n && noSup x
  | .sub a i, sc, nm, e => qESub e fun x y _ => chkE S a sc nm x && chkE S i sc nm y
  | .slc a lo hi, sc, nm, e => qESub e fun x z _ => qESlc z fun l u s _ => s.isNone && (chkE S a sc nm x && (match l with | none => isKN lo | some y => chkE S lo sc nm y) && (match u with | none => isKN hi | some y => chkE S hi sc nm y))
  | .rev a, sc, nm, e => qESub e fun x z _ => qESlc z fun l u s _ => l.isNone && (u.isNone && (qS s fun w => qEUna w fun op v _ => op == .USub && (qECon v fun c _ _ => qCInt c fun i => i == 1 && chkE S a sc nm x)))
  | .bin o a b, sc, nm, e => qEBin e fun l op r _ => b2Ok o op && chkE S a sc nm l && chkE S b sc nm r
  | .neg a, sc, nm, e => qEUna e fun op x _ => op == .USub && chkE S a sc nm x
  | .no _, _, _, _ => false
  | .and_ _, _, _, _ => false
  | .or_ _, _, _, _ => false
  | .truth _, _, _, _ => false
  | .cmp o a b, sc, nm, e => qECmp e fun l os rs _ => q1 os fun op => q1 rs fun r => c2Ok o op && chkE S a sc nm l && chkE S b sc nm r
  | .cmp2 _ _ _ _ _, _, _, _ => false
  | .ite c a b, sc, nm, e => qEIte e fun t x y _ => chkT S c sc nm t && chkE S a sc nm x && chkE S b sc nm y
  | .tup es, sc, nm, e => qETup e fun xs _ _ => chkEs S es sc nm xs && decide (es.length ≤ 64)
  | .lst _ es, sc, nm, e => qELst e fun xs _ => chkEs S es sc nm xs && decide (es.length ≤ 64)
  | .dct ks es, sc, nm, e => qEDic e fun keys xs _ => keysE S ks keys && chkEs S es sc nm xs && decide (0 < ks.length ∧ ks.length ≤ 15 ∧ ks.length = es.length) && decide ks.Nodup
  | .dct0, _, _, e => qEDic e fun keys xs _ => keys.isEmpty && xs.isEmpty
  | .comp _ k elt gs, sc, nm, e => qELcm e fun x gens scope _ =>
      scope.kind == .function && scopeOk sc scope.names && decide (k = (namesG gens).length)
        && uniqN (maskN nm scope.names ++ (namesG gens).map some) && firstG gens
        && noFree scope.names (namesG gens) && decide ((gs.flatMap tgtG).Nodup)
        && chkGs S gs true sc nm (relN sc scope.names) (maskN nm scope.names ++ (namesG gens).map some) nm.length gens
        && chkE S elt (relN sc scope.names) (maskN nm scope.names ++ (namesG gens).map some) x
  | .call f es, sc, nm, e => qECal e fun g xs ks _ => qENam g fun x _ => ks.isEmpty && (gloK sc x && S.globs.lookup x == some f && chkEs S es sc nm xs && decide (xs.length < 28))
  | .new c es, sc, nm, e => qECal e fun g xs ks _ => qENam g fun x _ => ks.isEmpty && (gloK sc x && S.globs.lookup x == some c && chkEs S es sc nm xs && decide (xs.length < 28))
  | .meth a m es, sc, nm, e => qECal e fun g xs ks p => qEAtt g fun x n ap => ks.isEmpty && (chkE S a sc nm x && S.tab[m]? == some n && noSup x && chkEs S es sc nm xs && decide (xs.length < 28) && ap.endLine == p.line)
  | .blt b a, sc, nm, e => qECal e fun g xs ks _ => qENam g fun x _ => ks.isEmpty && (x == blN b && (bltK S sc (blN b) && (q1 xs fun y => chkE S a sc nm y)))
  | .app a b, sc, nm, e => qECal e fun g xs ks p => qEAtt g fun x n ap => ks.isEmpty && (n == ("append" : Str) && (q1 xs fun y => noSup x && chkE S a sc nm x && chkE S b sc nm y && ap.endLine == p.line))
  | .pop a, sc, nm, e => qECal e fun g xs ks p => qEAtt g fun x n ap => ks.isEmpty && (n == ("pop" : Str) && (xs.isEmpty && (noSup x && chkE S a sc nm x && ap.endLine == p.line)))
  | .get a b c, sc, nm, e => qECal e fun g xs ks p => qEAtt g fun x n ap => ks.isEmpty && (n == ("get" : Str) && (q2 xs fun y z => noSup x && chkE S a sc nm x && chkE S b sc nm y && chkE S c sc nm z && ap.endLine == p.line))
  | .srtK a b m, sc, nm, e => S.skey && (qECal e fun g xs ks _ => qENam g fun x _ => q1 xs fun y => q2 ks fun w1 w2 => qEAtt w1.value fun z n _ => qECon w2.value fun c _ _ => qCBoo c fun t =>
      t && x == ("sorted" : Str) && bltK S sc ("sorted" : Str) && w1.arg == some ("key" : Str) && w2.arg == some ("reverse" : Str) && chkE S a sc nm y && chkE S b sc nm z && noSup z && S.tab[m]? == some n)
  | .sup _ _ _, _, _, _ => false
noncomputable def chkEs (S : Sta) : List ME → Sp → Nm → List PySem.Expr → Bool
  | [], _, _, xs => xs.isEmpty
  | e :: r, sc, nm, xs => match xs with | x :: t => chkE S e sc nm x && chkEs S r sc nm t | [] => false
noncomputable def chkT (S : Sta) : ME → Sp → Nm → PySem.Expr → Bool
  | .no a, sc, nm, e => qEUna e fun op x _ => op == .Not && chkT S a sc nm x
  | .and_ es, sc, nm, e => qEBoo e fun op xs _ => op == .And && chkTs S es sc nm xs
  | .or_ es, sc, nm, e => qEBoo e fun op xs _ => op == .Or && chkTs S es sc nm xs
  | .cmp o a b, sc, nm, e => qECmp e fun l os rs _ => q1 os fun op => q1 rs fun r => c2Ok o op && chkE S a sc nm l && chkE S b sc nm r
  | .cmp2 o1 o2 a b c, sc, nm, e => qECmp e fun l os rs _ => q2 os fun op1 op2 => q2 rs fun r1 r2 => c2Ok o1 op1 && c2Ok o2 op2 && chkE S a sc nm l && chkE S b sc nm r1 && chkE S c sc nm r2
  | .truth a, sc, nm, e => chkE S a sc nm e && plainT e
  | _, _, _, _ => false
noncomputable def chkTs (S : Sta) : List ME → Sp → Nm → List PySem.Expr → Bool
  | [], _, _, xs => xs.isEmpty
  | e :: r, sc, nm, xs => match xs with | x :: t => chkT S e sc nm x && chkTs S r sc nm t | [] => false
noncomputable def chkSrc (S : Sta) (k : SK) : List ME → Sp → Nm → PySem.Expr → Bool
  | [], _, _, _ => false
  | a :: r, sc, nm, e => match r with
    | [] => (match k with
      | .vals => chkE S a sc nm e
      | .rng => qECal e fun g xs ks _ => qENam g fun x _ => ks.isEmpty && (x == ("range" : Str) && (bltK S sc ("range" : Str) && (q1 xs fun y => chkE S a sc nm y)))
      | .enum => qECal e fun g xs ks _ => qENam g fun x _ => ks.isEmpty && (x == ("enumerate" : Str) && (bltK S sc ("enumerate" : Str) && (q1 xs fun y => chkE S a sc nm y)))
      | .zip => false)
    | b :: r => r.isEmpty && (match k with
      | .vals => false
      | .rng => qECal e fun g xs ks _ => qENam g fun x _ => ks.isEmpty && (x == ("range" : Str) && (bltK S sc ("range" : Str) && (q2 xs fun y z => chkE S a sc nm y && chkE S b sc nm z)))
      | .enum => false
      | .zip => qECal e fun g xs ks _ => qENam g fun x _ => ks.isEmpty && (x == ("zip" : Str) && (bltK S sc ("zip" : Str) && (q2 xs fun y z => chkE S a sc nm y && chkE S b sc nm z))))
noncomputable def chkG (S : Sta) : MG → Bool → Sp → Nm → Sp → Nm → Nat → Comprehension → Bool
  | .mk tgt one k srcs ifs, fst, sc, nm, sc', nm', nb, g =>
    g.is_async == 0 && kOne k one && tgtE sc' nm' one tgt g.target && tgt.all (fun i => decide (nb ≤ i))
      && (if fst then chkSrc S k srcs sc nm g.iter else chkSrc S k srcs sc' nm' g.iter) && chkTs S ifs sc' nm' g.ifs
noncomputable def chkGs (S : Sta) : List MG → Bool → Sp → Nm → Sp → Nm → Nat → List Comprehension → Bool
  | [], _, _, _, _, _, _, xs => xs.isEmpty
  | g :: r, fst, sc, nm, sc', nm', nb, xs => match xs with | x :: t => chkG S g fst sc nm sc' nm' nb x && chkGs S r false sc nm sc' nm' nb t | [] => false
end

noncomputable def swNo (sc : Sp) (ts : List PySem.Expr) (v : PySem.Expr) : Bool := match tupO v with
  | some vs => !(ts.length == 2 || ts.length == 3) || !(vs.length == ts.length) || ts.any fun t => match nameO t with | some x => !(sc.lookup x == some .local) | none => true
  | none => true
noncomputable def lineOf (ts : List PySem.Expr) : Nat := (ts.head?.map (·.pos.line)).getD 0
noncomputable def swYes (sc : Sp) (ts : List PySem.Expr) (v : PySem.Expr) : Bool := qETup v fun vs _ _ =>
  (ts.length == 2 || ts.length == 3) && vs.length == ts.length
      && (ts.all fun t => qENam t fun x p => sc.lookup x == some .local && p.line == lineOf ts)
      && (ts.filterMap nameO).eraseDups.length == ts.length
      && !(vs.all (foldedForSure 8)) && !(vs.all (constantsAlone 8)) && !(vs.any fun | .Starred .. => true | _ => false)

mutual
noncomputable def chkS (S : Sta) : MS → Sp → Nm → Stmt → Bool
  | .expr a, sc, nm, s => qSExp s fun x _ => chkE S a sc nm x && !isComp x
  | .asg i a, sc, nm, s => qSAsg s fun l v _ => q1 l fun t => qENam t fun x _ => tgtOk sc nm i x && chkE S a sc nm v && okE v
  | .asgT is a, sc, nm, s => qSAsg s fun l v _ => q1 l fun t => qETup t fun ts _ _ => tgtsOk sc nm is ts && chkE S a sc nm v && swNo sc ts v
  | .asgW is a, sc, nm, s => qSAsg s fun l v _ => q1 l fun t => qETup t fun ts _ _ => tgtsOk sc nm is ts && chkE S a sc nm v && swYes sc ts v
  | .asgA o k a, sc, nm, s => qSAsg s fun l v _ => q1 l fun t => qEAtt t fun x n _ => chkE S a sc nm v && chkE S o sc nm x && S.tab[k]? == some n
  | .asgS o i a, sc, nm, s => qSAsg s fun l v _ => q1 l fun t => qESub t fun x y _ => chkE S a sc nm v && chkE S o sc nm x && chkE S i sc nm y
  | .ifS c a b, sc, nm, s => qSIff s fun t x y _ => chkT S c sc nm t && chkSs S a sc nm x && chkSs S b sc nm y
  | .whileS c b, sc, nm, s => qSWhi s fun t x y _ => y.isEmpty && (chkT S c sc nm t && chkSs S b sc nm x)
  | .forS tgt one k srcs b, sc, nm, s => qSFor s fun t it x y _ => y.isEmpty && (kOne k one && tgtE sc nm one tgt t && chkSrc S k srcs sc nm it && chkSs S b sc nm x)
  | .ret a, sc, nm, s => qSRet s fun y _ => match y with | some x => chkE S a sc nm x | none => isKN a
  | .cont, _, _, s => qSCon s fun _ => true
  | .brk, _, _, s => qSBre s fun _ => true
  | .pass, _, _, s => qSPas s fun _ => true
noncomputable def chkSs (S : Sta) : List MS → Sp → Nm → List Stmt → Bool
  | [], _, _, xs => xs.isEmpty
  | e :: r, sc, nm, xs => match xs with | x :: t => chkS S e sc nm x && chkSs S r sc nm t | [] => false
end

noncomputable def qMexpr (x : MS) (k : ME → Bool) : Bool := if q : x.ctorIdx = 0 then MS.expr.elim x q k else false
theorem kMexpr {x : MS} {k : ME → Bool} {P : MS → Prop} (h : qMexpr x k = true) (g : ∀ a, k a = true → P (.expr a)) : P x :=
  (dq h).elim fun q h => MS.expr.elim (motive_1 := fun x => ∀ q : x.ctorIdx = 0, (MS.expr.elim x q k : Bool) = true → (∀ a, k a = true → P (.expr a)) → P x) x q (fun _ _ h g => g _ h) q h g
noncomputable def qMsup (x : ME) (k : Nat → Nat → List ME → Bool) : Bool := if q : x.ctorIdx = 32 then ME.sup.elim x q k else false
theorem kMsup {x : ME} {k : Nat → Nat → List ME → Bool} {P : ME → Prop} (h : qMsup x k = true) (g : ∀ a b c, k a b c = true → P (.sup a b c)) : P x :=
  (dq h).elim fun q h => ME.sup.elim (motive_1 := fun x => ∀ q : x.ctorIdx = 32, (ME.sup.elim x q k : Bool) = true → (∀ a b c, k a b c = true → P (.sup a b c)) → P x) x q (fun _ _ _ _ h g => g _ _ _ h) q h g
noncomputable def chkSup (S : Sta) (m : MS) (sc : Sp) (nm : Nm) (s : Stmt) : Bool :=
  qMexpr m fun m => qMsup m fun f _ es => qSExp s fun e _ => qECal e fun g xs ks p => qEAtt g fun o n ap => qECal o fun y ys ls _ => qENam y fun y _ =>
    ks.isEmpty && (ys.isEmpty && (ls.isEmpty && (y == ("super" : Str) && (n == ("__init__" : Str) && (bltK S sc ("super" : Str) && sc.lookup ("__class__" : Str) == some .free && S.sups.contains f && chkEs S es sc nm xs && decide (xs.length < 28) && ap.endLine == p.line)))))
noncomputable def chkB (S : Sta) (l : List MS) (sc : Sp) (nm : Nm) (ys : List Stmt) : Bool := match l with
  | [] => false
  | x :: r => match ys with
    | [] => false
    | y :: t => (chkS S x sc nm y || chkSup S x sc nm y) && chkSs S r sc nm t

noncomputable def chkF (S : Sta) (f : MFun) (nms : List Str) (ps : Arguments) (scope : Scope) (body : List Stmt) : Bool :=
  decide (nms.length = f.n + f.k) && decide (f.dfl.length ≤ f.n) && (scope.names.all fun p => !(p.2 == .free) || p.1 == ("__class__" : Str)) && decide (nms.Nodup) && decide (ps.args.map (·.arg) = nms.take f.n) && ps.posonlyargs.isEmpty && ps.vararg.isNone && ps.kwonlyargs.isEmpty && ps.kwarg.isNone
    && scope.kind == .function && !scope.isGenerator && !scope.isCoroutine && decide ((scope.names.map (·.1)).Nodup)
    && nms.all (fun x => (scope.names.lookup x == some .local || scope.names.lookup x == some .cell) && !(x == ("__class__" : Str)))
    && chkB S f.body scope.names (nms.map some) body

end Mine
end
section
namespace Mine
set_option maxRecDepth 100000
noncomputable def tabS : List String := ["limit", "step", "FIRST_STEP", "activity", "heap", "place", "many", "push", "is_before", "put", "is_held", "rise", "hook", "assigns", "UNKNOWN", "levels", "reasons", "NO_CLAUSE", "spots", "phases", "FALSE", "watches", "trail", "starts", "head", "told", "clauses", "steps", "droppable", "activities", "learnt_count", "grow", "spot_of", "TRUE", "depth", "push_level", "proof", "seen", "unit_steps", "rooted", "is_ok", "empty_step", "failed", "failed_at", "conflict_limit", "conflicts", "decisions", "is_implied", "by_spots", "spot", "cells", "new_var", "enqueue", "store", "new_level", "shortened", "var_count"]
noncomputable abbrev n_limit : Nat := 0
noncomputable abbrev n_step : Nat := 1
noncomputable abbrev n_FIRST_STEP : Nat := 2
noncomputable abbrev n_activity : Nat := 3
noncomputable abbrev n_heap : Nat := 4
noncomputable abbrev n_place : Nat := 5
noncomputable abbrev n_many : Nat := 6
noncomputable abbrev n_push : Nat := 7
noncomputable abbrev n_is_before : Nat := 8
noncomputable abbrev n_put : Nat := 9
noncomputable abbrev n_is_held : Nat := 10
noncomputable abbrev n_rise : Nat := 11
noncomputable abbrev n_hook : Nat := 12
noncomputable abbrev n_assigns : Nat := 13
noncomputable abbrev n_UNKNOWN : Nat := 14
noncomputable abbrev n_levels : Nat := 15
noncomputable abbrev n_reasons : Nat := 16
noncomputable abbrev n_NO_CLAUSE : Nat := 17
noncomputable abbrev n_spots : Nat := 18
noncomputable abbrev n_phases : Nat := 19
noncomputable abbrev n_FALSE : Nat := 20
noncomputable abbrev n_watches : Nat := 21
noncomputable abbrev n_trail : Nat := 22
noncomputable abbrev n_starts : Nat := 23
noncomputable abbrev n_head : Nat := 24
noncomputable abbrev n_told : Nat := 25
noncomputable abbrev n_clauses : Nat := 26
noncomputable abbrev n_steps : Nat := 27
noncomputable abbrev n_droppable : Nat := 28
noncomputable abbrev n_activities : Nat := 29
noncomputable abbrev n_learnt_count : Nat := 30
noncomputable abbrev n_grow : Nat := 31
noncomputable abbrev n_spot_of : Nat := 32
noncomputable abbrev n_TRUE : Nat := 33
noncomputable abbrev n_depth : Nat := 34
noncomputable abbrev n_push_level : Nat := 35
noncomputable abbrev n_proof : Nat := 36
noncomputable abbrev n_seen : Nat := 37
noncomputable abbrev n_unit_steps : Nat := 38
noncomputable abbrev n_rooted : Nat := 39
noncomputable abbrev n_is_ok : Nat := 40
noncomputable abbrev n_empty_step : Nat := 41
noncomputable abbrev n_failed : Nat := 42
noncomputable abbrev n_failed_at : Nat := 43
noncomputable abbrev n_conflict_limit : Nat := 44
noncomputable abbrev n_conflicts : Nat := 45
noncomputable abbrev n_decisions : Nat := 46
noncomputable abbrev n_is_implied : Nat := 47
noncomputable abbrev n_by_spots : Nat := 48
noncomputable abbrev n_spot : Nat := 49
noncomputable abbrev n_cells : Nat := 50
noncomputable abbrev n_new_var : Nat := 51
noncomputable abbrev n_enqueue : Nat := 52
noncomputable abbrev n_store : Nat := 53
noncomputable abbrev n_new_level : Nat := 54
noncomputable abbrev n_shortened : Nat := 55
noncomputable abbrev n_var_count : Nat := 56
noncomputable abbrev f_wall : Nat := 21
noncomputable abbrev f_CoreHeap___init__ : Nat := 36
noncomputable abbrev f_CoreHeap_many : Nat := 43
noncomputable abbrev f_CoreHeap_is_held : Nat := 50
noncomputable abbrev f_CoreHeap_is_before : Nat := 57
noncomputable abbrev f_CoreHeap_grow : Nat := 64
noncomputable abbrev f_CoreHeap_put : Nat := 71
noncomputable abbrev f_CoreHeap_rise : Nat := 78
noncomputable abbrev f_CoreHeap_better_child : Nat := 85
noncomputable abbrev f_CoreHeap_sink : Nat := 92
noncomputable abbrev f_CoreHeap_push : Nat := 99
noncomputable abbrev f_CoreHeap_pop : Nat := 106
noncomputable abbrev f_CoreHeap_pop_best : Nat := 113
noncomputable abbrev f_CoreHeap_bump : Nat := 120
noncomputable abbrev f_CoreHeap_decay : Nat := 127
noncomputable abbrev f_CoreHeap_rescale : Nat := 134
noncomputable abbrev f_CoreHeap_rebuild : Nat := 141
noncomputable abbrev f_place_of : Nat := 155
noncomputable abbrev f_order_key : Nat := 162
noncomputable abbrev f_Trail___init__ : Nat := 176
noncomputable abbrev f_Trail_grow : Nat := 183
noncomputable abbrev f_Trail_var_count : Nat := 190
noncomputable abbrev f_Trail_value : Nat := 197
noncomputable abbrev f_Trail_depth : Nat := 204
noncomputable abbrev f_Trail_spot_of : Nat := 211
noncomputable abbrev f_Trail_by_spots : Nat := 218
noncomputable abbrev f_Trail_store : Nat := 225
noncomputable abbrev f_Trail_watch : Nat := 232
noncomputable abbrev f_Trail_unwatch : Nat := 239
noncomputable abbrev f_Trail_height : Nat := 246
noncomputable abbrev f_Trail_by_heights : Nat := 253
noncomputable abbrev f_Trail_top_level : Nat := 260
noncomputable abbrev f_Trail_place : Nat := 267
noncomputable abbrev f_Trail_enqueue : Nat := 274
noncomputable abbrev f_Trail_new_level : Nat := 281
noncomputable abbrev f_Trail_cancel_until : Nat := 288
noncomputable abbrev f_Trail_propagate_clauses : Nat := 295
noncomputable abbrev f_Trail_visit : Nat := 302
noncomputable abbrev f_Trail_moved : Nat := 309
noncomputable abbrev f_Trail_is_sound : Nat := 316
noncomputable abbrev f_Search___init__ : Nat := 339
noncomputable abbrev f_Search_new_var : Nat := 346
noncomputable abbrev f_Search_add_clause : Nat := 353
noncomputable abbrev f_Search_learnt_clauses : Nat := 360
noncomputable abbrev f_Search_failed_assumptions : Nat := 367
noncomputable abbrev f_Search_failed_step : Nat := 374
noncomputable abbrev f_Search_log_chain : Nat := 381
noncomputable abbrev f_Search_root_pairs : Nat := 388
noncomputable abbrev f_Search_unit_step : Nat := 395
noncomputable abbrev f_Search_fail_at_root : Nat := 402
noncomputable abbrev f_Search_propagate : Nat := 409
noncomputable abbrev f_Search_note_lits : Nat := 416
noncomputable abbrev f_Search_analyze : Nat := 423
noncomputable abbrev f_Search_is_implied : Nat := 430
noncomputable abbrev f_Search_shortened : Nat := 435
noncomputable abbrev f_Search_handle : Nat := 442
noncomputable abbrev f_Search_note_use : Nat := 449
noncomputable abbrev f_Search_pause : Nat := 456
noncomputable abbrev f_Search_solve : Nat := 463
noncomputable abbrev f_Search_step_on : Nat := 470
noncomputable abbrev f_Search_ask_final : Nat := 477
noncomputable abbrev f_Search_find_failed : Nat := 484
noncomputable abbrev f_Search_mark_others : Nat := 491
noncomputable abbrev f_law_figure : Nat := 503
noncomputable abbrev f_law_reasons : Nat := 508
noncomputable abbrev f_law_known : Nat := 515
noncomputable abbrev f_law_closed : Nat := 520
noncomputable abbrev f_law_is_implied : Nat := 525
noncomputable abbrev f_law_resolved : Nat := 530
noncomputable abbrev f_law : Nat := 535
noncomputable abbrev c_CoreHeap : Nat := 144
noncomputable abbrev c_Trail : Nat := 319
noncomputable abbrev c_Search : Nat := 494
noncomputable def b_CoreHeap___init__ : List MS := [
  .asgA (.loc 0) n_limit (.loc 1),
  .asgA (.loc 0) n_step (.gI n_FIRST_STEP 1024),
  .asgA (.loc 0) n_activity (.lst true [(.kI 0)]),
  .asgA (.loc 0) n_heap (.lst true []),
  .asgA (.loc 0) n_place (.lst true [(.neg (.kI 1))])]
noncomputable def d_CoreHeap___init__ : MFun := ⟨2, 0, [.int 1000000000000], b_CoreHeap___init__⟩
noncomputable def b_CoreHeap_many : List MS := [
  .ret (.bin .sub (.blt .len (.attr (.loc 0) n_activity)) (.kI 1))]
noncomputable def d_CoreHeap_many : MFun := ⟨1, 0, [], b_CoreHeap_many⟩
noncomputable def b_CoreHeap_is_held : List MS := [
  .ret (.cmp .ge (.sub (.attr (.loc 0) n_place) (.loc 1)) (.kI 0))]
noncomputable def d_CoreHeap_is_held : MFun := ⟨2, 0, [], b_CoreHeap_is_held⟩
noncomputable def b_CoreHeap_is_before : List MS := [
  .ifS (.cmp .ne (.sub (.attr (.loc 0) n_activity) (.loc 1)) (.sub (.attr (.loc 0) n_activity) (.loc 2))) [.ret (.cmp .gt (.sub (.attr (.loc 0) n_activity) (.loc 1)) (.sub (.attr (.loc 0) n_activity) (.loc 2)))] [],
  .ret (.cmp .lt (.loc 1) (.loc 2))]
noncomputable def d_CoreHeap_is_before : MFun := ⟨3, 0, [], b_CoreHeap_is_before⟩
noncomputable def b_CoreHeap_grow : List MS := [
  .whileS (.cmp .lt (.meth (.loc 0) n_many []) (.loc 1)) [.expr (.app (.attr (.loc 0) n_activity) (.kI 0)), .expr (.app (.attr (.loc 0) n_place) (.neg (.kI 1))), .expr (.meth (.loc 0) n_push [(.meth (.loc 0) n_many [])])]]
noncomputable def d_CoreHeap_grow : MFun := ⟨2, 0, [], b_CoreHeap_grow⟩
noncomputable def b_CoreHeap_put : List MS := [
  .asgS (.attr (.loc 0) n_heap) (.loc 1) (.loc 2),
  .asgS (.attr (.loc 0) n_place) (.loc 2) (.loc 1)]
noncomputable def d_CoreHeap_put : MFun := ⟨3, 0, [], b_CoreHeap_put⟩
noncomputable def b_CoreHeap_rise : List MS := [
  .asg 2 (.sub (.attr (.loc 0) n_heap) (.loc 1)),
  .whileS (.cmp .gt (.loc 1) (.kI 0)) [.asg 3 (.bin .fdiv (.bin .sub (.loc 1) (.kI 1)) (.kI 2)), .ifS (.no (.truth (.meth (.loc 0) n_is_before [(.loc 2), (.sub (.attr (.loc 0) n_heap) (.loc 3))]))) [.brk] [], .expr (.meth (.loc 0) n_put [(.loc 1), (.sub (.attr (.loc 0) n_heap) (.loc 3))]), .asg 1 (.loc 3)],
  .expr (.meth (.loc 0) n_put [(.loc 1), (.loc 2)])]
noncomputable def d_CoreHeap_rise : MFun := ⟨2, 2, [], b_CoreHeap_rise⟩
noncomputable def b_CoreHeap_push : List MS := [
  .ifS (.truth (.meth (.loc 0) n_is_held [(.loc 1)])) [.ret .kN] [],
  .expr (.app (.attr (.loc 0) n_heap) (.loc 1)),
  .asgS (.attr (.loc 0) n_place) (.loc 1) (.bin .sub (.blt .len (.attr (.loc 0) n_heap)) (.kI 1)),
  .expr (.meth (.loc 0) n_rise [(.bin .sub (.blt .len (.attr (.loc 0) n_heap)) (.kI 1))])]
noncomputable def d_CoreHeap_push : MFun := ⟨2, 0, [], b_CoreHeap_push⟩
noncomputable def b_Trail___init__ : List MS := [
  .asgA (.loc 0) n_hook (.loc 1),
  .asgA (.loc 0) n_assigns (.lst true [(.gI n_UNKNOWN 0)]),
  .asgA (.loc 0) n_levels (.lst true [(.kI 0)]),
  .asgA (.loc 0) n_reasons (.lst true [(.gI n_NO_CLAUSE (-1))]),
  .asgA (.loc 0) n_spots (.lst true [(.kI 0)]),
  .asgA (.loc 0) n_phases (.lst true [(.gI n_FALSE (-1))]),
  .asgA (.loc 0) n_watches (.lst true [(.lst true []), (.lst true [])]),
  .asgA (.loc 0) n_heap (.new c_CoreHeap []),
  .asgA (.loc 0) n_trail (.lst true []),
  .asgA (.loc 0) n_starts (.lst true []),
  .asgA (.loc 0) n_head (.kI 0),
  .asgA (.loc 0) n_told (.kI 0),
  .asgA (.loc 0) n_clauses (.lst true []),
  .asgA (.loc 0) n_steps (.lst true []),
  .asgA (.loc 0) n_droppable (.lst true []),
  .asgA (.loc 0) n_activities (.lst true []),
  .asgA (.loc 0) n_learnt_count (.kI 0)]
noncomputable def d_Trail___init__ : MFun := ⟨2, 0, [], b_Trail___init__⟩
noncomputable def b_Trail_grow : List MS := [
  .asg 1 (.blt .len (.attr (.loc 0) n_assigns)),
  .expr (.app (.attr (.loc 0) n_assigns) (.gI n_UNKNOWN 0)),
  .expr (.app (.attr (.loc 0) n_levels) (.kI 0)),
  .expr (.app (.attr (.loc 0) n_reasons) (.gI n_NO_CLAUSE (-1))),
  .expr (.app (.attr (.loc 0) n_spots) (.kI 0)),
  .expr (.app (.attr (.loc 0) n_phases) (.gI n_FALSE (-1))),
  .expr (.app (.attr (.loc 0) n_watches) (.lst false [])),
  .expr (.app (.attr (.loc 0) n_watches) (.lst false [])),
  .expr (.meth (.attr (.loc 0) n_heap) n_grow [(.loc 1)]),
  .ret (.loc 1)]
noncomputable def d_Trail_grow : MFun := ⟨1, 1, [], b_Trail_grow⟩
noncomputable def b_Trail_var_count : List MS := [
  .ret (.bin .sub (.blt .len (.attr (.loc 0) n_assigns)) (.kI 1))]
noncomputable def d_Trail_var_count : MFun := ⟨1, 0, [], b_Trail_var_count⟩
noncomputable def b_Trail_depth : List MS := [
  .ret (.blt .len (.attr (.loc 0) n_starts))]
noncomputable def d_Trail_depth : MFun := ⟨1, 0, [], b_Trail_depth⟩
noncomputable def b_Trail_spot_of : List MS := [
  .ret (.sub (.attr (.loc 0) n_spots) (.loc 1))]
noncomputable def d_Trail_spot_of : MFun := ⟨2, 0, [], b_Trail_spot_of⟩
noncomputable def b_Trail_by_spots : List MS := [
  .ret (.srtK (.loc 1) (.loc 0) n_spot_of)]
noncomputable def d_Trail_by_spots : MFun := ⟨2, 0, [], b_Trail_by_spots⟩
noncomputable def b_Trail_store : List MS := [
  .asg 4 (.blt .len (.attr (.loc 0) n_clauses)),
  .expr (.app (.attr (.loc 0) n_clauses) (.blt (.list false) (.loc 1))),
  .expr (.app (.attr (.loc 0) n_steps) (.loc 2)),
  .expr (.app (.attr (.loc 0) n_droppable) (.loc 3)),
  .expr (.app (.attr (.loc 0) n_activities) (.kI 0)),
  .ifS (.truth (.loc 3)) [.asgA (.loc 0) n_learnt_count (.bin .add (.attr (.loc 0) n_learnt_count) (.kI 1))] [],
  .ret (.loc 4)]
noncomputable def d_Trail_store : MFun := ⟨4, 1, [], b_Trail_store⟩
noncomputable def b_Trail_enqueue : List MS := [
  .asg 3 (.blt .abs (.loc 1)),
  .asgS (.attr (.loc 0) n_assigns) (.loc 3) (.ite (.cmp .gt (.loc 1) (.kI 0)) (.gI n_TRUE 1) (.gI n_FALSE (-1))),
  .asgS (.attr (.loc 0) n_levels) (.loc 3) (.meth (.loc 0) n_depth []),
  .asgS (.attr (.loc 0) n_reasons) (.loc 3) (.loc 2),
  .asgS (.attr (.loc 0) n_spots) (.loc 3) (.blt .len (.attr (.loc 0) n_trail)),
  .expr (.app (.attr (.loc 0) n_trail) (.loc 1))]
noncomputable def d_Trail_enqueue : MFun := ⟨3, 1, [], b_Trail_enqueue⟩
noncomputable def b_Trail_new_level : List MS := [
  .expr (.app (.attr (.loc 0) n_starts) (.blt .len (.attr (.loc 0) n_trail))),
  .ifS (.cmp .isn (.attr (.loc 0) n_hook) .kN) [.expr (.meth (.attr (.loc 0) n_hook) n_push_level [])] []]
noncomputable def d_Trail_new_level : MFun := ⟨1, 0, [], b_Trail_new_level⟩
noncomputable def b_Search___init__ : List MS := [
  .expr (.sup f_Trail___init__ c_Search [(.loc 2)]),
  .asgA (.loc 0) n_proof (.loc 1),
  .asgA (.loc 0) n_seen (.lst true [(.kB false)]),
  .asgA (.loc 0) n_unit_steps (.lst true [.kN]),
  .asgA (.loc 0) n_rooted (.kI 0),
  .asgA (.loc 0) n_is_ok (.kB true),
  .asgA (.loc 0) n_empty_step .kN,
  .asgA (.loc 0) n_failed (.tup []),
  .asgA (.loc 0) n_failed_at .kN,
  .asgA (.loc 0) n_conflict_limit (.kI 0),
  .asgA (.loc 0) n_conflicts (.kI 0),
  .asgA (.loc 0) n_decisions (.kI 0)]
noncomputable def d_Search___init__ : MFun := ⟨3, 0, [], b_Search___init__⟩
noncomputable def b_Search_new_var : List MS := [
  .expr (.app (.attr (.loc 0) n_seen) (.kB false)),
  .expr (.app (.attr (.loc 0) n_unit_steps) .kN),
  .ret (.meth (.loc 0) n_grow [])]
noncomputable def d_Search_new_var : MFun := ⟨1, 0, [], b_Search_new_var⟩
noncomputable def b_Search_is_implied : List MS := [
  .asg 2 (.sub (.attr (.loc 0) n_reasons) (.blt .abs (.loc 1))),
  .ifS (.cmp .eq (.loc 2) (.gI n_NO_CLAUSE (-1))) [.ret (.kB false)] [],
  .forS [3] true .vals [(.sub (.attr (.loc 0) n_clauses) (.loc 2))] [.asg 4 (.blt .abs (.loc 3)), .ifS (.and_ [(.cmp .ne (.loc 4) (.blt .abs (.loc 1))), (.cmp .gt (.sub (.attr (.loc 0) n_levels) (.loc 4)) (.kI 0)), (.no (.truth (.sub (.attr (.loc 0) n_seen) (.loc 4))))]) [.ret (.kB false)] []],
  .ret (.kB true)]
noncomputable def d_Search_is_implied : MFun := ⟨2, 3, [], b_Search_is_implied⟩
noncomputable def b_Search_shortened : List MS := [
  .asg 4 (.comp false 1 (.loc 9) [.mk [9] true .vals [(.loc 1)] [(.no (.truth (.meth (.loc 0) n_is_implied [(.loc 9)])))]]),
  .asg 5 (.comp false 1 (.blt .abs (.loc 9)) [.mk [9] true .vals [(.loc 1)] [(.truth (.meth (.loc 0) n_is_implied [(.loc 9)]))]]),
  .forS [6] true .vals [(.meth (.loc 0) n_by_spots [(.loc 5)])] [.asg 7 (.sub (.attr (.loc 0) n_reasons) (.loc 6)), .expr (.app (.loc 3) (.tup [(.loc 6), (.sub (.attr (.loc 0) n_steps) (.loc 7))])), .forS [8] true .vals [(.sub (.attr (.loc 0) n_clauses) (.loc 7))] [.ifS (.and_ [(.cmp .eq (.sub (.attr (.loc 0) n_levels) (.blt .abs (.loc 8))) (.kI 0)), (.no (.truth (.sub (.attr (.loc 0) n_seen) (.blt .abs (.loc 8)))))]) [.asgS (.attr (.loc 0) n_seen) (.blt .abs (.loc 8)) (.kB true), .expr (.app (.loc 2) (.blt .abs (.loc 8)))] []]],
  .ret (.loc 4)]
noncomputable def d_Search_shortened : MFun := ⟨4, 5, [], b_Search_shortened⟩
noncomputable def b_law_figure : List MS := [
  .asg 2 (.sub (.loc 0) (.kS n_spot)),
  .asgS (.loc 0) (.kS n_spot) (.bin .add (.loc 2) (.kI 1)),
  .ret (.bin .mod (.ite (.cmp .lt (.loc 2) (.blt .len (.sub (.loc 0) (.kS n_cells)))) (.sub (.sub (.loc 0) (.kS n_cells)) (.loc 2)) (.bin .add (.bin .add (.bin .mul (.bin .mul (.kI 4) (.loc 2)) (.loc 2)) (.bin .mul (.kI 9) (.loc 2))) (.kI 3))) (.loc 1))]
noncomputable def d_law_figure : MFun := ⟨2, 1, [], b_law_figure⟩
noncomputable def b_law_reasons : List MS := [
  .asg 1 .dct0,
  .forS [2] true .vals [(.attr (.loc 0) n_trail)] [.asg 3 (.sub (.attr (.loc 0) n_reasons) (.blt .abs (.loc 2))), .asgS (.loc 1) (.loc 2) (.ite (.cmp .eq (.loc 3) (.neg (.kI 1))) .kN (.comp false 1 (.loc 4) [.mk [4] true .vals [(.sub (.attr (.loc 0) n_clauses) (.loc 3))] [(.cmp .ne (.loc 4) (.loc 2))]]))],
  .ret (.loc 1)]
noncomputable def d_law_reasons : MFun := ⟨1, 3, [], b_law_reasons⟩
noncomputable def b_law_known : List MS := [
  .asgW [1, 2] (.tup [(.new c_Search [.kN, .kN]), .dct0]),
  .forS [3] true .rng [(.call f_law_figure [(.loc 0), (.kI 3)])] [.asg 4 (.bin .mul (.meth (.loc 1) n_new_var []) (.bin .sub (.kI 1) (.bin .mul (.kI 2) (.call f_law_figure [(.loc 0), (.kI 2)])))), .asgS (.loc 2) (.bin .add (.kI 50) (.loc 3)) (.lst false [(.loc 4)]), .expr (.meth (.loc 1) n_enqueue [(.loc 4), (.meth (.loc 1) n_store [(.tup [(.loc 4)]), (.bin .add (.kI 50) (.loc 3)), (.kB false)])])],
  .forS [3] true .rng [(.bin .add (.kI 4) (.call f_law_figure [(.loc 0), (.kI 3)]))] [.asg 4 (.bin .mul (.meth (.loc 1) n_new_var []) (.bin .sub (.kI 1) (.bin .mul (.kI 2) (.call f_law_figure [(.loc 0), (.kI 2)])))), .ifS (.or_ [(.cmp .eq (.meth (.loc 1) n_depth []) (.kI 0)), (.cmp .eq (.call f_law_figure [(.loc 0), (.kI 3)]) (.kI 0))]) [.expr (.meth (.loc 1) n_new_level []), .expr (.meth (.loc 1) n_enqueue [(.loc 4), (.neg (.kI 1))]), .cont] [], .asg 5 (.lst false []), .forS [6] true .rng [(.bin .add (.kI 1) (.call f_law_figure [(.loc 0), (.kI 3)]))] [.asg 7 (.neg (.sub (.attr (.loc 1) n_trail) (.call f_law_figure [(.loc 0), (.blt .len (.attr (.loc 1) n_trail))]))), .asg 5 (.bin .add (.loc 5) (.ite (.cmp .nin (.loc 7) (.loc 5)) (.lst false [(.loc 7)]) (.lst false [])))], .asgS (.loc 2) (.bin .add (.kI 100) (.loc 3)) (.bin .add (.lst false [(.loc 4)]) (.loc 5)), .expr (.meth (.loc 1) n_enqueue [(.loc 4), (.meth (.loc 1) n_store [(.blt .tuple (.sub (.loc 2) (.bin .add (.kI 100) (.loc 3)))), (.bin .add (.kI 100) (.loc 3)), (.kB false)])])],
  .ret (.tup [(.loc 1), (.loc 2)])]
noncomputable def d_law_known : MFun := ⟨1, 7, [], b_law_known⟩
noncomputable def b_law_closed : List MS := [
  .asgT [2, 3] (.tup [(.blt (.list true) (.loc 0)), (.kB true)]),
  .whileS (.truth (.loc 3)) [.asg 3 (.kB false), .forS [4] true .vals [(.loc 1)] [.asg 5 (.comp false 1 (.loc 6) [.mk [6] true .vals [(.loc 4)] [(.cmp .nin (.neg (.loc 6)) (.loc 2))]]), .ifS (.and_ [(.cmp .eq (.blt .len (.loc 5)) (.kI 1)), (.cmp .nin (.sub (.loc 5) (.kI 0)) (.loc 2))]) [.expr (.app (.loc 2) (.sub (.loc 5) (.kI 0))), .asg 3 (.kB true)] []]],
  .ret (.loc 2)]
noncomputable def d_law_closed : MFun := ⟨2, 4, [], b_law_closed⟩
noncomputable def b_law_is_implied : List MS := [
  .asg 3 (.sub (.call f_law_reasons [(.loc 0)]) (.neg (.loc 1))),
  .ifS (.cmp .is (.loc 3) .kN) [.ret (.kB false)] [],
  .ret (.cmp .eq (.comp false 1 (.loc 4) [.mk [4] true .vals [(.loc 3)] [(.and_ [(.cmp .gt (.sub (.attr (.loc 0) n_levels) (.blt .abs (.loc 4))) (.kI 0)), (.cmp .nin (.blt .abs (.loc 4)) (.loc 2))])]]) (.lst false []))]
noncomputable def d_law_is_implied : MFun := ⟨3, 1, [], b_law_is_implied⟩
noncomputable def b_law_resolved : List MS := [
  .asg 3 (.blt (.list false) (.loc 0)),
  .forS [4, 5] false .vals [(.loc 1)] [.asg 6 (.comp false 1 (.loc 7) [.mk [7] true .vals [(.loc 3)] [(.cmp .eq (.blt .abs (.loc 7)) (.loc 4))]]), .ifS (.or_ [(.cmp .ne (.blt .len (.loc 6)) (.kI 1)), (.cmp .nin (.neg (.sub (.loc 6) (.kI 0))) (.get (.loc 2) (.loc 5) (.lst false [])))]) [.ret .kN] [], .asg 3 (.comp false 1 (.loc 7) [.mk [7] true .vals [(.loc 3)] [(.cmp .ne (.loc 7) (.sub (.loc 6) (.kI 0)))]]), .asg 3 (.bin .add (.loc 3) (.comp false 1 (.loc 7) [.mk [7] true .vals [(.sub (.loc 2) (.loc 5))] [(.and_ [(.cmp .ne (.loc 7) (.neg (.sub (.loc 6) (.kI 0)))), (.cmp .nin (.loc 7) (.loc 3))])]]))],
  .ret (.loc 3)]
noncomputable def d_law_resolved : MFun := ⟨3, 4, [], b_law_resolved⟩
noncomputable def b_law : List MS := [
  .asg 1 (.dct [n_cells, n_spot] [(.comp false 1 (.bin .mod (.blt .abs (.loc 21)) (.kI 1000003)) [.mk [21] true .vals [(.slc (.loc 0) .kN (.kI 60))] []]), (.kI 0)]),
  .asgT [2, 3] (.call f_law_known [(.loc 1)]),
  .asg 4 (.comp false 1 (.loc 21) [.mk [21] true .vals [(.attr (.loc 2) n_trail)] [(.cmp .gt (.sub (.attr (.loc 2) n_levels) (.blt .abs (.loc 21))) (.kI 0))]]),
  .asg 5 (.comp false 1 (.neg (.loc 21)) [.mk [21] true .vals [(.loc 4)] [(.cmp .lt (.call f_law_figure [(.loc 1), (.kI 3)]) (.kI 2))]]),
  .ifS (.cmp .eq (.call f_law_figure [(.loc 1), (.kI 2)]) (.kI 1)) [.asg 5 (.rev (.loc 5))] [],
  .asg 6 (.comp false 1 (.neg (.loc 21)) [.mk [21] true .vals [(.loc 4)] [(.cmp .nin (.neg (.loc 21)) (.loc 5))]]),
  .asg 6 (.ite (.cmp .eq (.call f_law_figure [(.loc 1), (.kI 2)]) (.kI 1)) (.slc (.loc 6) .kN (.kI 1)) (.lst false [])),
  .asg 7 (.comp true 1 (.blt .abs (.loc 21)) [.mk [21] true .vals [(.slc (.attr (.loc 2) n_trail) .kN (.kI 1))] [(.and_ [(.cmp .eq (.sub (.attr (.loc 2) n_levels) (.blt .abs (.loc 21))) (.kI 0)), (.cmp .eq (.call f_law_figure [(.loc 1), (.kI 2)]) (.kI 1))])]]),
  .asg 8 (.bin .add (.comp false 1 (.blt .abs (.loc 21)) [.mk [21] true .vals [(.bin .add (.loc 5) (.loc 6))] []]) (.loc 7)),
  .forS [9] true .vals [(.loc 8)] [.asgS (.attr (.loc 2) n_seen) (.loc 9) (.kB true)],
  .asgT [10, 11, 12, 13] (.tup [(.blt (.list false) (.loc 7)), (.blt (.list false) (.attr (.loc 2) n_trail)), (.blt (.list false) (.loc 5)), (.lst true [])]),
  .ifS (.cmp .ne (.comp false 1 (.meth (.loc 2) n_is_implied [(.neg (.loc 21))]) [.mk [21] true .vals [(.loc 11)] []]) (.comp false 1 (.call f_law_is_implied [(.loc 2), (.neg (.loc 21)), (.loc 8)]) [.mk [21] true .vals [(.loc 11)] []])) [.ret (.kB false)] [],
  .asg 14 (.comp false 1 (.loc 21) [.mk [21] true .vals [(.loc 5)] [(.no (.truth (.call f_law_is_implied [(.loc 2), (.loc 21), (.loc 8)])))]]),
  .asg 15 (.comp false 1 (.loc 21) [.mk [21] true .vals [(.loc 5)] [(.cmp .nin (.loc 21) (.loc 14))]]),
  .asg 16 (.meth (.loc 2) n_shortened [(.loc 5), (.loc 7), (.loc 13)]),
  .ifS (.or_ [(.cmp .ne (.loc 16) (.loc 14)), (.cmp .ne (.loc 5) (.loc 12)), (.cmp .ne (.attr (.loc 2) n_trail) (.loc 11)), (.cmp .ne (.comp false 2 (.loc 21) [.mk [21, 22] false .vals [(.loc 13)] []]) (.comp false 1 (.blt .abs (.loc 21)) [.mk [21] true .vals [(.rev (.loc 11))] [(.cmp .isin (.neg (.loc 21)) (.loc 15))]]))]) [.ret (.kB false)] [],
  .asg 17 (.bin .add (.comp false 1 (.neg (.loc 21)) [.mk [21] true .vals [(.bin .add (.loc 16) (.loc 6))] []]) (.comp false 1 (.loc 21) [.mk [21] true .vals [(.loc 11)] [(.cmp .eq (.sub (.attr (.loc 2) n_levels) (.blt .abs (.loc 21))) (.kI 0))]])),
  .asg 18 (.call f_law_closed [(.loc 17), (.comp false 1 (.sub (.loc 3) (.loc 21)) [.mk [21] true .vals [(.loc 3)] []])]),
  .ifS (.cmp .ne (.comp false 1 (.loc 21) [.mk [21] true .vals [(.loc 15)] [(.cmp .nin (.neg (.loc 21)) (.loc 18))]]) (.lst false [])) [.ret (.kB false)] [],
  .asg 19 (.call f_law_resolved [(.bin .add (.loc 5) (.loc 6)), (.loc 13), (.loc 3)]),
  .ifS (.or_ [(.cmp .is (.loc 19) .kN), (.cmp .ne (.blt .sorted (.comp false 1 (.loc 21) [.mk [21] true .vals [(.loc 19)] [(.cmp .gt (.sub (.attr (.loc 2) n_levels) (.blt .abs (.loc 21))) (.kI 0))]])) (.blt .sorted (.bin .add (.loc 16) (.loc 6))))]) [.ret (.kB false)] [],
  .asg 20 (.blt .sorted (.comp false 1 (.blt .abs (.loc 21)) [.mk [21] true .vals [(.loc 19)] [(.and_ [(.cmp .eq (.sub (.attr (.loc 2) n_levels) (.blt .abs (.loc 21))) (.kI 0)), (.cmp .nin (.blt .abs (.loc 21)) (.loc 10))])]])),
  .ifS (.or_ [(.cmp .ne (.slc (.loc 7) .kN (.blt .len (.loc 10))) (.loc 10)), (.cmp .ne (.blt .sorted (.slc (.loc 7) (.blt .len (.loc 10)) .kN)) (.loc 20))]) [.ret (.kB false)] [],
  .ret (.cmp .eq (.comp false 1 (.loc 21) [.mk [21] true .rng [(.kI 1), (.bin .add (.meth (.loc 2) n_var_count []) (.kI 1))] [(.truth (.sub (.attr (.loc 2) n_seen) (.loc 21)))]]) (.blt .sorted (.bin .add (.loc 8) (.loc 20))))]
noncomputable def d_law : MFun := ⟨1, 20, [], b_law⟩
noncomputable def globsS : List (String × Nat) := [("_wall", f_wall), ("place_of", f_place_of), ("order_key", f_order_key), ("_law_figure", f_law_figure), ("_law_reasons", f_law_reasons), ("_law_known", f_law_known), ("_law_closed", f_law_closed), ("_law_is_implied", f_law_is_implied), ("_law_resolved", f_law_resolved), ("law", f_law), ("CoreHeap", c_CoreHeap), ("Trail", c_Trail), ("Search", c_Search)]
noncomputable def gintsS : List (String × Int) := [("FIRST_STEP", 1024), ("UNKNOWN", 0), ("TRUE", 1), ("FALSE", -1), ("NO_CLAUSE", -1)]
noncomputable def bltsS : List String := ["len", "abs", "int", "list", "tuple", "sorted", "range", "enumerate", "zip", "super"]
noncomputable def pFns : List (Nat × MFun × List String) := [(f_CoreHeap___init__, d_CoreHeap___init__, ["self", "limit"]), (f_CoreHeap_many, d_CoreHeap_many, ["self"]), (f_CoreHeap_is_held, d_CoreHeap_is_held, ["self", "var"]), (f_CoreHeap_is_before, d_CoreHeap_is_before, ["self", "one", "other"]), (f_CoreHeap_grow, d_CoreHeap_grow, ["self", "n"]), (f_CoreHeap_put, d_CoreHeap_put, ["self", "spot", "var"]), (f_CoreHeap_rise, d_CoreHeap_rise, ["self", "spot", "var", "above"]), (f_CoreHeap_push, d_CoreHeap_push, ["self", "var"]), (f_Trail___init__, d_Trail___init__, ["self", "hook"]), (f_Trail_grow, d_Trail_grow, ["self", "var"]), (f_Trail_var_count, d_Trail_var_count, ["self"]), (f_Trail_depth, d_Trail_depth, ["self"]), (f_Trail_spot_of, d_Trail_spot_of, ["self", "var"]), (f_Trail_by_spots, d_Trail_by_spots, ["self", "some"]), (f_Trail_store, d_Trail_store, ["self", "clause", "step", "can_drop", "number"]), (f_Trail_enqueue, d_Trail_enqueue, ["self", "lit", "number", "var"]), (f_Trail_new_level, d_Trail_new_level, ["self"]), (f_Search___init__, d_Search___init__, ["self", "proof", "hook"]), (f_Search_new_var, d_Search_new_var, ["self"]), (f_Search_is_implied, d_Search_is_implied, ["self", "lit", "number", "late", "var"]), (f_Search_shortened, d_Search_shortened, ["self", "rest", "roots", "pairs", "kept", "gone", "var", "number", "late"]), (f_law_figure, d_law_figure, ["well", "many", "spot"]), (f_law_reasons, d_law_reasons, ["core", "found", "lit", "number"]), (f_law_known, d_law_known, ["well", "core", "steps", "lap", "lit", "others", "turn", "late"]), (f_law_closed, d_law_closed, ["some", "clauses", "known", "is_new", "clause", "left"]), (f_law_is_implied, d_law_is_implied, ["core", "lit", "marked", "others"]), (f_law_resolved, d_law_resolved, ["start", "pairs", "steps", "here", "var", "step", "gone"]), (f_law, d_law, ["script", "well", "core", "steps", "above", "lot", "beside", "roots", "marked", "var", "before", "trail", "was", "pairs", "due", "gone", "kept", "stays", "follows", "end", "low"])]
noncomputable def pFn (f : Nat) : Option MFun := (pFns.lookup f).map (·.1)
noncomputable def pInits : List (Nat × Nat) := [(c_CoreHeap, f_CoreHeap___init__), (c_Trail, f_Trail___init__), (c_Search, f_Search___init__)]
noncomputable def pInit (c : Nat) : Option Nat := pInits.lookup c
noncomputable def pMths : List (Nat × Nat × Nat) := [(c_CoreHeap, n_many, f_CoreHeap_many), (c_CoreHeap, n_is_held, f_CoreHeap_is_held), (c_CoreHeap, n_is_before, f_CoreHeap_is_before), (c_CoreHeap, n_grow, f_CoreHeap_grow), (c_CoreHeap, n_put, f_CoreHeap_put), (c_CoreHeap, n_rise, f_CoreHeap_rise), (c_CoreHeap, n_push, f_CoreHeap_push), (c_Trail, n_grow, f_Trail_grow), (c_Trail, n_var_count, f_Trail_var_count), (c_Trail, n_depth, f_Trail_depth), (c_Trail, n_spot_of, f_Trail_spot_of), (c_Trail, n_by_spots, f_Trail_by_spots), (c_Trail, n_store, f_Trail_store), (c_Trail, n_place, f_Trail_place), (c_Trail, n_enqueue, f_Trail_enqueue), (c_Trail, n_new_level, f_Trail_new_level), (c_Search, n_new_var, f_Search_new_var), (c_Search, n_is_implied, f_Search_is_implied), (c_Search, n_shortened, f_Search_shortened), (c_Search, n_grow, f_Trail_grow), (c_Search, n_var_count, f_Trail_var_count), (c_Search, n_depth, f_Trail_depth), (c_Search, n_spot_of, f_Trail_spot_of), (c_Search, n_by_spots, f_Trail_by_spots), (c_Search, n_store, f_Trail_store), (c_Search, n_place, f_Trail_place), (c_Search, n_enqueue, f_Trail_enqueue), (c_Search, n_new_level, f_Trail_new_level)]
noncomputable def pMth (c m : Nat) : Option Nat := (pMths.find? fun p => p.1 == c && p.2.1 == m).map (·.2.2)
noncomputable def pAtrs : List (Nat × Nat) := [(c_CoreHeap, n_limit), (c_CoreHeap, n_step), (c_CoreHeap, n_activity), (c_CoreHeap, n_heap), (c_CoreHeap, n_place), (c_Trail, n_hook), (c_Search, n_hook), (c_Trail, n_assigns), (c_Search, n_assigns), (c_Trail, n_levels), (c_Search, n_levels), (c_Trail, n_reasons), (c_Search, n_reasons), (c_Trail, n_spots), (c_Search, n_spots), (c_Trail, n_phases), (c_Search, n_phases), (c_Trail, n_watches), (c_Search, n_watches), (c_Trail, n_heap), (c_Search, n_heap), (c_Trail, n_trail), (c_Search, n_trail), (c_Trail, n_starts), (c_Search, n_starts), (c_Trail, n_head), (c_Search, n_head), (c_Trail, n_told), (c_Search, n_told), (c_Trail, n_clauses), (c_Search, n_clauses), (c_Trail, n_steps), (c_Search, n_steps), (c_Trail, n_droppable), (c_Search, n_droppable), (c_Trail, n_activities), (c_Search, n_activities), (c_Trail, n_learnt_count), (c_Search, n_learnt_count), (c_Search, n_proof), (c_Search, n_seen), (c_Search, n_unit_steps), (c_Search, n_rooted), (c_Search, n_is_ok), (c_Search, n_empty_step), (c_Search, n_failed), (c_Search, n_failed_at), (c_Search, n_conflict_limit), (c_Search, n_conflicts), (c_Search, n_decisions)]
noncomputable def pAtr (c k : Nat) : Bool := pAtrs.contains (c, k)
noncomputable def prog : Prog := ⟨pFn, pInit, pMth, pAtr⟩
end Mine
end
section
namespace Mine
open PySem
noncomputable def fnD (n : String) : List Stmt → Option (Arguments × Scope × List Stmt)
  | [] => none
  | .FunctionDef x args body _ _ _ scope _ _ _ :: r => if x = (n : Str) then some (args, scope, body) else fnD n r
  | _ :: r => fnD n r
noncomputable def clD (n : String) : List Stmt → Option (List Stmt)
  | [] => none
  | .ClassDef x _ _ body _ _ _ _ _ _ _ :: r => if x = (n : Str) then some body else clD n r
  | _ :: r => clD n r
noncomputable def qD (q : List String) (b : List Stmt) : Option (Arguments × Scope × List Stmt) := match q with
  | [f] => fnD f b
  | [c, f] => (clD c b).bind (fnD f)
  | _ => none
noncomputable def sta : Sta := ⟨tabS.map Str.ofString, globsS.map (fun p => (Str.ofString p.1, p.2)), gintsS.map (fun p => (Str.ofString p.1, p.2)), bltsS.map Str.ofString, [f_Trail___init__], true⟩
noncomputable def chkQ (f : MFun) (nms : List String) (q : List String) : Bool := match qD q PySem.Challenge.pw_qz0032_01.main.body with
  | some (a, sc, b) => chkF sta f (nms.map Str.ofString) a sc b
  | none => false
end Mine
end
section
set_option autoImplicit false
set_option linter.unusedVariables false
set_option linter.unusedSectionVars false
namespace Mine
open PySem

theorem ft {P : Prop} (h : false = true) : P := nomatch h
theorem ott {a b : Bool} (h : (a && b) = true) : a = true ∧ b = true := Bool.and_eq_true_iff.mp h
theorem obk {α β : Type} {o : Option α} {f : α → Option β} {b : β} {P : Prop} (h : o.bind f = some b) (g : ∀ a, o = some a → f a = some b → P) : P := (Option.bind_eq_some_iff.mp h).elim fun a q => g a q.1 q.2
theorem omk {α β : Type} {o : Option α} {f : α → β} {b : β} {P : β → Prop} (h : o.map f = some b) (g : ∀ a, o = some a → P (f a)) : P b := (Option.map_eq_some_iff.mp h).elim fun a q => q.2 ▸ g a q.1
theorem oif {α : Type} {p : Prop} [Decidable p] {a : Option α} {b : α} {P : Prop} (h : (if p then a else none) = some b) (g : p → a = some b → P) : P := by
  by_cases hp : p
  · rw [if_pos hp] at h; exact g hp h
  · rw [if_neg hp] at h; cases h
theorem bmf {α β : Type} {o : Option (α × GH)} (F : α → GH → Option β) (K : β → MV) {x : MV} {G' : GH} {P : MV → Prop} (h : (o.bind fun q => (F q.1 q.2).map fun b => (K b, q.2)) = some (x, G')) (g : ∀ w b, o = some (w, G') → F w G' = some b → P (K b)) : P x := by
  obtain ⟨⟨w, G1⟩, h1, h2⟩ := Option.bind_eq_some_iff.mp h
  obtain ⟨b, h3, h4⟩ := Option.map_eq_some_iff.mp h2
  cases h4
  exact g w b h1 h3
theorem osome {α β : Type} {a b : α} {G G' : β} (h : some (a, G) = some (b, G')) : a = b ∧ G = G' := by cases h; exact ⟨rfl, rfl⟩
theorem opk {α β : Type} {a b : α} {G G' : β} {P : α → β → Prop} (h : some (a, G) = some (b, G')) (g : P a G) : P b G' := by cases h; exact g
theorem opk3 {α β γ : Type} {a b : α} {G G' : β} {H H' : γ} {P : α → β → γ → Prop} (h : some (a, G, H) = some (b, G', H')) (g : P a G H) : P b G' H' := by cases h; exact g

section
variable {X : Ctx} {ρ ρ' : Lo} {G G' : GH} {v x : MV} {fl : Fl} {P : Prop} {Px : MV → Prop}
theorem onBk {β : Type} {o : Option (MV × GH)} {t f : GH → Option β} {r : β} (h : onB o t f = some r) (g1 : ∀ G1, o = some (.bool true, G1) → t G1 = some r → P) (g2 : ∀ G1, o = some (.bool false, G1) → f G1 = some r → P) : P :=
  obk h fun p h1 h => obk h fun b h2 h => by
    obtain ⟨v, G1⟩ := p
    refine truthO_k (P := fun v => o = some (v, G1) → P) h2 (fun h1 => ?_) h1
    cases b with
    | true => exact g1 G1 h1 h
    | false => exact g2 G1 h1 h
theorem iE_loc {i : Nat} (h : mE X (.loc i) ρ G = some (x, G')) : ρ[i]? = some (some x) ∧ G = G' :=
  obk (o := ρ[i]?) (f := fun v => v.map (·, G)) h fun v h1 h => by
    obtain ⟨w, h2, h3⟩ := Option.map_eq_some_iff.mp h
    cases h3
    exact ⟨h1.trans (congrArg some h2), rfl⟩
theorem iE_attr {e : ME} {k : Nat} (h : mE X (.attr e k) ρ G = some (x, G')) (g : ∀ v, mE X e ρ G = some (v, G') → aGet X G' k v = some x → P) : P :=
  bmf (fun v G => aGet X G k v) id (P := fun x => (∀ v, mE X e ρ G = some (v, G') → aGet X G' k v = some x → P) → P) h (fun w b h1 h2 g => g w h1 h2) g
theorem iE_sub {e i : ME} (h : mE X (.sub e i) ρ G = some (x, G')) (g : ∀ v G1 w, mE X e ρ G = some (v, G1) → mE X i ρ G1 = some (w, G') → subO G' v w = some x → P) : P :=
  obk (o := mE X e ρ G) h fun p h1 h => bmf (fun w G => subO G p.1 w) id (P := fun x => (∀ v G1 w, mE X e ρ G = some (v, G1) → mE X i ρ G1 = some (w, G') → subO G' v w = some x → P) → P) h (fun w b h2 h3 g => g p.1 p.2 w h1 h2 h3) g
theorem iE_bin {o : B2} {a b : ME} (h : mE X (.bin o a b) ρ G = some (x, G')) (g : ∀ v G1 w, mE X a ρ G = some (v, G1) → mE X b ρ G1 = some (w, G') → binO G' o v w = some x → P) : P :=
  obk (o := mE X a ρ G) h fun p h1 h => bmf (fun w G => binO G o p.1 w) id (P := fun x => (∀ v G1 w, mE X a ρ G = some (v, G1) → mE X b ρ G1 = some (w, G') → binO G' o v w = some x → P) → P) h (fun w b h2 h3 g => g p.1 p.2 w h1 h2 h3) g
theorem iE_slc {e lo hi : ME} (h : mE X (.slc e lo hi) ρ G = some (x, G')) (g : ∀ v G1 a G2 b, mE X e ρ G = some (v, G1) → mE X lo ρ G1 = some (a, G2) → mE X hi ρ G2 = some (b, G') → slcO G' v a b = some x → P) : P :=
  obk (o := mE X e ρ G) h fun p h1 h => obk (o := mE X lo ρ p.2) h fun q h2 h => bmf (fun w G => slcO G p.1 q.1 w) id (P := fun x => (∀ v G1 a G2 b, mE X e ρ G = some (v, G1) → mE X lo ρ G1 = some (a, G2) → mE X hi ρ G2 = some (b, G') → slcO G' v a b = some x → P) → P) h (fun w b h3 h4 g => g p.1 p.2 q.1 q.2 w h1 h2 h3 h4) g
theorem iE_rev {e : ME} (h : mE X (.rev e) ρ G = some (x, G')) (g : ∀ v, mE X e ρ G = some (v, G') → revO G' v = some x → P) : P :=
  bmf (fun v G => revO G v) id (P := fun x => (∀ v, mE X e ρ G = some (v, G') → revO G' v = some x → P) → P) h (fun w b h1 h2 g => g w h1 h2) g
theorem iE_neg {e : ME} (h : mE X (.neg e) ρ G = some (x, G')) (g : ∀ v, mE X e ρ G = some (v, G') → negO v = some x → P) : P :=
  bmf (fun v _ => negO v) id (P := fun x => (∀ v, mE X e ρ G = some (v, G') → negO v = some x → P) → P) h (fun w b h1 h2 g => g w h1 h2) g
theorem iE_no {e : ME} (h : mE X (.no e) ρ G = some (x, G')) (g : ∀ b, mE X e ρ G = some (.bool b, G') → Px (.bool (!b))) : Px x :=
  bmf (fun v _ => truthO v) (fun b => .bool (!b)) h fun w b h1 h2 => truthO_k (P := fun w => mE X e ρ G = some (w, G') → Px (.bool (!b))) h2 (g b) h1
theorem iE_truth {e : ME} (h : mE X (.truth e) ρ G = some (x, G')) (g : ∀ b, mE X e ρ G = some (.bool b, G') → Px (.bool b)) : Px x :=
  bmf (fun v _ => truthO v) (fun b => .bool b) h fun w b h1 h2 => truthO_k (P := fun w => mE X e ρ G = some (w, G') → Px (.bool b)) h2 (g b) h1
theorem iE_cmp {o : C2} {a b : ME} (h : mE X (.cmp o a b) ρ G = some (x, G')) (g : ∀ v G1 w r, mE X a ρ G = some (v, G1) → mE X b ρ G1 = some (w, G') → cmpO G' o v w = some r → Px (.bool r)) : Px x :=
  obk (o := mE X a ρ G) h fun p h1 h => bmf (fun w G => cmpO G o p.1 w) (fun b => .bool b) h fun w b h2 h3 => g p.1 p.2 w b h1 h2 h3
theorem iE_cmp2 {o1 o2 : C2} {a b c : ME} (h : mE X (.cmp2 o1 o2 a b c) ρ G = some (x, G'))
    (g1 : ∀ v G1 w G2 y r, mE X a ρ G = some (v, G1) → mE X b ρ G1 = some (w, G2) → cmpO G2 o1 v w = some true → mE X c ρ G2 = some (y, G') → cmpO G' o2 w y = some r → Px (.bool r))
    (g2 : ∀ v G1 w, mE X a ρ G = some (v, G1) → mE X b ρ G1 = some (w, G') → cmpO G' o1 v w = some false → Px (.bool false)) : Px x :=
  obk (o := mE X a ρ G) h fun p h1 h => obk (o := mE X b ρ p.2) h fun q h2 h => by
    have key : ∀ {o : Option Bool} {G2 G3 : GH} {t : Bool}, (o.map fun b => (MV.bool b, G2)) = some (MV.bool t, G3) → o = some t ∧ G2 = G3 := fun {o} _ _ _ h => by
      cases o with
      | none => exact noS h
      | some b => cases h; exact ⟨rfl, rfl⟩
    refine onBk h (fun G2 h3 h => ?_) fun G2 h3 h => ?_
    · obtain ⟨k3, rfl⟩ := key h3
      exact bmf (fun w G => cmpO G o2 q.1 w) (fun b => .bool b) h fun w b h4 h5 => g1 p.1 p.2 q.1 q.2 w b h1 h2 k3 h4 h5
    · obtain ⟨k3, rfl⟩ := key h3
      exact opk (P := fun x G' => (mE X b ρ p.2 = some (q.1, G') → cmpO G' o1 p.1 q.1 = some false → Px (.bool false)) → Px x) h (fun g => g h2 k3) (g2 p.1 p.2 q.1 h1)
theorem iE_ite {c a b : ME} {r : MV × GH} (h : mE X (.ite c a b) ρ G = some r) (g1 : ∀ G1, mE X c ρ G = some (.bool true, G1) → mE X a ρ G1 = some r → P) (g2 : ∀ G1, mE X c ρ G = some (.bool false, G1) → mE X b ρ G1 = some r → P) : P := onBk h g1 g2
theorem iAnd {e : ME} {r : List ME} (h : mAnd X (e :: r) ρ G = some (x, G')) (g1 : ∀ G1, mE X e ρ G = some (.bool true, G1) → mAnd X r ρ G1 = some (x, G') → Px x) (g2 : mE X e ρ G = some (.bool false, G') → Px (.bool false)) : Px x :=
  onBk h g1 fun G1 h1 h => opk (P := fun x G' => (mE X e ρ G = some (.bool false, G') → Px (.bool false)) → Px x) h (fun g => g h1) g2
theorem iOr {e : ME} {r : List ME} (h : mOr X (e :: r) ρ G = some (x, G')) (g1 : mE X e ρ G = some (.bool true, G') → Px (.bool true)) (g2 : ∀ G1, mE X e ρ G = some (.bool false, G1) → mOr X r ρ G1 = some (x, G') → Px x) : Px x :=
  onBk h (fun G1 h1 h => opk (P := fun x G' => (mE X e ρ G = some (.bool true, G') → Px (.bool true)) → Px x) h (fun g => g h1) g1) g2
theorem iEs {e : ME} {r : List ME} {vs : List MV} {Pv : List MV → Prop} (h : mEs X (e :: r) ρ G = some (vs, G')) (g : ∀ v G1 ws, mE X e ρ G = some (v, G1) → mEs X r ρ G1 = some (ws, G') → Pv (v :: ws)) : Pv vs :=
  obk (o := mE X e ρ G) h fun p h1 h => by
    obtain ⟨⟨ws, G2⟩, h2, h3⟩ := Option.map_eq_some_iff.mp h
    cases h3
    exact g p.1 p.2 ws h1 h2
theorem iE_tup {es : List ME} (h : mE X (.tup es) ρ G = some (x, G')) (g : ∀ vs, mEs X es ρ G = some (vs, G') → Px (.tup vs)) : Px x := by
  obtain ⟨⟨ws, G2⟩, h2, h3⟩ := Option.map_eq_some_iff.mp (show (mEs X es ρ G).map (fun p => (MV.tup p.1, p.2)) = some (x, G') from h)
  cases h3
  exact g ws h2
theorem iE_lst {m : Bool} {es : List ME} {r : MV × GH} (h : mE X (.lst m es) ρ G = some r) (g : ∀ vs G1, mEs X es ρ G = some (vs, G1) → r = mkL m vs G1 → P) : P :=
  (Option.map_eq_some_iff.mp (show (mEs X es ρ G).map (fun p => mkL m p.1 p.2) = some r from h)).elim fun p q => g p.1 p.2 q.1 q.2.symm
theorem iE_dct {ks : List Nat} {es : List ME} {r : MV × GH} (h : mE X (.dct ks es) ρ G = some r) (g : ∀ vs G1, mEs X es ρ G = some (vs, G1) → ks.length = vs.length → r = (.ref G1.length, G1 ++ [.sd (ks.zip vs)]) → P) : P :=
  obk (o := mEs X es ρ G) h fun p h1 h => oif h fun h2 h => g p.1 p.2 h1 h2 (Option.some.inj h).symm
theorem iE_comp {m : Bool} {k : Nat} {elt : ME} {gs : List MG} {r : MV × GH} (h : mE X (.comp m k elt gs) ρ G = some r) (g : ∀ l G1, mC X gs (fun ρ' G' => mE X elt ρ' G') (ρ ++ List.replicate k none) G [] = some (l, G1) → l.length < 4096 → r = mkL m l G1 → P) : P :=
  obk (o := mC X gs (fun ρ' G' => mE X elt ρ' G') (ρ ++ List.replicate k none) G []) h fun p h1 h => oif h fun h2 h => g p.1 p.2 h1 h2 (Option.some.inj h).symm
theorem iE_call {f : Nat} {es : List ME} {r : MV × GH} (h : mE X (.call f es) ρ G = some r) (g : ∀ vs G1, mEs X es ρ G = some (vs, G1) → X.call f vs G1 = some r → P) : P :=
  obk (o := mEs X es ρ G) h fun p h1 h => g p.1 p.2 h1 h
theorem iE_new {c : Nat} {es : List ME} (h : mE X (.new c es) ρ G = some (x, G')) (g : ∀ vs G1 f, mEs X es ρ G = some (vs, G1) → X.init c = some f → X.call f (.obj c G1.length :: vs) (G1 ++ [.sd []]) = some (.none, G') → Px (.obj c G1.length)) : Px x :=
  obk (o := mEs X es ρ G) h fun p h1 h => obk (o := X.init c) h fun f h2 h => obk (o := X.call f (.obj c p.2.length :: p.1) (p.2 ++ [.sd []])) h fun q h3 h => oif h fun h4 h => by
    refine opk (P := fun x G' => (∀ vs G1 f, mEs X es ρ G = some (vs, G1) → X.init c = some f → X.call f (.obj c G1.length :: vs) (G1 ++ [.sd []]) = some (.none, G') → Px (.obj c G1.length)) → Px x) h (fun g => g p.1 p.2 f h1 h2 ?_) g
    exact isN_k (P := fun v => X.call f (.obj c p.2.length :: p.1) (p.2 ++ [.sd []]) = some (v, q.2) → X.call f (.obj c p.2.length :: p.1) (p.2 ++ [.sd []]) = some (.none, q.2)) h4 id h3
theorem iMth {m c i f : Nat} (h : mthO X G m c i = some f) (g : ∀ l, X.mth c m = some f → G[i]? = some (.sd l) → l.lookup m = none → P) : P :=
  obk (o := X.mth c m) h fun f h1 h => obk (o := hS G i) h fun l h2 h => oif h fun h3 h => g l (h1.trans h) (hS_at h2) h3
theorem iE_meth {e : ME} {m : Nat} {es : List ME} {r : MV × GH} (h : mE X (.meth e m es) ρ G = some r) (g : ∀ c i G1 f l vs G2, mE X e ρ G = some (.obj c i, G1) → X.mth c m = some f → G1[i]? = some (.sd l) → l.lookup m = none → mEs X es ρ G1 = some (vs, G2) → X.call f (.obj c i :: vs) G2 = some r → P) : P :=
  obk (o := mE X e ρ G) h fun p h1 h => obk (o := iObj p.1) h fun o h2 h => obk (o := mthO X p.2 m o.1 o.2) h fun f h3 h => obk (o := mEs X es ρ p.2) h fun q h4 h => iMth h3 fun l h5 h6 h7 =>
    g o.1 o.2 p.2 f l q.1 q.2 (iObj_k (P := fun v => mE X e ρ G = some (v, p.2) → mE X e ρ G = some (.obj o.1 o.2, p.2)) h2 id h1) h5 h6 h7 h4 h
theorem iE_blt {b : Bl} {a : ME} {r : MV × GH} (h : mE X (.blt b a) ρ G = some r) (g : ∀ v G1, mE X a ρ G = some (v, G1) → bltO G1 b v = some r → P) : P :=
  obk (o := mE X a ρ G) h fun p h1 h => g p.1 p.2 h1 h
theorem iE_app {e a : ME} (h : mE X (.app e a) ρ G = some (x, G')) (g : ∀ v G1 y G2, mE X e ρ G = some (v, G1) → (lsO G1 v).isSome = true → mE X a ρ G1 = some (y, G2) → appO G2 v y = some G' → Px .none) : Px x :=
  obk (o := mE X e ρ G) h fun p h1 h => oif h fun h2 h => obk (o := mE X a ρ p.2) h fun q h3 h => (Option.map_eq_some_iff.mp h).elim fun G3 h =>
    opk (P := fun x G' => (appO q.2 p.1 q.1 = some G' → Px .none) → Px x) (congrArg some h.2) (fun g => g h.1) (g p.1 p.2 q.1 q.2 h1 h2 h3)
theorem iE_pop {e : ME} {r : MV × GH} (h : mE X (.pop e) ρ G = some r) (g : ∀ v G1, mE X e ρ G = some (v, G1) → popO G1 v = some r → P) : P :=
  obk (o := mE X e ρ G) h fun p h1 h => g p.1 p.2 h1 h
theorem iE_get {e a b : ME} (h : mE X (.get e a b) ρ G = some (x, G')) (g : ∀ v G1 k G2 y, mE X e ρ G = some (v, G1) → isNd G1 v = true → mE X a ρ G1 = some (k, G2) → mE X b ρ G2 = some (y, G') → getO G' v k y = some x → P) : P :=
  obk (o := mE X e ρ G) h fun p h1 h => oif h fun h2 h => obk (o := mE X a ρ p.2) h fun q h3 h => bmf (fun w G => getO G p.1 q.1 w) id (P := fun x => (∀ y, mE X b ρ q.2 = some (y, G') → getO G' p.1 q.1 y = some x → P) → P) h (fun w b h2 h3 g => g w h2 h3) (g p.1 p.2 q.1 q.2 · h1 h2 h3)

variable {Pf : Fl → Prop} {Pl : Fl → Lo → Prop}
theorem iS_expr {e : ME} (h : mS X (.expr e) ρ G = some (fl, ρ', G')) (g : ∀ v, mE X e ρ G = some (v, G') → Pl .next ρ) : Pl fl ρ' := by
  obtain ⟨⟨w, G2⟩, h2, h3⟩ := Option.map_eq_some_iff.mp (show (mE X e ρ G).map (fun p => (Fl.next, ρ, p.2)) = _ from h)
  cases h3
  exact g w h2
theorem iS_asg {i : Nat} {e : ME} (h : mS X (.asg i e) ρ G = some (fl, ρ', G')) (g : ∀ v, mE X e ρ G = some (v, G') → set1 ρ i v = some ρ' → Pf .next) : Pf fl :=
  obk (o := mE X e ρ G) h fun p h1 h => (Option.map_eq_some_iff.mp h).elim fun ρ1 h => opk3 (P := fun fl ρ' G' => (mE X e ρ G = some (p.1, G') → set1 ρ i p.1 = some ρ' → Pf .next) → Pf fl) (congrArg some h.2) (fun g => g h1 h.1) (g p.1)
theorem otup {p : MV × GH} {l : List MV} {o : Option (MV × GH)} (h : o = some p) (h2 : iTup p.1 = some l) : o = some (.tup l, p.2) :=
  iTup_k (P := fun v => o = some (v, p.2) → o = some (.tup l, p.2)) h2 id h
theorem iS_asgT {is : List Nat} {e : ME} (h : mS X (.asgT is e) ρ G = some (fl, ρ', G')) (g : ∀ l, mE X e ρ G = some (.tup l, G') → setAll ρ is l = some ρ' → Pf .next) : Pf fl :=
  obk (o := mE X e ρ G) h fun p h1 h => obk (o := iTup p.1) h fun l h2 h => (Option.map_eq_some_iff.mp h).elim fun ρ1 h => opk3 (P := fun fl ρ' G' => (mE X e ρ G = some (.tup l, G') → setAll ρ is l = some ρ' → Pf .next) → Pf fl) (congrArg some h.2) (fun g => g (otup h1 h2) h.1) (g l)
theorem iS_asgW {is : List Nat} {e : ME} (h : mS X (.asgW is e) ρ G = some (fl, ρ', G')) (g : ∀ l, mE X e ρ G = some (.tup l, G') → is.length = l.length → setAll ρ is.reverse l.reverse = some ρ' → Pf .next) : Pf fl :=
  obk (o := mE X e ρ G) h fun p h1 h => obk (o := iTup p.1) h fun l h2 h => oif h fun h3 h => (Option.map_eq_some_iff.mp h).elim fun ρ1 h => opk3 (P := fun fl ρ' G' => (mE X e ρ G = some (.tup l, G') → is.length = l.length → setAll ρ is.reverse l.reverse = some ρ' → Pf .next) → Pf fl) (congrArg some h.2) (fun g => g (otup h1 h2) h3 h.1) (g l)
theorem iS_asgA {e : ME} {k : Nat} {q : ME} (h : mS X (.asgA q k e) ρ G = some (fl, ρ', G')) (g : ∀ y G1 v G2, mE X e ρ G = some (y, G1) → mE X q ρ G1 = some (v, G2) → aSet X G2 k y v = some G' → Pl .next ρ) : Pl fl ρ' :=
  obk (o := mE X e ρ G) h fun p h1 h => obk (o := mE X q ρ p.2) h fun r h2 h => (Option.map_eq_some_iff.mp h).elim fun G3 h => opk3 (P := fun fl ρ' G' => (aSet X r.2 k p.1 r.1 = some G' → Pl .next ρ) → Pl fl ρ') (congrArg some h.2) (fun g => g h.1) (g p.1 p.2 r.1 r.2 h1 h2)
theorem iS_asgS {e q i : ME} (h : mS X (.asgS q i e) ρ G = some (fl, ρ', G')) (g : ∀ y G1 v G2 w G3, mE X e ρ G = some (y, G1) → mE X q ρ G1 = some (v, G2) → mE X i ρ G2 = some (w, G3) → subSet G3 v w y = some G' → Pl .next ρ) : Pl fl ρ' :=
  obk (o := mE X e ρ G) h fun p h1 h => obk (o := mE X q ρ p.2) h fun r h2 h => obk (o := mE X i ρ r.2) h fun t h3 h => (Option.map_eq_some_iff.mp h).elim fun G3 h => opk3 (P := fun fl ρ' G' => (subSet t.2 r.1 t.1 p.1 = some G' → Pl .next ρ) → Pl fl ρ') (congrArg some h.2) (fun g => g h.1) (g p.1 p.2 r.1 r.2 t.1 t.2 h1 h2 h3)
theorem iS_if {c : ME} {a b : List MS} {o : Fl × Lo × GH} (h : mS X (.ifS c a b) ρ G = some o) (g1 : ∀ G1, mE X c ρ G = some (.bool true, G1) → mSs X a ρ G1 = some o → P) (g2 : ∀ G1, mE X c ρ G = some (.bool false, G1) → mSs X b ρ G1 = some o → P) : P := onBk h g1 g2
theorem iS_ret {e : ME} (h : mS X (.ret e) ρ G = some (fl, ρ', G')) (g : ∀ v, mE X e ρ G = some (v, G') → Pl (.ret v) ρ) : Pl fl ρ' := by
  obtain ⟨⟨w, G2⟩, h2, h3⟩ := Option.map_eq_some_iff.mp (show (mE X e ρ G).map (fun p => (Fl.ret p.1, ρ, p.2)) = _ from h)
  cases h3
  exact g w h2
theorem iS_for {tgt : List Nat} {one : Bool} {k : SK} {srcs : List ME} {b : List MS} {o : Fl × Lo × GH} (h : mS X (.forS tgt one k srcs b) ρ G = some o) (g : ∀ vs G1 gd items, mEs X srcs ρ G = some (vs, G1) → srcO G1 k vs = some (gd, items) →
    loopS gd (fun v ρ G => (asgO one tgt v ρ).bind fun ρ' => mSs X b ρ' G) items ρ G1 = some o → P) : P :=
  obk (o := mEs X srcs ρ G) h fun p h1 h => obk (o := srcO p.2 k p.1) h fun t h2 h => g p.1 p.2 t.1 t.2 h1 h2 h
end
end Mine
end
section
set_option autoImplicit false
set_option linter.unusedVariables false
set_option linter.unusedSectionVars false
namespace Mine
open PySem
theorem beq_ok {α : Type} [BEq α] [LawfulBEq α] {a b : α} (h : (a == b) = true) : a = b := eq_of_beq h
theorem ak {a b : Bool} {P : Prop} (h : (a && b) = true) (g : a = true → b = true → P) : P := g (Bool.and_eq_true_iff.mp h).1 (Bool.and_eq_true_iff.mp h).2
section
variable {S : Sta} {sc : Sp} {nm : Nm} {x : PySem.Expr} {P : PySem.Expr → Prop}
theorem cE_kN (h : chkE S .kN sc nm x = true) (g : ∀ k p, P (.Constant .none k p)) : P x :=
  kECon h fun _ k p h => kCNon (P := fun c => P (.Constant c k p)) h fun _ => g k p
theorem cE_kB {b : Bool} (h : chkE S (.kB b) sc nm x = true) (g : ∀ k p, P (.Constant (.bool b) k p)) : P x :=
  kECon h fun _ k p h => kCBoo (P := fun c => P (.Constant c k p)) h fun _ h => kEq (P := fun b => P (.Constant (.bool b) k p)) h (g k p)
theorem cE_kI {i : Int} (h : chkE S (.kI i) sc nm x = true) (g : ∀ k p, P (.Constant (.int i) k p)) : P x :=
  kECon h fun _ k p h => kCInt (P := fun c => P (.Constant c k p)) h fun _ h => kEq (P := fun b => P (.Constant (.int b) k p)) h (g k p)
theorem cE_kS {j : Nat} (h : chkE S (.kS j) sc nm x = true) (g : ∀ n k p, S.tab[j]? = some n → P (.Constant (.str n) k p)) : P x :=
  kECon h fun _ k p h => kCStr (P := fun c => P (.Constant c k p)) h fun n h => g n k p (beq_ok h)
theorem cE_loc {i : Nat} (h : chkE S (.loc i) sc nm x = true) (g : ∀ n p, nm[i]? = some (some n) → locK sc n = true → (n == ("__debug__" : Str)) = false → P (.Name n p)) : P x :=
  kENam h fun n p h => ak h fun h h3 => ak h fun h1 h2 => g n p (beq_ok h1) h2 ((Bool.not_eq_true' _).mp h3)
theorem cE_gI {k : Nat} {i : Int} (h : chkE S (.gI k i) sc nm x = true) (g : ∀ n p, gloK sc n = true → S.gints.lookup n = some i → P (.Name n p)) : P x :=
  kENam h fun n p h => ak h fun h h3 => ak h fun _ h2 => g n p h2 (beq_ok h3)
theorem cE_attr {a : ME} {k : Nat} (h : chkE S (.attr a k) sc nm x = true) (g : ∀ y n p, chkE S a sc nm y = true → S.tab[k]? = some n → noSup y = true → P (.Attribute y n p)) : P x :=
  kEAtt h fun y n p h => ak h fun h h3 => ak h fun h1 h2 => g y n p h1 (beq_ok h2) h3
theorem cE_sub {a i : ME} (h : chkE S (.sub a i) sc nm x = true) (g : ∀ y z p, chkE S a sc nm y = true → chkE S i sc nm z = true → P (.Subscript y z p)) : P x :=
  kESub h fun y z p h => ak h fun h1 h2 => g y z p h1 h2
theorem cE_bin {o : B2} {a b : ME} (h : chkE S (.bin o a b) sc nm x = true) (g : ∀ l op r p, b2Ok o op = true → chkE S a sc nm l = true → chkE S b sc nm r = true → P (.BinOp l op r p)) : P x :=
  kEBin h fun l op r p h => ak h fun h h3 => ak h fun h1 h2 => g l op r p h1 h2 h3
theorem cE_neg {a : ME} (h : chkE S (.neg a) sc nm x = true) (g : ∀ y p, chkE S a sc nm y = true → P (.UnaryOp .USub y p)) : P x :=
  kEUna h fun _ y p h => ak h fun h1 h2 => kEq (P := fun o => P (.UnaryOp o y p)) h1 (g y p h2)
theorem cE_cmp {o : C2} {a b : ME} (h : chkE S (.cmp o a b) sc nm x = true) (g : ∀ l op r p, c2Ok o op = true → chkE S a sc nm l = true → chkE S b sc nm r = true → P (.Compare l [op] [r] p)) : P x :=
  kECmp h fun l os rs p h => k1 (P := fun os => P (.Compare l os rs p)) h fun op h => k1 (P := fun rs => P (.Compare l [op] rs p)) h fun r h => ak h fun h h3 => ak h fun h1 h2 => g l op r p h1 h2 h3
theorem cE_ite {c a b : ME} (h : chkE S (.ite c a b) sc nm x = true) (g : ∀ t y z p, chkT S c sc nm t = true → chkE S a sc nm y = true → chkE S b sc nm z = true → P (.IfExp t y z p)) : P x :=
  kEIte h fun t y z p h => ak h fun h h3 => ak h fun h1 h2 => g t y z p h1 h2 h3
theorem cT_cmp {o : C2} {a b : ME} (h : chkT S (.cmp o a b) sc nm x = true) (g : ∀ l op r p, c2Ok o op = true → chkE S a sc nm l = true → chkE S b sc nm r = true → P (.Compare l [op] [r] p)) : P x := cE_cmp (o := o) (a := a) (b := b) h g
theorem cT_cmp2 {o1 o2 : C2} {a b c : ME} (h : chkT S (.cmp2 o1 o2 a b c) sc nm x = true) (g : ∀ l op1 op2 r1 r2 p, c2Ok o1 op1 = true → c2Ok o2 op2 = true → chkE S a sc nm l = true → chkE S b sc nm r1 = true → chkE S c sc nm r2 = true → P (.Compare l [op1, op2] [r1, r2] p)) : P x :=
  kECmp h fun l os rs p h => k2 (P := fun os => P (.Compare l os rs p)) h fun op1 op2 h => k2 (P := fun rs => P (.Compare l [op1, op2] rs p)) h fun r1 r2 h => ak h fun h h5 => ak h fun h h4 => ak h fun h h3 => ak h fun h1 h2 => g l op1 op2 r1 r2 p h1 h2 h3 h4 h5
theorem cT_no {a : ME} (h : chkT S (.no a) sc nm x = true) (g : ∀ y p, chkT S a sc nm y = true → P (.UnaryOp .Not y p)) : P x :=
  kEUna h fun _ y p h => ak h fun h1 h2 => kEq (P := fun o => P (.UnaryOp o y p)) h1 (g y p h2)
theorem cT_and {es : List ME} (h : chkT S (.and_ es) sc nm x = true) (g : ∀ ys p, chkTs S es sc nm ys = true → P (.BoolOp .And ys p)) : P x :=
  kEBoo h fun _ y p h => ak h fun h1 h2 => kEq (P := fun o => P (.BoolOp o y p)) h1 (g y p h2)
theorem cT_or {es : List ME} (h : chkT S (.or_ es) sc nm x = true) (g : ∀ ys p, chkTs S es sc nm ys = true → P (.BoolOp .Or ys p)) : P x :=
  kEBoo h fun _ y p h => ak h fun h1 h2 => kEq (P := fun o => P (.BoolOp o y p)) h1 (g y p h2)
theorem cT_truth {a : ME} (h : chkT S (.truth a) sc nm x = true) : chkE S a sc nm x = true ∧ plainT x = true := ott h
end
end Mine
end
section
set_option autoImplicit false
set_option linter.unusedVariables false
set_option linter.unusedSectionVars false
namespace Mine
open PySem
section
variable {S : Sta} {sc : Sp} {nm : Nm} {x : PySem.Expr} {P : PySem.Expr → Prop}
theorem cE_tup {es : List ME} (h : chkE S (.tup es) sc nm x = true) (g : ∀ xs k p, chkEs S es sc nm xs = true → es.length ≤ 64 → P (.Tuple xs k p)) : P x :=
  kETup h fun xs k p h => ak h fun h1 h2 => g xs k p h1 (of_decide_eq_true h2)
theorem cE_lst {m : Bool} {es : List ME} (h : chkE S (.lst m es) sc nm x = true) (g : ∀ xs p, chkEs S es sc nm xs = true → es.length ≤ 64 → P (.List xs p)) : P x :=
  kELst h fun xs p h => ak h fun h1 h2 => g xs p h1 (of_decide_eq_true h2)
theorem cE_slc {a lo hi : ME} (h : chkE S (.slc a lo hi) sc nm x = true) (g : ∀ y l u q p, chkE S a sc nm y = true → (match l with | none => isKN lo | some y => chkE S lo sc nm y) = true → (match u with | none => isKN hi | some y => chkE S hi sc nm y) = true → P (.Subscript y (.Slice l u none q) p)) : P x :=
  kESub h fun y z p h => kESlc (P := fun z => P (.Subscript y z p)) h fun l u s q h => ak h fun h1 h => kN (P := fun s => P (.Subscript y (.Slice l u s q) p)) h1 (ak h fun h h3 => ak h fun h1 h2 => g y l u q p h1 h2 h3)
theorem cE_rev {a : ME} (h : chkE S (.rev a) sc nm x = true) (g : ∀ y k q1 q2 q3 p, chkE S a sc nm y = true → P (.Subscript y (.Slice none none (some (.UnaryOp .USub (.Constant (.int 1) k q1) q2)) q3) p)) : P x :=
  kESub h fun y z p h => kESlc (P := fun z => P (.Subscript y z p)) h fun l u s q3 h => ak h fun h1 h => kN (P := fun l => P (.Subscript y (.Slice l u s q3) p)) h1 (ak h fun h1 h => kN (P := fun u => P (.Subscript y (.Slice none u s q3) p)) h1
    (kS (P := fun s => P (.Subscript y (.Slice none none s q3) p)) h fun _ h => kEUna (P := fun w => P (.Subscript y (.Slice none none (some w) q3) p)) h fun _ v q2 h => ak h fun h1 h => kEq (P := fun o => P (.Subscript y (.Slice none none (some (.UnaryOp o v q2)) q3) p)) h1
    (kECon (P := fun v => P (.Subscript y (.Slice none none (some (.UnaryOp .USub v q2)) q3) p)) h fun _ k q1 h => kCInt (P := fun c => P (.Subscript y (.Slice none none (some (.UnaryOp .USub (.Constant c k q1) q2)) q3) p)) h fun _ h => ak h fun h1 h => kEq (P := fun i => P (.Subscript y (.Slice none none (some (.UnaryOp .USub (.Constant (.int i) k q1) q2)) q3) p)) h1 (g y k q1 q2 q3 p h))))
theorem cE_dct0 (h : chkE S .dct0 sc nm x = true) (g : ∀ p, P (.Dict [] [] p)) : P x :=
  kEDic h fun ks vs p h => ak h fun h1 h2 => k0 (P := fun ks => P (.Dict ks vs p)) h1 (k0 (P := fun vs => P (.Dict [] vs p)) h2 (g p))
theorem cE_dct {ks : List Nat} {es : List ME} (h : chkE S (.dct ks es) sc nm x = true) (g : ∀ keys xs p, keysE S ks keys = true → chkEs S es sc nm xs = true → (0 < ks.length ∧ ks.length ≤ 15 ∧ ks.length = es.length) → ks.Nodup → P (.Dict keys xs p)) : P x :=
  kEDic h fun keys xs p h => ak h fun h h4 => ak h fun h h3 => ak h fun h1 h2 => g keys xs p h1 h2 (of_decide_eq_true h3) (of_decide_eq_true h4)
theorem cE_call {f : Nat} {es : List ME} (h : chkE S (.call f es) sc nm x = true) (g : ∀ n q xs p, gloK sc n = true → S.globs.lookup n = some f → chkEs S es sc nm xs = true → xs.length < 28 → P (.Call (.Name n q) xs [] p)) : P x :=
  kECal h fun _ xs ks p h => kENam (P := fun g => P (.Call g xs ks p)) h fun n q h => ak h fun h1 h => k0 (P := fun ks => P (.Call (.Name n q) xs ks p)) h1 (ak h fun h h4 => ak h fun h h3 => ak h fun h1 h2 => g n q xs p h1 (beq_ok h2) h3 (of_decide_eq_true h4))
theorem cE_new {f : Nat} {es : List ME} (h : chkE S (.new f es) sc nm x = true) (g : ∀ n q xs p, gloK sc n = true → S.globs.lookup n = some f → chkEs S es sc nm xs = true → xs.length < 28 → P (.Call (.Name n q) xs [] p)) : P x :=
  cE_call (f := f) (es := es) h g
theorem kMeth {e : PySem.Expr} {F : PySem.Expr → Str → Pos → List PySem.Expr → Pos → Bool} (h : qECal e (fun g xs ks p => qEAtt g fun x n ap => ks.isEmpty && F x n ap xs p) = true) (g : ∀ y n ap xs p, F y n ap xs p = true → P (.Call (.Attribute y n ap) xs [] p)) : P e :=
  kECal h fun _ xs ks p h => kEAtt (P := fun g => P (.Call g xs ks p)) h fun y n ap h => ak h fun h1 h => k0 (P := fun ks => P (.Call (.Attribute y n ap) xs ks p)) h1 (g y n ap xs p h)
theorem kFun {e : PySem.Expr} {s : Str} {F : List PySem.Expr → Bool} (h : qECal e (fun g xs ks p => qENam g fun x _ => ks.isEmpty && (x == s && F xs)) = true) (g : ∀ q xs p, F xs = true → P (.Call (.Name s q) xs [] p)) : P e :=
  kECal h fun _ xs ks p h => kENam (P := fun g => P (.Call g xs ks p)) h fun n q h => ak h fun h1 h => k0 (P := fun ks => P (.Call (.Name n q) xs ks p)) h1 (ak h fun h1 h => kEq (P := fun n => P (.Call (.Name n q) xs [] p)) h1 (g q xs p h))
theorem cE_meth {a : ME} {m : Nat} {es : List ME} (h : chkE S (.meth a m es) sc nm x = true) (g : ∀ y n ap xs p, chkE S a sc nm y = true → S.tab[m]? = some n → noSup y = true → chkEs S es sc nm xs = true → xs.length < 28 → (ap.endLine == p.line) = true → P (.Call (.Attribute y n ap) xs [] p)) : P x :=
  kMeth (F := fun x n ap xs p => chkE S a sc nm x && S.tab[m]? == some n && noSup x && chkEs S es sc nm xs && decide (xs.length < 28) && ap.endLine == p.line) h fun y n ap xs p h =>
    ak h fun h h6 => ak h fun h h5 => ak h fun h h4 => ak h fun h h3 => ak h fun h1 h2 => g y n ap xs p h1 (beq_ok h2) h3 h4 (of_decide_eq_true h5) h6
theorem cE_blt {b : Bl} {a : ME} (h : chkE S (.blt b a) sc nm x = true) (g : ∀ q y p, bltK S sc (blN b) = true → chkE S a sc nm y = true → P (.Call (.Name (blN b) q) [y] [] p)) : P x :=
  kFun (F := fun xs => bltK S sc (blN b) && (q1 xs fun y => chkE S a sc nm y)) h fun q xs p h => ak h fun h1 h => k1 (P := fun xs => P (.Call (.Name (blN b) q) xs [] p)) h fun y h => g q y p h1 h
theorem cE_app {a b : ME} (h : chkE S (.app a b) sc nm x = true) (g : ∀ y ap z p, noSup y = true → chkE S a sc nm y = true → chkE S b sc nm z = true → (ap.endLine == p.line) = true → P (.Call (.Attribute y "append" ap) [z] [] p)) : P x :=
  kMeth (F := fun x n ap xs p => n == ("append" : Str) && (q1 xs fun y => noSup x && chkE S a sc nm x && chkE S b sc nm y && ap.endLine == p.line)) h fun y n ap xs p h =>
    ak h fun h1 h => kEq (P := fun n => P (.Call (.Attribute y n ap) xs [] p)) h1 (k1 (P := fun xs => P (.Call (.Attribute y "append" ap) xs [] p)) h fun z h => ak h fun h h4 => ak h fun h h3 => ak h fun h1 h2 => g y ap z p h1 h2 h3 h4)
theorem cE_pop {a : ME} (h : chkE S (.pop a) sc nm x = true) (g : ∀ y ap p, noSup y = true → chkE S a sc nm y = true → (ap.endLine == p.line) = true → P (.Call (.Attribute y "pop" ap) [] [] p)) : P x :=
  kMeth (F := fun x n ap xs p => n == ("pop" : Str) && (xs.isEmpty && (noSup x && chkE S a sc nm x && ap.endLine == p.line))) h fun y n ap xs p h =>
    ak h fun h1 h => kEq (P := fun n => P (.Call (.Attribute y n ap) xs [] p)) h1 (ak h fun h1 h => k0 (P := fun xs => P (.Call (.Attribute y "pop" ap) xs [] p)) h1 (ak h fun h h3 => ak h fun h1 h2 => g y ap p h1 h2 h3))
theorem cE_get {a b c : ME} (h : chkE S (.get a b c) sc nm x = true) (g : ∀ y ap z w p, noSup y = true → chkE S a sc nm y = true → chkE S b sc nm z = true → chkE S c sc nm w = true → (ap.endLine == p.line) = true → P (.Call (.Attribute y "get" ap) [z, w] [] p)) : P x :=
  kMeth (F := fun x n ap xs p => n == ("get" : Str) && (q2 xs fun y z => noSup x && chkE S a sc nm x && chkE S b sc nm y && chkE S c sc nm z && ap.endLine == p.line)) h fun y n ap xs p h =>
    ak h fun h1 h => kEq (P := fun n => P (.Call (.Attribute y n ap) xs [] p)) h1 (k2 (P := fun xs => P (.Call (.Attribute y "get" ap) xs [] p)) h fun z w h => ak h fun h h5 => ak h fun h h4 => ak h fun h h3 => ak h fun h1 h2 => g y ap z w p h1 h2 h3 h4 h5)
theorem cEs_cons {e : ME} {r : List ME} {y : PySem.Expr} {t : List PySem.Expr} (h : chkEs S (e :: r) sc nm (y :: t) = true) : chkE S e sc nm y = true ∧ chkEs S r sc nm t = true := ott h
theorem xsLen : ∀ {es : List ME} {xs : List PySem.Expr}, chkEs S es sc nm xs = true → xs.length = es.length
  | [], [], _ => rfl
  | [], _ :: _, h => ft h
  | _ :: _, [], h => ft h
  | _ :: es, _ :: xs, h => congrArg Nat.succ (xsLen (cEs_cons h).2)
theorem cEs1 {e : ME} {y : PySem.Expr} (h : chkE S e sc nm y = true) : chkEs S [e] sc nm [y] = true := (Bool.and_eq_true_iff).mpr ⟨h, rfl⟩
theorem cEs2 {e e2 : ME} {y y2 : PySem.Expr} (h : chkE S e sc nm y = true) (h2 : chkE S e2 sc nm y2 = true) : chkEs S [e, e2] sc nm [y, y2] = true := (Bool.and_eq_true_iff).mpr ⟨h, cEs1 h2⟩
theorem keysE_cons {k : Nat} {ks : List Nat} {o : Option PySem.Expr} {t : List (Option PySem.Expr)} {P : Option PySem.Expr → Prop} (h : keysE S (k :: ks) (o :: t) = true) (g : ∀ x a p, S.tab[k]? = some x → keysE S ks t = true → P (some (.Constant (.str x) a p))) : P o :=
  kS h fun _ h => kECon (P := fun e => P (some e)) h fun _ a p h => kCStr (P := fun c => P (some (.Constant c a p))) h fun x h => ak h fun h1 h2 => g x a p (beq_ok h1) h2
theorem keysLen : ∀ {ks : List Nat} {keys : List (Option PySem.Expr)}, keysE S ks keys = true → keys.all (·.isSome) = true ∧ keys.length = ks.length
  | [], [], _ => ⟨rfl, rfl⟩
  | [], _ :: _, h => ft h
  | _ :: _, [], h => ft h
  | _ :: _, _ :: t, h => keysE_cons (P := fun o => (o :: t).all (·.isSome) = true ∧ _) h fun _ _ _ _ h2 => ⟨(keysLen h2).1, congrArg Nat.succ (keysLen h2).2⟩
end
end Mine
end
section
set_option autoImplicit false
set_option linter.unusedVariables false
set_option linter.unusedSectionVars false
namespace Mine
open PySem
section
variable {S : Sta} {sc : Sp} {nm : Nm} {st : Stmt} {P : Stmt → Prop}
theorem cS_expr {a : ME} (h : chkS S (.expr a) sc nm st = true) (g : ∀ y p, chkE S a sc nm y = true → isComp y = false → P (.Expr y p)) : P st :=
  kSExp h fun y p h => ak h fun h1 h2 => g y p h1 ((Bool.not_eq_true' _).mp h2)
theorem kAsg {F : PySem.Expr → PySem.Expr → Bool} (h : qSAsg st (fun l v _ => q1 l fun t => F t v) = true) (g : ∀ t v q, F t v = true → P (.Assign [t] v q)) : P st :=
  kSAsg h fun _ v q h => k1 (P := fun l => P (.Assign l v q)) h fun t h => g t v q h
theorem cS_asg {i : Nat} {a : ME} (h : chkS S (.asg i a) sc nm st = true) (g : ∀ n p v q, tgtOk sc nm i n = true → chkE S a sc nm v = true → okE v = true → P (.Assign [.Name n p] v q)) : P st :=
  kAsg (F := fun t v => qENam t fun x _ => tgtOk sc nm i x && chkE S a sc nm v && okE v) h fun _ v q h => kENam (P := fun t => P (.Assign [t] v q)) h fun n p h => ak h fun h h3 => ak h fun h1 h2 => g n p v q h1 h2 h3
theorem cS_asgT {is : List Nat} {a : ME} (h : chkS S (.asgT is a) sc nm st = true) (g : ∀ ts k p v q, tgtsOk sc nm is ts = true → chkE S a sc nm v = true → swNo sc ts v = true → P (.Assign [.Tuple ts k p] v q)) : P st :=
  kAsg (F := fun t v => qETup t fun ts _ _ => tgtsOk sc nm is ts && chkE S a sc nm v && swNo sc ts v) h fun _ v q h => kETup (P := fun t => P (.Assign [t] v q)) h fun ts k p h => ak h fun h h3 => ak h fun h1 h2 => g ts k p v q h1 h2 h3
theorem cS_asgW {is : List Nat} {a : ME} (h : chkS S (.asgW is a) sc nm st = true) (g : ∀ ts k p v q, tgtsOk sc nm is ts = true → chkE S a sc nm v = true → swYes sc ts v = true → P (.Assign [.Tuple ts k p] v q)) : P st :=
  kAsg (F := fun t v => qETup t fun ts _ _ => tgtsOk sc nm is ts && chkE S a sc nm v && swYes sc ts v) h fun _ v q h => kETup (P := fun t => P (.Assign [t] v q)) h fun ts k p h => ak h fun h h3 => ak h fun h1 h2 => g ts k p v q h1 h2 h3
theorem cS_asgA {o a : ME} {k : Nat} (h : chkS S (.asgA o k a) sc nm st = true) (g : ∀ y n p v q, chkE S a sc nm v = true → chkE S o sc nm y = true → S.tab[k]? = some n → P (.Assign [.Attribute y n p] v q)) : P st :=
  kAsg (F := fun t v => qEAtt t fun x n _ => chkE S a sc nm v && chkE S o sc nm x && S.tab[k]? == some n) h fun _ v q h => kEAtt (P := fun t => P (.Assign [t] v q)) h fun y n p h => ak h fun h h3 => ak h fun h1 h2 => g y n p v q h1 h2 (beq_ok h3)
theorem cS_asgS {o i a : ME} (h : chkS S (.asgS o i a) sc nm st = true) (g : ∀ y z p v q, chkE S a sc nm v = true → chkE S o sc nm y = true → chkE S i sc nm z = true → P (.Assign [.Subscript y z p] v q)) : P st :=
  kAsg (F := fun t v => qESub t fun x y _ => chkE S a sc nm v && chkE S o sc nm x && chkE S i sc nm y) h fun _ v q h => kESub (P := fun t => P (.Assign [t] v q)) h fun y z p h => ak h fun h h3 => ak h fun h1 h2 => g y z p v q h1 h2 h3
theorem cS_if {c : ME} {a b : List MS} (h : chkS S (.ifS c a b) sc nm st = true) (g : ∀ t x y p, chkT S c sc nm t = true → chkSs S a sc nm x = true → chkSs S b sc nm y = true → P (.If t x y p)) : P st :=
  kSIff h fun t x y p h => ak h fun h h3 => ak h fun h1 h2 => g t x y p h1 h2 h3
theorem cS_while {c : ME} {b : List MS} (h : chkS S (.whileS c b) sc nm st = true) (g : ∀ t x p, chkT S c sc nm t = true → chkSs S b sc nm x = true → P (.While t x [] p)) : P st :=
  kSWhi h fun t x y p h => ak h fun h1 h => k0 (P := fun y => P (.While t x y p)) h1 (ak h fun h1 h2 => g t x p h1 h2)
theorem cS_for {tgt : List Nat} {one : Bool} {k : SK} {srcs : List ME} {b : List MS} (h : chkS S (.forS tgt one k srcs b) sc nm st = true) (g : ∀ t it x p, kOne k one = true → tgtE sc nm one tgt t = true → chkSrc S k srcs sc nm it = true → chkSs S b sc nm x = true → P (.For t it x [] p)) : P st :=
  kSFor h fun t it x y p h => ak h fun h1 h => k0 (P := fun y => P (.For t it x y p)) h1 (ak h fun h h4 => ak h fun h h3 => ak h fun h1 h2 => g t it x p h1 h2 h3 h4)
theorem cS_ret {a : ME} (h : chkS S (.ret a) sc nm st = true) (g : ∀ y p, chkE S a sc nm y = true → P (.Return (some y) p)) (g2 : ∀ p, isKN a = true → P (.Return none p)) : P st :=
  kSRet h fun y p h => match y, h with
    | none, h => g2 p h
    | some y, h => g y p h
theorem cS_cont (h : chkS S .cont sc nm st = true) (g : ∀ p, P (.Continue p)) : P st := kSCon h fun p _ => g p
theorem cS_brk (h : chkS S .brk sc nm st = true) (g : ∀ p, P (.Break p)) : P st := kSBre h fun p _ => g p
theorem cS_pass (h : chkS S .pass sc nm st = true) (g : ∀ p, P (.Pass p)) : P st := kSPas h fun p _ => g p
end
section
variable {S : Sta} {sc : Sp} {nm : Nm} {x : PySem.Expr} {P : PySem.Expr → Prop}
theorem kFun1 {s : Str} {b : Bool} {F : PySem.Expr → Bool} (h : qECal x (fun g xs ks p => qENam g fun x _ => ks.isEmpty && (x == s && (b && q1 xs F))) = true) (g : ∀ q y p, b = true → F y = true → P (.Call (.Name s q) [y] [] p)) : P x :=
  kFun (F := fun xs => b && q1 xs F) h fun q xs p h => ak h fun h1 h => k1 (P := fun xs => P (.Call (.Name s q) xs [] p)) h fun y h => g q y p h1 h
theorem kFun2 {s : Str} {b : Bool} {F : PySem.Expr → PySem.Expr → Bool} (h : qECal x (fun g xs ks p => qENam g fun x _ => ks.isEmpty && (x == s && (b && q2 xs F))) = true) (g : ∀ q y z p, b = true → F y z = true → P (.Call (.Name s q) [y, z] [] p)) : P x :=
  kFun (F := fun xs => b && q2 xs F) h fun q xs p h => ak h fun h1 h => k2 (P := fun xs => P (.Call (.Name s q) xs [] p)) h fun y z h => g q y z p h1 h
theorem cR_rng1 {a : ME} (h : chkSrc S .rng [a] sc nm x = true) (g : ∀ q y p, bltK S sc "range" = true → chkE S a sc nm y = true → P (.Call (.Name "range" q) [y] [] p)) : P x := kFun1 h g
theorem cR_enum {a : ME} (h : chkSrc S .enum [a] sc nm x = true) (g : ∀ q y p, bltK S sc "enumerate" = true → chkE S a sc nm y = true → P (.Call (.Name "enumerate" q) [y] [] p)) : P x := kFun1 h g
theorem cR_rng2 {a b : ME} (h : chkSrc S .rng [a, b] sc nm x = true) (g : ∀ q y z p, bltK S sc "range" = true → chkE S a sc nm y = true → chkE S b sc nm z = true → P (.Call (.Name "range" q) [y, z] [] p)) : P x :=
  ak (a := true) h fun _ h => kFun2 h fun q y z p h1 h => ak h fun h2 h3 => g q y z p h1 h2 h3
theorem cR_zip {a b : ME} (h : chkSrc S .zip [a, b] sc nm x = true) (g : ∀ q y z p, bltK S sc "zip" = true → chkE S a sc nm y = true → chkE S b sc nm z = true → P (.Call (.Name "zip" q) [y, z] [] p)) : P x :=
  ak (a := true) h fun _ h => kFun2 h fun q y z p h1 h => ak h fun h2 h3 => g q y z p h1 h2 h3
end
end Mine
end
section
set_option autoImplicit false
set_option linter.unusedVariables false
set_option linter.unusedSectionVars false
namespace Mine
open PySem
section
variable {X : Ctx} {ρ : Lo} {G : GH} {P : Prop}
theorem iC_nil {emit : Lo → GH → Option (MV × GH)} {acc : List MV} {r : List MV × GH} (h : mC X [] emit ρ G acc = some r) (g : ∀ v G1, emit ρ G = some (v, G1) → acc.length < 4096 → r = (acc ++ [v], G1) → P) : P :=
  obk (o := emit ρ G) h fun p h1 h => oif h fun h2 h => g p.1 p.2 h1 h2 (Option.some.inj h).symm
theorem iC_cons {tgt : List Nat} {one : Bool} {k : SK} {srcs ifs : List ME} {gs : List MG} {emit : Lo → GH → Option (MV × GH)} {acc : List MV} {r : List MV × GH} (h : mC X (.mk tgt one k srcs ifs :: gs) emit ρ G acc = some r) (g : ∀ vs G1 gd items, mEs X srcs ρ G = some (vs, G1) → srcO G1 k vs = some (gd, items) →
    loopC gd (fun v G acc => (asgO one tgt v ρ).bind fun ρ' => onB (mAnd X ifs ρ' G) (fun G2 => mC X gs emit ρ' G2 acc) fun G2 => some (acc, G2)) items G1 acc = some r → P) : P :=
  obk (o := mEs X srcs ρ G) h fun p h1 h => obk (o := srcO p.2 k p.1) h fun t h2 h => g p.1 p.2 t.1 t.2 h1 h2 h
variable {S : Sta} {sc sc' : Sp} {nm nm' : Nm} {nb : Nat}
theorem cG_cons {g : MG} {r : List MG} {b : Bool} {y : Comprehension} {t : List Comprehension} (h : chkGs S (g :: r) b sc nm sc' nm' nb (y :: t) = true) : chkG S g b sc nm sc' nm' nb y = true ∧ chkGs S r false sc nm sc' nm' nb t = true := ott h
theorem cG_one {tgt : List Nat} {one : Bool} {k : SK} {srcs ifs : List ME} {b : Bool} {y : Comprehension} (h : chkG S (.mk tgt one k srcs ifs) b sc nm sc' nm' nb y = true) (g : y.is_async = 0 → kOne k one = true → tgtE sc' nm' one tgt y.target = true → (∀ i ∈ tgt, nb ≤ i) → (if b then chkSrc S k srcs sc nm y.iter else chkSrc S k srcs sc' nm' y.iter) = true → chkTs S ifs sc' nm' y.ifs = true → P) : P :=
  ak h fun h h6 => ak h fun h h5 => ak h fun h h4 => ak h fun h h3 => ak h fun h1 h2 => g (beq_ok h1) h2 h3 (fun i hi => of_decide_eq_true (List.all_eq_true.mp h4 i hi)) h5 h6
theorem cE_comp {m : Bool} {k : Nat} {elt : ME} {gs : List MG} {x : PySem.Expr} {P : PySem.Expr → Prop} (h : chkE S (.comp m k elt gs) sc nm x = true) (g : ∀ y gens scope p, chkE S (.comp m k elt gs) sc nm (.ListComp y gens scope p) = true → P (.ListComp y gens scope p)) : P x :=
  kELcm h fun y gens scope p h => g y gens scope p h
theorem cC_facts {m : Bool} {k : Nat} {elt : ME} {gs : List MG} {x : PySem.Expr} {gens : List Comprehension} {scope : Scope} {p : Pos} (h : chkE S (.comp m k elt gs) sc nm (.ListComp x gens scope p) = true)
    (g : scope.kind = .function → scopeOk sc scope.names = true → k = (namesG gens).length → uniqN (maskN nm scope.names ++ (namesG gens).map some) = true → firstG gens = true → noFree scope.names (namesG gens) = true → (gs.flatMap tgtG).Nodup → chkGs S gs true sc nm (relN sc scope.names) (maskN nm scope.names ++ (namesG gens).map some) nm.length gens = true → chkE S elt (relN sc scope.names) (maskN nm scope.names ++ (namesG gens).map some) x = true → P) : P := by
  have e : chkE S (.comp m k elt gs) sc nm (.ListComp x gens scope p) = (scope.kind == .function && scopeOk sc scope.names && decide (k = (namesG gens).length)
        && uniqN (maskN nm scope.names ++ (namesG gens).map some) && firstG gens
        && noFree scope.names (namesG gens) && decide ((gs.flatMap tgtG).Nodup)
        && chkGs S gs true sc nm (relN sc scope.names) (maskN nm scope.names ++ (namesG gens).map some) nm.length gens
        && chkE S elt (relN sc scope.names) (maskN nm scope.names ++ (namesG gens).map some) x) := by kernel_rfl
  exact ak (e.symm.trans h) fun h h9 => ak h fun h h8 => ak h fun h h7 => ak h fun h h6 => ak h fun h h5 => ak h fun h h4 => ak h fun h h3 => ak h fun h1 h2 => g (eq_of_beq h1) h2 (of_decide_eq_true h3) h4 h5 h6 (of_decide_eq_true h7) h8 h9
end
end Mine
end
section
set_option autoImplicit false
set_option linter.unusedVariables false
set_option linter.unusedSectionVars false
namespace Mine
open PySem
theorem iS_sup {X : Ctx} {ρ ρ' : Lo} {G G' : GH} {f C : Nat} {es : List ME} {fl : Fl} {Pl : Fl → Lo → Prop} (h : mS X (.expr (.sup f C es)) ρ G = some (fl, ρ', G')) (g : ∀ vs G1 i v, mEs X es ρ G = some (vs, G1) → ρ[0]? = some (some (.obj C i)) → X.call f (.obj C i :: vs) G1 = some (v, G') → Pl .next ρ) : Pl fl ρ' :=
  iS_expr h fun v h => obk (o := mEs X es ρ G) h fun p h1 h => obk (o := ρ[0]?) h fun u h2 h => obk (o := u) h fun w h3 h => obk (o := iObj w) h fun o h4 h => oif h fun h5 h6 => by
    refine iObj_k (P := fun w => ρ[0]? = some (some w) → Pl .next ρ) h4 (fun h2 => ?_) (h2.trans (congrArg some h3))
    rw [h5] at h2 h6
    exact g p.1 p.2 o.2 v h1 h2 h6
section
variable {S : Sta} {sc : Sp} {nm : Nm} {st : Stmt}
theorem cU_expr {x : MS} {P : MS → Prop} (h : chkSup S x sc nm st = true) (g : ∀ f C es, chkSup S (.expr (.sup f C es)) sc nm st = true → P (.expr (.sup f C es))) : P x :=
  kMexpr h fun _ h => kMsup (P := fun e => P (.expr e)) h fun f C es h => g f C es h
theorem cU {f C : Nat} {es : List ME} {P : Stmt → Prop} (h : chkSup S (.expr (.sup f C es)) sc nm st = true) (g : ∀ py p1 ap xs p q, bltK S sc "super" = true → sc.lookup ("__class__" : Str) = some .free → S.sups.contains f = true → chkEs S es sc nm xs = true → xs.length < 28 → (ap.endLine == p.line) = true → P (.Expr (.Call (.Attribute (.Call (.Name "super" py) [] [] p1) "__init__" ap) xs [] p) q)) : P st :=
  kSExp (k := fun e _ => qECal e fun g xs ks p => qEAtt g fun o n ap => qECal o fun y ys ls _ => qENam y fun y _ =>
    ks.isEmpty && (ys.isEmpty && (ls.isEmpty && (y == ("super" : Str) && (n == ("__init__" : Str) && (bltK S sc ("super" : Str) && sc.lookup ("__class__" : Str) == some .free && S.sups.contains f && chkEs S es sc nm xs && decide (xs.length < 28) && ap.endLine == p.line)))))) h fun _ q h => kECal (P := fun e => P (.Expr e q)) h fun _ xs ks p h => kEAtt (P := fun e => P (.Expr (.Call e xs ks p) q)) h fun _ n ap h => kECal (P := fun e => P (.Expr (.Call (.Attribute e n ap) xs ks p) q)) h fun _ ys ls p1 h => kENam (P := fun e => P (.Expr (.Call (.Attribute (.Call e ys ls p1) n ap) xs ks p) q)) h fun y py h =>
    ak h fun h1 h => k0 (P := fun ks => P (.Expr (.Call (.Attribute (.Call (.Name y py) ys ls p1) n ap) xs ks p) q)) h1 (ak h fun h1 h => k0 (P := fun ys => P (.Expr (.Call (.Attribute (.Call (.Name y py) ys ls p1) n ap) xs [] p) q)) h1 (ak h fun h1 h => k0 (P := fun ls => P (.Expr (.Call (.Attribute (.Call (.Name y py) [] ls p1) n ap) xs [] p) q)) h1
      (ak h fun h1 h => kEq (P := fun y => P (.Expr (.Call (.Attribute (.Call (.Name y py) [] [] p1) n ap) xs [] p) q)) h1 (ak h fun h1 h => kEq (P := fun n => P (.Expr (.Call (.Attribute (.Call (.Name "super" py) [] [] p1) n ap) xs [] p) q)) h1
        (ak h fun h h6 => ak h fun h h5 => ak h fun h h4 => ak h fun h h3 => ak h fun h1 h2 => g py p1 ap xs p q h1 (beq_ok h2) h3 h4 (of_decide_eq_true h5) h6)))))
theorem cB_cons {x : MS} {r : List MS} {t : List Stmt} (h : chkB S (x :: r) sc nm (st :: t) = true) : (chkS S x sc nm st = true ∨ chkSup S x sc nm st = true) ∧ chkSs S r sc nm t = true :=
  ⟨Bool.or_eq_true_iff.mp (ott h).1, (ott h).2⟩
end
end Mine
end
section
set_option autoImplicit false
namespace Mine
open PySem PySem.W PyProof.Rows PySem.Calls

noncomputable abbrev Kp := Addr → Option Obj
noncomputable def Le (f g : Kp) : Prop := ∀ a o, f a = some o → g a = some o
theorem Le.refl (f : Kp) : Le f f := fun _ _ h => h
theorem Le.trans {f g h : Kp} (x : Le f g) (y : Le g h) : Le f h := fun a o e => y a o (x a o e)
noncomputable def upd (f : Kp) (a : Addr) (o : Option Obj) : Kp := fun b => if b = a then o else f b
theorem upd_self (f : Kp) (a : Addr) (o : Option Obj) : upd f a o a = o := by unfold upd; rw [if_pos rfl]
theorem upd_ne (f : Kp) {a b : Addr} (o : Option Obj) (h : b ≠ a) : upd f a o b = f b := by unfold upd; rw [if_neg h]

mutual
inductive VR (tab : List Str) (fix : Kp) (φ : List Addr) : MV → Value → Prop
  | none : VR tab fix φ .none .none
  | bool (b : Bool) : VR tab fix φ (.bool b) (.bool b)
  | int (i : Int) (t : Tok) : VR tab fix φ (.int i) (.int i t)
  | str {k : Nat} {x : Str} (t : Tok) : tab[k]? = some x → VR tab fix φ (.str k) (.str x t)
  | tup {l : List MV} {a : Addr} {xs : List Value} {n : Nat} : fix a = some ⟨.type "tuple", Option.none, .seq xs.toArray n, #[]⟩ → VRs tab fix φ l xs → l.length ≤ 4096 → VR tab fix φ (.tup l) (.ref a)
  | lst {l : List MV} {a : Addr} {xs : List Value} {n : Nat} : fix a = some ⟨.type "list", Option.none, .seq xs.toArray n, #[]⟩ → VRs tab fix φ l xs → l.length ≤ 4096 → VR tab fix φ (.lst l) (.ref a)
  | ref {i : Nat} {a : Addr} : φ[i]? = some a → VR tab fix φ (.ref i) (.ref a)
  | obj {c i : Nat} {a d : Addr} : fix a = some (instObj c d) → φ[i]? = some d → VR tab fix φ (.obj c i) (.ref a)
inductive VRs (tab : List Str) (fix : Kp) (φ : List Addr) : List MV → List Value → Prop
  | nil : VRs tab fix φ [] []
  | cons {v : MV} {x : Value} {l : List MV} {xs : List Value} : VR tab fix φ v x → VRs tab fix φ l xs → VRs tab fix φ (v :: l) (x :: xs)
end

theorem VRs.ind {tab : List Str} {fix : Kp} {φ : List Addr} {M : List MV → List Value → Prop} {l : List MV} {xs : List Value} (h : VRs tab fix φ l xs) (n : M [] []) (k : ∀ v x l xs, VR tab fix φ v x → VRs tab fix φ l xs → M l xs → M (v :: l) (x :: xs)) : M l xs :=
  VRs.rec (motive_1 := fun _ _ _ => True) (motive_2 := fun l xs _ => M l xs) trivial (fun _ => trivial) (fun _ _ => trivial) (fun _ _ => trivial) (fun _ _ _ _ => trivial) (fun _ _ _ _ => trivial) (fun _ => trivial) (fun _ _ => trivial) n (fun a b _ ih => k _ _ _ _ a b ih) h
theorem VRs.nilI {tab : List Str} {fix : Kp} {φ : List Addr} {ys : List Value} {P : List Value → Prop} (h : VRs tab fix φ [] ys) (g : P []) : P ys := by cases h; exact g
theorem VRs.consI {tab : List Str} {fix : Kp} {φ : List Addr} {v : MV} {vs : List MV} {ys : List Value} {P : List Value → Prop} (h : VRs tab fix φ (v :: vs) ys) (g : ∀ y r, VR tab fix φ v y → VRs tab fix φ vs r → P (y :: r)) : P ys := by cases h with | cons a b => exact g _ _ a b
theorem VRs.length {tab : List Str} {fix : Kp} {φ : List Addr} {l : List MV} {xs : List Value} (h : VRs tab fix φ l xs) : l.length = xs.length :=
  h.ind (M := fun l xs => l.length = xs.length) rfl fun _ _ _ _ _ _ e => congrArg Nat.succ e

theorem pre_get {α : Type} {l m : List α} (h : l <+: m) {i : Nat} {a : α} (e : l[i]? = some a) : m[i]? = some a := by
  obtain ⟨t, rfl⟩ := h
  rw [List.getElem?_append_left (List.getElem?_eq_some_iff.mp e).1]; exact e

section
variable {tab : List Str} {fix fix' : Kp} {φ φ' : List Addr} {l m : List MV} {xs ys : List Value} {v : MV} {x : Value}
theorem VR.mono (hf : Le fix fix') (hp : φ <+: φ') (h : VR tab fix φ v x) : VR tab fix' φ' v x :=
  VR.rec (motive_1 := fun v x _ => VR tab fix' φ' v x) (motive_2 := fun l xs _ => VRs tab fix' φ' l xs) .none (fun b => .bool b) (fun i t => .int i t) (fun t h => .str t h) (fun h _ z ih => .tup (hf _ _ h) ih z) (fun h _ z ih => .lst (hf _ _ h) ih z) (fun h => .ref (pre_get hp h)) (fun h r => .obj (hf _ _ h) (pre_get hp r)) .nil (fun _ _ a b => .cons a b) h
theorem VRs.mono (hf : Le fix fix') (hp : φ <+: φ') (h : VRs tab fix φ l xs) : VRs tab fix' φ' l xs :=
  h.ind (M := fun l xs => VRs tab fix' φ' l xs) .nil fun _ _ _ _ a _ ih => .cons (a.mono hf hp) ih
theorem VRs.get (h : VRs tab fix φ l xs) : ∀ {i : Nat} {v : MV}, l[i]? = some v → ∃ x, xs[i]? = some x ∧ VR tab fix φ v x :=
  h.ind (M := fun l xs => ∀ {i : Nat} {v : MV}, l[i]? = some v → ∃ x, xs[i]? = some x ∧ VR tab fix φ v x) (fun {i} _ h => noS (h.symm.trans List.getElem?_nil).symm) fun v x l xs a _ ih {i} {v'} h => match i, h with
    | 0, h => ⟨x, rfl, Option.some.inj h ▸ a⟩
    | i + 1, h => ih (i := i) h
theorem VRs.append (h : VRs tab fix φ l xs) (h2 : VRs tab fix φ m ys) : VRs tab fix φ (l ++ m) (xs ++ ys) :=
  h.ind (M := fun l xs => VRs tab fix φ (l ++ m) (xs ++ ys)) h2 fun _ _ _ _ a _ ih => .cons a ih
theorem VRs.one (h : VR tab fix φ v x) : VRs tab fix φ [v] [x] := .cons h .nil
theorem VRs.take (h : VRs tab fix φ l xs) : ∀ n : Nat, VRs tab fix φ (l.take n) (xs.take n) :=
  h.ind (M := fun l xs => ∀ n : Nat, VRs tab fix φ (l.take n) (xs.take n)) (fun n => by rw [List.take_nil, List.take_nil]; exact .nil) fun _ _ _ _ a _ ih n => match n with
    | 0 => .nil
    | n + 1 => .cons a (ih n)
theorem VRs.drop (h : VRs tab fix φ l xs) : ∀ n : Nat, VRs tab fix φ (l.drop n) (xs.drop n) :=
  h.ind (M := fun l xs => ∀ n : Nat, VRs tab fix φ (l.drop n) (xs.drop n)) (fun n => by rw [List.drop_nil, List.drop_nil]; exact .nil) fun _ _ _ _ a b ih n => match n with
    | 0 => .cons a b
    | n + 1 => ih n
theorem VRs.set (h : VRs tab fix φ l xs) (hv : VR tab fix φ v x) : ∀ n : Nat, VRs tab fix φ (l.set n v) (xs.set n x) :=
  h.ind (M := fun l xs => ∀ n : Nat, VRs tab fix φ (l.set n v) (xs.set n x)) (fun _ => .nil) fun _ _ _ _ a b ih n => match n with
    | 0 => .cons hv b
    | n + 1 => .cons a (ih n)
theorem VRs.reverse (h : VRs tab fix φ l xs) : VRs tab fix φ l.reverse xs.reverse :=
  h.ind (M := fun l xs => VRs tab fix φ l.reverse xs.reverse) .nil fun _ _ _ _ a _ ih => by rw [List.reverse_cons, List.reverse_cons]; exact ih.append (.one a)
theorem VRs.split : ∀ {l : List MV} {xs : List Value}, VRs tab fix φ (l ++ m) xs → ∃ ys zs, xs = ys ++ zs ∧ VRs tab fix φ l ys ∧ VRs tab fix φ m zs
  | [], xs, h => ⟨[], xs, rfl, .nil, h⟩
  | v :: l, _, h => VRs.consI (P := fun xs => ∃ ys zs, xs = ys ++ zs ∧ VRs tab fix φ (v :: l) ys ∧ VRs tab fix φ m zs) (vs := l ++ m) h fun y _ a b => (VRs.split b).elim fun ys q => q.elim fun zs q => ⟨y :: ys, zs, congrArg (y :: ·) q.1, .cons a q.2.1, q.2.2⟩
theorem VRs.snoc_inv (h : VRs tab fix φ l xs) (e : l.getLast? = some v) : ∃ ys x, xs = ys ++ [x] ∧ VR tab fix φ v x ∧ VRs tab fix φ l.dropLast ys := by
  have q : l = l.dropLast ++ [v] := by
    obtain ⟨h1, h2⟩ := List.getLast?_eq_some_iff.mp e
    rw [h2, List.dropLast_concat]
  rw [q] at h
  obtain ⟨ys, zs, e1, h1, h2⟩ := h.split
  exact VRs.consI (P := fun zs => xs = ys ++ zs → ∃ ys x, xs = ys ++ [x] ∧ VR tab fix φ v x ∧ VRs tab fix φ l.dropLast ys) h2 (fun y r a b e => VRs.nilI (P := fun r => xs = ys ++ y :: r → ∃ ys x, xs = ys ++ [x] ∧ VR tab fix φ v x ∧ VRs tab fix φ l.dropLast ys) b (fun e => ⟨ys, y, e, a, h1⟩) e) e1
end

inductive EDs {prog : Program} {w : World} {κ K : Type} [DecidableEq K] (knd : PySem.KeyKind prog w K) (kr : κ → K → Prop) (tab : List Str) (fix : Kp) (φ : List Addr) : List (κ × MV) → List DictEntry → Prop
  | nil : EDs knd kr tab fix φ [] []
  | cons {k : κ} {v : MV} {x : K} {key y : Value} {l : List (κ × MV)} {es : List DictEntry} : kr k x → knd.is x key = true → VR tab fix φ v y → EDs knd kr tab fix φ l es → EDs knd kr tab fix φ ((k, v) :: l) (⟨knd.hash x, key, y⟩ :: es)
theorem EDs.mono {prog : Program} {w : World} {κ K : Type} [DecidableEq K] {knd : PySem.KeyKind prog w K} {kr : κ → K → Prop} {tab : List Str} {fix fix' : Kp} {φ φ' : List Addr} (hf : Le fix fix') (hp : φ <+: φ')
    {l : List (κ × MV)} {es : List DictEntry} (h : EDs knd kr tab fix φ l es) : EDs knd kr tab fix' φ' l es :=
  EDs.rec (motive := fun l es _ => EDs knd kr tab fix' φ' l es) .nil (fun h i v _ r => .cons h i (v.mono hf hp) r) h

noncomputable def krS (tab : List Str) (k : Nat) (x : Str) : Prop := tab[k]? = some x
noncomputable def krI (i j : Int) : Prop := i = j
noncomputable abbrev SDs (prog : Program) (w : World) (tab : List Str) (fix : Kp) (φ : List Addr) (l : List (Nat × MV)) (es : List DictEntry) : Prop := EDs (strKind prog w) (krS tab) tab fix φ l es
noncomputable abbrev NDs (prog : Program) (w : World) (tab : List Str) (fix : Kp) (φ : List Addr) (l : List (Int × MV)) (es : List DictEntry) : Prop := EDs (intKind prog w) krI tab fix φ l es

noncomputable def GR (prog : Program) (w : World) (tab : List Str) (fix : Kp) (φ : List Addr) : GO → Obj → Prop
  | .lst l, o => ∃ (xs : List Value) (n : Nat), o = ⟨.type "list", none, .seq xs.toArray n, #[]⟩ ∧ VRs tab fix φ l xs ∧ l.length ≤ 4096
  | .sd l, o => ∃ (es : List DictEntry) (n : Nat), o = ⟨.type "dict", none, .dict es.toArray n, #[]⟩ ∧ SDs prog w tab fix φ l es ∧ (l.map (·.1)).Nodup ∧ l.length ≤ 4096
  | .nd ep l, o => ∃ (es : List DictEntry), o = ⟨.type "dict", none, .dict es.toArray ep, #[]⟩ ∧ NDs prog w tab fix φ l es ∧ (l.map (·.1)).Nodup ∧ l.length ≤ 4096
theorem GR.mono {prog : Program} {w : World} {tab : List Str} {fix fix' : Kp} {φ φ' : List Addr} (hf : Le fix fix') (hp : φ <+: φ') {g : GO} {o : Obj} (h : GR prog w tab fix φ g o) : GR prog w tab fix' φ' g o := by
  cases g with
  | lst l => exact h.elim fun xs h => h.elim fun n h => ⟨xs, n, h.1, h.2.1.mono hf hp, h.2.2⟩
  | sd l => exact h.elim fun es h => h.elim fun n h => ⟨es, n, h.1, EDs.mono hf hp h.2.1, h.2.2⟩
  | nd ep l => exact h.elim fun es h => ⟨es, h.1, EDs.mono hf hp h.2.1, h.2.2⟩
theorem GR.notFreed {prog : Program} {w : World} {tab : List Str} {fix : Kp} {φ : List Addr} {g : GO} {o : Obj} (h : GR prog w tab fix φ g o) : o.isFreed = false := by
  cases g with
  | lst l => exact h.elim fun xs h => h.elim fun n h => by rw [h.1]; rfl
  | sd l => exact h.elim fun es h => h.elim fun n h => by rw [h.1]; rfl
  | nd ep l => exact h.elim fun es h => by rw [h.1]; rfl

structure CX where
  prog : Program
  w : World
  S : Sta
  P : Prog
  K : Frag
  hb : Heap
  mg : Str → Option Value
  mb : Str → Option Value
  gs : Array GenState
  os : OsState

noncomputable abbrev CX.M (c : CX) : Model := model c.prog c.w
noncomputable abbrev CX.VR (c : CX) := Mine.VR c.S.tab
noncomputable abbrev CX.VRs (c : CX) := Mine.VRs c.S.tab
noncomputable abbrev CX.GR (c : CX) := Mine.GR c.prog c.w c.S.tab

structure Rel (c : CX) (fix kp : Kp) (φ : List Addr) (G : GH) (h : Heap) : Prop where
  base : ∀ a o, c.hb.get? a = some o → fix a = some o
  fixK : ∀ a o, fix a = some o → h.get? a = some o
  kpK : ∀ a o, kp a = some o → h.get? a = some o
  dj : ∀ a o, kp a = some o → fix a = none
  len : φ.length = G.length
  nd : φ.Nodup
  out : ∀ a ∈ φ, fix a = none ∧ kp a = none
  obj : ∀ (i : Nat) (a : Addr) (g : GO), φ[i]? = some a → G[i]? = some g → ∃ o, h.get? a = some o ∧ c.GR fix φ g o
  st : (c.hb.get? cStatics).isSome = true
  lo : ∀ a ∈ φ, sysModules < a

noncomputable def St (c : CX) (fix kp : Kp) (φ : List Addr) (G : GH) (s : Shared) : Prop := Rel c fix kp φ G s.heap ∧ s.gens = c.gs ∧ s.os = c.os

section
variable {c : CX} {fix kp : Kp} {φ : List Addr} {G : GH} {h h' : Heap}

theorem Rel.at (R : Rel c fix kp φ G h) {i : Nat} {g : GO} (e : G[i]? = some g) : ∃ a o, φ[i]? = some a ∧ h.get? a = some o ∧ c.GR fix φ g o := by
  have hi : i < φ.length := by rw [R.len]; exact (List.getElem?_eq_some_iff.mp e).1
  obtain ⟨o, ho, hg⟩ := R.obj i φ[i] g (List.getElem?_eq_getElem hi) e
  exact ⟨_, o, List.getElem?_eq_getElem hi, ho, hg⟩
theorem Rel.goAt (R : Rel c fix kp φ G h) {i : Nat} {g : GO} {a : Addr} (e : G[i]? = some g) (ea : φ[i]? = some a) : ∃ o, h.get? a = some o ∧ c.GR fix φ g o := R.obj i a g ea e
theorem Rel.mem {c : CX} {fix kp : Kp} {φ : List Addr} {G : GH} {h : Heap} (R : Rel c fix kp φ G h) {i : Nat} {a : Addr} (ea : φ[i]? = some a) : fix a = none ∧ kp a = none := R.out a (List.mem_of_getElem? ea)
theorem Rel.live (R : Rel c fix kp φ G h) {a : Addr} (ha : a ∈ φ) : (h.get? a).isSome = true := by
  obtain ⟨i, hi, rfl⟩ := List.mem_iff_getElem.mp ha
  have hg : i < G.length := by rw [← R.len]; exact hi
  obtain ⟨o, ho, _⟩ := R.obj i _ _ (List.getElem?_eq_getElem hi) (List.getElem?_eq_getElem hg)
  rw [ho]; rfl
theorem Rel.lt (R : Rel c fix kp φ G h) {a : Addr} (ha : a ∈ φ) : a < h.objs.size := by
  obtain ⟨o, ho⟩ := Option.isSome_iff_exists.mp (R.live ha)
  exact Heap.lt_size ho
theorem get_size (h : Heap) : h.get? h.objs.size = none := by
  cases e : h.get? h.objs.size with
  | none => rfl
  | some o => exact absurd (Heap.lt_size e) (Nat.lt_irrefl _)
theorem get_ge {h : Heap} {a : Addr} (hz : h.objs.size ≤ a) : h.get? a = none := by
  cases e : h.get? a with
  | none => rfl
  | some o => exact absurd (Heap.lt_size e) (Nat.not_lt.mpr hz)
theorem Rel.fixLt (R : Rel c fix kp φ G h) {a : Addr} (hz : h.objs.size ≤ a) : fix a = none := by
  cases e : fix a with
  | none => rfl
  | some o => have := R.fixK a o e; rw [get_ge hz] at this; cases this
theorem Rel.kpLt (R : Rel c fix kp φ G h) {a : Addr} (hz : h.objs.size ≤ a) : kp a = none := by
  cases e : kp a with
  | none => rfl
  | some o => have := R.kpK a o e; rw [get_ge hz] at this; cases this

theorem Rel.heap (R : Rel c fix kp φ G h) (hk : ∀ a o, ((fix a).isSome = true ∨ (kp a).isSome = true ∨ a ∈ φ) → h.get? a = some o → h'.get? a = some o) : Rel c fix kp φ G h' where
  base := R.base
  fixK a o e := hk a o (.inl (by rw [e]; rfl)) (R.fixK a o e)
  kpK a o e := hk a o (.inr (.inl (by rw [e]; rfl))) (R.kpK a o e)
  dj := R.dj
  len := R.len
  nd := R.nd
  out := R.out
  obj i a g ea eg := by
    obtain ⟨o, ho, hg⟩ := R.obj i a g ea eg
    exact ⟨o, hk a o (.inr (.inr (List.mem_of_getElem? ea))) ho, hg⟩
  st := R.st
  lo := R.lo
theorem Rel.ext (R : Rel c fix kp φ G h) (hk : ∀ a o, h.get? a = some o → h'.get? a = some o) : Rel c fix kp φ G h' := R.heap fun a o _ e => hk a o e
theorem Rel.push (R : Rel c fix kp φ G h) (o : Obj) : Rel c fix kp φ G (h.push o) := R.ext fun _ _ e => Heap.get?_push_of_some o e

theorem Rel.freeze (R : Rel c fix kp φ G h) {a : Addr} {o : Obj} (ha : h.get? a = some o) (hk : kp a = none) (hp : a ∉ φ) (hf : fix a = none) :
    Rel c (upd fix a (some o)) kp φ G h ∧ Le fix (upd fix a (some o)) := by
  have hle : Le fix (upd fix a (some o)) := fun b x e => by
    by_cases hb : b = a
    · subst hb; rw [hf] at e; cases e
    · rw [upd_ne _ _ hb]; exact e
  refine ⟨⟨fun b x e => hle b x (R.base b x e), fun b x e => ?_, R.kpK, fun b x e => ?_, R.len, R.nd, fun b hb => ?_, fun i b g ea eg => ?_, R.st, R.lo⟩, hle⟩
  · by_cases hb : b = a
    · subst hb; rw [upd_self] at e; cases e; exact ha
    · rw [upd_ne _ _ hb] at e; exact R.fixK b x e
  · have hb : b ≠ a := by rintro rfl; rw [hk] at e; cases e
    rw [upd_ne _ _ hb]; exact R.dj b x e
  · have hb' : b ≠ a := by rintro rfl; exact hp hb
    rw [upd_ne _ _ hb']; exact R.out b hb
  · obtain ⟨x, hx, hg⟩ := R.obj i b g ea eg
    exact ⟨x, hx, hg.mono hle (List.prefix_refl _)⟩
theorem Rel.hold (R : Rel c fix kp φ G h) {a : Addr} {o : Obj} (ha : h.get? a = some o) (hf : fix a = none) (hp : a ∉ φ) : Rel c fix (upd kp a (some o)) φ G h where
  base := R.base
  fixK := R.fixK
  kpK b x e := by
    by_cases hb : b = a
    · subst hb; rw [upd_self] at e; cases e; exact ha
    · rw [upd_ne _ _ hb] at e; exact R.kpK b x e
  dj b x e := by
    by_cases hb : b = a
    · subst hb; exact hf
    · rw [upd_ne _ _ hb] at e; exact R.dj b x e
  len := R.len
  nd := R.nd
  out b hb := by
    have hb' : b ≠ a := by rintro rfl; exact hp hb
    rw [upd_ne _ _ hb']; exact R.out b hb
  obj := R.obj
  st := R.st
  lo := R.lo
theorem Rel.less (R : Rel c fix kp φ G h) {kp' : Kp} (hk : Le kp' kp) : Rel c fix kp' φ G h where
  base := R.base
  fixK := R.fixK
  kpK a o e := R.kpK a o (hk a o e)
  dj a o e := R.dj a o (hk a o e)
  len := R.len
  nd := R.nd
  out a ha := ⟨(R.out a ha).1, by
    cases e : kp' a with
    | none => rfl
    | some o => have := hk a o e; rw [(R.out a ha).2] at this; cases this⟩
  obj := R.obj
  st := R.st
  lo := R.lo
theorem Rel.grow (R : Rel c fix kp φ G h) {a : Addr} {o : Obj} {g : GO} (ha : h.get? a = some o) (hf : fix a = none) (hk : kp a = none) (hp : a ∉ φ) (hg : c.GR fix (φ ++ [a]) g o) (hlo : sysModules < a) : Rel c fix kp (φ ++ [a]) (G ++ [g]) h where
  base := R.base
  fixK := R.fixK
  kpK := R.kpK
  dj := R.dj
  len := by rw [List.length_append, List.length_append, R.len]; rfl
  nd := List.nodup_append.mpr ⟨R.nd, by simp, fun x hx y hy => by
    rw [List.mem_singleton] at hy; subst hy; rintro rfl; exact hp hx⟩
  out b hb := by
    rcases List.mem_append.mp hb with hb | hb
    · exact R.out b hb
    · rw [List.mem_singleton] at hb; subst hb; exact ⟨hf, hk⟩
  obj i b x ea eg := by
    by_cases hi : i < φ.length
    · rw [List.getElem?_append_left hi] at ea
      rw [List.getElem?_append_left (by rw [← R.len]; exact hi)] at eg
      obtain ⟨o', ho', hg'⟩ := R.obj i b x ea eg
      exact ⟨o', ho', hg'.mono (Le.refl _) (List.prefix_append _ _)⟩
    · have hi' : i = φ.length := by
        have := (List.getElem?_eq_some_iff.mp ea).1
        rw [List.length_append] at this
        simp only [List.length_cons, List.length_nil] at this
        omega
      subst hi'
      rw [List.getElem?_append_right (Nat.le_refl _), Nat.sub_self] at ea
      rw [R.len, List.getElem?_append_right (Nat.le_refl _), Nat.sub_self] at eg
      cases ea; cases eg
      exact ⟨o, ha, hg⟩
  st := R.st
  lo b hb := by
    rcases List.mem_append.mp hb with hb | hb
    · exact R.lo b hb
    · rw [List.mem_singleton] at hb; subst hb; exact hlo
theorem Rel.size (R : Rel c fix kp φ G h) {a : Addr} (ha : h.objs.size ≤ a) : sysModules < a := by
  obtain ⟨o, ho⟩ := Option.isSome_iff_exists.mp R.st
  have := Heap.lt_size (R.fixK _ _ (R.base _ _ ho))
  exact Nat.lt_of_lt_of_le (Nat.lt_trans (show (1 : Nat) < 2 by decide) this) ha
theorem Rel.set (R : Rel c fix kp φ G h) {i : Nat} {a : Addr} {o : Obj} {g : GO} (ea : φ[i]? = some a) (hs : ∀ b, b ≠ a → ∀ x, h.get? b = some x → h'.get? b = some x) (ho : h'.get? a = some o) (hg : c.GR fix φ g o) : Rel c fix kp φ (G.set i g) h' where
  base := R.base
  fixK b x e := hs b (by rintro rfl; rw [(R.mem ea).1] at e; cases e) x (R.fixK b x e)
  kpK b x e := hs b (by rintro rfl; rw [(R.mem ea).2] at e; cases e) x (R.kpK b x e)
  dj := R.dj
  len := by rw [List.length_set]; exact R.len
  nd := R.nd
  out := R.out
  obj j b x eb eg := by
    by_cases hj : j = i
    · subst hj
      rw [ea] at eb; cases eb
      have hlt : j < G.length := by rw [← R.len]; exact (List.getElem?_eq_some_iff.mp ea).1
      rw [List.getElem?_set_self hlt] at eg; cases eg
      exact ⟨o, ho, hg⟩
    · rw [List.getElem?_set_ne (Ne.symm hj)] at eg
      obtain ⟨y, hy, hg'⟩ := R.obj j b x eb eg
      refine ⟨y, hs b ?_ y hy, hg'⟩
      rintro rfl
      exact hj ((List.getElem?_inj (List.getElem?_eq_some_iff.mp eb).1 R.nd).mp (eb.trans ea.symm))
  st := R.st
  lo := R.lo
end

theorem St.rel {c : CX} {fix kp : Kp} {φ : List Addr} {G : GH} {s : Shared} (h : St c fix kp φ G s) : Rel c fix kp φ G s.heap := h.1

end Mine
end
section
set_option autoImplicit false
namespace Mine
open PySem PySem.W PyProof.Rows PySem.Calls

noncomputable def Ev (c : CX) (A : Around) (fix kp : Kp) (φ : List Addr) {α : Type} (t : Sem α) (s : Shared) (G' : GH) (R : Kp → List Addr → α → Prop) : Prop :=
  ∀ (E : Value → Shared → Prop) (Q : α → Shared → Prop), (∀ fix' φ' x s', Le fix fix' → φ <+: φ' → St c fix' kp φ' G' s' → R fix' φ' x → Q x s') → wpAny c.M A t Q E s

structure AOk (A : Around) (d : Nat) : Prop where
  handled : A.handled = none
  depth : A.depth + 4 * (d + 1) + 3 < recursionLimit
  units : A.units + 20 * (d + 1) + 90 < cLine
structure AOkC (A : Around) (d : Nat) : Prop where
  handled : A.handled = none
  depth : A.depth + 4 * (d + 1) < recursionLimit
  units : A.units + 20 * (d + 1) + 80 < cLine
theorem AOk.call {A : Around} {d : Nat} (h : AOk A d) : AOkC A d := ⟨h.handled, by have := h.depth; omega, by have := h.units; omega⟩
theorem AOkC.body {A : Around} {d : Nat} (h : AOkC A (d + 1)) (env : Env) : AOk (A.deeper env) d :=
  ⟨h.handled, by have := h.depth; show A.depth + 1 + _ + 3 < _; omega, by have := h.units; show A.units + 3 + _ + 90 < _; omega⟩

section
variable {c : CX} {A : Around} {fix kp : Kp} {φ : List Addr} {G : GH} {s : Shared} {d : Nat}

theorem St.toks (S : St c fix kp φ G s) (t : Nat) : St c fix kp φ G { s with toks := t } := S

theorem Ev.same {α : Type} {t : Sem α} {R : Kp → List Addr → α → Prop} (S : St c fix kp φ G s) (h : ∀ (E : Value → Shared → Prop) (Q : α → Shared → Prop), (∀ x tk, R fix φ x → Q x { s with toks := tk }) → wpAny c.M A t Q E s) : Ev c A fix kp φ t s G R :=
  fun E Q k => h E Q fun x tk r => k fix φ x _ (Le.refl _) (List.prefix_refl _) (S.toks tk) r

theorem St.frz (S : St c fix kp φ G s) {h' : Heap} {a : Addr} {o : Obj} (hk : ∀ b x, s.heap.get? b = some x → h'.get? b = some x) (ha : h'.get? a = some o) (hn : s.heap.get? a = none) :
    ∃ fix', Le fix fix' ∧ fix' a = some o ∧ ∀ tk, St c fix' kp φ G { s with heap := h', toks := tk } := by
  have R := S.1.ext hk
  have hf : fix a = none := by
    cases e : fix a with
    | none => rfl
    | some x => have := S.1.fixK a x e; rw [hn] at this; cases this
  have hkp : kp a = none := by
    cases e : kp a with
    | none => rfl
    | some x => have := S.1.kpK a x e; rw [hn] at this; cases this
  have hp : a ∉ φ := fun q => by have := S.1.live q; rw [hn] at this; cases this
  obtain ⟨R', l⟩ := R.freeze ha hkp hp hf
  exact ⟨_, l, upd_self _ _ _, fun tk => ⟨R', S.2.1, S.2.2⟩⟩
theorem St.frzPush (S : St c fix kp φ G s) {o : Obj} (ho : o.isFreed = false) :
    ∃ fix', Le fix fix' ∧ fix' s.heap.objs.size = some o ∧ ∀ tk, St c fix' kp φ G { s with heap := s.heap.push o, toks := tk } :=
  S.frz (fun _ _ e => Heap.get?_push_of_some o e) (Heap.get?_push_size _ ho) (get_size _)

section
variable {tab : List Str} {fx : Kp} {ph : List Addr} {x : Value} {P : Value → Prop}
theorem intV {i : Int} (h : VR tab fx ph (.int i) x) (g : ∀ t, P (.int i t)) : P x := by cases h; exact g _
theorem strV {k : Nat} (h : VR tab fx ph (.str k) x) (g : ∀ n t, tab[k]? = some n → P (.str n t)) : P x := by cases h; exact g _ _ (by assumption)
theorem noneV (h : VR tab fx ph .none x) (g : P .none) : P x := by cases h; exact g
theorem boolV {b : Bool} (h : VR tab fx ph (.bool b) x) (g : P (.bool b)) : P x := by cases h; exact g
theorem refV {i : Nat} (h : VR tab fx ph (.ref i) x) (g : ∀ a, ph[i]? = some a → P (.ref a)) : P x := by cases h; exact g _ (by assumption)
theorem lstV {l : List MV} (h : VR tab fx ph (.lst l) x) (g : ∀ a xs n, fx a = some ⟨.type "list", Option.none, .seq xs.toArray n, #[]⟩ → VRs tab fx ph l xs → l.length ≤ 4096 → P (.ref a)) : P x := by cases h; exact g _ _ _ (by assumption) (by assumption) (by assumption)
theorem tupV {l : List MV} (h : VR tab fx ph (.tup l) x) (g : ∀ a xs n, fx a = some ⟨.type "tuple", Option.none, .seq xs.toArray n, #[]⟩ → VRs tab fx ph l xs → l.length ≤ 4096 → P (.ref a)) : P x := by cases h; exact g _ _ _ (by assumption) (by assumption) (by assumption)
theorem objV {C i : Nat} (h : VR tab fx ph (.obj C i) x) (g : ∀ a d, fx a = some (instObj C d) → ph[i]? = some d → P (.ref a)) : P x := by cases h; exact g _ _ (by assumption) (by assumption)
end
theorem St.go (S : St c fix kp φ G s) {i : Nat} {a : Addr} {l : List MV} {P : Prop} (hp : φ[i]? = some a) (hg : G[i]? = some (.lst l)) (g : ∀ xs n, s.heap.get? a = some ⟨.type "list", none, .seq xs.toArray n, #[]⟩ → c.VRs fix φ l xs → l.length ≤ 4096 → P) : P := by
  obtain ⟨o, ho, xs, n, e, r, z⟩ := S.1.goAt hg hp
  exact g xs n (e ▸ ho) r z
theorem St.gd (S : St c fix kp φ G s) {i : Nat} {a : Addr} {l : List (Nat × MV)} {P : Prop} (hp : φ[i]? = some a) (hg : G[i]? = some (.sd l)) (g : ∀ es n, s.heap.get? a = some ⟨.type "dict", none, .dict es.toArray n, #[]⟩ → SDs c.prog c.w c.S.tab fix φ l es → (l.map (·.1)).Nodup → l.length ≤ 4096 → P) : P := by
  obtain ⟨o, ho, xs, n, e, r, z⟩ := S.1.goAt hg hp
  exact g xs n (e ▸ ho) r z.1 z.2
theorem St.gn (S : St c fix kp φ G s) {i : Nat} {a : Addr} {ep : Nat} {l : List (Int × MV)} {P : Prop} (hp : φ[i]? = some a) (hg : G[i]? = some (.nd ep l)) (g : ∀ es, s.heap.get? a = some ⟨.type "dict", none, .dict es.toArray ep, #[]⟩ → NDs c.prog c.w c.S.tab fix φ l es → (l.map (·.1)).Nodup → l.length ≤ 4096 → P) : P := by
  obtain ⟨o, ho, xs, e, r, z⟩ := S.1.goAt hg hp
  exact g xs (e ▸ ho) r z.1 z.2
theorem lsO_k {l : List MV} {v : MV} {P : MV → Prop} (e : lsO G v = some l) (g1 : P (.lst l)) (g2 : ∀ i, G[i]? = some (.lst l) → P (.ref i)) : P v := by
  cases v with
  | lst m => exact Option.some.inj e ▸ g1
  | ref i => exact g2 i (hL_at e)
  | _ => exact noS e
theorem sqO_k {l : List MV} {v : MV} {P : MV → Prop} (e : sqO G v = some l) (g1 : P (.tup l)) (g2 : lsO G v = some l → P v) : P v := by
  cases v with
  | tup m => exact Option.some.inj e ▸ g1
  | _ => exact g2 e
theorem lstK (S : St c fix kp φ G s) {l : List MV} {x : Value} {v : MV} {P : Value → Prop} (h : c.VR fix φ v x) (e : lsO G v = some l) (g : ∀ a xs n, s.heap.get? a = some ⟨.type "list", none, .seq xs n, #[]⟩ → c.VRs fix φ l xs.toList → l.length ≤ 4096 → P (.ref a)) : P x :=
  lsO_k (P := fun v => c.VR fix φ v x → P x) e (fun h => lstV h fun a xs n hf r z => g a xs.toArray n (S.1.fixK _ _ hf) r z) (fun i hg h => refV h fun a hp => S.go hp hg fun xs n ho r z => g a xs.toArray n ho r z) h
theorem lstIn (S : St c fix kp φ G s) {l : List MV} {x : Value} {v : MV} (h : c.VR fix φ v x) (e : lsO G v = some l) :
    ∃ a xs n, x = .ref a ∧ s.heap.get? a = some ⟨.type "list", none, .seq xs n, #[]⟩ ∧ c.VRs fix φ l xs.toList ∧ l.length ≤ 4096 :=
  lstK (P := fun x => ∃ a xs n, x = .ref a ∧ s.heap.get? a = some ⟨.type "list", none, .seq xs n, #[]⟩ ∧ c.VRs fix φ l xs.toList ∧ l.length ≤ 4096) S h e fun a xs n h1 h2 h3 => ⟨a, xs, n, rfl, h1, h2, h3⟩
theorem seqK (S : St c fix kp φ G s) {l : List MV} {x : Value} {v : MV} {P : Value → Prop} (h : c.VR fix φ v x) (e : sqO G v = some l) (g : ∀ a xs n T, (T = "list" ∨ T = "tuple") → s.heap.get? a = some ⟨.type T, none, .seq xs n, #[]⟩ → c.VRs fix φ l xs.toList → l.length ≤ 4096 → P (.ref a)) : P x :=
  sqO_k (P := fun v => c.VR fix φ v x → P x) e (fun h => tupV h fun a xs n hf r z => g a xs.toArray n "tuple" (.inr rfl) (S.1.fixK _ _ hf) r z) (fun e h => lstK S h e fun a xs n h1 h2 h3 => g a xs n "list" (.inl rfl) h1 h2 h3) h
theorem isL {h : Heap} {a : Addr} {xs : Array Value} {n : Nat} {dd : Option Addr} {sl : Array (Option Value)} (e : h.get? a = some ⟨.type "list", dd, .seq xs n, sl⟩) : h.IsList a xs := ⟨_, e, rfl, n, rfl⟩
theorem sizeOk {l : List MV} {xs : Array Value} (r : c.VRs fix φ l xs.toList) (z : l.length ≤ 4096) : xs.size ≤ 4096 := by
  have e := VRs.length r
  have e2 : xs.toList.length = xs.size := Array.length_toList
  omega
theorem sizeLine_ge {n : Nat} (h : n ≤ 8192) : n ≤ sizeLine := by unfold sizeLine; omega

theorem intsK {v : MV} {l : List MV} {ns : List Int} {P : MV → List Int → Prop} (e : intsO (v :: l) = some ns) (g : ∀ i ms, intsO l = some ms → P (.int i) (i :: ms)) : P v ns :=
  (Option.bind_eq_some_iff.mp (show (iInt v).bind (fun i => (intsO l).map (i :: ·)) = some ns from e)).elim fun i q => (Option.map_eq_some_iff.mp q.2).elim fun ms q2 => iInt_k (P := fun v => P v ns) q.1 (q2.2 ▸ g i ms q2.1)
theorem intsIn {l : List MV} {xs : List Value} (h : c.VRs fix φ l xs) : ∀ {ns : List Int}, intsO l = some ns → IntsAre xs ns :=
  h.ind (M := fun l xs => ∀ {ns : List Int}, intsO l = some ns → IntsAre xs ns) (fun e => Option.some.inj e ▸ .nil) fun v x l xs h _ ih ns e =>
    intsK (P := fun v ns => c.VR fix φ v x → IntsAre (x :: xs) ns) e (fun i ms e h => intV (P := fun x => IntsAre (x :: xs) (i :: ms)) h fun t => .cons i t (ih e)) h
theorem intsOut {xs : List Value} {ns : List Int} (h : IntsAre xs ns) : c.VRs fix φ (ns.map .int) xs := by
  induction h with
  | nil => exact .nil
  | cons i t _ ih => exact .cons (.int i t) ih
theorem intsO_length : ∀ {l : List MV} {ns : List Int}, intsO l = some ns → l.length = ns.length
  | [], ns, e => by cases e; rfl
  | v :: l, ns, e => intsK (P := fun _ ns => l.length + 1 = ns.length) e fun i ms e => congrArg Nat.succ (intsO_length e)

theorem small_iff {a : Int} (h : small a = true) : -18446744073709551616 < a ∧ a < 18446744073709551616 := of_decide_eq_true h

theorem small_bits {a : Int} (h : small a = true) : Builtin.Int.intBits a ≤ 64 := by
  have ha : a.natAbs < 2 ^ 64 := by have := small_iff h; omega
  unfold Builtin.Int.intBits
  split
  · omega
  · rename_i hz
    have hz' : a.natAbs ≠ 0 := by intro q; exact hz (by simp [Int.natAbs_eq_zero.mp q])
    have := (Nat.log2_lt hz').mpr ha
    omega
theorem mulOk {a b : Int} (h : small a = true) : IntMulOk a b := by
  unfold IntMulOk
  have := small_bits h
  have e : decide (Builtin.Int.intBits a > shortFactorBits) = false := decide_eq_false (by unfold shortFactorBits; omega)
  rw [e]; simp
theorem divOk {a b : Int} (h : small b = true) : Builtin.divisionGoesByPylong a b = false := by
  have hb : b.natAbs < 2 ^ 64 := by have := small_iff h; omega
  unfold Builtin.divisionGoesByPylong
  have e : decide ((if (b == 0) = true then 0 else b.natAbs.log2 / 30 + 1) > 300) = false := by
    apply decide_eq_false
    split
    · omega
    · rename_i hz
      have hz' : b.natAbs ≠ 0 := by intro q; exact hz (by simp [Int.natAbs_eq_zero.mp q])
      have := (Nat.log2_lt hz').mpr hb
      omega
  simp only [e, Bool.false_and]
theorem and1 {a : Int} (h : 0 ≤ a) : Builtin.bitAnd a 1 = a % 2 := by
  obtain ⟨n, rfl⟩ := Int.eq_ofNat_of_zero_le h
  unfold Builtin.bitAnd
  have e1 : decide ((0 : Int) ≤ (n : Int)) = true := decide_eq_true h
  have e2 : decide ((0 : Int) ≤ 1) = true := rfl
  rw [e1, e2]
  show ((n &&& 1 : Nat) : Int) = (n : Int) % 2
  rw [Nat.and_one_is_mod]; omega

theorem addLists (S : St c fix kp φ G s) {a b v : MV} {x y : Value} {l m : List MV} (hl : lsO G a = some l) (hm : lsO G b = some m) (hz : l.length + m.length < 4096) (hv : .lst (l ++ m) = v) (va : c.VR fix φ a x) (vb : c.VR fix φ b y) :
    Ev c A fix kp φ (binaryOp .Add x y) s G (fun f p z => c.VR f p v z) := by
  rw [← hv]
  refine lstK (P := fun x => Ev c A fix kp φ (binaryOp .Add x y) s G (fun f p z => c.VR f p (.lst (l ++ m)) z)) S va hl fun p xs n hx rx zx => ?_
  refine lstK (P := fun y => Ev c A fix kp φ (binaryOp .Add (.ref p) y) s G (fun f p z => c.VR f p (.lst (l ++ m)) z)) S vb hm fun q ys k hy ry zy => ?_
  intro E Q k'
  refine concat_meets ⟨_, hx, rfl⟩ ⟨_, hy, rfl⟩ noFill_list_add seq_list_add PySem.F.slot_list_add PySem.F.entry_list_add (PySem.F.args_list_add_2 _ _) (list_addW p q xs ys n k none none #[] #[] (sizeLine_ge (Nat.add_le_add (sizeOk rx zx) (sizeOk ry zy)))) ⟨hx, hy, ?_⟩
  obtain ⟨fix', le, hf, st⟩ := S.frzPush (o := ⟨.type "list", none, .seq (xs ++ ys) 0, #[]⟩) rfl
  exact k' fix' φ _ _ le (List.prefix_refl _) (st _) (VR.lst (xs := xs.toList ++ ys.toList) (n := 0) (by rw [hf]; simp) ((rx.append ry).mono le (List.prefix_refl _)) (by rw [List.length_append]; exact Nat.le_of_lt hz))

noncomputable def Same (c : CX) (A : Around) (fix : Kp) (φ : List Addr) (s : Shared) (v : MV) (t : Sem Value) : Prop := ∀ (E : Value → Shared → Prop) (Q : Value → Shared → Prop), (∀ z tk, c.VR fix φ v z → Q z { s with toks := tk }) → wpAny c.M A t Q E s
theorem binInt {op : Operator} {a b v : MV} {x y : Value} {K : Int → Int → Option MV} (h : i2 a b K = some v) (S : St c fix kp φ G s) (va : c.VR fix φ a x) (vb : c.VR fix φ b y) (g : ∀ i j t u, K i j = some v → Same c A fix φ s v (binaryOp op (.int i t) (.int j u))) : Ev c A fix kp φ (binaryOp op x y) s G (fun f p z => c.VR f p v z) :=
  Ev.same S (i2_k (P := fun a b => c.VR fix φ a x → c.VR fix φ b y → Same c A fix φ s v (binaryOp op x y)) h (fun i j h va vb => intV (P := fun x => Same c A fix φ s v (binaryOp op x y)) va fun t => intV (P := fun y => Same c A fix φ s v (binaryOp op (.int i t) y)) vb fun u => g i j t u h) va vb)
theorem isI {i : Int} {v : MV} {t : Tok} (h : some (MV.int i) = some v) : c.VR fix φ v (.int i t) := Option.some.inj h ▸ .int i t
theorem oif' {α : Type} {p : Prop} [Decidable p] {a : Option α} {b : α} (h : (if p then a else none) = some b) : p ∧ a = some b := by
  by_cases hp : p
  · rw [if_pos hp] at h; exact ⟨hp, h⟩
  · rw [if_neg hp] at h; cases h
theorem kEq' {α : Type} [BEq α] [LawfulBEq α] {a b : α} {P : α → Prop} (h : (a == b) = true) (g : P b) : P a := eq_of_beq h ▸ g

theorem binO_ok {o : B2} {op : Operator} {a b v : MV} {x y : Value} (h : binO G o a b = some v) (hop : b2Ok o op = true) (S : St c fix kp φ G s) (va : c.VR fix φ a x) (vb : c.VR fix φ b y) :
    Ev c A fix kp φ (binaryOp op x y) s G (fun f p z => c.VR f p v z) := by
  cases o with
  | add =>
    refine kEq' (P := fun op => Ev c A fix kp φ (binaryOp op x y) s G (fun f p z => c.VR f p v z)) hop ?_
    cases e : iInt a with
    | some i =>
      refine binInt (K := fun a b => some (.int (a + b))) (a := a) (b := b) ?_ S va vb fun i j t u h E Q k => add_int (k _ _ (isI h))
      have h' : (match iInt a with
        | some a => (iInt b).map fun b => MV.int (a + b)
        | none => (lsO G a).bind fun a => (lsO G b).bind fun b => if a.length + b.length < 4096 then some (.lst (a ++ b)) else none) = some v := h
      rw [e] at h'
      unfold i2
      rw [e]
      obtain ⟨j, h1, h2⟩ := Option.map_eq_some_iff.mp h'
      rw [h1, ← h2]; rfl
    | none =>
      have h' : (match iInt a with
        | some a => (iInt b).map fun b => MV.int (a + b)
        | none => (lsO G a).bind fun a => (lsO G b).bind fun b => if a.length + b.length < 4096 then some (.lst (a ++ b)) else none) = some v := h
      rw [e] at h'
      obtain ⟨l, h1, h2⟩ := Option.bind_eq_some_iff.mp h'
      obtain ⟨m, h3, h4⟩ := Option.bind_eq_some_iff.mp h2
      exact addLists S h1 h3 (oif' h4).1 (Option.some.inj (oif' h4).2) va vb
  | sub => exact kEq' (P := fun op => Ev c A fix kp φ (binaryOp op x y) s G (fun f p z => c.VR f p v z)) hop (binInt h S va vb fun i j t u h E Q k => sub_int (k _ _ (isI h)))
  | mul => exact kEq' (P := fun op => Ev c A fix kp φ (binaryOp op x y) s G (fun f p z => c.VR f p v z)) hop (binInt h S va vb fun i j t u h E Q k => mul_int (k _ _ (isI (oif' h).2)) (mulOk (Bool.and_eq_true_iff.mp (oif' h).1).1))
  | mod => exact kEq' (P := fun op => Ev c A fix kp φ (binaryOp op x y) s G (fun f p z => c.VR f p v z)) hop (binInt h S va vb fun i j t u h E Q k => mod_int' (oif' h).1 (k _ _ (isI (oif' h).2)))
  | fdiv => exact kEq' (P := fun op => Ev c A fix kp φ (binaryOp op x y) s G (fun f p z => c.VR f p v z)) hop (binInt h S va vb fun i j t u h E Q k => floordiv_int (oif' h).1.1 (k _ _ (isI (oif' h).2)) (.inl (divOk (oif' h).1.2.2)))
  | shr => exact kEq' (P := fun op => Ev c A fix kp φ (binaryOp op x y) s G (fun f p z => c.VR f p v z)) hop (binInt h S va vb fun i j t u h E Q k => rshift_int (oif' h).1 (k _ _ (isI (oif' h).2)))
  | band => exact kEq' (P := fun op => Ev c A fix kp φ (binaryOp op x y) s G (fun f p z => c.VR f p v z)) hop (binInt h S va vb fun i j t u h E Q k => and_int (by rw [(oif' h).1.1, and1 (oif' h).1.2]; exact k _ _ (isI (oif' h).2)))

theorem negO_ok {a v : MV} {x : Value} (h : negO a = some v) (S : St c fix kp φ G s) (va : c.VR fix φ a x) :
    Ev c A fix kp φ (unaryOp .USub x) s G (fun f p z => c.VR f p v z) :=
  (Option.map_eq_some_iff.mp h).elim fun i h => Ev.same S (iInt_k (P := fun a => c.VR fix φ a x → Same c A fix φ s v (unaryOp .USub x)) h.1 (fun va => intV (P := fun x => Same c A fix φ s v (unaryOp .USub x)) va fun t E Q k => neg_int (k _ _ (isI (congrArg some h.2)))) va)
end
end Mine
end
section
set_option autoImplicit false
namespace Mine
open PySem PySem.W PyProof.Rows PySem.Calls PySem.Spec

mutual
noncomputable def toPy : DT → PyData
  | .none => .none
  | .bool b => .bool b
  | .int i => .int i
  | .tup l => .tuple (toPys l)
  | .lst l => .list (toPys l)
noncomputable def toPys : List DT → List PyData
  | [] => []
  | d :: r => toPy d :: toPys r
end
theorem dEq_py (a : DT) : ∀ b : DT, (toPy a).eqv (toPy b) = dEq a b :=
  DT.rec (motive_1 := fun a => ∀ b, (toPy a).eqv (toPy b) = dEq a b) (motive_2 := fun a => ∀ b, PyData.eqvAll (toPys a) (toPys b) = dEqs a b)
    (fun b => by cases b <;> rfl) (fun x b => by cases b <;> first | rfl | (rename_i y; cases x <;> cases y <;> rfl)) (fun x b => by cases b <;> rfl)
    (fun l ih b => by cases b <;> first | rfl | exact ih _) (fun l ih b => by cases b <;> first | rfl | exact ih _)
    (fun b => by cases b <;> rfl) (fun x a h1 h2 b => by
      cases b with
      | nil => rfl
      | cons y b =>
        have e : PyData.eqvAll (toPys (x :: a)) (toPys (y :: b)) = ((toPy x).eqv (toPy y) && PyData.eqvAll (toPys a) (toPys b)) := rfl
        rw [e, h1, h2]; rfl) a

section
variable {c : CX} {A : Around} {fix kp : Kp} {φ : List Addr} {G : GH} {s : Shared} {d : Nat}

noncomputable def DOk (s : Shared) (n : Nat) (x : Value) (t : DT) : Prop := (∃ as, Reads s.heap x (toPy t) as) ∧ (toPy t).canLay0 = true ∧ (toPy t).depth ≤ n
noncomputable def DsOk (s : Shared) (n : Nat) (xs : List Value) (ts : List DT) : Prop := (∃ as, ReadsAll s.heap xs (toPys ts) as) ∧ PyData.canLayAll0 (toPys ts) = true ∧ PyData.depthAll (toPys ts) ≤ n
theorem atomIn {n : Nat} {v : MV} {x : Value} {t : DT} (h : c.VR fix φ v x) (e : atomD v = some t) : DOk s n x t := by
  cases v with
  | none => exact Option.some.inj e ▸ noneV (P := fun x => DOk s n x .none) h ⟨⟨_, Reads.none⟩, rfl, Nat.zero_le _⟩
  | bool b => exact Option.some.inj e ▸ boolV (P := fun x => DOk s n x (.bool b)) h ⟨⟨_, Reads.bool b⟩, rfl, Nat.zero_le _⟩
  | int i => exact Option.some.inj e ▸ intV (P := fun x => DOk s n x (.int i)) h fun t => ⟨⟨_, Reads.int i t⟩, rfl, Nat.zero_le _⟩
  | _ => exact noS e
theorem datsIn {n : Nat} (ih : ∀ {v : MV} {x : Value} {t : DT}, c.VR fix φ v x → datO G n v = some t → DOk s n x t) {l : List MV} {xs : List Value} (h : c.VRs fix φ l xs) : ∀ {ts : List DT}, datsW (datO G n) l = some ts → DsOk s n xs ts :=
  h.ind (M := fun l xs => ∀ {ts : List DT}, datsW (datO G n) l = some ts → DsOk s n xs ts) (fun e => Option.some.inj e ▸ ⟨⟨_, ReadsAll.nil⟩, rfl, Nat.zero_le _⟩) fun v x l xs h _ ih2 ts e => by
    obtain ⟨t, h1, h2⟩ := Option.bind_eq_some_iff.mp (show (datO G n v).bind (fun d => (datsW (datO G n) l).map (d :: ·)) = some ts from e)
    obtain ⟨us, h3, h4⟩ := Option.map_eq_some_iff.mp h2
    have a := ih h h1
    have b := ih2 h3
    rw [← h4]
    exact a.1.elim fun as p => b.1.elim fun bs q => ⟨⟨_, ReadsAll.cons p q⟩, Bool.and_eq_true_iff.mpr ⟨a.2.1, b.2.1⟩, Nat.max_le.mpr ⟨a.2.2, b.2.2⟩⟩
theorem datIn (S : St c fix kp φ G s) : ∀ {n : Nat} {v : MV} {x : Value} {t : DT}, c.VR fix φ v x → datO G n v = some t → DOk s n x t
  | 0, v, x, t, h, e => atomIn h e
  | n + 1, v, x, t, h, e => by
    have e : (match iTup v with
      | some l => (datsW (datO G n) l).map .tup
      | none => match lsO G v with
        | some l => (datsW (datO G n) l).map .lst
        | none => atomD v) = some t := e
    cases q : iTup v with
    | some l =>
      rw [q] at e
      obtain ⟨ts, h1, h2⟩ := Option.map_eq_some_iff.mp e
      rw [← h2]
      exact iTup_k (P := fun v => c.VR fix φ v x → DOk s (n + 1) x (.tup ts)) q (fun h => tupV (P := fun x => DOk s (n + 1) x (.tup ts)) h fun a xs k hf r z => by
        have o := datsIn (fun h e => datIn S h e) r h1
        exact o.1.elim fun as p => ⟨⟨_, reads_tuple_at (S.1.fixK _ _ hf) rfl rfl p⟩, o.2.1, Nat.succ_le_succ o.2.2⟩) h
    | none =>
      rw [q] at e
      cases q2 : lsO G v with
      | some l =>
        rw [q2] at e
        obtain ⟨ts, h1, h2⟩ := Option.map_eq_some_iff.mp e
        rw [← h2]
        exact lstK (P := fun x => DOk s (n + 1) x (.lst ts)) S h q2 fun a xs k ho r z => by
          have o := datsIn (fun h e => datIn S h e) r h1
          exact o.1.elim fun as p => ⟨⟨_, reads_list_at ho rfl rfl p⟩, o.2.1, Nat.succ_le_succ o.2.2⟩
      | none =>
        rw [q2] at e
        exact atomIn h e

theorem shapedOf {n : Nat} {x : Value} {t : DT} (h : DOk s n x t) (hn : n ≤ 8) : SeqAt.shaped (toPy t) = true := by
  unfold SeqAt.shaped; rw [h.2.1, Bool.true_and]; exact decide_eq_true (by have := h.2.2; omega)
theorem eqO_ok {a b : MV} {x y : Value} {r : Bool} (h : eqO G a b = some r) (S : St c fix kp φ G s) (va : c.VR fix φ a x) (vb : c.VR fix φ b y) (hA : AOk A d) :
    (∀ (E : Value → Shared → Prop) (Q : Value → Shared → Prop), Q (.bool r) s → wpAny c.M A (compareOp .Eq x y) Q E s) ∧ (∀ (E : Value → Shared → Prop) (Q : Value → Shared → Prop), Q (.bool (!r)) s → wpAny c.M A (compareOp .NotEq x y) Q E s) := by
  obtain ⟨t, ht, h⟩ := Option.bind_eq_some_iff.mp h
  obtain ⟨u, hu, h⟩ := Option.map_eq_some_iff.mp h
  have a := datIn S va ht
  have b := datIn S vb hu
  have hu' : A.units + 64 < cLine := by have := hA.units; omega
  rw [← h]
  exact a.1.elim fun as q => b.1.elim fun bs p => ⟨fun E Q k => eq_dataH q p (shapedOf a (Nat.le_refl _)) (shapedOf b (Nat.le_refl _)) hu' (by rw [dEq_py]; exact k), fun E Q k => ne_dataH q p (shapedOf a (Nat.le_refl _)) (shapedOf b (Nat.le_refl _)) hu' (by rw [dEq_py]; exact k)⟩

theorem anyInts (x : Int) : ∀ ns : List Int, (ns.map PyData.int).any (datHitsInt x) = ns.contains x
  | [] => rfl
  | n :: r => by
    rw [List.map_cons, List.any_cons, List.contains_cons, anyInts x r]
    congr 1
    show (n == x) = (x == n)
    by_cases h : n = x
    · subst h; rfl
    · rw [beq_eq_false_iff_ne.mpr h, beq_eq_false_iff_ne.mpr (fun q => h q.symm)]
theorem anyVals (x : Int) {xs : List Value} {ns : List Int} (h : IntsAre xs ns) : xs.any (valHitsInt x) = ns.contains x := by
  rw [(PySem.W.ke_carried h).anyInt x, anyInts]

noncomputable def Cmp (c : CX) (A : Around) (s : Shared) (r : Bool) (op : CmpOp) (x y : Value) : Prop := ∀ (E : Value → Shared → Prop) (Q : Value → Shared → Prop), Q (.bool r) s → wpAny c.M A (compareOp op x y) Q E s
theorem isinO_ok {a : Int} {b : MV} {t : Tok} {y : Value} {ns : List Int} (h : (sqO G b).bind intsO = some ns) (S : St c fix kp φ G s) (vb : c.VR fix φ b y) :
    Cmp c A s (ns.contains a) .In (.int a t) y ∧ Cmp c A s (!ns.contains a) .NotIn (.int a t) y := by
  obtain ⟨l, hl, hn⟩ := Option.bind_eq_some_iff.mp h
  refine seqK (P := fun y => Cmp c A s (ns.contains a) .In (.int a t) y ∧ Cmp c A s (!ns.contains a) .NotIn (.int a t) y) S vb hl fun p xs n T hT ho r z => ?_
  have hi := intsIn r hn
  have hc := PySem.W.ke_carried hi
  have he : ∀ y, y ∈ xs → SeqAt.EqAt A.in1 s y (.int a t) (valHitsInt a y) := fun y hy => (hc.memC y (Array.mem_toList_iff.mpr hy)).elim fun d cc => cc.eqAtInt a t
  have hany : xs.any (valHitsInt a) = ns.contains a := by rw [← anyVals a hi]; exact Array.any_toList.symm
  rw [← hany]
  rcases hT with e | e
  · rw [e] at ho
    exact ⟨fun E Q k => SeqAt.in_listAt (valHitsInt a) ⟨_, ho, rfl, n, rfl⟩ he k, fun E Q k => SeqAt.notIn_listAt (valHitsInt a) ⟨_, ho, rfl, n, rfl⟩ he k⟩
  · rw [e] at ho
    exact ⟨fun E Q k => SeqAt.in_tupleAt (valHitsInt a) ⟨_, ho, rfl, n, rfl⟩ he k, fun E Q k => SeqAt.notIn_tupleAt (valHitsInt a) ⟨_, ho, rfl, n, rfl⟩ he k⟩

theorem cmpInt {op : CmpOp} {a b : MV} {x y : Value} {r : Bool} {K : Int → Int → Option Bool} (h : i2 a b K = some r) (va : c.VR fix φ a x) (vb : c.VR fix φ b y) (g : ∀ i j t u, K i j = some r → Cmp c A s r op (.int i t) (.int j u)) : Cmp c A s r op x y :=
  i2_k (P := fun a b => c.VR fix φ a x → c.VR fix φ b y → Cmp c A s r op x y) h (fun i j h va vb => intV (P := fun x => Cmp c A s r op x y) va fun t => intV (P := fun y => Cmp c A s r op (.int i t) y) vb fun u => g i j t u h) va vb
theorem isO_k {a : MV} {x : Value} {r : Bool} {P : Value → Bool → Prop} (h : isO a = some r) (va : c.VR fix φ a x) (g1 : P .none true) (g2 : ∀ i t, P (.int i t) false) (g3 : ∀ a, P (.ref a) false) : P x r := by
  cases a with
  | none => exact Option.some.inj h ▸ noneV (P := fun x => P x true) va g1
  | int i => exact Option.some.inj h ▸ intV (P := fun x => P x false) va (g2 i)
  | lst l => exact Option.some.inj h ▸ lstV (P := fun x => P x false) va fun a _ _ _ _ _ => g3 a
  | _ => exact noS h
theorem cmpO_ok {o : C2} {op : CmpOp} {a b : MV} {x y : Value} {r : Bool} (h : cmpO G o a b = some r) (hop : c2Ok o op = true) (S : St c fix kp φ G s) (va : c.VR fix φ a x) (vb : c.VR fix φ b y) (hA : AOk A d) : Cmp c A s r op x y := by
  cases o with
  | eq => exact kEq' (P := fun op => Cmp c A s r op x y) hop (eqO_ok h S va vb hA).1
  | ne => exact (Option.map_eq_some_iff.mp h).elim fun r' h => kEq' (P := fun op => Cmp c A s r op x y) hop (h.2 ▸ (eqO_ok h.1 S va vb hA).2)
  | lt => exact kEq' (P := fun op => Cmp c A s r op x y) hop (cmpInt h va vb fun i j t u h => Option.some.inj h ▸ fun E Q k => lt_int k)
  | le => exact kEq' (P := fun op => Cmp c A s r op x y) hop (cmpInt h va vb fun i j t u h => Option.some.inj h ▸ fun E Q k => le_int k)
  | gt => exact kEq' (P := fun op => Cmp c A s r op x y) hop (cmpInt h va vb fun i j t u h => Option.some.inj h ▸ fun E Q k => gt_int k)
  | ge => exact kEq' (P := fun op => Cmp c A s r op x y) hop (cmpInt h va vb fun i j t u h => Option.some.inj h ▸ fun E Q k => ge_int k)
  | isin => exact (Option.bind_eq_some_iff.mp h).elim fun i h => (Option.map_eq_some_iff.mp h.2).elim fun ns h2 => kEq' (P := fun op => Cmp c A s r op x y) hop (iInt_k (P := fun a => c.VR fix φ a x → Cmp c A s r .In x y) h.1 (fun va => intV (P := fun x => Cmp c A s r .In x y) va fun t => h2.2 ▸ (isinO_ok h2.1 S vb).1) va)
  | nin => exact (Option.bind_eq_some_iff.mp h).elim fun i h => (Option.map_eq_some_iff.mp h.2).elim fun ns h2 => kEq' (P := fun op => Cmp c A s r op x y) hop (iInt_k (P := fun a => c.VR fix φ a x → Cmp c A s r .NotIn x y) h.1 (fun va => intV (P := fun x => Cmp c A s r .NotIn x y) va fun t => h2.2 ▸ (isinO_ok h2.1 S vb).2) va)
  | is => exact kEq' (P := fun op => Cmp c A s r op x y) hop (isN_k (P := fun b => c.VR fix φ b y → Cmp c A s r .Is x y) (oif' h).1 (fun vb => noneV (P := fun y => Cmp c A s r .Is x y) vb (isO_k (P := fun x r => Cmp c A s r .Is x .none) (oif' h).2 va (fun E Q k => wpAny_is_plain rfl k) (fun i t E Q k => wpAny_is_other rfl (fun e => nomatch e) k) fun a E Q k => wpAny_is_other rfl (fun e => nomatch e) k)) vb)
  | isn => exact kEq' (P := fun op => Cmp c A s r op x y) hop ((Option.map_eq_some_iff.mp (oif' h).2).elim fun r' h2 => isN_k (P := fun b => c.VR fix φ b y → Cmp c A s r .IsNot x y) (oif' h).1 (fun vb => noneV (P := fun y => Cmp c A s r .IsNot x y) vb (h2.2 ▸ isO_k (P := fun x r => Cmp c A s (!r) .IsNot x .none) h2.1 va (fun E Q k => wpAny_isNot_plain rfl k) (fun i t E Q k => wpAny_isNot_other rfl (fun e => nomatch e) k) fun a E Q k => wpAny_isNot_other rfl (fun e => nomatch e) k)) vb)
end
end Mine
end
section
set_option autoImplicit false
set_option linter.unusedSectionVars false
namespace Mine
open PySem PySem.W PyProof.Rows PySem.Calls

section
variable {prog : Program} {w : World} {κ K : Type} [DecidableEq κ] [DecidableEq K] {knd : PySem.KeyKind prog w K} {kr : κ → K → Prop} {tab : List Str} {fix : Kp} {φ : List Addr}
  (inj : ∀ k k' x, kr k x → kr k' x → k = k') (fn : ∀ k x x', kr k x → kr k x' → x = x')

theorem EDs.ind {M : List (κ × MV) → List DictEntry → Prop} {l : List (κ × MV)} {es : List DictEntry} (h : EDs knd kr tab fix φ l es) (n : M [] []) (k : ∀ k v x key y l es, kr k x → knd.is x key = true → VR tab fix φ v y → EDs knd kr tab fix φ l es → M l es → M ((k, v) :: l) (⟨knd.hash x, key, y⟩ :: es)) : M l es :=
  EDs.rec (motive := fun l es _ => M l es) n (fun a b c d ih => k _ _ _ _ _ _ _ a b c d ih) h
theorem EDs.length {l : List (κ × MV)} {es : List DictEntry} (h : EDs knd kr tab fix φ l es) : l.length = es.length :=
  h.ind (M := fun l es => l.length = es.length) rfl fun _ _ _ _ _ _ _ _ _ _ _ ih => congrArg Nat.succ ih
theorem EDs.keysOf {l : List (κ × MV)} {es : List DictEntry} (h : EDs knd kr tab fix φ l es) : ∀ e ∈ es, ∃ k, knd.is k e.key = true ∧ e.hash = knd.hash k :=
  h.ind (M := fun _ es => ∀ e ∈ es, ∃ k, knd.is k e.key = true ∧ e.hash = knd.hash k) (fun e h => absurd h List.not_mem_nil) fun _ _ x _ _ _ _ _ hi _ _ ih e m => (List.mem_cons.mp m).elim (fun q => q ▸ ⟨x, hi, rfl⟩) (ih e)
include inj fn in
theorem EDs.isKey {k k' : κ} {x x' : K} {key : Value} (hk : kr k x) (hk' : kr k' x') (hi : knd.is x' key = true) : knd.is x key = decide (k' = k) := by
  by_cases h : k' = k
  · subst h
    rw [fn _ _ _ hk hk', hi, decide_eq_true rfl]
  · rw [decide_eq_false h]
    cases q : knd.is x key with
    | false => rfl
    | true =>
      have := knd.inj key x x' q hi
      subst this
      exact absurd (inj _ _ _ hk' hk) h
theorem lookI {k : κ} {v : MV} {l : List (κ × MV)} : ((k, v) :: l).lookup k = some v := by rw [List.lookup_cons, beq_self_eq_true]
theorem lookU {k k' : κ} {v : MV} {l : List (κ × MV)} (h : ¬ k' = k) : ((k', v) :: l).lookup k = l.lookup k := by rw [List.lookup_cons, beq_eq_false_iff_ne.mpr fun q => h q.symm]
theorem findI {α : Type} {p : α → Bool} {a : α} {l : List α} (h : p a = true) : (a :: l).find? p = some a := by rw [List.find?_cons, h]
theorem findU {α : Type} {p : α → Bool} {a : α} {l : List α} (h : p a = false) : (a :: l).find? p = l.find? p := by rw [List.find?_cons, h]
theorem idxI {α : Type} {p : α → Bool} {a : α} {l : List α} (h : p a = true) : (a :: l).findIdx? p = some 0 := by rw [List.findIdx?_cons, h]; rfl
theorem idxU {α : Type} {p : α → Bool} {a : α} {l : List α} (h : p a = false) : (a :: l).findIdx? p = (l.findIdx? p).map (· + 1) := by rw [List.findIdx?_cons, h]; rfl
theorem setI {k : κ} {v w : MV} {l : List (κ × MV)} : setL ((k, w) :: l) k v = (k, v) :: l := if_pos rfl
theorem setU {k k' : κ} {v w : MV} {l : List (κ × MV)} (h : ¬ k' = k) : setL ((k', w) :: l) k v = (k', w) :: setL l k v := if_neg h
include inj fn in
theorem EDs.findS {k : κ} {x : K} (hk : kr k x) {l : List (κ × MV)} {es : List DictEntry} (h : EDs knd kr tab fix φ l es) : ∀ {v : MV}, l.lookup k = some v → ∃ e, es.find? (fun e => knd.is x e.key) = some e ∧ VR tab fix φ v e.val :=
  h.ind (M := fun l es => ∀ {v : MV}, l.lookup k = some v → ∃ e, es.find? (fun e => knd.is x e.key) = some e ∧ VR tab fix φ v e.val) (fun e => noS e) fun k' v' x' key y l es hk' hi hv _ ih v e => by
    have q := EDs.isKey inj fn hk hk' hi
    by_cases h : k' = k
    · subst h
      rw [lookI] at e
      exact ⟨_, findI (p := fun e : DictEntry => knd.is x e.key) (q.trans (decide_eq_true rfl)), Option.some.inj e ▸ hv⟩
    · rw [lookU h] at e
      rw [findU (p := fun e : DictEntry => knd.is x e.key) (q.trans (decide_eq_false h))]
      exact ih e
include inj fn in
theorem EDs.findN {k : κ} {x : K} (hk : kr k x) {l : List (κ × MV)} {es : List DictEntry} (h : EDs knd kr tab fix φ l es) : l.lookup k = none → es.find? (fun e => knd.is x e.key) = none :=
  h.ind (M := fun l es => l.lookup k = none → es.find? (fun e => knd.is x e.key) = none) (fun e => rfl) fun k' v' x' key y l es hk' hi hv _ ih e => by
    have q := EDs.isKey inj fn hk hk' hi
    by_cases h : k' = k
    · subst h
      rw [lookI] at e
      exact noS e.symm
    · rw [lookU h] at e
      rw [findU (p := fun e : DictEntry => knd.is x e.key) (q.trans (decide_eq_false h))]
      exact ih e
include inj fn in
theorem EDs.setSome {k : κ} {x : K} (hk : kr k x) {v : MV} {y : Value} (hv : VR tab fix φ v y) {l : List (κ × MV)} {es : List DictEntry} (h : EDs knd kr tab fix φ l es) : ∀ {i : Nat}, es.findIdx? (fun e => knd.is x e.key) = some i →
    EDs knd kr tab fix φ (setL l k v) (es.modify i fun e => { e with val := y }) ∧ (l.lookup k).isSome = true ∧ (setL l k v).map (·.1) = l.map (·.1) :=
  h.ind (M := fun l es => ∀ {i : Nat}, es.findIdx? (fun e => knd.is x e.key) = some i →
    EDs knd kr tab fix φ (setL l k v) (es.modify i fun e => { e with val := y }) ∧ (l.lookup k).isSome = true ∧ (setL l k v).map (·.1) = l.map (·.1)) (fun h => noS h) fun k' v' x' key y' l es hk' hi hv' r ih i e => by
    have q := EDs.isKey inj fn hk hk' hi
    by_cases h : k' = k
    · subst h
      rw [idxI (p := fun e : DictEntry => knd.is x e.key) (q.trans (decide_eq_true rfl))] at e
      rw [setI, lookI, ← Option.some.inj e]
      exact ⟨.cons hk' hi hv r, rfl, rfl⟩
    · rw [idxU (p := fun e : DictEntry => knd.is x e.key) (q.trans (decide_eq_false h))] at e
      obtain ⟨j, hj, e⟩ := Option.map_eq_some_iff.mp e
      have o := ih hj
      rw [setU h, lookU h, ← e]
      exact ⟨.cons hk' hi hv' o.1, o.2.1, congrArg (k' :: ·) o.2.2⟩
include inj fn in
theorem EDs.setNone {k : κ} {x : K} (hk : kr k x) {v : MV} {y key : Value} (hkey : knd.is x key = true) (hv : VR tab fix φ v y) {l : List (κ × MV)} {es : List DictEntry} (h : EDs knd kr tab fix φ l es) : es.findIdx? (fun e => knd.is x e.key) = none →
    EDs knd kr tab fix φ (setL l k v) (es ++ [⟨knd.hash x, key, y⟩]) ∧ (l.lookup k).isSome = false ∧ (setL l k v).map (·.1) = l.map (·.1) ++ [k] ∧ k ∉ l.map (·.1) :=
  h.ind (M := fun l es => es.findIdx? (fun e => knd.is x e.key) = none →
    EDs knd kr tab fix φ (setL l k v) (es ++ [(⟨knd.hash x, key, y⟩ : DictEntry)]) ∧ (l.lookup k).isSome = false ∧ (setL l k v).map (·.1) = l.map (·.1) ++ [k] ∧ k ∉ l.map (·.1)) (fun _ => ⟨.cons hk hkey hv .nil, rfl, rfl, List.not_mem_nil⟩) fun k' v' x' key' y' l es hk' hi hv' r ih e => by
    have q := EDs.isKey inj fn hk hk' hi
    by_cases h : k' = k
    · subst h
      rw [idxI (p := fun e : DictEntry => knd.is x e.key) (q.trans (decide_eq_true rfl))] at e
      exact noS e.symm
    · rw [idxU (p := fun e : DictEntry => knd.is x e.key) (q.trans (decide_eq_false h))] at e
      have o := ih (Option.map_eq_none_iff.mp e)
      rw [setU h, lookU h]
      exact ⟨.cons hk' hi hv' o.1, o.2.1, congrArg (k' :: ·) o.2.2.1, fun m => (List.mem_cons.mp m).elim (fun e => h e.symm) o.2.2.2⟩
end

theorem krS_inj {tab : List Str} (hT : tab.Nodup) (k k' : Nat) (x : Str) (h : krS tab k x) (h' : krS tab k' x) : k = k' :=
  (List.getElem?_inj (List.getElem?_eq_some_iff.mp h).1 hT).mp (Eq.trans h h'.symm)
theorem krS_fn {tab : List Str} (k : Nat) (x x' : Str) (h : krS tab k x) (h' : krS tab k x') : x = x' := Option.some.inj (h.symm.trans h')
theorem krI_inj (k k' x : Int) (h : krI k x) (h' : krI k' x) : k = k' := h.trans h'.symm
theorem krI_fn (k x x' : Int) (h : krI k x) (h' : krI k x') : x = x' := h.symm.trans h'

theorem dictSet_ex {prog : Program} {w : World} {K : Type} [DecidableEq K] {knd : PySem.KeyKind prog w K} {A : Around} {E : Value → Shared → Prop} {s : Shared} {d : Addr} {es : List DictEntry} {ep : Nat} {k : K} {key v : Value} {Q : Unit → Shared → Prop}
    (hkey : knd.is k key = true) (ho : s.heap.get? d = some ⟨.type "dict", none, .dict es.toArray ep, #[]⟩) (hk : PySem.KeysOf knd es.toArray) (hz : es.length ≤ sizeLine)
    (h1 : ∀ i h', es.findIdx? (fun e => knd.is k e.key) = some i → Heap.SameBut d s.heap h' → h'.get? d = some ⟨.type "dict", none, .dict (es.modify i fun e => { e with val := v }).toArray ep, #[]⟩ → Q () { s with heap := h', toks := s.toks + 1 })
    (h2 : ∀ h', es.findIdx? (fun e => knd.is k e.key) = none → Heap.SameBut d s.heap h' → h'.get? d = some ⟨.type "dict", none, .dict (es ++ [(⟨knd.hash k, key, v⟩ : DictEntry)]).toArray (ep + 1), #[]⟩ → Q () { s with heap := h', toks := s.toks + 1 }) :
    wpAny (model prog w) A (dictSet d key v) Q E s := by
  unfold dictSet
  refine wpAny_holding (wpAny_bind (knd.pyHash hkey ?_))
  unfold dictSetHashed
  refine wpAny_holding (wpAny_bind (wpAny_dictFind_of (s := { s with toks := s.toks + 1 }) hkey ho rfl hk ?_))
  have e : (es.toArray.findIdx? fun e => knd.is k e.key) = es.findIdx? fun e => knd.is k e.key := by simp
  rw [e]
  cases hi : es.findIdx? fun e => knd.is k e.key with
  | some i =>
    refine wpAny_bind (wpAny_rule (wpAny_bind (wpAny_updateDict (s := { s with toks := s.toks + 1 }) ho rfl (wpAny_point (h1 i _ hi (Heap.SameBut.update ..) ?_)))))
    rw [Heap.get?_update_self _ ho rfl]
    simp [Obj.mapDict]
  | none =>
    refine wpAny_bind (wpAny_rule (wpAny_updateDictKeys (hz := by rw [List.size_toArray]; exact hz) (s := { s with toks := s.toks + 1 }) ho rfl (h2 _ hi (Heap.SameBut.update ..) ?_)))
    rw [Heap.get?_update_self _ ho rfl]
    simp [Obj.mapDictKeys]
theorem setItem_ex {prog : Program} {w : World} {K : Type} [DecidableEq K] {knd : PySem.KeyKind prog w K} {A : Around} {E : Value → Shared → Prop} {s : Shared} {d : Addr} {es : List DictEntry} {ep : Nat} {k : K} {key v : Value} {Q : Unit → Shared → Prop}
    (hkey : knd.is k key = true) (ho : s.heap.get? d = some ⟨.type "dict", none, .dict es.toArray ep, #[]⟩) (hk : PySem.KeysOf knd es.toArray) (hz : es.length ≤ sizeLine)
    (h1 : ∀ i h', es.findIdx? (fun e => knd.is k e.key) = some i → Heap.SameBut d s.heap h' → h'.get? d = some ⟨.type "dict", none, .dict (es.modify i fun e => { e with val := v }).toArray ep, #[]⟩ → Q () { s with heap := h', toks := s.toks + 1 })
    (h2 : ∀ h', es.findIdx? (fun e => knd.is k e.key) = none → Heap.SameBut d s.heap h' → h'.get? d = some ⟨.type "dict", none, .dict (es ++ [(⟨knd.hash k, key, v⟩ : DictEntry)]).toArray (ep + 1), #[]⟩ → Q () { s with heap := h', toks := s.toks + 1 }) :
    wpAny (model prog w) A (setItem (.ref d) key v) Q E s := by
  have hty : s.TypeIs (.ref d) "dict" := ⟨_, ho, rfl⟩
  unfold setItem
  try with_reducible refine wpAny_holding ?_
  refine wpAny_bind (wpAny_sequenceKey hty (by decide) ?_)
  refine wpAny_bind (wpAny_callSpecial?_slot (name := Str.ofString "__setitem__") hty slot_dict_setitem
    (wpAny_call_entry slot_dict_setitem hty entry_dict_setitem ?_ (args_dict_setitem _ _ _)))
  show wpAny _ _ (Builtin.Dict.notOrdered "__setitem__" ⟨[.ref d, key, v], []⟩ >>= _) _ _ s
  refine wpAny_bind (wpAny_notOrdered_dict hty ?_)
  show wpAny _ _ (dictSet d key v >>= _) _ _ s
  exact wpAny_bind (dictSet_ex hkey ho hk hz (fun i h' a b e => wpAny_pure ⟨.none, rfl, wpAny_pure (h1 i h' a b e)⟩) fun h' a b e => wpAny_pure ⟨.none, rfl, wpAny_pure (h2 h' a b e)⟩)

structure CX.Tab (c : CX) : Prop where
  nodup : c.S.tab.Nodup

section
variable {c : CX} {A : Around} {fix kp : Kp} {φ : List Addr} {G : GH} {s : Shared} {d : Nat}

theorem subscripted_op (slice : PySem.Expr) (o i : Value) : ∃ ops, subscripted slice false o i = operate ops (getItem o i) := by
  cases slice with
  | Slice _ _ st _ => cases st <;> exact ⟨_, rfl⟩
  | _ => exact ⟨_, rfl⟩

theorem getL_ok {l : List MV} {a : Addr} {xs : Array Value} {n : Nat} {k : Int} {t : Tok} {r : MV} {E : Value → Shared → Prop} {Q : Value → Shared → Prop} (ho : s.heap.get? a = some ⟨.type "list", none, .seq xs n, #[]⟩) (hr : c.VRs fix φ l xs.toList) (z : l.length ≤ 4096)
    (h0 : 0 ≤ k) (hx : l[k.toNat]? = some r) (q : ∀ y, c.VR fix φ r y → Q y s) : wpAny c.M A (getItem (.ref a) (.int k t)) Q E s := by
  obtain ⟨y, hy, vy⟩ := hr.get hx
  have hlt : k.toNat < l.length := (List.getElem?_eq_some_iff.mp hx).1
  exact wpAny_getItem_list (isL ho) h0 (by omega) (by rw [← Array.getElem?_toList]; exact hy) (q y vy)

theorem sdMap {l : List (Nat × MV)} {es : List DictEntry} {a : Addr} {n : Nat} {h : Heap} (ho : h.get? a = some ⟨.type "dict", none, .dict es.toArray n, #[]⟩) (r : SDs c.prog c.w c.S.tab fix φ l es) :
    Heap.MapOf (strKind c.prog c.w) h a (fun x => (es.find? fun e => (strKind c.prog c.w).is x e.key).map (·.val)) :=
  ⟨_, es.toArray, n, ho, ⟨rfl, rfl, rfl⟩, rfl, fun e he => EDs.keysOf r e (by simpa using he), fun k => by simp [findBy]⟩
theorem ndMap {l : List (Int × MV)} {es : List DictEntry} {a : Addr} {n : Nat} {h : Heap} (ho : h.get? a = some ⟨.type "dict", none, .dict es.toArray n, #[]⟩) (r : NDs c.prog c.w c.S.tab fix φ l es) :
    Heap.MapOf (intKind c.prog c.w) h a (fun x => (es.find? fun e => (intKind c.prog c.w).is x e.key).map (·.val)) :=
  ⟨_, es.toArray, n, ho, ⟨rfl, rfl, rfl⟩, rfl, fun e he => EDs.keysOf r e (by simpa using he), fun k => by simp [findBy]⟩
theorem strIs {x : Str} {t : Tok} : (strKind c.prog c.w).is x (.str x t) = true := by
  show (Value.str x t).isStr x = true
  simp [Value.isStr]
theorem intIs {i : Int} {t : Tok} : (intKind c.prog c.w).is i (.int i t) = true := by
  show (Value.int i t).isInt i = true
  simp [Value.isInt]

theorem subO_ok (hT : c.S.tab.Nodup) {v w' r : MV} {x y : Value} {value slice : PySem.Expr} (h : subO G v w' = some r) (S : St c fix kp φ G s) (va : c.VR fix φ v x) (vb : c.VR fix φ w' y) :
    Ev c A fix kp φ (subscriptTail value slice x y) s G (fun f p z => c.VR f p r z) := by
  obtain ⟨ops, hs⟩ := subscripted_op slice x y
  refine Ev.same S ?_
  have h : (match iInt w' with
    | some a => (match rN G v with
      | some p => p.2.2.lookup a
      | none => (lsO G v).bind fun l => if 0 ≤ a then l[a.toNat]? else none)
    | none => (iStr w').bind fun k => rS G v fun _ l => l.lookup k) = some r := h
  cases q : iInt w' with
  | none =>
    rw [q] at h
    obtain ⟨k, h1, h⟩ := Option.bind_eq_some_iff.mp h
    refine rS_k (P := fun v => c.VR fix φ v x → Same c A fix φ s r (subscriptTail value slice x y)) h (fun i l hg h va => ?_) va
    revert hs
    refine refV (P := fun x => subscripted slice false x y = operate ops (getItem x y) → Same c A fix φ s r (subscriptTail value slice x y)) va fun a hp => ?_
    refine iStr_k (P := fun w' => c.VR fix φ w' y → _) h1 (fun vb => ?_) vb
    refine strV (P := fun y => subscripted slice false (.ref a) y = operate ops (getItem (.ref a) y) → Same c A fix φ s r (subscriptTail value slice (.ref a) y)) vb fun nm t hk hs => ?_
    exact S.gd hp hg fun es n ho hr _ _ => (EDs.findS (krS_inj hT) krS_fn hk hr h).elim fun e he E Q q => tail_any ⟨_, ho, rfl⟩ slot_dict_getitem.lookup (wpAny_getItem_of strIs (sdMap ho hr) (by rw [he.1]; rfl) (q _ _ he.2)) hs
  | some k =>
    rw [q] at h
    revert hs
    refine iInt_k (P := fun w' => c.VR fix φ w' y → _) q (fun vb => ?_) vb
    refine intV (P := fun y => subscripted slice false x y = operate ops (getItem x y) → Same c A fix φ s r (subscriptTail value slice x y)) vb fun t => ?_
    cases q2 : rN G v with
    | some p =>
      rw [q2] at h
      refine rN_k (P := fun v => c.VR fix φ v x → _) q2 (fun hg va => ?_) va
      refine refV (P := fun x => subscripted slice false x (.int k t) = operate ops (getItem x (.int k t)) → Same c A fix φ s r (subscriptTail value slice x (.int k t))) va fun a hp hs => ?_
      exact S.gn hp hg fun es ho hr _ _ => (EDs.findS krI_inj krI_fn (show krI k k from rfl) hr h).elim fun e he E Q q => tail_any ⟨_, ho, rfl⟩ slot_dict_getitem.lookup (wpAny_getItem_of intIs (ndMap ho hr) (by rw [he.1]; rfl) (q _ _ he.2)) hs
    | none =>
      rw [q2] at h
      obtain ⟨l, h1, h⟩ := Option.bind_eq_some_iff.mp h
      refine lstK (P := fun x => subscripted slice false x (.int k t) = operate ops (getItem x (.int k t)) → Same c A fix φ s r (subscriptTail value slice x (.int k t))) S va h1 fun a xs n ho hr z hs E Q q => ?_
      exact tail_any ⟨_, ho, rfl⟩ slot_list_getitem.lookup (getL_ok ho hr z (oif' h).1 (oif' h).2 fun y hy => q y _ hy) hs
end
end Mine
end
section
set_option autoImplicit false
set_option linter.unusedSectionVars false
namespace Mine
open PySem PySem.W PyProof.Rows PySem.Calls

section
variable {c : CX} {A : Around} {fix kp : Kp} {φ : List Addr} {G : GH} {s : Shared} {d : Nat}

noncomputable def PartP (lo : Option Int) (n p : Nat) : Prop := match lo with
  | none => p = n
  | some i => 0 ≤ i ∧ p = i.toNat
theorem bounds_eq {lo hi : Option Int} {n p q : Nat} (a : PartP lo 0 p) (b : PartP hi n q) : sliceBounds lo hi none n = (((min p n : Nat) : Int), ((min q n : Nat) : Int), 1) := by
  unfold sliceBounds
  dsimp only [Option.getD]
  rw [if_pos (by decide), if_pos (by decide)]
  refine Prod.ext_iff.mpr ⟨?_, Prod.ext_iff.mpr ⟨?_, rfl⟩⟩
  · clear b
    cases lo with
    | none => have a : p = 0 := a; rw [a, Nat.zero_min]; rfl
    | some i =>
      obtain ⟨h0, h1⟩ := a
      dsimp only
      rw [if_pos (by decide), if_neg (Int.not_lt.mpr h0), h1]
      omega
  · clear a
    cases hi with
    | none => have b : q = n := b; rw [b, Nat.min_self]
    | some i =>
      obtain ⟨h0, h1⟩ := b
      dsimp only
      rw [if_pos (by decide), if_neg (Int.not_lt.mpr h0), h1]
      omega
theorem cut_eq {α : Type} (l : List α) (p q n : Nat) (hn : l.length = n) : (l.drop (min p n)).take (min q n - min p n) = (l.take q).drop p := by
  subst hn
  rw [← List.drop_take, List.take_eq_take_iff.mpr (show min (min q l.length) l.length = min q l.length by rw [Nat.min_assoc, Nat.min_self])]
  refine List.drop_eq_drop_iff.mpr ?_
  rw [List.length_take]
  omega
theorem pick_eq {xs : Array Value} {lo hi : Option Int} {p q : Nat} (a : PartP lo 0 p) (b : PartP hi xs.size q) : slicePick xs lo hi none = ((xs.toList.take q).drop p).toArray := by
  rw [PySem.W.kmk_pick_nat xs (bounds_eq a b), cut_eq _ _ _ _ Array.length_toList]

theorem partOf {a : MV} {va : Value} {n p : Nat} {P : Prop} (h : c.VR fix φ a va) (e : boundO n a = some p) (g : ∀ lo, PartP lo n p → IsPart va lo → P) : P := by
  have e : (match iInt a with
    | some a => if 0 ≤ a then some a.toNat else none
    | none => if isN a = true then some n else none) = some p := e
  cases q : iInt a with
  | some i =>
    rw [q] at e
    exact iInt_k (P := fun a => c.VR fix φ a va → P) q (fun h => intV (P := fun va => (∀ lo, PartP lo n p → IsPart va lo → P) → P) h (fun t g => g (some i) ⟨(oif' e).1, (Option.some.inj (oif' e).2).symm⟩ (.int i t)) g) h
  | none =>
    rw [q] at e
    exact isN_k (P := fun a => c.VR fix φ a va → P) (oif' e).1 (fun h => noneV (P := fun va => (∀ lo, PartP lo n p → IsPart va lo → P) → P) h (fun g => g none (Option.some.inj (oif' e).2).symm .none) g) h

theorem slcO_ok {v a b r : MV} {x va vb : Value} {value slice : PySem.Expr} (h : slcO G v a b = some r) (S : St c fix kp φ G s) (vx : c.VR fix φ v x) (ha : c.VR fix φ a va) (hb : c.VR fix φ b vb) :
    Ev c A fix kp φ (subscriptTail value slice x (.ref s.heap.objs.size)) { s with heap := s.heap.push { cls := .type "slice", data := .fields #[va, vb, .none] } } G (fun f p z => c.VR f p r z) := by
  obtain ⟨l, hl, h⟩ := Option.bind_eq_some_iff.mp h
  obtain ⟨p, hp, h⟩ := Option.bind_eq_some_iff.mp h
  obtain ⟨q, hq, h⟩ := Option.map_eq_some_iff.mp h
  rw [← h]
  refine lstK (P := fun x => Ev c A fix kp φ (subscriptTail value slice x (.ref s.heap.objs.size)) { s with heap := s.heap.push { cls := .type "slice", data := .fields #[va, vb, .none] } } G (fun f p' z => c.VR f p' (.lst ((l.take q).drop p)) z)) S vx hl fun D xs n ho hr z => ?_
  refine partOf ha hp fun lo pa ia => partOf hb hq fun hi pb ib => ?_
  rw [show l.length = xs.size from hr.length.trans Array.length_toList] at pb
  clear hp hq h hl vx ha hb
  intro E Q k
  obtain ⟨ops, hs⟩ := subscripted_op slice (.ref D) (.ref s.heap.objs.size)
  refine tail_any (T := "list") ⟨_, Heap.get?_push_of_some _ ho, rfl⟩ slot_list_getitem.lookup ?_ hs
  refine wpAny_getItem_list_slice (lo := lo) (hi := hi) (st := none) (isL (Heap.get?_push_of_some _ ho)) ⟨_, Heap.get?_push_size _ rfl, rfl, rfl⟩ ia ib .none (fun q => nomatch q) ?_ (sizeLine_ge (Nat.le_trans (sizeOk hr z) (by decide)))
  have S1 : St c fix kp φ G { s with heap := s.heap.push { cls := .type "slice", data := .fields #[va, vb, .none] } } := ⟨S.1.push _, S.2⟩
  obtain ⟨fix', le, hf, st⟩ := S1.frzPush (o := ⟨.type "list", none, .seq (slicePick xs lo hi none) 0, #[]⟩) rfl
  refine k fix' φ _ _ le (List.prefix_refl _) (st _) ?_
  rw [pick_eq pa pb] at hf
  exact VR.lst hf ((((hr.take q).drop p)).mono le (List.prefix_refl _)) (Nat.le_trans (by rw [List.length_drop, List.length_take]; exact Nat.le_trans (Nat.sub_le _ _) (Nat.min_le_right _ _)) z)

theorem revO_ok {v r : MV} {x : Value} {value slice : PySem.Expr} {t : Tok} (h : revO G v = some r) (S : St c fix kp φ G s) (vx : c.VR fix φ v x) :
    Ev c A fix kp φ (subscriptTail value slice x (.ref s.heap.objs.size)) { s with heap := s.heap.push { cls := .type "slice", data := .fields #[.none, .none, .int (-1) t] } } G (fun f p z => c.VR f p r z) := by
  obtain ⟨l, hl, h⟩ := Option.map_eq_some_iff.mp h
  rw [← h]
  refine lstK (P := fun x => Ev c A fix kp φ (subscriptTail value slice x (.ref s.heap.objs.size)) { s with heap := s.heap.push { cls := .type "slice", data := .fields #[.none, .none, .int (-1) t] } } G (fun f p z => c.VR f p (.lst l.reverse) z)) S vx hl fun D xs n ho hr z => ?_
  clear h hl vx
  intro E Q k
  obtain ⟨ops, hs⟩ := subscripted_op slice (.ref D) (.ref s.heap.objs.size)
  refine tail_any (T := "list") ⟨_, Heap.get?_push_of_some _ ho, rfl⟩ slot_list_getitem.lookup ?_ hs
  refine wpAny_getItem_list_slice (lo := none) (hi := none) (st := some (-1)) (isL (Heap.get?_push_of_some _ ho)) ⟨_, Heap.get?_push_size _ rfl, rfl, rfl⟩ .none .none (.int _ _) (by decide) ?_ (sizeLine_ge (Nat.le_trans (sizeOk hr z) (by decide)))
  have S1 : St c fix kp φ G { s with heap := s.heap.push { cls := .type "slice", data := .fields #[.none, .none, .int (-1) t] } } := ⟨S.1.push _, S.2⟩
  obtain ⟨fix', le, hf, st⟩ := S1.frzPush (o := ⟨.type "list", none, .seq (slicePick xs none none (some (-1))) 0, #[]⟩) rfl
  refine k fix' φ _ _ le (List.prefix_refl _) (st _) ?_
  rw [PySem.W.krv_pick] at hf
  exact VR.lst hf (hr.reverse.mono le (List.prefix_refl _)) (by rw [List.length_reverse]; exact z)

theorem setL_len {κ : Type} [DecidableEq κ] : ∀ (l : List (κ × MV)) (k : κ) (v : MV), (setL l k v).length ≤ l.length + 1
  | [], _, _ => by simp [setL]
  | (a, x) :: r, k, v => by
    rw [setL]; split
    · simp
    · have := setL_len r k v; simp only [List.length_cons]; omega

theorem dup_app {κ : Type} {l : List κ} {k : κ} (h : l.Nodup) (hk : k ∉ l) : (l ++ [k]).Nodup :=
  List.nodup_append.mpr ⟨h, List.nodup_cons.mpr ⟨List.not_mem_nil, List.nodup_nil⟩, fun y hy z hz e => hk (List.mem_singleton.mp hz ▸ e ▸ hy)⟩
theorem setZ {κ : Type} [DecidableEq κ] {l : List (κ × MV)} {k : κ} {v : MV} (h : l.length < 4096) : (setL l k v).length ≤ 4096 := Nat.le_trans (setL_len l k v) h
theorem memA {es : List DictEntry} {e : DictEntry} (h : e ∈ es.toArray) : e ∈ es := List.mem_toArray.mp h
noncomputable def Done (c : CX) (A : Around) (fix kp : Kp) (φ : List Addr) (s : Shared) (G' : GH) (t : Sem Unit) : Prop := ∀ (E : Value → Shared → Prop) (Q : Unit → Shared → Prop), (∀ s', St c fix kp φ G' s' → Q () s') → wpAny c.M A t Q E s
theorem subSet_ok (hT : c.S.tab.Nodup) {v w' x : MV} {vo vi vx : Value} {G' : GH} (h : subSet G v w' x = some G') (S : St c fix kp φ G s) (ho : c.VR fix φ v vo) (hi : c.VR fix φ w' vi) (hx : c.VR fix φ x vx) :
    Ev c A fix kp φ (setItem vo vi vx) s G' (fun _ _ _ => True) := by
  suffices H : Done c A fix kp φ s G' (setItem vo vi vx) from fun E Q q => H E Q fun s' S' => q fix φ () s' (Le.refl _) (List.prefix_refl _) S' trivial
  have h : (match iInt w' with
    | some a => (match rN G v with
      | some p => if p.2.2.length < 4096 then some (G.set p.1 (.nd (if (p.2.2.lookup a).isSome then p.2.1 else p.2.1 + 1) (setL p.2.2 a x))) else none
      | none => rL G v fun i l => if 0 ≤ a ∧ a < l.length then some (G.set i (.lst (l.set a.toNat x))) else none)
    | none => (iStr w').bind fun k => rS G v fun i l => if l.length < 4096 then some (G.set i (.sd (setL l k x))) else none) = some G' := h
  cases q : iInt w' with
  | none =>
    rw [q] at h
    obtain ⟨k, h1, h⟩ := Option.bind_eq_some_iff.mp h
    refine rS_k (P := fun v => c.VR fix φ v vo → Done c A fix kp φ s G' (setItem vo vi vx)) h (fun i l hg h ho => ?_) ho
    refine refV (P := fun vo => Done c A fix kp φ s G' (setItem vo vi vx)) ho fun a hp => ?_
    refine iStr_k (P := fun w' => c.VR fix φ w' vi → _) h1 (fun hi => ?_) hi
    refine strV (P := fun vi => Done c A fix kp φ s G' (setItem (.ref a) vi vx)) hi fun nm t hk => ?_
    rw [← Option.some.inj (oif' h).2]
    have hz := (oif' h).1
    clear h h1 q
    intro E Q q
    refine S.gd hp hg fun es n ho hr hn z => ?_
    refine setItem_ex (knd := strKind c.prog c.w) strIs ho (fun e he => EDs.keysOf hr e (memA he)) (sizeLine_ge (by rw [← EDs.length hr]; exact Nat.le_trans z (by decide))) (fun j h' hj hs he => ?_) fun h' hj hs he => ?_
    · have o := EDs.setSome (krS_inj hT) krS_fn hk hx hr hj
      exact q _ ⟨S.1.set hp (fun b hb o e => (hs.2 b hb).trans e) he ⟨_, n, rfl, o.1, by rw [o.2.2]; exact hn, setZ hz⟩, S.2⟩
    · have o := EDs.setNone (key := .str nm t) (krS_inj hT) krS_fn hk strIs hx hr hj
      exact q _ ⟨S.1.set hp (fun b hb o e => (hs.2 b hb).trans e) he ⟨_, n + 1, rfl, o.1, by rw [o.2.2.1]; exact dup_app hn o.2.2.2, setZ hz⟩, S.2⟩
  | some k =>
    rw [q] at h
    refine iInt_k (P := fun w' => c.VR fix φ w' vi → _) q (fun hi => ?_) hi
    refine intV (P := fun vi => Done c A fix kp φ s G' (setItem vo vi vx)) hi fun t => ?_
    clear q hi
    cases q2 : rN G v with
    | some p =>
      rw [q2] at h
      refine rN_k (P := fun v => c.VR fix φ v vo → _) q2 (fun hg ho => ?_) ho
      refine refV (P := fun vo => Done c A fix kp φ s G' (setItem vo (.int k t) vx)) ho fun a hp => ?_
      rw [← Option.some.inj (oif' h).2]
      have hz := (oif' h).1
      clear h q2 ho
      intro E Q q
      refine S.gn hp hg fun es ho hr hn z => ?_
      refine setItem_ex (knd := intKind c.prog c.w) intIs ho (fun e he => EDs.keysOf hr e (memA he)) (sizeLine_ge (by rw [← EDs.length hr]; exact Nat.le_trans z (by decide))) (fun j h' hj hs he => ?_) fun h' hj hs he => ?_
      · have o := EDs.setSome krI_inj krI_fn (show krI k k from rfl) hx hr hj
        rw [o.2.1, if_pos rfl] at q
        exact q _ ⟨S.1.set hp (fun b hb o e => (hs.2 b hb).trans e) he ⟨_, rfl, o.1, by rw [o.2.2]; exact hn, setZ hz⟩, S.2⟩
      · have o := EDs.setNone (key := .int k t) krI_inj krI_fn (show krI k k from rfl) intIs hx hr hj
        rw [o.2.1, if_neg (by decide)] at q
        exact q _ ⟨S.1.set hp (fun b hb o e => (hs.2 b hb).trans e) he ⟨_, rfl, o.1, by rw [o.2.2.1]; exact dup_app hn o.2.2.2, setZ hz⟩, S.2⟩
    | none =>
      rw [q2] at h
      refine rL_k (P := fun v => c.VR fix φ v vo → _) h (fun i l hg h ho => ?_) ho
      refine refV (P := fun vo => Done c A fix kp φ s G' (setItem vo (.int k t) vx)) ho fun a hp => ?_
      rw [← Option.some.inj (oif' h).2]
      have hz := (oif' h).1
      clear h q2 ho
      intro E Q q
      refine S.go hp hg fun xs n ho hr z => ?_
      have hlt : k < (xs.toArray.size : Int) := by rw [List.size_toArray, ← hr.length]; exact hz.2
      refine ki_setAt ho hz.1 (Int.lt_of_lt_of_le hz.2 (Int.le_trans (Int.ofNat_le.mpr z) (by decide))) hlt (q _ ⟨S.1.set hp (fun b hb o e => (Heap.get?_update_other _ _ (Ne.symm hb)).trans e) (o := ⟨.type "list", none, .seq (xs.set k.toNat vx).toArray n, #[]⟩) ?_ ⟨_, _, rfl, hr.set hx _, by rw [List.length_set]; exact z⟩, S.2⟩)
      rw [Heap.get?_update_self _ ho rfl]
      simp [Obj.mapSeq]

theorem appO_ok {v x : MV} {vo vx : Value} {G' : GH} (h : appO G v x = some G') (S : St c fix kp φ G s) (ho : c.VR fix φ v vo) (hx : c.VR fix φ x vx) :
    Ev c A fix kp φ (call (.builtin "list.append") [vo, vx]) s G' (fun f p z => c.VR f p .none z) := by
  intro E Q q
  refine rL_k (P := fun v => c.VR fix φ v vo → _) h (fun i l hg h ho => ?_) ho
  refine refV (P := fun vo => wpAny c.M A (call (.builtin "list.append") [vo, vx]) Q E s) ho fun a hp => ?_
  rw [← Option.some.inj (oif' h).2] at q
  have hz := (oif' h).1
  clear h ho
  refine S.go hp hg fun xs n ho hr z => ?_
  refine wpAny_list_append_plain ⟨n, ho⟩ (fun h' hl hs => hl.elim fun n' he => ?_) (sizeLine_ge (by rw [List.size_toArray, ← hr.length]; exact Nat.le_trans z (by decide)))
  exact q fix φ _ _ (Le.refl _) (List.prefix_refl _) ⟨S.1.set hp (fun b hb o e => (hs.2 b hb).trans e) he ⟨xs ++ [vx], n', by rw [List.push_toArray], hr.append (.one hx), by rw [List.length_append]; exact hz⟩, S.2⟩ .none

theorem popO_ok {v r : MV} {vo : Value} {G' : GH} (h : popO G v = some (r, G')) (S : St c fix kp φ G s) (ho : c.VR fix φ v vo) :
    Ev c A fix kp φ (call (.builtin "list.pop") [vo]) s G' (fun f p z => c.VR f p r z) := by
  intro E Q q
  refine rL_k (P := fun v => c.VR fix φ v vo → _) h (fun i l hg h ho => ?_) ho
  refine refV (P := fun vo => wpAny c.M A (call (.builtin "list.pop") [vo]) Q E s) ho fun a hp => ?_
  obtain ⟨y, hy, h⟩ := Option.map_eq_some_iff.mp h
  have e1 : y = r := congrArg Prod.fst h
  have e2 : G.set i (.lst l.dropLast) = G' := congrArg Prod.snd h
  rw [← e1, ← e2] at q
  clear h e1 e2 ho
  refine S.go hp hg fun xs n ho hr z => ?_
  obtain ⟨ys, u, e, hu, hr'⟩ := hr.snoc_inv hy
  rw [e] at ho
  have hsz : (ys ++ [u]).toArray.size = ys.length + 1 := by rw [List.size_toArray, List.length_append]; rfl
  have hz : ys.length + 1 ≤ 4096 := by rw [← hsz, ← e, List.size_toArray, ← hr.length]; exact z
  refine call_meets PySem.F.slot_list_pop ⟨_, ho, rfl⟩ PySem.F.entry_list_pop (PySem.F.args_list_pop_1 _) (PySem.MeetsSeq.list_pop_last a _ n u (by rw [hsz]; simp) (sizeLine_ge (by rw [hsz]; exact Nat.le_trans hz (by decide))))
    ⟨ho, q fix φ _ _ (Le.refl _) (List.prefix_refl _) ⟨S.1.set hp (fun b hb o e => (Heap.get?_update_other _ _ (Ne.symm hb)).trans e) (o := ⟨.type "list", none, .seq ys.toArray (n + 1), #[]⟩) ?_ ⟨ys, _, rfl, hr', by rw [List.length_dropLast]; exact Nat.le_trans (Nat.sub_le _ _) z⟩, S.2⟩ hu⟩
  rw [Heap.get?_update_self _ ho rfl, hsz]
  have e := kl_erase ys [] u
  rw [List.append_nil] at e
  simp only [Nat.add_sub_cancel]
  simp only [Obj.mapSeq, e]
  simp
end
end Mine
end
section
set_option autoImplicit false
set_option linter.unusedSectionVars false
namespace Mine
open PySem PySem.W PyProof.Rows PySem.Calls

section
variable {c : CX} {A : Around} {fix kp : Kp} {φ : List Addr} {G : GH} {s : Shared} {d : Nat}

theorem mkNew (m : Bool) {l : List MV} {xs : List Value} {n : Nat} {a : Addr} {h' : Heap} (S : St c fix kp φ G s) (hk : ∀ b x, s.heap.get? b = some x → h'.get? b = some x) (ha : h'.get? a = some ⟨.type "list", none, .seq xs.toArray n, #[]⟩) (hge : s.heap.objs.size ≤ a) (hr : c.VRs fix φ l xs) (z : l.length ≤ 4096) :
    ∃ fix' φ', Le fix fix' ∧ φ <+: φ' ∧ (∀ tk, St c fix' kp φ' (mkL m l G).2 { s with heap := h', toks := tk }) ∧ c.VR fix' φ' (mkL m l G).1 (.ref a) := by
  have hn := get_ge hge
  cases m with
  | false =>
    obtain ⟨fix', le, hf, st⟩ := S.frz hk ha hn
    exact ⟨fix', φ, le, List.prefix_refl _, st, VR.lst hf (hr.mono le (List.prefix_refl _)) z⟩
  | true =>
    have R := S.1.ext hk
    have hf : fix a = none := by
      cases e : fix a with
      | none => rfl
      | some x => have := S.1.fixK a x e; rw [hn] at this; cases this
    have hkp : kp a = none := by
      cases e : kp a with
      | none => rfl
      | some x => have := S.1.kpK a x e; rw [hn] at this; cases this
    have hp : a ∉ φ := fun q => by have := S.1.live q; rw [hn] at this; cases this
    refine ⟨fix, φ ++ [a], Le.refl _, List.prefix_append _ _, fun tk => ⟨R.grow ha hf hkp hp ⟨xs, n, rfl, hr.mono (Le.refl _) (List.prefix_append _ _), z⟩ (S.1.size hge), S.2⟩, VR.ref ?_⟩
    show (φ ++ [a])[G.length]? = some a
    rw [← S.1.len, List.getElem?_append_right (Nat.le_refl _), Nat.sub_self]
    rfl
theorem mkPush (m : Bool) {l : List MV} {xs : List Value} (S : St c fix kp φ G s) (hr : c.VRs fix φ l xs) (z : l.length ≤ 4096) :
    ∃ fix' φ', Le fix fix' ∧ φ <+: φ' ∧ (∀ tk, St c fix' kp φ' (mkL m l G).2 { s with heap := s.heap.push ⟨.type "list", none, .seq xs.toArray 0, #[]⟩, toks := tk }) ∧ c.VR fix' φ' (mkL m l G).1 (.ref s.heap.objs.size) :=
  mkNew m S (fun _ _ e => Heap.get?_push_of_some _ e) (Heap.get?_push_size _ rfl) (Nat.le_refl _) hr z

theorem sort_eq {ns ms : List Int} (hp : ms.Perm ns) (hs : ms.Pairwise (· ≤ ·)) : ms = ns.mergeSort (· ≤ ·) := by
  refine List.Perm.eq_of_pairwise (le := (· ≤ ·)) (fun a b _ _ h1 h2 => by omega) hs ?_ (hp.trans (List.mergeSort_perm ns _).symm)
  have := List.pairwise_mergeSort (le := fun (a b : Int) => decide (a ≤ b)) (fun a b c h1 h2 => by simp only [decide_eq_true_eq] at *; omega) (fun a b => by simp only [Bool.or_eq_true, decide_eq_true_eq]; omega) ns
  exact this.imp (by intro a b h; simpa using h)

theorem intsO_map : ∀ ns : List Int, intsO (ns.map MV.int) = some ns
  | [] => rfl
  | n :: r => by
    show (intsO (r.map MV.int)).map (n :: ·) = _
    rw [intsO_map r]; rfl

noncomputable def bltV : Bl → Value
  | .len => .builtin "len"
  | .abs => .builtin "abs"
  | .int => .type "int"
  | .list _ => .type "list"
  | .tuple => .type "tuple"
  | .sorted => .builtin "sorted"

theorem natAbs_of (i : Int) : (if i < 0 then -i else i) = ((i.natAbs : Nat) : Int) := by split <;> omega
noncomputable def BltOk (c : CX) (A : Around) (fix kp : Kp) (φ : List Addr) (s : Shared) (G' : GH) (r : MV) (b : Bl) (x : Value) : Prop := Ev c A fix kp φ (call (bltV b) [x]) s G' (fun f p z => c.VR f p r z)
theorem pairK {r r' : MV} {G1 G2 : GH} {P : MV → GH → Prop} (h : (r', G1) = (r, G2)) (g : P r' G1) : P r G2 := by cases h; exact g
theorem bltO_ok {b : Bl} {v r : MV} {x : Value} {G' : GH} (h : bltO G b v = some (r, G')) (S : St c fix kp φ G s) (vx : c.VR fix φ v x) :
    BltOk c A fix kp φ s G' r b x := by
  cases b with
  | len =>
    obtain ⟨l, hl, h⟩ := Option.map_eq_some_iff.mp h
    refine pairK (P := fun r G' => BltOk c A fix kp φ s G' r .len x) h ?_
    clear h
    refine lstK (P := fun x => BltOk c A fix kp φ s G (.int l.length) .len x) S vx hl fun a xs n ho hr z E Q q => ?_
    rw [show l.length = xs.size from hr.length.trans Array.length_toList] at q
    exact len_list (isL ho) (by have := sizeOk hr z; clear hl vx hr z ho q; omega) (q fix φ _ _ (Le.refl _) (List.prefix_refl _) (S.toks _) (.int _ _))
  | abs =>
    obtain ⟨i, hi, h⟩ := Option.map_eq_some_iff.mp h
    refine pairK (P := fun r G' => BltOk c A fix kp φ s G' r .abs x) h ?_
    refine iInt_k (P := fun v => c.VR fix φ v x → _) hi (fun vx => intV (P := fun x => BltOk c A fix kp φ s G (.int i.natAbs) .abs x) vx fun t E Q q => ?_) vx
    exact call_abs_int fun u tk => q fix φ _ _ (Le.refl _) (List.prefix_refl _) (S.toks _) (natAbs_of i ▸ .int _ _)
  | int =>
    obtain ⟨i, hi, h⟩ := Option.map_eq_some_iff.mp h
    refine pairK (P := fun r G' => BltOk c A fix kp φ s G' r .int x) h ?_
    refine iInt_k (P := fun v => c.VR fix φ v x → _) hi (fun vx => intV (P := fun x => BltOk c A fix kp φ s G (.int i) .int x) vx fun t E Q q => ?_) vx
    exact call_int_int (q fix φ _ _ (Le.refl _) (List.prefix_refl _) (S.toks _) (.int _ _))
  | list m =>
    obtain ⟨l, hl, h⟩ := Option.bind_eq_some_iff.mp h
    refine pairK (P := fun r G' => BltOk c A fix kp φ s G' r (.list m) x) (Option.some.inj (oif' h).2) ?_
    clear h
    refine seqK (P := fun x => BltOk c A fix kp φ s (mkL m l G).2 (mkL m l G).1 (.list m) x) S vx hl fun a xs n T hT ho hr z E Q q => ?_
    refine call_list_seq a (T := T) hT ho rfl rfl (fun h' c' hk hD => ?_) (sizeLine_ge (Nat.le_trans (sizeOk hr z) (by decide)))
    obtain ⟨fix', φ', le, pre, st, hv⟩ := mkNew m (xs := xs.toList) S hk (by simpa using hD) (Nat.le_refl _) hr z
    exact q fix' φ' _ _ le pre (st _) hv
  | tuple =>
    obtain ⟨l, hl, h⟩ := Option.bind_eq_some_iff.mp h
    refine pairK (P := fun r G' => BltOk c A fix kp φ s G' r .tuple x) (Option.some.inj (oif' h).2) ?_
    clear h
    refine lstK (P := fun x => BltOk c A fix kp φ s G (.tup l) .tuple x) S vx hl fun a xs n ho hr z E Q q => ?_
    refine call_tuple_list (isL ho) (fun h' hk => ?_) (sizeLine_ge (Nat.le_trans (sizeOk hr z) (by decide)))
    have S1 : St c fix kp φ G { s with heap := h' } := ⟨S.1.ext hk, S.2⟩
    obtain ⟨fix', le, hf, st⟩ := S1.frzPush (o := ⟨.type "tuple", none, .seq xs 0, #[]⟩) rfl
    exact q fix' φ _ _ le (List.prefix_refl _) (st _) (VR.tup (xs := xs.toList) (n := 0) (by rw [Array.toArray_toList]; exact hf) (hr.mono le (List.prefix_refl _)) z)
  | sorted =>
    obtain ⟨ns, hl, h⟩ := Option.bind_eq_some_iff.mp h
    obtain ⟨l, hl, hns⟩ := Option.bind_eq_some_iff.mp hl
    refine pairK (P := fun r G' => BltOk c A fix kp φ s G' r .sorted x) (Option.some.inj (oif' h).2) ?_
    have hz := (oif' h).1
    clear h
    refine lstK (P := fun x => BltOk c A fix kp φ s G (.lst ((ns.mergeSort (· ≤ ·)).map .int)) .sorted x) S vx hl fun a xs n ho hr z E Q q => ?_
    have hi := intsIn hr hns
    refine sorted_ints (vs := xs.toList) (by rw [Array.toArray_toList]; exact isL ho) hi (by rw [hi.length]; exact hz) fun out ns' a1 a2 a3 => ?_
    obtain ⟨e, he⟩ := sortedAll_at s.heap xs.toList out
    obtain ⟨fix', le, hf, st⟩ := S.frz (fun _ _ => sortedAll_old) he (get_ge (Nat.le_succ _))
    rw [← sort_eq a2 a3] at q
    exact q fix' φ _ _ le (List.prefix_refl _) (st _) (VR.lst (xs := out.toList) (n := e) (by rw [Array.toArray_toList]; exact hf) (intsOut a1) (by rw [List.length_map, a2.length_eq]; exact Nat.le_trans (Nat.le_of_lt hz) (by decide)))
end
end Mine
end
section
set_option autoImplicit false
set_option linter.unusedSectionVars false
namespace Mine
open PySem PySem.W PyProof.Rows PySem.Calls

noncomputable def attrIn (K : Frag) (C : Addr) (x : Str) : Bool :=
  plainGet K C x && hasDictIn K C && findIn K (.ref C) x == some none && findIn K (.ref C) "__setattr__" == some (some (.builtin "object.__setattr__")) && plainOver K C && takerIn K C x == some none
noncomputable def methIn (K : Frag) (C : Addr) (x : Str) (f : Addr) : Bool := plainGet K C x && findIn K (.ref C) x == some (some (.ref f)) && isFn K (.ref f) && keepIn K (.ref f)
noncomputable def initIn (K : Frag) (C : Addr) (f : Addr) : Bool := makesIn K C && findIn K (.ref C) "__init__" == some (some (.ref f)) && (typeIn K (.ref f) == some (.type "function")) && keepIn K (.ref C)

set_option genInjectivity false in
set_option genSizeOf false in
structure FnOk (c : CX) (f : Addr) (mf : MFun) where
  nms : List Str
  name : Str
  qual : Str
  params : Arguments
  body : List Stmt
  scope : Scope
  cl : List (Str × Addr)
  dV : Value
  kV : Value
  doc : Value
  pm : Value
  cdv : Value
  ct : Value
  an : Option Addr
  od : Option Addr
  oc : Value
  osl : Array (Option Value)
  here : c.K.lookup f = some ⟨oc, od, .func (fnX name qual params body scope cl dV kV doc pm an cdv ct), osl⟩
  code : codeIn c.K cdv qual = true
  chk : chkF c.S mf nms params scope body = true
  kw : kV = .none

structure CX.Ok (c : CX) : Prop where
  tabN : c.S.tab.Nodup
  Kin : c.K.In c.hb
  g : c.hb.Ns mainGlobals c.mg
  b : c.hb.Ns builtinsNs c.mb
  boot : ∀ x : Str, x ≠ "__name__" → c.mb x = bootBuiltins x
  nolimit : c.hb.NoLimit
  glob : ∀ x f, c.S.globs.lookup x = some f → c.mg x = some (.ref f) ∧ keepIn c.K (.ref f) = true
  gint : ∀ x i, c.S.gints.lookup x = some i → ∃ t, c.mg x = some (.int i t)
  blt : ∀ x ∈ c.S.blts, c.mg x = none ∧ x ≠ ("__name__" : Str)
  atr : ∀ C k, c.P.atr C k = true → ∃ x, c.S.tab[k]? = some x ∧ attrIn c.K C x = true
  mth : ∀ C m f, c.P.mth C m = some f → ∃ x, c.S.tab[m]? = some x ∧ methIn c.K C x f = true
  init : ∀ C f, c.P.init C = some f → initIn c.K C f = true

section
variable {c : CX} {A : Around} {fix kp : Kp} {φ : List Addr} {G : GH} {s : Shared} {d : Nat}

theorem Rel.K (O : c.Ok) {h : Heap} (R : Rel c fix kp φ G h) : c.K.In h := fun a o e => R.fixK _ _ (R.base _ _ (O.Kin a o e))
theorem Rel.baseK {h : Heap} (R : Rel c fix kp φ G h) : ∀ a o, c.hb.get? a = some o → h.get? a = some o := fun _ _ e => R.fixK _ _ (R.base _ _ e)
theorem Rel.noLimit (O : c.Ok) {h : Heap} (R : Rel c fix kp φ G h) : h.NoLimit := O.nolimit.keeps R.baseK

theorem instAt {h : Heap} {x C dx : Addr} {es : List DictEntry} {n : Nat} (hx : h.get? x = some (instObj C dx)) (hd : h.get? dx = some ⟨.type "dict", none, .dict es.toArray n, #[]⟩) : W.InstAt h x (instObj C dx) C (some (dictOf es n)) :=
  ⟨hx, rfl, rfl, hd⟩
theorem handed {v : MV} {x : Value} (h : c.VR fix φ v x) : handedIn x = true := by cases h <;> rfl

theorem strIs_eq (x : Str) (v : Value) : (strKind c.prog c.w).is x v = v.isStr x := by
  show Value.isStrOf x v = v.isStr x
  cases v <;> simp [Value.isStrOf, Value.isStr]
theorem strIs_fn (x : Str) : (fun e : DictEntry => (strKind c.prog c.w).is x e.key) = (fun e : DictEntry => e.key.isStr x) := funext fun e => strIs_eq _ _
theorem sdKeys {l : List (Nat × MV)} {es : List DictEntry} (r : SDs c.prog c.w c.S.tab fix φ l es) : (es.any fun e => e.refKey) = false := by
  rw [List.any_eq_false]
  intro e hm
  obtain ⟨k', hk', _⟩ := EDs.keysOf r e hm
  have hs : e.key.isStr k' = true := (strIs_eq k' e.key).symm.trans hk'
  unfold DictEntry.refKey
  revert hs
  cases e.key <;> intro hs <;> first | exact Bool.false_ne_true | exact noF hs
theorem sdGetS {l : List (Nat × MV)} {es : List DictEntry} {k : Nat} {x : Str} {v : MV} (hT : c.S.tab.Nodup) (hk : c.S.tab[k]? = some x) (r : SDs c.prog c.w c.S.tab fix φ l es) (h : l.lookup k = some v) : ∃ y, getL x es = some (some y) ∧ c.VR fix φ v y := by
  obtain ⟨e, e1, e2⟩ := EDs.findS (krS_inj hT) krS_fn hk r h
  rw [strIs_fn] at e1
  unfold getL
  rw [e1]
  exact ⟨_, rfl, e2⟩
theorem sdGetN {l : List (Nat × MV)} {es : List DictEntry} {k : Nat} {x : Str} (hT : c.S.tab.Nodup) (hk : c.S.tab[k]? = some x) (r : SDs c.prog c.w c.S.tab fix φ l es) (h : l.lookup k = none) : getL x es = some none := by
  have e1 := EDs.findN (krS_inj hT) krS_fn hk r h
  rw [strIs_fn] at e1
  unfold getL
  rw [e1, sdKeys r]
  rfl

theorem attrIn_k {K : Frag} {C : Addr} {x : Str} {P : Prop} (h : attrIn K C x = true) (g : plainGet K C x = true → hasDictIn K C = true → findIn K (.ref C) x = some none → findIn K (.ref C) "__setattr__" = some (some (.builtin "object.__setattr__")) → plainOver K C = true → takerIn K C x = some none → P) : P := by
  have h := Bool.and_eq_true_iff.mp h
  have h2 := Bool.and_eq_true_iff.mp h.1
  have h3 := Bool.and_eq_true_iff.mp h2.1
  have h4 := Bool.and_eq_true_iff.mp h3.1
  have h5 := Bool.and_eq_true_iff.mp h4.1
  exact g h5.1 h5.2 (eq_of_beq h4.2) (eq_of_beq h3.2) h2.2 (eq_of_beq h.2)
theorem aGet_ok (O : c.Ok) {X : Ctx} (hX : X.atr = c.P.atr) {k : Nat} {v r : MV} {x : Value} {nm : Str} (hk : c.S.tab[k]? = some nm) (h : aGet X G k v = some r) (S : St c fix kp φ G s) (vx : c.VR fix φ v x) :
    Ev c A fix kp φ (getAttr x nm true) s G (fun f p z => c.VR f p r z) := by
  obtain ⟨p, h1, h⟩ := Option.bind_eq_some_iff.mp h
  obtain ⟨l, h2, h3⟩ := Option.bind_eq_some_iff.mp (oif' h).2
  have hat : attrIn c.K p.1 nm = true := (O.atr p.1 k (hX ▸ (oif' h).1)).elim fun nm' q => Option.some.inj (hk.symm.trans q.1) ▸ q.2
  refine iObj_k (P := fun v => c.VR fix φ v x → _) h1 (fun vx => ?_) vx
  refine objV (P := fun x => Ev c A fix kp φ (getAttr x nm true) s G (fun f p z => c.VR f p r z)) vx fun a dx hf hp => ?_
  refine S.gd hp (hS_at h2) fun es n ho hr hn z => ?_
  obtain ⟨y, hy, vy⟩ := sdGetS O.tabN hk hr h3
  clear h h1 h2 h3 vx
  exact attrIn_k hat fun h1 h2 h3 _ _ _ => Ev.same S fun E Q q => get_value (S.1.K O) (instAt (S.1.fixK _ _ hf) ho) (plainGet_of h1).1 (findObj_own h2 h3 (by rfl) hy) (handed vy) (q _ _ vy)

theorem isStr_eq {v : Value} {x : Str} (h : v.isStr x = true) : ∃ t, v = .str x t := by
  cases v <;> simp_all [Value.isStr]

theorem sdPut {k : Nat} {x : Str} {v : MV} {t : Tok} {y : Value} (hT : c.S.tab.Nodup) (hk : c.S.tab[k]? = some x) (hv : c.VR fix φ v y) {l : List (Nat × MV)} {es : List DictEntry} (r : SDs c.prog c.w c.S.tab fix φ l es) (hn : (l.map (·.1)).Nodup) :
    SDs c.prog c.w c.S.tab fix φ (setL l k v) (putL x (PyData.keyHash c.w.params x) (.str x t) y es) ∧ ((setL l k v).map (·.1)).Nodup := by
  rw [← putL_find]
  have he : (fun e : DictEntry => e.key.isStr x) = (fun e : DictEntry => (strKind c.prog c.w).is x e.key) := funext fun e => (strIs_eq _ _).symm
  rw [he]
  cases hi : es.findIdx? (fun e : DictEntry => (strKind c.prog c.w).is x e.key) with
  | some i =>
    obtain ⟨a, b, d⟩ := EDs.setSome (krS_inj hT) krS_fn hk hv r hi
    exact ⟨a, by rw [d]; exact hn⟩
  | none =>
    obtain ⟨a, b, d, f⟩ := EDs.setNone (krS_inj hT) krS_fn hk (strIs (c := c) (x := x) (t := t)) hv r hi
    refine ⟨a, ?_⟩
    rw [d]
    exact dup_app hn f

theorem setAttr_ex {E : Value → Shared → Prop} {Q : Unit → Shared → Prop} {x C dx : Addr} {nm : Str} {v : Value} {es : List DictEntry} {n : Nat} (X : c.K.In s.heap) (hx : s.heap.get? x = some (instObj C dx)) (hd : s.heap.get? dx = some ⟨.type "dict", none, .dict es.toArray n, #[]⟩) (hat : attrIn c.K C nm = true)
    (hl : (getL nm es).isSome = true) (hz : es.length ≤ 4096)
    (q : ∀ h' t tk, Heap.SameBut dx s.heap h' → h'.get? dx = some (dictOf (putL nm (PyData.keyHash c.w.params nm) (.str nm t) v es) (putN nm es n)) → Q () { s with heap := h', toks := tk }) :
    wpAny c.M A (setAttr (.ref x) nm v) Q E s := by
  refine attrIn_k hat fun _ h2 _ h4 h5 h6 => ?_
  clear hat
  refine set_plain X (instAt hx hd) h4 ?_
  refine osa_open (s := { s with toks := s.toks + 1 }) X (instAt hx hd) h5 h6 fun b => ?_
  obtain ⟨cd, hc, hd'⟩ := any_some h2
  refine wpAny_bind (wpAny_pure (wpAny_bind (wpAny_bind (wpAny_loadPart hx (wpAny_bind (Looks.here (s := { s with toks := s.toks + 1 }) (looks_clsIn X hc) ?_))))))
  rw [hd']
  refine wpAny_pure (a := some dx) (wpAny_bind (wpAny_pure (wpAny_bind ?_)))
  unfold nsSet
  refine wpAny_bind (wpAny_bind (wpAny_askSetting (wpAny_pure (wpAny_bind (wpAny_mkText (wpAny_bind (wpAny_loadPart hd ?_)))))))
  dsimp only
  have cc : (!es.toArray.any (·.key.isStr nm) && es.toArray.any (·.refKey)) = false := by
    rw [← Array.any_toList, ← Array.any_toList]
    unfold getL at hl
    split at hl
    · rename_i en he
      rw [List.any_eq_true.mpr ⟨en, List.mem_of_find?_eq_some he, List.find?_some he⟩]; rfl
    · split at hl
      · cases hl
      · rename_i z; rw [Bool.not_eq_true] at z; rw [z, Bool.and_false]
  rw [aRefKeyMayBeTheName_at, cc]
  have hlen : ∀ (h : Int) (k : Value), (putL nm h k v es).length ≤ es.length + 1 := by
    intro h k
    clear hl hz q hd cc
    induction es with
    | nil => simp [putL]
    | cons e r ih => rw [putL]; split <;> simp only [List.length_cons] <;> omega
  have D' : (s.heap.update dx (Obj.putName nm (PyData.keyHash c.w.params nm) (.str nm (s.toks + 1)) v)).get? dx = some (dictOf (putL nm (PyData.keyHash c.w.params nm) (.str nm (s.toks + 1)) v es) (putN nm es n)) := by
    rw [← putName_dict]
    exact Heap.get?_update_self _ hd (by rw [putName_dict]; rfl)
  refine wpAny_updatePart hd ?_
  refine wpAny_bind (wpAny_lookBehind D' (pastItsLine_dict (by have := hlen (PyData.keyHash c.w.params nm) (.str nm (s.toks + 1)); rw [List.size_toArray, sizeLine_eq]; omega)) ?_)
  exact wpAny_pure (q _ _ _ (Heap.SameBut.update ..) D')

theorem aSet_ok (O : c.Ok) {X : Ctx} (hX : X.atr = c.P.atr) {k : Nat} {v r : MV} {x y : Value} {nm : Str} {G' : GH} (hk : c.S.tab[k]? = some nm) (h : aSet X G k r v = some G') (S : St c fix kp φ G s) (vx : c.VR fix φ v x) (vy : c.VR fix φ r y) :
    Ev c A fix kp φ (setAttr x nm y) s G' (fun _ _ _ => True) := by
  suffices H : Done c A fix kp φ s G' (setAttr x nm y) from fun E Q q => H E Q fun s' S' => q fix φ () s' (Le.refl _) (List.prefix_refl _) S' trivial
  obtain ⟨p, h1, h⟩ := Option.bind_eq_some_iff.mp h
  obtain ⟨l, h2, h3⟩ := Option.bind_eq_some_iff.mp (oif' h).2
  have hat : attrIn c.K p.1 nm = true := (O.atr p.1 k (hX ▸ (oif' h).1)).elim fun nm' q => Option.some.inj (hk.symm.trans q.1) ▸ q.2
  rw [← Option.some.inj (oif' h3).2]
  have hz := (oif' h3).1
  have hg := hS_at h2
  clear h h2 h3
  refine iObj_k (P := fun v => c.VR fix φ v x → _) h1 (fun vx => ?_) vx
  refine objV (P := fun x => Done c A fix kp φ s (G.set p.2 (.sd (setL l k r))) (setAttr x nm y)) vx fun a dx hf hp E Q q => ?_
  refine S.gd hp hg fun es n ho hr hn z => ?_
  have hl : (getL nm es).isSome = true := by
    cases e : l.lookup k with
    | some v => obtain ⟨y, hy, _⟩ := sdGetS O.tabN hk hr e; rw [hy]; rfl
    | none => rw [sdGetN O.tabN hk hr e]; rfl
  refine setAttr_ex (S.1.K O) (S.1.fixK _ _ hf) ho hat hl (by rw [← EDs.length hr]; exact z) fun h' t tk hs he => ?_
  obtain ⟨a1, a2⟩ := sdPut (t := t) O.tabN hk vy hr hn
  exact q _ ⟨S.1.set hp (fun b hb o e => (hs.2 b hb).trans e) he ⟨_, _, rfl, a1, a2, setZ hz⟩, S.2⟩
end
end Mine
end
section
set_option autoImplicit false
set_option linter.unusedSectionVars false
namespace Mine
open PySem PySem.W PyProof.Rows PySem.Calls

inductive LoadsK (env : Env) (kp : Kp) (x : Str) (v : Value) : Prop
  | loc {o : Obj} {es : Array DictEntry} {ep : Nat} : env.kindOf x = some .local → kp env.locals = some o → o.data = .dict es ep → StrKeys es → nsFind es x = some v → LoadsK env kp x v
  | cell {a : Addr} {o : Obj} : env.kindOf x = some .cell → env.cells.lookup x = some a → kp a = some o → o.data = .cell (some v) → LoadsK env kp x v
  | free {a : Addr} {o : Obj} : env.kindOf x = some .free → env.cells.lookup x = some a → kp a = some o → o.data = .cell (some v) → x ≠ ("__classdict__" : Str) → LoadsK env kp x v

structure EnvOk (c : CX) (sc : Sp) (nm : Nm) (ρ : Lo) (env : Env) (fix kp : Kp) (φ : List Addr) : Prop where
  kind : env.scope.kind = .function
  names : env.scope.names = sc
  globals : env.globals = mainGlobals
  builtins : env.builtins = builtinsNs
  len : ∀ (i : Nat) (v : MV), ρ[i]? = some (some v) → i < nm.length
  loads : ∀ (i : Nat) (x : Str) (v : MV), nm[i]? = some (some x) → ρ[i]? = some (some v) → ∃ y, c.VR fix φ v y ∧ LoadsK env kp x y
  cells : ∀ x, x ≠ ("__class__" : Str) → sc.lookup x = some .cell ∨ sc.lookup x = some .free → ∃ a, env.cells.lookup x = some a ∧ ∃ o v, kp a = some o ∧ o.data = .cell v
  frame : ∃ o es ep, kp env.locals = some o ∧ o.data = .dict es ep ∧ StrKeys es
  apart : ∀ x a, env.cells.lookup x = some a → a ≠ env.locals
  inj : ∀ x y a, env.cells.lookup x = some a → env.cells.lookup y = some a → x = y
  uniq : ∀ (i j : Nat) (x : Str), nm[i]? = some (some x) → nm[j]? = some (some x) → i = j
  nocls : ∀ (i : Nat) (x : Str), nm[i]? = some (some x) → x ≠ ("__class__" : Str)

section
variable {c : CX} {A : Around} {fix kp : Kp} {φ : List Addr} {G : GH} {s : Shared} {d : Nat} {sc : Sp} {nm : Nm} {ρ : Lo} {env : Env}

theorem EnvOk.mono {fix' : Kp} {φ' : List Addr} (h : EnvOk c sc nm ρ env fix kp φ) (le : Le fix fix') (pre : φ <+: φ') : EnvOk c sc nm ρ env fix' kp φ' :=
  ⟨h.kind, h.names, h.globals, h.builtins, h.len, fun i x v e1 e2 => let ⟨y, a, b⟩ := h.loads i x v e1 e2; ⟨y, a.mono le pre, b⟩, h.cells, h.frame, h.apart, h.inj, h.uniq, h.nocls⟩
theorem EnvOk.kindOf (h : EnvOk c sc nm ρ env fix kp φ) (x : Str) : env.kindOf x = sc.lookup x := by unfold Env.kindOf; rw [h.names]

theorem name_ok {i : Nat} {x : Str} {v : MV} {pos : Pos} (V : EnvOk c sc nm ρ env fix kp φ) (S : St c fix kp φ G s) (h1 : nm[i]? = some (some x)) (h2 : ρ[i]? = some (some v)) (hd : (x == ("__debug__" : Str)) = false) :
    Ev c A fix kp φ (eval (.Name x pos) env) s G (fun f p z => c.VR f p v z) := by
  obtain ⟨y, vy, hl⟩ := V.loads i x v h1 h2
  refine Ev.same S fun E Q q => wpAny_Name ?_ hd
  cases hl with
  | loc hk ho hd hs hf => exact wpAny_loadName_local (m := fun n => nsFind _ n) V.kind hk ⟨_, _, _, S.1.kpK _ _ ho, hd, hs, fun _ => rfl⟩ hf (q _ s.toks vy)
  | cell hk hc ho hd => exact wpAny_loadName_cell V.kind hk hc ⟨_, S.1.kpK _ _ ho, hd⟩ (q _ s.toks vy)
  | free hk hc ho hd hn => exact wpAny_loadName_free V.kind hk hc ⟨_, S.1.kpK _ _ ho, hd⟩ (q _ s.toks vy) (beq_eq_false_iff_ne.mpr hn)

theorem glob_ok (O : c.Ok) {x : Str} {y : Value} {pos : Pos} (V : EnvOk c sc nm ρ env fix kp φ) (S : St c fix kp φ G s) (hk : gloK sc x = true) (hv : c.mg x = some y ∨ (c.mg x = none ∧ c.mb x = some y))
    {E : Value → Shared → Prop} {Q : Value → Shared → Prop} (q : Q y s) : wpAny c.M A (eval (.Name x pos) env) Q E s := by
  simp only [gloK, Bool.and_eq_true, beq_iff_eq, Bool.not_eq_true'] at hk
  refine wpAny_Name (ks_loadName_global V.kind (by rw [V.kindOf]; exact hk.1) ?_) hk.2
  unfold loadGlobal
  rw [V.globals, V.builtins]
  have hg : s.heap.Ns mainGlobals c.mg := O.g.keeps S.1.baseK
  have hb : s.heap.Ns builtinsNs c.mb := O.b.keeps S.1.baseK
  rcases hv with h | ⟨h1, h2⟩
  · refine wpAny_bind (wpAny_nsGet hg ?_)
    rw [h]
    exact wpAny_pure q
  · refine wpAny_bind (wpAny_nsGet hg ?_)
    rw [h1]
    refine wpAny_bind (wpAny_nsGet hb ?_)
    rw [h2]
    exact wpAny_pure q
theorem blt_ok (O : c.Ok) {x : Str} {y : Value} {pos : Pos} (V : EnvOk c sc nm ρ env fix kp φ) (S : St c fix kp φ G s) (hk : bltK c.S sc x = true) (hv : bootBuiltins x = some y)
    {E : Value → Shared → Prop} {Q : Value → Shared → Prop} (q : Q y s) : wpAny c.M A (eval (.Name x pos) env) Q E s := by
  simp only [bltK, Bool.and_eq_true] at hk
  obtain ⟨h1, h2⟩ := O.blt x (by simpa using hk.2)
  exact glob_ok O V S hk.1 (.inr ⟨h1, by rw [O.boot x h2]; exact hv⟩) q

theorem notStar {S : Sta} {e : ME} {sc : Sp} {nm : Nm} {x : PySem.Expr} {pos : Pos} (h : chkE S e sc nm (.Starred x pos) = true) : False := by
  have q : chkE S e sc nm (.Starred x pos) = false := by cases e <;> first | rfl | exact Bool.and_false _
  rw [q] at h; cases h
theorem starCons {S : Sta} {e : ME} {sc : Sp} {nm : Nm} {x : PySem.Expr} {r : List PySem.Expr} (h : chkE S e sc nm x = true) : starEach (x :: r) env = (false, eval x env) :: starEach r env := by
  cases x <;> first | rfl | exact absurd h (fun q => notStar q)
theorem backCons {pos : Pos} {t : Sem Value} {r : List (Bool × Sem Value)} : backTo pos ((false, t) :: r) = (false, t) :: backTo pos r := rfl
theorem starNo {S : Sta} : ∀ {es : List ME} {xs : List PySem.Expr} {sc : Sp} {nm : Nm} {pos : Pos}, chkEs S es sc nm xs = true → (backTo pos (starEach xs env)).any (·.1) = false ∧ (backTo pos (starEach xs env)).all (fun x => !x.1) = true
  | [], [], _, _, _, _ => ⟨rfl, rfl⟩
  | [], _ :: _, _, _, _, h => nomatch h
  | _ :: _, [], _, _, _, h => nomatch h
  | e :: es, x :: xs, _, _, pos, h => by
    have h := Bool.and_eq_true_iff.mp h
    rw [starCons h.1, backCons]
    obtain ⟨a, b⟩ := starNo (pos := pos) h.2
    exact ⟨by rw [List.any_cons, a]; rfl, by rw [List.all_cons, b]; rfl⟩

theorem evalArgs_nilG {f : Value} {E : Value → Shared → Prop} {Q : Args → Shared → Prop} (h : wpAny c.M A (spliced []) (fun vs s' => Q ⟨vs, []⟩ s') E s) : wpAny c.M A (evalArgs f true [] []) Q E s := by
  unfold evalArgs
  show wpAny _ A (spliced [] >>= _) Q E s
  refine wpAny_bind (wpAny_mono h (fun vs s' h' => wpAny_bind (wpAny_pure ?_)) fun _ _ x => x)
  refine wpAny_holding ?_
  exact wpAny_bind (wpAny_pure (wpAny_bind (wpAny_pure (wpAny_pure h'))))
theorem callK (O : c.Ok) {f : Value} {first : List Value} {es : List ME} {xs : List PySem.Expr} {vs : List MV} {G' : GH} {pos : Pos} {E : Value → Shared → Prop} {Q : Value → Shared → Prop} (S : St c fix kp φ G s) (hk : keepIn c.K f = true) (hc : chkEs c.S es sc nm xs = true)
    (h : Ev c A fix kp φ (spliced (backTo pos (starEach xs env))) s G' (fun f p z => c.VRs f p vs z))
    (q : ∀ fix' φ' ys s', Le fix fix' → φ <+: φ' → St c fix' kp φ' G' s' → c.VRs fix' φ' vs ys → wpAny c.M A (call f (first ++ ys)) Q E s') :
    wpAny c.M A (callWith pos f first (backTo pos (starEach xs env)) []) Q E s := by
  obtain ⟨a, _⟩ := starNo (env := env) (pos := pos) hc
  refine callWith_of (P := fun h => c.K.In h) (by rw [a]; rfl) (fun h X => keeps_K hk h X) ?_
  cases xs with
  | nil =>
    exact evalArgs_nilG (h E _ fun fix' φ' ys s' le pre S' vr => ⟨S'.1.K O, q fix' φ' ys s' le pre S' vr⟩)
  | cons x xs =>
    cases es with
    | nil => exact nomatch hc
    | cons e es =>
      have hc := Bool.and_eq_true_iff.mp hc
      rw [starCons hc.1, backCons] at h ⊢
      exact evalArgs_plain (h E _ fun fix' φ' ys s' le pre S' vr => ⟨S'.1.K O, q fix' φ' ys s' le pre S' vr⟩)

theorem noSup_base {o : PySem.Expr} {name : Str} (h : noSup o = true) : attributeBase o name env (eval o env) = eval o env := by
  cases o <;> first | rfl | cases h
theorem methTree {o : PySem.Expr} {name : Str} {apos pos : Pos} {xs : List PySem.Expr} {E : Value → Shared → Prop} {Q : Value → Shared → Prop} (hs : noSup o = true) (hl : (apos.endLine == pos.line) = true) (hn : xs.length < 28) (ha : (backTo pos (starEach xs env)).all (fun x => !x.1) = true)
    (h : wpAny c.M A (eval o env) (fun ov s₁ => ∀ pl, wpAny c.M A (getMethod ov name pl) (fun fm s₂ => wpAny c.M A (callWith pos fm.1 fm.2 (backTo pos (starEach xs env)) []) Q E s₂) E s₁) E s) :
    wpAny c.M A (eval (.Call (.Attribute o name apos) xs [] pos) env) Q E s := by
  rw [arm_eval_Call, noSup_base hs]
  refine wpAny_bind (wpAny_mono h (fun ov s₁ h₁ => ?_) fun _ _ e => e)
  refine wpAny_bind (wpAny_standAt ?_)
  have hform : methodCallForm (xs.length + ([] : List Keyword).length) (backTo pos (starEach xs env)) (backToKw pos (keywordEach [] env)) = true := by
    unfold methodCallForm
    rw [ha]
    simp only [Bool.true_and, Bool.and_eq_true, decide_eq_true_eq]
    exact ⟨rfl, by simp [backToKw, keywordEach]; omega⟩
  have hpos : methodCallPos true o env apos pos = pure pos := by unfold methodCallPos; simp [hl]
  unfold methodCall
  rw [hform]
  refine wpAny_bind (wpAny_holding (wpAny_mono (h₁ _) (fun fm s₂ h₂ => ?_) fun _ _ e => e))
  exact wpAny_bind (wpAny_of_eq hpos h₂)
end
end Mine
end
section
set_option autoImplicit false
set_option linter.unusedSectionVars false
namespace Mine
open PySem PySem.W PyProof.Rows PySem.Calls

inductive ItD (c : CX) (fix : Kp) (φ : List Addr) : Value → Gd → List Itm → List (Addr × Obj) → Prop
  | lst {I l : Addr} {i n : Nat} {xs : List Value} {vs : List MV} {o : Obj} : fix l = some ⟨.type "list", none, .seq xs.toArray n, #[]⟩ → c.VRs fix φ vs (xs.drop i) → o.cls = .type "list_iterator" → o.data = .fields #[.ref l, .int i 0] →
      ItD c fix φ (.ref I) .no (vs.map .val) [(I, o)]
  | tup {I l : Addr} {i n : Nat} {xs : List Value} {vs : List MV} {o : Obj} : fix l = some ⟨.type "tuple", none, .seq xs.toArray n, #[]⟩ → c.VRs fix φ vs (xs.drop i) → o.cls = .type "tuple_iterator" → o.data = .fields #[.ref l, .int i 0] →
      ItD c fix φ (.ref I) .no (vs.map .val) [(I, o)]
  | glst {I l : Addr} {id i n : Nat} {o : Obj} : φ[id]? = some l → o.cls = .type "list_iterator" → o.data = .fields #[.ref l, .int i 0] →
      ItD c fix φ (.ref I) (.lst id (i + n)) ((List.range' i n).map .at) [(I, o)]
  | rng {I : Addr} {x : Int} {n : Nat} : ItD c fix φ (.ref I) .no ((List.range n).map fun (k : Nat) => .val (.int (x + 1 * (k : Int)))) [(I, ⟨.type "range_iterator", none, .fields #[rawInt x, rawInt n, rawInt 1], #[]⟩)]
  | dct {I l : Addr} {id i ep : Nat} {ks : List Int} {o : Obj} : φ[id]? = some l → o.cls = .type "dict_keyiterator" → o.data = .fields #[.ref l, .int i 0, .int ks.length 0, .int ep 0] →
      ItD c fix φ (.ref I) (.dct id ep ks) ((ks.drop i).map fun k => .val (.int k)) [(I, o)]
  | enum {e I l : Addr} {i n : Nat} {xs : List Value} {vs : List MV} {o : Obj} {old : Value} : fix l = some ⟨.type "list", none, .seq xs.toArray n, #[]⟩ → c.VRs fix φ vs (xs.drop i) → o.cls = .type "list_iterator" → o.data = .fields #[.ref l, .int i 0] → e ≠ I →
      ItD c fix φ (.ref e) .no (enumT i vs) [(e, ⟨.type "enumerate", none, .fields #[.none, .bool false, .ref I, rawInt i, .none, old], #[]⟩), (I, o)]
  | zip {z TI TO i1 i2 l1 l2 : Addr} {k1 k2 n1 n2 : Nat} {xs ys : List Value} {vs us : List MV} {o1 o2 : Obj} {a b : Value} : fix l1 = some ⟨.type "list", none, .seq xs.toArray n1, #[]⟩ → fix l2 = some ⟨.type "list", none, .seq ys.toArray n2, #[]⟩ →
      c.VRs fix φ vs (xs.drop k1) → c.VRs fix φ us (ys.drop k2) → o1.cls = .type "list_iterator" → o1.data = .fields #[.ref l1, .int k1 0] → o2.cls = .type "list_iterator" → o2.data = .fields #[.ref l2, .int k2 0] → ZipApart z TI TO i1 i2 l1 l2 →
      ItD c fix φ (.ref z) .no (zipT vs us) [(z, ⟨.type "zip", none, .fields #[.none, .bool false, .bool false, .ref TI, .ref TO], #[]⟩), (TI, ⟨.type "tuple", none, .seq #[.ref i1, .ref i2] 0, #[]⟩), (TO, ⟨.type "tuple", none, .seq #[a, b] 0, #[]⟩), (i1, o1), (i2, o2)]

theorem ItD.mono {c : CX} {fix fix' : Kp} {φ φ' : List Addr} (hf : Le fix fix') (hp : φ <+: φ') {it : Value} {gd : Gd} {items : List Itm} {fp : List (Addr × Obj)} (h : ItD c fix φ it gd items fp) : ItD c fix' φ' it gd items fp := by
  cases h with
  | lst a b d e => exact .lst (hf _ _ a) (b.mono hf hp) d e
  | tup a b d e => exact .tup (hf _ _ a) (b.mono hf hp) d e
  | glst a b d => exact .glst (pre_get hp a) b d
  | rng => exact .rng
  | dct a b d => exact .dct (pre_get hp a) b d
  | enum a b d e f => exact .enum (hf _ _ a) (b.mono hf hp) d e f
  | zip a b d e f g h i j => exact .zip (hf _ _ a) (hf _ _ b) (d.mono hf hp) (e.mono hf hp) f g h i j

structure ItOk (c : CX) (fix kp : Kp) (φ : List Addr) (h : Heap) (it : Value) (gd : Gd) (items : List Itm) (fp : List (Addr × Obj)) : Prop where
  d : ItD c fix φ it gd items fp
  here : ∀ p ∈ fp, h.get? p.1 = some p.2
  free : ∀ p ∈ fp, fix p.1 = none ∧ kp p.1 = none ∧ p.1 ∉ φ

noncomputable def holdL (kp : Kp) (fp : List (Addr × Obj)) : Kp := fun a => (fp.lookup a).or (kp a)

section
variable {c : CX} {A : Around} {fix kp : Kp} {φ : List Addr} {G : GH} {s : Shared} {h : Heap} {it : Value} {gd : Gd} {items : List Itm} {fp : List (Addr × Obj)}

theorem lookup_mem' {α β : Type} [BEq α] [LawfulBEq α] : ∀ {l : List (α × β)} {a : α} {b : β}, l.lookup a = some b → (a, b) ∈ l
  | [], _, _, h => by cases h
  | (x, y) :: r, a, b, h => by
    rw [List.lookup_cons] at h
    cases q : a == x with
    | true => rw [q] at h; cases h; rw [eq_of_beq q]; exact .head _
    | false => rw [q] at h; exact .tail _ (lookup_mem' h)
theorem lookup_none' {α β : Type} [BEq α] [LawfulBEq α] : ∀ {l : List (α × β)} {a : α}, l.lookup a = none → ∀ p ∈ l, p.1 ≠ a
  | [], _, _, _, h => by cases h
  | (x, y) :: r, a, h, p, hp => by
    rw [List.lookup_cons] at h
    cases q : a == x with
    | true => rw [q] at h; cases h
    | false =>
      rw [q] at h
      rcases List.mem_cons.mp hp with rfl | hp
      · intro e; rw [← e] at q; simp at q
      · exact lookup_none' h p hp

theorem ItOk.hold (I : ItOk c fix kp φ h it gd items fp) (R : Rel c fix kp φ G h) : Rel c fix (holdL kp fp) φ G h ∧ Le kp (holdL kp fp) ∧
    ∀ {fix' kp' : Kp} {φ' : List Addr} {G' : GH} {h' : Heap}, Le fix fix' → φ <+: φ' → Le (holdL kp fp) kp' → Rel c fix' kp' φ' G' h' → ItOk c fix' kp φ' h' it gd items fp := by
  have hl : ∀ a o, fp.lookup a = some o → h.get? a = some o ∧ fix a = none ∧ kp a = none ∧ a ∉ φ := fun a o e => ⟨I.here _ (lookup_mem' e), I.free _ (lookup_mem' e)⟩
  have le : Le kp (holdL kp fp) := fun a o e => by
    unfold holdL
    cases q : fp.lookup a with
    | none => exact e
    | some x => have := (hl a x q).2.2.1; rw [e] at this; cases this
  have key : ∀ a o, holdL kp fp a = some o → h.get? a = some o ∧ fix a = none ∧ a ∉ φ := fun a o e => by
    unfold holdL at e
    cases q : fp.lookup a with
    | none => rw [q] at e; exact ⟨R.kpK a o e, R.dj a o e, fun m => by have := (R.out a m).2; rw [show kp a = some o from e] at this; cases this⟩
    | some x => rw [q] at e; cases e; exact ⟨(hl a o q).1, (hl a o q).2.1, (hl a o q).2.2.2⟩
  refine ⟨⟨R.base, R.fixK, fun a o e => (key a o e).1, fun a o e => (key a o e).2.1, R.len, R.nd, fun a ha => ⟨(R.out a ha).1, ?_⟩, R.obj, R.st, R.lo⟩, le, ?_⟩
  · cases e : holdL kp fp a with
    | none => rfl
    | some o => exact absurd ha (key a o e).2.2
  · intro fix' kp' φ' G' h' lf lp lk R'
    have hk : ∀ p ∈ fp, ∃ o, kp' p.1 = some o := fun p hp => by
      cases q : fp.lookup p.1 with
      | none => exact absurd rfl (lookup_none' q p hp)
      | some x => exact ⟨x, lk _ _ (by unfold holdL; rw [q]; rfl)⟩
    have hsame : ∀ p ∈ fp, fp.lookup p.1 = some p.2 := fun p hp => by
      cases q : fp.lookup p.1 with
      | none => exact absurd rfl (lookup_none' q p hp)
      | some x =>
        have h1 := (hl _ _ q).1
        have h2 := I.here p hp
        rw [h1] at h2; exact h2
    refine ⟨I.d.mono lf lp, fun p hp => R'.kpK _ _ (lk _ _ (by unfold holdL; rw [hsame p hp]; rfl)), fun p hp => ⟨?_, (I.free p hp).2.1, fun m => ?_⟩⟩
    · obtain ⟨o, ho⟩ := hk p hp; exact R'.dj _ _ ho
    · obtain ⟨o, ho⟩ := hk p hp; have := (R'.out _ m).2; rw [ho] at this; cases this

theorem ItOk.step (I : ItOk c fix kp φ s.heap it gd items fp) (S : St c fix kp φ G s) {h' : Heap} {tk : Nat} (hk : ∀ a o, (∀ p ∈ fp, p.1 ≠ a) → s.heap.get? a = some o → h'.get? a = some o) : St c fix kp φ G { s with heap := h', toks := tk } :=
  ⟨S.1.heap fun a o ha e => hk a o (fun p hp => by
    rintro rfl
    obtain ⟨a1, a2, a3⟩ := I.free p hp
    rcases ha with ha | ha | ha
    · rw [a1] at ha; cases ha
    · rw [a2] at ha; cases ha
    · exact a3 ha) e, S.2⟩

noncomputable def tgtFit (one : Bool) (target : PySem.Expr) : Prop := match one with
  | true => ∃ x p, target = .Name x p
  | false => ∃ ts k p, target = .Tuple ts k p
theorem lotg_name {target : PySem.Expr} {it y : Value} {E : Value → Shared → Prop} {Q : Unit → Shared → Prop} (ht : tgtFit true target) (q : Q () s) : wpAny c.M A (letOwnedTupleGo target it y) Q E s := by
  obtain ⟨x, p, rfl⟩ := ht
  exact wpAny_pure q
theorem lotg_other {ts : List PySem.Expr} {k : Nat} {p : Pos} {I : Addr} {y : Value} {o : Obj} {n : String} {E : Value → Shared → Prop} {Q : Unit → Shared → Prop} (ho : s.heap.get? I = some o) (hc : o.cls = .type n)
    (hn : (["enumerate", "zip", "dict_itemiterator", "dict_reverseitemiterator", "odict_iterator", "itertools.zip_longest", "itertools.pairwise"].contains n) = false) (q : Q () s) : wpAny c.M A (letOwnedTupleGo (.Tuple ts k p) (.ref I) y) Q E s := by
  unfold letOwnedTupleGo
  cases y with
  | ref a =>
    refine wpAny_bind (wpAny_load ho ?_)
    rw [hc]
    split
    · rename_i hq _
      cases hq
      rw [if_neg (by rw [hn, Bool.false_and]; decide)]
      exact wpAny_pure q
    · exact wpAny_pure q
  | _ => exact wpAny_pure q
end
end Mine
end
section
set_option autoImplicit false
set_option linter.unusedSectionVars false
namespace Mine
open PySem PySem.W PyProof.Rows PySem.Calls

section
variable {c : CX} {A : Around} {fix kp : Kp} {φ : List Addr} {G : GH} {s : Shared} {h : Heap} {it : Value} {gd : Gd} {items : List Itm} {fp : List (Addr × Obj)} {d : Nat}

theorem dropCons {α : Type} {l : List α} {i : Nat} {x : α} {r : List α} (h : l.drop i = x :: r) : l[i]? = some x ∧ l.drop (i + 1) = r := by
  have h1 : (l.drop i)[0]? = some x := by rw [h]; rfl
  rw [List.getElem?_drop] at h1
  refine ⟨h1, ?_⟩
  rw [← List.drop_drop, h]; rfl
theorem VRs.consE {tab : List Str} {fix : Kp} {φ : List Addr} {v : MV} {l : List MV} {xs : List Value} {P : Prop} (h : VRs tab fix φ (v :: l) xs) (g : ∀ x r, xs = x :: r → VR tab fix φ v x → VRs tab fix φ l r → P) : P :=
  VRs.consI (P := fun ys => xs = ys → P) h (fun y r a b e => g y r e a b) rfl
theorem VRs.nextE {tab : List Str} {fix : Kp} {φ : List Addr} {v : MV} {l : List MV} {xs : List Value} {i : Nat} {P : Prop} (h : VRs tab fix φ (v :: l) (xs.drop i)) (g : ∀ x, xs.toArray[i]? = some x → VR tab fix φ v x → VRs tab fix φ l (xs.drop (i + 1)) → P) : P :=
  h.consE fun x _ e a b => g x ((List.getElem?_toArray ..).trans (dropCons e).1) a ((dropCons e).2 ▸ b)
theorem VRs.lastE {tab : List Str} {fix : Kp} {φ : List Addr} {l : List MV} {xs : List Value} {i : Nat} (h : VRs tab fix φ l (xs.drop i)) (e : l = []) : xs.toArray[i]? = none := by
  have h1 : xs.length ≤ i := List.drop_eq_nil_iff.mp (List.length_eq_zero_iff.mp (h.length.symm.trans (e ▸ rfl)))
  rw [List.getElem?_toArray, List.getElem?_eq_none_iff]; exact h1
theorem mapK {α β : Type} {f : α → β} {l : List α} {x : β} {r : List β} {P : Prop} (h : l.map f = x :: r) (g : ∀ a t, l = a :: t → f a = x → t.map f = r → P) : P := match l, h with
  | a :: t, h => g a t rfl (List.cons.inj h).1 (List.cons.inj h).2
theorem allCons {α : Type} {P : α → Prop} {a : α} {l : List α} (h : P a) (t : ∀ x ∈ l, P x) : ∀ x ∈ a :: l, P x := fun x m => (List.mem_cons.mp m).elim (fun e => e ▸ h) (t x)
theorem allNil {α : Type} {P : α → Prop} : ∀ x ∈ ([] : List α), P x := fun x m => absurd m List.not_mem_nil
theorem allOne {α : Type} {P : α → Prop} {a : α} (h : P a) : ∀ x ∈ [a], P x := allCons h allNil

theorem isInt_shape {k : Int} {v : Value} (h : (intKind c.prog c.w).is k v = true) : c.VR fix φ (.int k) v := by
  have h' : v.isInt k = true := h
  cases v with
  | int j t => exact eq_of_beq h' ▸ .int _ _
  | _ => exact noF h'
theorem ndPairs {fix : Kp} {φ : List Addr} {l : List (Int × MV)} {es : List DictEntry} (h : NDs c.prog c.w c.S.tab fix φ l es) : ∃ kvs : List (Int × Value), Pairs (intKind c.prog c.w) es kvs ∧ kvs.map (·.1) = l.map (·.1) :=
  h.ind (M := fun l es => ∃ kvs : List (Int × Value), Pairs (intKind c.prog c.w) es kvs ∧ kvs.map (·.1) = l.map (·.1)) ⟨[], .nil, rfl⟩ fun k v x key y l es hk hi hv _ ih => ih.elim fun kvs q => by
    have hk' : k = x := hk
    rw [← hk'] at hi ⊢
    exact ⟨(k, y) :: kvs, .cons hi rfl q.1, congrArg (k :: ·) q.2⟩
theorem gdLst {id n : Nat} {P : Prop} (h : gdOk G (.lst id n) = true) (g : ∀ l, G[id]? = some (.lst l) → l.length = n → P) : P := by
  have h : (match hL G id with | some l => decide (l.length = n) | none => false) = true := h
  cases q : hL G id with
  | none => rw [q] at h; exact noF h
  | some l => rw [q] at h; exact g l (hL_at q) (of_decide_eq_true h)
theorem gdDct {id ep : Nat} {ks : List Int} {P : Prop} (h : gdOk G (.dct id ep ks) = true) (g : ∀ l, G[id]? = some (.nd ep l) → l.map (·.1) = ks → P) : P := by
  have h : (match hN G id with | some p => decide (p.1 = ep ∧ p.2.map (·.1) = ks) | none => false) = true := h
  cases q : hN G id with
  | none => rw [q] at h; exact noF h
  | some p => rw [q] at h; exact g p.2 ((of_decide_eq_true h).1 ▸ hN_at q) (of_decide_eq_true h).2
theorem dctK (S : St c fix kp φ G s) {id ep : Nat} {a : Addr} {l : List (Int × MV)} {P : Prop} (hp : φ[id]? = some a) (hg : G[id]? = some (.nd ep l)) (g : ∀ kvs, Heap.DictAt (intKind c.prog c.w) s.heap a kvs ep → kvs.map (·.1) = l.map (·.1) → P) : P :=
  S.gn hp hg fun es ho hr hn _ => (ndPairs hr).elim fun kvs q => g kvs ⟨_, es.toArray, ho, ⟨rfl, rfl, rfl⟩, rfl, fun e he => EDs.keysOf hr e (memA he), q.1, by rw [q.2]; exact hn⟩ q.2

theorem fetchV {x : Itm} {a v : MV} (h : fetch G gd x = some v) (e : .val a = x) : a = v := by subst e; exact Option.some.inj h
theorem fetchA {x : Itm} {i id n : Nat} {v : MV} (h : fetch G (.lst id n) x = some v) (e : .at i = x) : (hL G id).bind (fun l => l[i]?) = some v := by subst e; exact h
noncomputable def Nx (c : CX) (fix kp : Kp) (φ : List Addr) (G : GH) (v : MV) (it : Value) (gd : Gd) (items : List Itm) (n : Nat) (Q : Value → Shared → Prop) : Prop :=
  ∀ fix' y s' fp', Le fix fix' → St c fix' kp φ G s' → c.VR fix' φ v y → ItOk c fix' kp φ s'.heap it gd items fp' → fp'.length = n → Q y s'
noncomputable def NextG (c : CX) (A : Around) (it : Value) (target : PySem.Expr) (E : Value → Shared → Prop) (Q : Value → Shared → Prop) (s : Shared) : Prop :=
  wpAny c.M A (pyNext it) (fun r s₁ => match r with | none => False | some y => wpAny c.M A (letOwnedTupleGo target it y) (fun _ s₂ => Q y s₂) E s₁) E s
section
variable {one : Bool} {target : PySem.Expr} {x : Itm} {v : MV} {E : Value → Shared → Prop} {Q : Value → Shared → Prop}
theorem nextOne {I : Addr} {o o' : Obj} {y : Value} {n : String} {h' : Heap} {its : List Itm} (J : ItOk c fix kp φ s.heap (.ref I) gd its [(I, o)]) (S : St c fix kp φ G s) (hs : Heap.SameBut I s.heap h') (ho : h'.get? I = some o') (hc : o'.cls = .type n)
    (hn : (["enumerate", "zip", "dict_itemiterator", "dict_reverseitemiterator", "odict_iterator", "itertools.zip_longest", "itertools.pairwise"].contains n) = false) (D : ItD c fix φ (.ref I) gd items [(I, o')]) (vy : c.VR fix φ v y) (ht : tgtFit one target) (q : Nx c fix kp φ G v (.ref I) gd items 1 Q) {tk : Nat} :
    wpAny c.M A (letOwnedTupleGo target (.ref I) y) (fun _ s₂ => Q y s₂) E { s with heap := h', toks := tk } := by
  have fin : Q y { s with heap := h', toks := tk } := q fix y _ [(I, o')] (Le.refl _) (J.step S fun a o ha e => (hs.2 a (fun q => ha (I, _) (.head _) q.symm)).trans e) vy ⟨D, allOne ho, allOne (J.free (I, o) (.head _))⟩ rfl
  cases one with
  | true => exact lotg_name ht fin
  | false => exact ht.elim fun ts ht => ht.elim fun k ht => ht.elim fun p ht => ht ▸ lotg_other ho hc hn fin
theorem next_lst {I l : Addr} {i n : Nat} {xs : List Value} {vs : List MV} {o : Obj} (hl : fix l = some ⟨.type "list", none, .seq xs.toArray n, #[]⟩) (hr : c.VRs fix φ vs (xs.drop i)) (hc : o.cls = .type "list_iterator") (hd : o.data = .fields #[.ref l, .int i 0])
    (e : vs.map .val = x :: items) (J : ItOk c fix kp φ s.heap (.ref I) .no (vs.map .val) [(I, o)]) (hv : fetch G .no x = some v) (S : St c fix kp φ G s) (ht : tgtFit one target) (q : Nx c fix kp φ G v (.ref I) .no items 1 Q) : NextG c A (.ref I) target E Q s :=
  mapK e fun a t ev ex et => VRs.nextE (ev ▸ hr) fun y hy vy hr' => wpAny_pyNext_list_item ⟨o, J.here _ (.head _), hc, hd⟩ ⟨_, S.1.fixK _ _ hl, rfl, n, rfl⟩ hy fun h' hit hs => hit.elim fun o' p =>
    nextOne J S hs p.1 p.2.1 (by decide) (et ▸ ItD.lst hl hr' p.2.1 (by rw [p.2.2])) (fetchV hv ex ▸ vy) ht q
theorem next_tup {I l : Addr} {i n : Nat} {xs : List Value} {vs : List MV} {o : Obj} (hl : fix l = some ⟨.type "tuple", none, .seq xs.toArray n, #[]⟩) (hr : c.VRs fix φ vs (xs.drop i)) (hc : o.cls = .type "tuple_iterator") (hd : o.data = .fields #[.ref l, .int i 0])
    (e : vs.map .val = x :: items) (J : ItOk c fix kp φ s.heap (.ref I) .no (vs.map .val) [(I, o)]) (hv : fetch G .no x = some v) (S : St c fix kp φ G s) (ht : tgtFit one target) (q : Nx c fix kp φ G v (.ref I) .no items 1 Q) : NextG c A (.ref I) target E Q s :=
  mapK e fun a t ev ex et => VRs.nextE (ev ▸ hr) fun y hy vy hr' => wpAny_pyNext_tuple_item ⟨o, J.here _ (.head _), hc, hd⟩ ⟨_, S.1.fixK _ _ hl, rfl, n, rfl⟩ hy fun h' hit hs => hit.elim fun o' p =>
    nextOne J S hs p.1 p.2.1 (by decide) (et ▸ ItD.tup hl hr' p.2.1 (by rw [p.2.2])) (fetchV hv ex ▸ vy) ht q
theorem rangeK {i n : Nat} {P : Prop} (h : (List.range' i n).map Itm.at = x :: items) (g : ∀ m, n = m + 1 → Itm.at i = x → (List.range' (i + 1) m).map Itm.at = items → P) : P := match n, h with
  | m + 1, h => g m rfl (List.cons.inj h).1 (List.cons.inj h).2
theorem next_glst {I l : Addr} {id i n : Nat} {o : Obj} (hl : φ[id]? = some l) (hc : o.cls = .type "list_iterator") (hd : o.data = .fields #[.ref l, .int i 0])
    (e : (List.range' i n).map .at = x :: items) (J : ItOk c fix kp φ s.heap (.ref I) (.lst id (i + n)) ((List.range' i n).map .at) [(I, o)]) (hv : fetch G (.lst id (i + n)) x = some v) (S : St c fix kp φ G s) (ht : tgtFit one target) (q : Nx c fix kp φ G v (.ref I) (.lst id (i + n)) items 1 Q) : NextG c A (.ref I) target E Q s :=
  rangeK e fun m en ex et => (Option.bind_eq_some_iff.mp (fetchA hv ex)).elim fun ms hm => S.go hl (hL_at hm.1) fun xs k ho hr z => (hr.get hm.2).elim fun y hy =>
    wpAny_pyNext_list_item ⟨o, J.here _ (.head _), hc, hd⟩ ⟨_, ho, rfl, k, rfl⟩ ((List.getElem?_toArray ..).trans hy.1) fun h' hit hs => hit.elim fun o' p =>
      nextOne J S hs p.1 p.2.1 (by decide) (by rw [← et, show i + n = i + 1 + m by rw [en, Nat.add_assoc, Nat.add_comm 1]]; exact ItD.glst hl p.2.1 (by rw [p.2.2])) hy.2 ht q
theorem next_rng {I : Addr} {a : Int} {n : Nat} (e : ((List.range n).map fun (k : Nat) => Itm.val (.int (a + 1 * (k : Int)))) = x :: items) (J : ItOk c fix kp φ s.heap (.ref I) .no ((List.range n).map fun (k : Nat) => Itm.val (.int (a + 1 * (k : Int)))) [(I, ⟨.type "range_iterator", none, .fields #[rawInt a, rawInt n, rawInt 1], #[]⟩)])
    (hv : fetch G .no x = some v) (S : St c fix kp φ G s) (ht : tgtFit one target) (q : Nx c fix kp φ G v (.ref I) .no items 1 Q) : NextG c A (.ref I) target E Q s := by
  cases n with
  | zero => exact nomatch e
  | succ n =>
    rw [List.range_succ_eq_map, List.map_cons, List.map_map] at e
    obtain ⟨ex, et⟩ := List.cons.inj e
    have e1 : ((fun (k : Nat) => Itm.val (MV.int (a + 1 * (k : Int)))) ∘ Nat.succ) = fun (k : Nat) => Itm.val (MV.int (a + 1 + 1 * (k : Int))) := funext fun k => congrArg (fun i => Itm.val (.int i)) (show a + 1 * ((k + 1 : Nat) : Int) = a + 1 + 1 * (k : Int) by clear J e q hv S ht ex et; omega)
    rw [e1] at et
    have hv := fetchV hv ex
    rw [show a + 1 * ((0 : Nat) : Int) = a by clear J e q hv S ht ex et e1; omega] at hv
    refine wpAny_pyNext_range_item (J.here _ (.head _)) (by clear J e q hv S ht ex et e1; omega) fun h' hit hs => ?_
    rw [show ((n + 1 : Nat) : Int) - 1 = (n : Int) by clear hit J e q hv S ht ex et e1; omega] at hit
    have fin : Q (.int a s.toks) { s with heap := h', toks := s.toks + 1 } := q fix _ _ [(I, _)] (Le.refl _) (J.step S fun a o ha e => (hs.2 a (fun q => ha (I, _) (.head _) q.symm)).trans e) (hv ▸ .int a s.toks) ⟨et ▸ .rng, allOne hit, allOne (show fix I = none ∧ kp I = none ∧ I ∉ φ from J.free _ (.head _))⟩ rfl
    cases one with
    | true => exact lotg_name ht fin
    | false => exact ht.elim fun ts ht => ht.elim fun k ht => ht.elim fun p ht => ht ▸ wpAny_pure fin
theorem next_dct {I l : Addr} {id i ep : Nat} {ks : List Int} {o : Obj} (hl : φ[id]? = some l) (hc : o.cls = .type "dict_keyiterator") (hd : o.data = .fields #[.ref l, .int i 0, .int ks.length 0, .int ep 0])
    (e : ((ks.drop i).map fun k => Itm.val (.int k)) = x :: items) (J : ItOk c fix kp φ s.heap (.ref I) (.dct id ep ks) ((ks.drop i).map fun k => Itm.val (.int k)) [(I, o)]) (hg : gdOk G (.dct id ep ks) = true) (hv : fetch G (.dct id ep ks) x = some v) (S : St c fix kp φ G s) (ht : tgtFit one target) (q : Nx c fix kp φ G v (.ref I) (.dct id ep ks) items 1 Q) : NextG c A (.ref I) target E Q s :=
  mapK e fun k t ev ex et => gdDct hg fun ml hm hks => dctK S hl hm fun kvs hD hf => by
    have hlen : kvs.length = ks.length := by rw [← hks, ← hf, List.length_map]
    have h1 : (kvs.map (·.1))[i]? = some k := by rw [hf, hks]; exact (dropCons ev).1
    rw [List.getElem?_map, Option.map_eq_some_iff] at h1
    obtain ⟨⟨k', y⟩, hy, ek⟩ := h1
    have ek : k' = k := ek
    rw [ek] at hy
    refine wpAny_pyNext_dict_item ⟨o, J.here _ (.head _), hc, by rw [hlen]; exact hd⟩ hD hy fun key h' hkey hit hs => hit.elim fun o' p => ?_
    exact nextOne J S hs p.1 p.2.1 (by decide) (et ▸ (dropCons ev).2 ▸ ItD.dct hl p.2.1 (by rw [p.2.2, hlen])) (fetchV hv ex ▸ isInt_shape hkey) ht q
theorem enumK {i : Nat} {vs : List MV} {P : Prop} (e : enumT i vs = x :: items) (g : ∀ a t, vs = a :: t → Itm.val (.tup [.int i, a]) = x → enumT (i + 1) t = items → P) : P := match vs, e with
  | a :: t, e => g a t rfl (List.cons.inj e).1 (List.cons.inj e).2
theorem zipK {vs us : List MV} {P : Prop} (e : zipT vs us = x :: items) (g : ∀ a t b r, vs = a :: t → us = b :: r → Itm.val (.tup [a, b]) = x → zipT t r = items → P) : P := match vs, us, e with
  | a :: t, b :: r, e => g a t b r rfl rfl (List.cons.inj e).1 (List.cons.inj e).2
theorem newPair (S : St c fix kp φ G s) {h' : Heap} {tk : Nat} (S1 : St c fix kp φ G { s with heap := h', toks := tk }) {a b : MV} {x y : Value} (hT : h'.get? s.heap.objs.size = some ⟨.type "tuple", none, .seq #[x, y] 0, #[]⟩) (va : c.VR fix φ a x) (vb : c.VR fix φ b y) {P : Prop}
    (g : ∀ fix', Le fix fix' → (∀ a, a ≠ s.heap.objs.size → fix' a = fix a) → St c fix' kp φ G { s with heap := h', toks := tk } → c.VR fix' φ (.tup [a, b]) (.ref s.heap.objs.size) → P) : P := by
  obtain ⟨R2, le⟩ := S1.1.freeze hT (S.1.kpLt (Nat.le_refl _)) (fun m => Nat.lt_irrefl _ (S.1.lt m)) (S.1.fixLt (Nat.le_refl _))
  exact g _ le (fun a h => upd_ne _ _ h) ⟨R2, S1.2⟩ (.tup (xs := [x, y]) (n := 0) (upd_self _ _ _) (.cons (va.mono le (List.prefix_refl _)) (.cons (vb.mono le (List.prefix_refl _)) .nil)) (by decide : 2 ≤ 4096))
theorem next_enum {e I l : Addr} {i n : Nat} {xs : List Value} {vs : List MV} {o : Obj} {old : Value} (hl : fix l = some ⟨.type "list", none, .seq xs.toArray n, #[]⟩) (hr : c.VRs fix φ vs (xs.drop i)) (hc : o.cls = .type "list_iterator") (hd : o.data = .fields #[.ref l, .int i 0]) (hne : e ≠ I)
    (ee : enumT i vs = x :: items) (J : ItOk c fix kp φ s.heap (.ref e) .no (enumT i vs) [(e, ⟨.type "enumerate", none, .fields #[.none, .bool false, .ref I, rawInt i, .none, old], #[]⟩), (I, o)]) (hv : fetch G .no x = some v) (S : St c fix kp φ G s) (ht : tgtFit false target) (q : Nx c fix kp φ G v (.ref e) .no items 2 Q) : NextG c A (.ref e) target E Q s :=
  enumK ee fun a t ev ex et => VRs.nextE (ev ▸ hr) fun y hy vy hr' => ht.elim fun ts ht => ht.elim fun kk ht => ht.elim fun p ht => by
    rw [ht]
    have me := J.here _ (.head _)
    have mI := J.here _ (.tail _ (.head _))
    refine wpAny_pyNext_enum_item me ⟨o, mI, hc, hd⟩ ⟨_, S.1.fixK _ _ hl, rfl, n, rfl⟩ hy hne fun h' ho hit ht' hsz hs => hit.elim fun o' hit => ?_
    refine wpAny_letOwnedTupleGo_enum ho fun h'' he hs2 => ?_
    have hn : s.heap.get? s.heap.objs.size = none := get_size _
    have ne : ∀ {w : Addr} {o : Obj}, s.heap.get? w = some o → w ≠ s.heap.objs.size := fun {w o} e q => by rw [q, hn] at e; exact noS e
    refine newPair (tk := s.toks + 1) S (J.step S fun a o ha e' => (hs2.2 a (fun q => ha (e, _) (.head _) q.symm)).trans (hs a o (fun q => ha (e, _) (.head _) q.symm) (fun q => ha (I, _) (.tail _ (.head _)) q.symm) e')) ((hs2.2 _ (ne me).symm).trans ht') (.int i s.toks) vy fun f2 le keep S2 vp => ?_
    refine q f2 _ _ [(e, ⟨.type "enumerate", none, .fields #[.none, .bool false, .ref I, rawInt (i + 1 : Nat), .none, y], #[]⟩), (I, o')] le S2 (fetchV hv ex ▸ vp) ⟨et ▸ .enum (old := y) (le _ _ hl) (hr'.mono le (List.prefix_refl _)) hit.2.1 (by rw [hit.2.2]) hne, allCons he (allOne ((hs2.2 I (fun q => hne q.symm)).trans hit.1)), ?_⟩ rfl
    have f1 := J.free _ (.head _)
    have f2 := J.free _ (.tail _ (.head _))
    exact allCons ⟨(keep _ (ne me)).trans f1.1, f1.2⟩ (allOne ⟨(keep _ (ne mI)).trans f2.1, f2.2⟩)
theorem next_zip {z TI TO i1 i2 l1 l2 : Addr} {k1 k2 n1 n2 : Nat} {xs ys : List Value} {vs us : List MV} {o1 o2 : Obj} {a b : Value} (hl1 : fix l1 = some ⟨.type "list", none, .seq xs.toArray n1, #[]⟩) (hl2 : fix l2 = some ⟨.type "list", none, .seq ys.toArray n2, #[]⟩)
    (hr1 : c.VRs fix φ vs (xs.drop k1)) (hr2 : c.VRs fix φ us (ys.drop k2)) (hc1 : o1.cls = .type "list_iterator") (hd1 : o1.data = .fields #[.ref l1, .int k1 0]) (hc2 : o2.cls = .type "list_iterator") (hd2 : o2.data = .fields #[.ref l2, .int k2 0]) (ap : ZipApart z TI TO i1 i2 l1 l2)
    (ee : zipT vs us = x :: items) (J : ItOk c fix kp φ s.heap (.ref z) .no (zipT vs us) [(z, ⟨.type "zip", none, .fields #[.none, .bool false, .bool false, .ref TI, .ref TO], #[]⟩), (TI, ⟨.type "tuple", none, .seq #[.ref i1, .ref i2] 0, #[]⟩), (TO, ⟨.type "tuple", none, .seq #[a, b] 0, #[]⟩), (i1, o1), (i2, o2)]) (hv : fetch G .no x = some v) (S : St c fix kp φ G s) (ht : tgtFit false target) (q : Nx c fix kp φ G v (.ref z) .no items 5 Q) : NextG c A (.ref z) target E Q s :=
  zipK ee fun v1 r1 v2 r2 ev1 ev2 ex et => VRs.nextE (ev1 ▸ hr1) fun x1 hx1 vx1 hr1' => VRs.nextE (ev2 ▸ hr2) fun x2 hx2 vx2 hr2' => ht.elim fun ts ht => ht.elim fun kk ht => ht.elim fun p ht => by
    rw [ht]
    have mz := J.here _ (.head _)
    have mTI := J.here _ (.tail _ (.head _))
    have mTO := J.here _ (.tail _ (.tail _ (.head _)))
    have mi1 := J.here _ (.tail _ (.tail _ (.tail _ (.head _))))
    have mi2 := J.here _ (.tail _ (.tail _ (.tail _ (.tail _ (.head _)))))
    refine wpAny_pyNext_zip_item ap mz mTI mTO ⟨o1, mi1, hc1, hd1⟩ ⟨o2, mi2, hc2, hd2⟩ ⟨_, S.1.fixK _ _ hl1, rfl, n1, rfl⟩ ⟨_, S.1.fixK _ _ hl2, rfl, n2, rfl⟩ hx1 hx2 fun h' hz hTO hit1 hit2 hT hsz hs => hit1.elim fun o1' p1 => hit2.elim fun o2' p2 => ?_
    refine wpAny_letOwnedTupleGo_zip hz fun h'' hz' hs2 => ?_
    have hn : s.heap.get? s.heap.objs.size = none := get_size _
    have ne : ∀ {w : Addr} {o : Obj}, s.heap.get? w = some o → w ≠ s.heap.objs.size := fun {w o} e q => by rw [q, hn] at e; exact noS e
    refine newPair (tk := s.toks) S (J.step S fun w o ha e' => (hs2.2 w (fun q => ha (z, _) (.head _) q.symm)).trans (hs w o (fun q => ha (z, _) (.head _) q.symm) (fun q => ha (TO, _) (.tail _ (.tail _ (.head _))) q.symm) (fun q => ha (i1, _) (.tail _ (.tail _ (.tail _ (.head _)))) q.symm) (fun q => ha (i2, _) (.tail _ (.tail _ (.tail _ (.tail _ (.head _))))) q.symm) e')) ((hs2.2 _ (ne mz).symm).trans hT) vx1 vx2 fun f2 le keep S2 vp => ?_
    refine q f2 _ _ [(z, ⟨.type "zip", none, .fields #[.none, .bool false, .bool false, .ref TI, .ref TO], #[]⟩), (TI, ⟨.type "tuple", none, .seq #[.ref i1, .ref i2] 0, #[]⟩), (TO, ⟨.type "tuple", none, .seq #[x1, x2] 0, #[]⟩), (i1, o1'), (i2, o2')] le S2 (fetchV hv ex ▸ vp) ⟨et ▸ .zip (a := x1) (b := x2) (le _ _ hl1) (le _ _ hl2) (hr1'.mono le (List.prefix_refl _)) (hr2'.mono le (List.prefix_refl _)) p1.2.1 (by rw [p1.2.2]) p2.2.1 (by rw [p2.2.2]) ap,
      allCons hz' (allCons ((hs2.2 TI ap.TIz).trans (hs TI _ ap.TIz ap.TITO ap.TIi1 ap.TIi2 mTI)) (allCons ((hs2.2 TO ap.TOz).trans hTO) (allCons ((hs2.2 i1 ap.i1z).trans p1.1) (allOne ((hs2.2 i2 ap.i2z).trans p2.1))))), ?_⟩ rfl
    have fr : ∀ p ∈ [(z, _), (TI, _), (TO, _), (i1, o1), (i2, o2)], f2 p.1 = none ∧ kp p.1 = none ∧ p.1 ∉ φ := fun p m => ⟨(keep _ (ne (J.here p m))).trans (J.free p m).1, (J.free p m).2⟩
    have g0 := fr _ (.head _)
    have g1 := fr _ (.tail _ (.head _))
    have g2 := fr _ (.tail _ (.tail _ (.head _)))
    have g3 := fr _ (.tail _ (.tail _ (.tail _ (.head _))))
    have g4 := fr _ (.tail _ (.tail _ (.tail _ (.tail _ (.head _)))))
    exact allCons g0 (allCons g1 (allCons g2 (allCons g3 (allOne g4))))

theorem it_next (I : ItOk c fix kp φ s.heap it gd (x :: items) fp) (S : St c fix kp φ G s) (hg : gdOk G gd = true) (hv : fetch G gd x = some v) (ht : tgtFit one target) (hk : one = true → fp.length = 1) (q : Nx c fix kp φ G v it gd items fp.length Q) : NextG c A it target E Q s := by
  have key : ∀ {it : Value} {gd : Gd} {its : List Itm} {fp : List (Addr × Obj)}, ItD c fix φ it gd its fp → its = x :: items → ItOk c fix kp φ s.heap it gd its fp → gdOk G gd = true → fetch G gd x = some v → (one = true → fp.length = 1) → Nx c fix kp φ G v it gd items fp.length Q → NextG c A it target E Q s := fun D => by
    cases D with
    | lst a b c d => exact fun e J _ hv _ q => next_lst a b c d e J hv S ht q
    | tup a b c d => exact fun e J _ hv _ q => next_tup a b c d e J hv S ht q
    | glst a b c => exact fun e J _ hv _ q => next_glst a b c e J hv S ht q
    | rng => exact fun e J _ hv _ q => next_rng e J hv S ht q
    | dct a b c => exact fun e J hg hv _ q => next_dct a b c e J hg hv S ht q
    | enum a b c d f => cases one with
      | true => exact fun _ _ _ _ hk _ => absurd (hk rfl) (by decide : ¬ 2 = 1)
      | false => exact fun e J _ hv _ q => next_enum a b c d f e J hv S ht q
    | zip a b c d f g h i j => cases one with
      | true => exact fun _ _ _ _ hk _ => absurd (hk rfl) (by decide : ¬ 5 = 1)
      | false => exact fun e J _ hv _ q => next_zip a b c d f g h i j e J hv S ht q
  exact key I.d rfl I hg hv hk q
theorem it_step {β : Type} (I : ItOk c fix kp φ s.heap it gd (x :: items) fp) (S : St c fix kp φ G s) (hg : gdOk G gd = true) (hv : fetch G gd x = some v) (ht : tgtFit one target) (hk : one = true → fp.length = 1) {T : Value → Sem β} {Z : Sem β} {R : β → Shared → Prop}
    (q : ∀ fix' y s' fp', Le fix fix' → St c fix' kp φ G s' → c.VR fix' φ v y → ItOk c fix' kp φ s'.heap it gd items fp' → fp'.length = fp.length → wpAny c.M A (T y) R E s') :
    wpAny c.M A (pyNext it) (fun r s₁ => wpAny c.M A (match r with | none => Z | some y => letOwnedTupleGo target it y >>= fun _ => T y) R E s₁) E s :=
  wpAny_mono (it_next (Q := fun y s' => wpAny c.M A (T y) R E s') I S hg hv ht hk q) (fun r s1 h => by
    cases r with
    | none => exact h.elim
    | some y => exact wpAny_bind h) fun _ _ e => e
end

theorem mapNil {α β : Type} {f : α → β} {l : List α} (h : l.map f = []) : l = [] := List.map_eq_nil_iff.mp h
theorem it_end (I : ItOk c fix kp φ s.heap it gd [] fp) (S : St c fix kp φ G s) (hg : gdOk G gd = true) (hA : A.handled = none)
    {E : Value → Shared → Prop} {Q : Option Value → Shared → Prop} (q : ∀ s', St c fix kp φ G s' → Q none s') : wpAny c.M A (pyNext it) Q E s := by
  have key : ∀ {it : Value} {gd : Gd} {its : List Itm} {fp : List (Addr × Obj)}, ItD c fix φ it gd its fp → its = [] → ItOk c fix kp φ s.heap it gd its fp → gdOk G gd = true → wpAny c.M A (pyNext it) Q E s := fun D e J hg => by
    have stepX : ∀ {w : Addr} {o : Obj} {h' : Heap}, (w, o) ∈ _ → Heap.ExtBut w s.heap h' → Q none { s with heap := h' } := fun {w o h'} hJ hs => q _ (J.step S fun a o ha e => hs a o (fun q => ha _ hJ q.symm) e)
    cases D with
    | lst hl hr hc hd => exact wpAny_pyNext_list_end hA ⟨_, J.here _ (.head _), hc, hd⟩ ⟨_, S.1.fixK _ _ hl, rfl, _, rfl⟩ (hr.lastE (mapNil e)) fun h' hs => stepX (.head _) hs
    | tup hl hr hc hd => exact wpAny_pyNext_tuple_end hA ⟨_, J.here _ (.head _), hc, hd⟩ ⟨_, S.1.fixK _ _ hl, rfl, _, rfl⟩ (hr.lastE (mapNil e)) fun h' hs => stepX (.head _) hs
    | @glst I l id i n o hl hc hd =>
      have hn : n = 0 := (List.length_range' ..).symm.trans (congrArg List.length (mapNil e))
      exact gdLst hg fun ms hm hz => S.go hl hm fun xs k ho hr z => wpAny_pyNext_list_end hA ⟨_, J.here _ (.head _), hc, hd⟩ ⟨_, ho, rfl, k, rfl⟩ (by rw [List.getElem?_toArray, List.getElem?_eq_none_iff, ← hr.length, hz, hn]; exact Nat.le_refl _) fun h' hs => stepX (.head _) hs
    | @rng I a n =>
      have hn : n = 0 := List.length_range.symm.trans (congrArg List.length (mapNil e))
      exact wpAny_pyNext_range_end hA (J.here _ (.head _)) (by rw [hn]; decide) fun h' hs => stepX (.head _) hs
    | @dct I l id i ep ks o hl hc hd =>
      have hge : ks.length ≤ i := List.drop_eq_nil_iff.mp (mapNil e)
      refine gdDct hg fun ml hm hks => dctK S hl hm fun kvs hD hf => ?_
      have hlen : kvs.length = ks.length := by rw [← hks, ← hf, List.length_map]
      exact wpAny_pyNext_dict_end hA ⟨o, J.here _ (.head _), hc, by rw [hlen]; exact hd⟩ hD (by rw [List.getElem?_eq_none_iff, hlen]; exact hge) fun h' hs => stepX (.head _) hs
    | @enum ea I l i n xs vs o old hl hr hc hd hne =>
      exact wpAny_pyNext_enum_end hA (J.here _ (.head _)) ⟨o, J.here _ (.tail _ (.head _)), hc, hd⟩ ⟨_, S.1.fixK _ _ hl, rfl, n, rfl⟩ (hr.lastE (match vs, e with | [], _ => rfl)) fun h' hs => stepX (.tail _ (.head _)) hs
    | @zip z TI TO i1 i2 l1 l2 k1 k2 n1 n2 xs ys vs us o1 o2 a b hl1 hl2 hr1 hr2 hc1 hd1 hc2 hd2 ap =>
      have hor : xs.toArray[k1]? = none ∨ ys.toArray[k2]? = none := match vs, us, hr1, hr2, e with
        | [], _, hr1, _, _ => .inl (hr1.lastE rfl)
        | _ :: _, [], _, hr2, _ => .inr (hr2.lastE rfl)
      refine wpAny_pyNext_zip_end hA ap (J.here _ (.head _)) (J.here _ (.tail _ (.head _))) (J.here _ (.tail _ (.tail _ (.head _)))) ⟨o1, J.here _ (.tail _ (.tail _ (.tail _ (.head _)))), hc1, hd1⟩ ⟨o2, J.here _ (.tail _ (.tail _ (.tail _ (.tail _ (.head _))))), hc2, hd2⟩ ⟨_, S.1.fixK _ _ hl1, rfl, n1, rfl⟩ ⟨_, S.1.fixK _ _ hl2, rfl, n2, rfl⟩ hor fun h' hs => ?_
      exact q _ (J.step S fun w o ha e => hs w o (fun q => ha (z, _) (.head _) q.symm) (fun q => ha (TO, _) (.tail _ (.tail _ (.head _))) q.symm) (fun q => ha (i1, _) (.tail _ (.tail _ (.tail _ (.head _)))) q.symm) (fun q => ha (i2, _) (.tail _ (.tail _ (.tail _ (.tail _ (.head _))))) q.symm) e)
  exact key I.d rfl I hg

theorem it_self (I : ItOk c fix kp φ s.heap it gd items fp) {E : Value → Shared → Prop} {Q : Value → Shared → Prop} (q : Q it s) : wpAny c.M A (pyIter it) Q E s := by
  obtain ⟨D, here, free⟩ := I
  cases D with
  | @lst I l i n xs vs o hl hr hc hd => exact wpAny_pyIter_listiter ⟨o, here _ (.head _), hc, hd⟩ q
  | @tup I l i n xs vs o hl hr hc hd => exact wpAny_pyIter_tupleiter ⟨o, here _ (.head _), hc, hd⟩ q
  | @glst I l id i n o hl hc hd => exact wpAny_pyIter_listiter ⟨o, here _ (.head _), hc, hd⟩ q
  | @rng I a n => exact wpAny_pyIter_rangeiter (here _ (.head _)) q
  | @dct I l id i ep ks o hl hc hd => exact wpAny_pyIter_keyiter ⟨o, here _ (.head _), hc, hd⟩ q
  | @enum e I l i n xs vs o old hl hr hc hd hne => exact wpAny_pyIter_enum (here _ (.head _)) q
  | @zip z TI TO i1 i2 l1 l2 k1 k2 n1 n2 xs ys vs us o1 o2 a b hl1 hl2 hr1 hr2 hc1 hd1 hc2 hd2 ap => exact wpAny_pyIter_zip (here _ (.head _)) q

theorem newFree (S : St c fix kp φ G s) {a : Addr} (h : s.heap.objs.size ≤ a) : fix a = none ∧ kp a = none ∧ a ∉ φ := ⟨S.1.fixLt h, S.1.kpLt h, fun m => Nat.not_lt.mpr h (S.1.lt m)⟩

theorem pairK' {α β : Type} {r r' : α} {G1 G2 : β} {P : α → β → Prop} (h : (r', G1) = (r, G2)) (g : P r' G1) : P r G2 := by cases h; exact g
theorem it_vals {v : MV} {x : Value} (hs : valsO G v = some (gd, items)) (S : St c fix kp φ G s) (vx : c.VR fix φ v x)
    {E : Value → Shared → Prop} {Q : Value → Shared → Prop} (q : ∀ it s' fp, St c fix kp φ G s' → ItOk c fix kp φ s'.heap it gd items fp → fp.length = 1 → Q it s') : wpAny c.M A (pyIter x) Q E s := by
  have q : ∀ {gd' : Gd} {its : List Itm} {o : Obj}, (gd', its) = (gd, items) → o.isFreed = false → ItD c fix φ (.ref s.heap.objs.size) gd' its [(s.heap.objs.size, o)] → Q (.ref s.heap.objs.size) { s with heap := s.heap.push o } := fun {gd' its o} e ho D =>
    pairK' (P := fun gd items => (∀ it s' fp, St c fix kp φ G s' → ItOk c fix kp φ s'.heap it gd items fp → fp.length = 1 → Q it s') → Q (.ref s.heap.objs.size) { s with heap := s.heap.push o }) e (fun q => q _ _ [(_, o)] ⟨S.1.push o, S.2⟩ ⟨D, allOne (Heap.get?_push_size _ ho), allOne (newFree S (Nat.le_refl _))⟩ rfl) q
  have hs : (match iRef v with
    | none => (sqO G v).map fun l => (Gd.no, l.map Itm.val)
    | some i => match hN G i with
      | some p => some (.dct i p.1 (p.2.map (·.1)), p.2.map fun q => .val (.int q.1))
      | none => (hL G i).map fun l => (.lst i l.length, (List.range l.length).map .at)) = some (gd, items) := hs
  cases e : iRef v with
  | none =>
    rw [e] at hs
    obtain ⟨l, h1, h2⟩ := Option.map_eq_some_iff.mp hs
    refine sqO_k (P := fun v => c.VR fix φ v x → iRef v = none → _) h1 (fun vx _ => ?_) (fun h1 => lsO_k (P := fun v => c.VR fix φ v x → iRef v = none → _) h1 (fun vx _ => ?_) fun i _ _ e => noS e.symm) vx e
    · exact tupV (P := fun x => wpAny c.M A (pyIter x) Q E s) vx fun a xs n hf r z => wpAny_pyIter_tuple ⟨_, S.1.fixK _ _ hf, rfl, n, rfl⟩ (q h2 rfl (.tup hf (i := 0) r rfl rfl))
    · exact lstV (P := fun x => wpAny c.M A (pyIter x) Q E s) vx fun a xs n hf r z => wpAny_pyIter_list ⟨_, S.1.fixK _ _ hf, rfl, n, rfl⟩ (q h2 rfl (.lst hf (i := 0) r rfl rfl))
  | some i =>
    rw [e] at hs
    dsimp only at hs
    refine iRef_k (P := fun v => c.VR fix φ v x → _) e (fun vx => refV (P := fun x => wpAny c.M A (pyIter x) Q E s) vx fun a hp => ?_) vx
    cases e2 : hN G i with
    | none =>
      rw [e2] at hs
      obtain ⟨l, h1, h2⟩ := Option.map_eq_some_iff.mp hs
      refine S.go hp (hL_at h1) fun xs k ho hr z => wpAny_pyIter_list ⟨_, ho, rfl, k, rfl⟩ (q h2 rfl ?_)
      have := ItD.glst (c := c) (fix := fix) (I := s.heap.objs.size) (i := 0) (n := l.length) (o := { cls := .type "list_iterator", data := .fields #[.ref a, .int 0 0] }) hp rfl rfl
      rw [Nat.zero_add, ← List.range_eq_range'] at this
      exact this
    | some p =>
      rw [e2] at hs
      have hne : (a == sysModules) = false := beq_eq_false_iff_ne.mpr fun e => Nat.lt_irrefl _ (e ▸ S.1.lo a (List.mem_of_getElem? hp))
      refine dctK S hp (hN_at e2) fun kvs hD hf => wpAny_pyIter_dict hne hD (q (Option.some.inj hs) rfl ?_)
      rw [show kvs.length = (p.2.map (·.1)).length by rw [← hf, List.length_map]]
      have := ItD.dct (c := c) (fix := fix) (I := s.heap.objs.size) (i := 0) (ks := p.2.map (·.1)) (o := { cls := .type "dict_keyiterator", data := .fields #[.ref a, .int 0 0, .int (p.2.map (·.1)).length 0, .int p.1 0] }) hp rfl rfl
      rw [List.drop_zero, List.map_map] at this
      exact this

theorem rangeO_one (a b : Int) : rangeO a b 1 = (List.range (Builtin.Range.rangeSize a b 1).toNat).map fun (k : Nat) => .val (.int (a + 1 * (k : Int))) := by
  unfold rangeO
  rw [if_pos (by decide), rangeSize_one, Int.fdiv_one]
  congr 2
  split <;> omega
theorem rangeSize_nat (a b : Int) : ((Builtin.Range.rangeSize a b 1).toNat : Int) = Builtin.Range.rangeSize a b 1 := by
  rw [rangeSize_one]; split <;> omega

theorem it_range {a b : Int} {r : Addr} {t u w' : Tok} {s : Shared} (S : St c fix kp φ G s) (hr : IsRange s.heap r a b 1 t u w')
    {E : Value → Shared → Prop} {Q : Value → Shared → Prop} (q : ∀ it s' fp, St c fix kp φ G s' → ItOk c fix kp φ s'.heap it .no (rangeO a b 1) fp → fp.length = 1 → Q it s') (hsm : Builtin.Range.small a b 1 = true) : wpAny c.M A (pyIter (.ref r)) Q E s := by
  refine wpAny_pyIter_range hr hsm (q _ _ [(s.heap.objs.size, _)] ⟨S.1.push _, S.2⟩ ⟨?_, fun p hp => by rw [List.mem_singleton] at hp; subst hp; exact Heap.get?_push_size _ rfl, fun p hp => by rw [List.mem_singleton] at hp; subst hp; exact newFree S (Nat.le_refl _)⟩ rfl)
  rw [rangeO_one, ← rangeSize_nat a b]
  exact .rng
theorem fr0 (O : c.Ok) (S : St c fix kp φ G s) : Fr {} mainGlobals s.heap c.mg := ⟨O.g.keeps S.1.baseK, fun b o e => by simp [Heap.get?] at e, Nat.zero_le _⟩

theorem it_enum (O : c.Ok) {l : List MV} {x : Value} (S : St c fix kp φ G s) (vx : c.VR fix φ (.lst l) x)
    {E : Value → Shared → Prop} {Q : Value → Shared → Prop} (q : ∀ it s' fp, St c fix kp φ G s' → ItOk c fix kp φ s'.heap it .no (enumT 0 l) fp → Q it s') :
    wpAny c.M A (call (.type "enumerate") [x]) (fun x' s₁ => wpAny c.M A (pyIter x') Q E s₁) E s := by
  refine lstV (P := fun x => wpAny c.M A (call (.type "enumerate") [x]) (fun x' s₁ => wpAny c.M A (pyIter x') Q E s₁) E s) vx fun a xs n hf r z => ?_
  refine enum_rows (fr0 O S) (isL (S.1.fixK _ _ hf)) fun h' he hit hl _ hk h1 h2 h3 _ _ => hit.elim fun o p => ?_
  exact wpAny_pyIter_enum he (q _ _ [(s.heap.objs.size + 1, ⟨.type "enumerate", none, .fields #[.none, .bool false, .ref s.heap.objs.size, rawInt (0 : Nat), .none, .none], #[]⟩), (s.heap.objs.size, o)] ⟨S.1.ext hk, S.2⟩ ⟨.enum (i := 0) hf r p.2.1 p.2.2 h1, allCons he (allOne p.1), allCons (newFree S (Nat.le_succ _)) (allOne (newFree S (Nat.le_refl _)))⟩)

theorem it_zip (O : c.Ok) {l m : List MV} {x y : Value} (S : St c fix kp φ G s) (vx : c.VR fix φ (.lst l) x) (vy : c.VR fix φ (.lst m) y)
    {E : Value → Shared → Prop} {Q : Value → Shared → Prop} (q : ∀ it s' fp, St c fix kp φ G s' → ItOk c fix kp φ s'.heap it .no (zipT l m) fp → Q it s') :
    wpAny c.M A (call (.type "zip") [x, y]) (fun x' s₁ => wpAny c.M A (pyIter x') Q E s₁) E s := by
  refine lstV (P := fun x => wpAny c.M A (call (.type "zip") [x, y]) (fun x' s₁ => wpAny c.M A (pyIter x') Q E s₁) E s) vx fun a xs n hf r z => ?_
  refine lstV (P := fun y => wpAny c.M A (call (.type "zip") [.ref a, y]) (fun x' s₁ => wpAny c.M A (pyIter x') Q E s₁) E s) vy fun b ys k hg r2 z2 => ?_
  have ap := zipApart_new (Heap.lt_size (S.1.fixK _ _ hf)) (Heap.lt_size (S.1.fixK _ _ hg))
  have nf : ∀ i, fix (s.heap.objs.size + i) = none ∧ kp (s.heap.objs.size + i) = none ∧ s.heap.objs.size + i ∉ φ := fun i => newFree S (Nat.le_add_right _ _)
  refine call_zip_2 (isL (S.1.fixK _ _ hf)) (isL (S.1.fixK _ _ hg)) fun h' e1 e2 e3 i1 i2 _ hk => i1.elim fun o1 p1 => i2.elim fun o2 p2 => ?_
  exact wpAny_pyIter_zip e1 (q _ _ [(s.heap.objs.size + 4, _), (s.heap.objs.size + 2, _), (s.heap.objs.size + 3, _), (s.heap.objs.size, o1), (s.heap.objs.size + 1, o2)] ⟨S.1.ext hk, S.2⟩ ⟨.zip (k1 := 0) (k2 := 0) (a := .none) (b := .none) hf hg r r2 p1.2.1 p1.2.2 p2.2.1 p2.2.2 ap,
    allCons e1 (allCons e2 (allCons e3 (allCons p1.1 (allOne p2.1)))), allCons (nf 4) (allCons (nf 2) (allCons (nf 3) (allCons (newFree S (Nat.le_refl _)) (allOne (nf 1)))))⟩)
end
end Mine
end
section
set_option autoImplicit false
set_option linter.unusedSectionVars false
namespace Mine
open PySem PySem.W PyProof.Rows PySem.Calls

structure Own (sc : Sp) (nm : Nm) (nb : Nat) (env : Env) (kp0 : Kp) : Prop where
  loc : kp0 env.locals = none
  cell : ∀ (i : Nat) (x : Str) (a : Addr), nb ≤ i → nm[i]? = some (some x) → env.cells.lookup x = some a → sc.lookup x = some .cell → kp0 a = none

section
variable {c : CX} {A : Around} {fix kp kp0 : Kp} {φ : List Addr} {G : GH} {s : Shared} {h h' : Heap} {d nb : Nat} {sc : Sp} {nm : Nm} {ρ ρ' : Lo} {env : Env}

theorem Rel.setKp (R : Rel c fix kp φ G h) {a : Addr} {o o' : Obj} (ha : kp a = some o) (hs : ∀ b, b ≠ a → ∀ x, h.get? b = some x → h'.get? b = some x) (ho : h'.get? a = some o') : Rel c fix (upd kp a (some o')) φ G h' where
  base := R.base
  fixK b x e := hs b (by rintro rfl; have := R.dj _ _ ha; rw [this] at e; cases e) x (R.fixK b x e)
  kpK b x e := by
    by_cases hb : b = a
    · subst hb; rw [upd_self] at e; cases e; exact ho
    · rw [upd_ne _ _ hb] at e; exact hs b hb x (R.kpK b x e)
  dj b x e := by
    by_cases hb : b = a
    · subst hb; exact R.dj _ _ ha
    · rw [upd_ne _ _ hb] at e; exact R.dj b x e
  len := R.len
  nd := R.nd
  out b hb := by
    have hb' : b ≠ a := by rintro rfl; have := (R.out _ hb).2; rw [ha] at this; cases this
    rw [upd_ne _ _ hb']; exact R.out b hb
  obj i b g ea eg := by
    obtain ⟨x, hx, hg⟩ := R.obj i b g ea eg
    have hb' : b ≠ a := by rintro rfl; have := (R.mem ea).2; rw [ha] at this; cases this
    exact ⟨x, hs b hb' x hx, hg⟩
  st := R.st
  lo := R.lo

theorem set1_get {i j : Nat} {v : MV} (h : set1 ρ i v = some ρ') : ρ'.length = ρ.length ∧ ρ'[i]? = some (some v) ∧ (j ≠ i → ρ'[j]? = ρ[j]?) := by
  unfold set1 at h
  split at h
  · rename_i hl
    cases h
    exact ⟨List.length_set .., List.getElem?_set_self hl, fun hj => List.getElem?_set_ne (Ne.symm hj)⟩
  · cases h

theorem store_ok {i : Nat} {x : Str} {v : MV} {y : Value} (V : EnvOk c sc nm ρ env fix kp φ) (S : St c fix kp φ G s) (W : Own sc nm nb env kp0) (hle : Le kp0 kp) (hnb : nb ≤ i) (ht : tgtOk sc nm i x = true) (hs : set1 ρ i v = some ρ') (vy : c.VR fix φ v y)
    {E : Value → Shared → Prop} {Q : Unit → Shared → Prop} (q : ∀ kp' s', Le kp0 kp' → St c fix kp' φ G s' → EnvOk c sc nm ρ' env fix kp' φ → Q () s') : wpAny c.M A (storeName env x y) Q E s := by
  simp only [tgtOk, Bool.and_eq_true, Bool.or_eq_true, beq_iff_eq] at ht
  obtain ⟨hi, hk⟩ := ht
  obtain ⟨o, es, ep, ho, hd, hsk⟩ := V.frame
  have len' : ∀ (j : Nat) (w : MV), ρ'[j]? = some (some w) → j < nm.length := fun j w e => by
    by_cases hj : j = i
    · subst hj; exact (List.getElem?_eq_some_iff.mp hi).1
    · rw [(set1_get (j := j) hs).2.2 hj] at e; exact V.len j w e
  have hother : ∀ (j : Nat) (x' : Str), nm[j]? = some (some x') → x' ≠ x → j ≠ i := fun j x' hj hx e => hx (by subst e; rw [hi] at hj; cases hj; rfl)
  rcases hk with hk | hk
  · -- a local
    refine wpAny_storeName_local (m := fun n => nsFind es n) (by rw [V.kindOf]; exact hk) ⟨o, es, ep, S.1.kpK _ _ ho, hd, hsk, fun _ => rfl⟩ (fun h' hn hsb => ?_) (by rw [V.kind]; rfl)
    obtain ⟨o', es', ep', ho', hd', hsk', hf'⟩ := hn
    have hle' : Le kp0 (upd kp env.locals (some o')) := fun b z e => by
      have hb : b ≠ env.locals := by rintro rfl; rw [W.loc] at e; cases e
      rw [upd_ne _ _ hb]; exact hle b z e
    refine q (upd kp env.locals (some o')) _ hle' ⟨S.1.setKp ho (fun b hb z e => (hsb.2 b hb).trans e) ho', S.2⟩ ⟨V.kind, V.names, V.globals, V.builtins, len', fun j x' w' hj hρ => ?_, fun x' hne' hx' => ?_, ⟨o', es', ep', upd_self _ _ _, hd', hsk'⟩, V.apart, V.inj, V.uniq, V.nocls⟩
    · by_cases hx : x' = x
      · subst hx
        obtain rfl : j = i := V.uniq _ _ _ hj hi
        rw [(set1_get (j := 0) hs).2.1] at hρ
        cases hρ
        exact ⟨y, vy, .loc (by rw [V.kindOf]; exact hk) (upd_self _ _ _) hd' hsk' ((hf' x').trans (if_pos rfl))⟩
      · rw [(set1_get (j := j) hs).2.2 (hother j x' hj hx)] at hρ
        obtain ⟨y', vy', hl⟩ := V.loads j x' w' hj hρ
        refine ⟨y', vy', ?_⟩
        cases hl with
        | loc h1 h2 h3 h4 h5 =>
          rw [ho] at h2; cases h2
          rw [hd] at h3; cases h3
          exact .loc h1 (upd_self _ _ _) hd' hsk' ((hf' x').trans ((if_neg hx).trans h5))
        | cell h1 h2 h3 h4 => exact .cell h1 h2 ((upd_ne _ _ (V.apart _ _ h2)).trans h3) h4
        | free h1 h2 h3 h4 h5 => exact .free h1 h2 ((upd_ne _ _ (V.apart _ _ h2)).trans h3) h4 h5
    · obtain ⟨a, ha, oc, vc, h1, h2⟩ := V.cells x' hne' hx'
      exact ⟨a, ha, oc, vc, (upd_ne _ _ (V.apart _ _ ha)).trans h1, h2⟩
  · -- a cell
    obtain ⟨a, ha, oc, vc, hoc, hdc⟩ := V.cells x (V.nocls _ _ hi) (.inl hk)
    refine wpAny_storeName_cell V.kind (by rw [V.kindOf]; exact hk) ha ⟨oc, S.1.kpK _ _ hoc, hdc⟩ fun h' hc' hsb => ?_
    obtain ⟨o', ho', hd'⟩ := hc'
    have hle' : Le kp0 (upd kp a (some o')) := fun b z e => by
      have hb : b ≠ a := by rintro rfl; rw [W.cell i x _ hnb hi ha hk] at e; cases e
      rw [upd_ne _ _ hb]; exact hle b z e
    refine q (upd kp a (some o')) _ hle' ⟨S.1.setKp hoc (fun b hb z e => (hsb.2 b hb).trans e) ho', S.2⟩ ⟨V.kind, V.names, V.globals, V.builtins, len', fun j x' w' hj hρ => ?_, fun x' hne' hx' => ?_, ⟨o, es, ep, (upd_ne _ _ (Ne.symm (V.apart _ _ ha))).trans ho, hd, hsk⟩, V.apart, V.inj, V.uniq, V.nocls⟩
    · by_cases hx : x' = x
      · subst hx
        obtain rfl : j = i := V.uniq _ _ _ hj hi
        rw [(set1_get (j := 0) hs).2.1] at hρ
        cases hρ
        exact ⟨y, vy, .cell (by rw [V.kindOf]; exact hk) ha (upd_self _ _ _) hd'⟩
      · rw [(set1_get (j := j) hs).2.2 (hother j x' hj hx)] at hρ
        obtain ⟨y', vy', hl⟩ := V.loads j x' w' hj hρ
        have ne : ∀ {b}, env.cells.lookup x' = some b → b ≠ a := fun {b} hb e => hx (V.inj _ _ _ hb (e ▸ ha))
        refine ⟨y', vy', ?_⟩
        cases hl with
        | loc h1 h2 h3 h4 h5 => exact .loc h1 ((upd_ne _ _ (Ne.symm (V.apart _ _ ha))).trans h2) h3 h4 h5
        | cell h1 h2 h3 h4 => exact .cell h1 h2 ((upd_ne _ _ (ne h2)).trans h3) h4
        | free h1 h2 h3 h4 h5 => exact .free h1 h2 ((upd_ne _ _ (ne h2)).trans h3) h4 h5
    · obtain ⟨b, hb, oc', vc', h1, h2⟩ := V.cells x' hne' hx'
      by_cases e : b = a
      · subst e; exact ⟨_, hb, o', _, upd_self _ _ _, hd'⟩
      · exact ⟨b, hb, oc', vc', (upd_ne _ _ e).trans h1, h2⟩

noncomputable def tnOk (sc : Sp) (nm : Nm) : List Nat → List Str → Bool
  | [], xs => xs.isEmpty
  | i :: r, xs => match xs with
    | [] => false
    | x :: t => tgtOk sc nm i x && tnOk sc nm r t
noncomputable def Acts (M : Model) (env : Env) : List (Value → Sem Unit) → List Str → Prop
  | [], xs => xs = []
  | a :: r, xs => match xs with
    | [] => False
    | x :: t => (∀ {A : Around} {y : Value} {E : Value → Shared → Prop} {Q : Unit → Shared → Prop} {s : Shared}, wpAny M A (storeName env x y) Q E s → wpAny M A (a y) Q E s) ∧ Acts M env r t
theorem setAll_nil {vs : List MV} {P : List MV → Prop} (h : setAll ρ [] vs = some ρ') (g : ρ' = ρ → P []) : P vs := match vs, h with
  | [], h => g (Option.some.inj h).symm
theorem setAll_cons {i : Nat} {is : List Nat} {vs : List MV} {P : List MV → Prop} (h : setAll ρ (i :: is) vs = some ρ') (g : ∀ v r ρ1, set1 ρ i v = some ρ1 → setAll ρ1 is r = some ρ' → P (v :: r)) : P vs := match vs, h with
  | v :: r, h => (Option.bind_eq_some_iff.mp (show (set1 ρ i v).bind (fun ρ1 => setAll ρ1 is r) = some ρ' from h)).elim fun ρ1 h => g v r ρ1 h.1 h.2
noncomputable def StoreOk (c : CX) (A : Around) (sc : Sp) (nm : Nm) (env : Env) (kp0 : Kp) (fix : Kp) (φ : List Addr) (G : GH) (ρ' : Lo) (Q : Shared → Prop) : Prop := ∀ kp' s', Le kp0 kp' → St c fix kp' φ G s' → EnvOk c sc nm ρ' env fix kp' φ → Q s'
theorem acts_ok (W : Own sc nm nb env kp0) {E : Value → Shared → Prop} {Q : Unit → Shared → Prop} (q : StoreOk c A sc nm env kp0 fix φ G ρ' (Q ())) : ∀ {is : List Nat} {xs : List Str} {as : List (Value → Sem Unit)} {vs : List MV} {ys : List Value} {ρ : Lo} {kp : Kp} {s : Shared}, EnvOk c sc nm ρ env fix kp φ → St c fix kp φ G s → Le kp0 kp → (∀ i ∈ is, nb ≤ i) → tnOk sc nm is xs = true → Acts c.M env as xs → setAll ρ is vs = some ρ' → c.VRs fix φ vs ys → wpAny c.M A (assignInOrder as ys) Q E s
  | [], xs, as, vs, ys, ρ, kp, s, V, S, hle, _, ht, ha, hs, hv => by
    refine setAll_nil (P := fun vs => c.VRs fix φ vs ys → _) hs (fun e hv => ?_) hv
    rw [e] at q
    refine k0 (P := fun xs => Acts c.M env as xs → _) ht (fun ha => ?_) ha
    match as, ha with
    | [], _ =>
      exact VRs.nilI (P := fun ys => wpAny c.M A (assignInOrder [] ys) Q E s) hv (wpAny_pure (q _ _ hle S V))
    | _ :: _, ha => exact ha.elim
  | i :: is, xs, as, vs, ys, ρ, kp, s, V, S, hle, hnb, ht, ha, hs, hv => by
    refine setAll_cons (P := fun vs => c.VRs fix φ vs ys → _) hs (fun v r ρ1 h1 h2 hv => ?_) hv
    apply VRs.consI hv; intro y t vy hv
    match xs, as, ht, ha with
    | x :: xs, a :: as, ht, ha =>
      rw [assignInOrder]
      exact wpAny_bind (wpAny_holding (ha.1 (store_ok V S W hle (hnb i (.head _)) (Bool.and_eq_true_iff.mp ht).1 h1 vy fun kp1 s1 l1 S1 V1 => acts_ok W q V1 S1 l1 (fun j hj => hnb j (.tail _ hj)) (Bool.and_eq_true_iff.mp ht).2 ha.2 h2 hv)))
    | [], _, ht, _ => exact nomatch ht
    | _ :: _, [], _, ha => exact nomatch ha
theorem tgts_of {M : Model} {sc : Sp} {nm : Nm} : ∀ {is : List Nat} {ts : List PySem.Expr}, tgtsOk sc nm is ts = true → tnOk sc nm is (ts.filterMap nameO) = true ∧ Acts M env ((assignEach ts env).map (·.2)) (ts.filterMap nameO) ∧ (assignEach ts env).length = is.length ∧ (assignEach ts env).findIdx? (·.1) = none
  | [], ts, h => k0 (P := fun ts => tnOk sc nm [] (ts.filterMap nameO) = true ∧ Acts M env ((assignEach ts env).map (·.2)) (ts.filterMap nameO) ∧ (assignEach ts env).length = 0 ∧ (assignEach ts env).findIdx? (·.1) = none) h ⟨rfl, rfl, rfl, rfl⟩
  | i :: is, [], h => nomatch h
  | i :: is, t :: ts, h => kENam (P := fun t => tnOk sc nm (i :: is) ((t :: ts).filterMap nameO) = true ∧ Acts M env ((assignEach (t :: ts) env).map (·.2)) ((t :: ts).filterMap nameO) ∧ (assignEach (t :: ts) env).length = is.length + 1 ∧ (assignEach (t :: ts) env).findIdx? (·.1) = none) (k := fun x _ => tgtOk sc nm i x && tgtsOk sc nm is ts) h fun x p h =>
    have r := tgts_of (Bool.and_eq_true_iff.mp h).2
    ⟨Bool.and_eq_true_iff.mpr ⟨(Bool.and_eq_true_iff.mp h).1, r.1⟩, ⟨fun h => wpAny_assign_Name h, r.2.1⟩, congrArg Nat.succ r.2.2.1, by
      show List.findIdx? (·.1) ((false, assign (.Name x p) env) :: assignEach ts env) = none
      rw [List.findIdx?_cons, r.2.2.2]; rfl⟩
theorem setAll_len : ∀ {is : List Nat} {vs : List MV} {ρ ρ' : Lo}, setAll ρ is vs = some ρ' → is.length = vs.length
  | [], _, _, _, h => setAll_nil (P := fun vs => 0 = vs.length) h fun _ => rfl
  | _ :: is, _, _, _, h => setAll_cons (P := fun vs => is.length + 1 = vs.length) h fun _ _ _ _ h => congrArg Nat.succ (setAll_len h)

theorem tupIn {l : List MV} {y : Value} {f : Kp} {p : List Addr} (h : c.VR f p (.tup l) y) : ∃ a xs n, y = .ref a ∧ f a = some ⟨.type "tuple", none, .seq xs.toArray n, #[]⟩ ∧ c.VRs f p l xs := by
  cases h with
  | @tup _ a xs n hf r z => exact ⟨a, xs, n, rfl, hf, r⟩
theorem asgO_one {tgt : List Nat} {v : MV} {P : List Nat → Prop} (h : asgO true tgt v ρ = some ρ') (g : ∀ i, set1 ρ i v = some ρ' → P [i]) : P tgt := match tgt, h with
  | [i], h => g i h
theorem asgO_tup {tgt : List Nat} {v : MV} {P : MV → Prop} (h : asgO false tgt v ρ = some ρ') (g : ∀ l, setAll ρ tgt l = some ρ' → P (.tup l)) : P v := by
  cases v with
  | tup l => exact g l h
  | _ => exact nomatch h
theorem target_ok {one : Bool} {tgt : List Nat} {t : PySem.Expr} {v : MV} {y : Value} (hA : A.handled = none) (V : EnvOk c sc nm ρ env fix kp φ) (S : St c fix kp φ G s) (W : Own sc nm nb env kp0) (hle : Le kp0 kp) (hnb : ∀ i ∈ tgt, nb ≤ i) (ht : tgtE sc nm one tgt t = true) (hs : asgO one tgt v ρ = some ρ') (vy : c.VR fix φ v y)
    {E : Value → Shared → Prop} {Q : Unit → Shared → Prop} (q : ∀ kp' s', Le kp0 kp' → St c fix kp' φ G s' → EnvOk c sc nm ρ' env fix kp' φ → Q () s') : wpAny c.M A (assign t env y) Q E s := by
  cases one with
  | true =>
    apply kENam (k := fun x _ => q1 tgt fun i => tgtOk sc nm i x) ht; intro x pos ht
    refine asgO_one (P := fun tgt => (∀ i ∈ tgt, nb ≤ i) → q1 tgt (fun i => tgtOk sc nm i x) = true → _) hs (fun i hs hnb ht => ?_) hnb ht
    exact wpAny_assign_Name (store_ok V S W hle (hnb i (.head _)) ht hs vy q)
  | false =>
    apply kETup (k := fun ts _ _ => tgtsOk sc nm tgt ts) ht; intro ts k pos ht
    refine asgO_tup (P := fun v => c.VR fix φ v y → _) hs (fun l hs vy => ?_) vy
    obtain ⟨a, xs, n, e, hf, r⟩ := tupIn vy
    rw [e]
    obtain ⟨h0, ha, h1, h2⟩ := tgts_of (M := c.M) (env := env) ht
    refine wpAny_assign_Tuple hA ⟨_, S.1.fixK _ _ hf, rfl, n, rfl⟩ (by rw [h1, setAll_len hs, r.length, List.size_toArray]) h2 fun h' hx => ?_
    have S' : St c fix kp φ G { s with heap := h' } := ⟨S.1.heap fun b o hb e => hx b o (fun q => by
      have := Heap.lt_size e
      rw [q] at this
      exact Nat.lt_irrefl _ this) e, S.2⟩
    exact acts_ok W q V S' hle hnb h0 ha hs r
end
end Mine
end
section
set_option autoImplicit false
set_option linter.unusedSectionVars false
set_option linter.unusedVariables false
namespace Mine
open PySem PySem.W PyProof.Rows PySem.Calls

noncomputable def cut (kp : Kp) (fp : List (Addr × Obj)) : Kp := fun a => if (fp.lookup a).isSome then none else kp a
noncomputable def Free (fix kp : Kp) (φ : List Addr) (h : Heap) (fp : List (Addr × Obj)) : Prop := ∀ p ∈ fp, h.get? p.1 = some p.2 ∧ fix p.1 = none ∧ kp p.1 = none ∧ p.1 ∉ φ

section
variable {c : CX} {A : Around} {fix kp kp0 fix' kp' kp'' : Kp} {φ φ' : List Addr} {G G' : GH} {s : Shared} {h h' : Heap} {d nb : Nat} {sc : Sp} {nm : Nm} {ρ ρ' : Lo} {env : Env} {fp : List (Addr × Obj)} {it : Value} {gd : Gd} {items : List Itm}

theorem cut_le : Le (cut kp fp) kp := fun a o e => by
  unfold cut at e
  split at e
  · cases e
  · exact e
theorem cut_out {a : Addr} (h : ∀ p ∈ fp, p.1 ≠ a) : cut kp fp a = kp a := by
  unfold cut
  cases q : fp.lookup a with
  | none => rfl
  | some x => exact absurd rfl (h _ (lookup_mem' q))
theorem cut_in {p : Addr × Obj} (h : p ∈ fp) : cut kp fp p.1 = none := by
  unfold cut
  cases q : fp.lookup p.1 with
  | none => exact absurd rfl (lookup_none' q p h)
  | some x => rfl
theorem holdL_out {a : Addr} (h : ∀ p ∈ fp, p.1 ≠ a) : holdL kp fp a = kp a := by
  unfold holdL
  cases q : fp.lookup a with
  | none => rfl
  | some x => exact absurd rfl (h _ (lookup_mem' q))

theorem Free.hold (F : Free fix kp φ h fp) (R : Rel c fix kp φ G h) : Rel c fix (holdL kp fp) φ G h ∧ Le kp (holdL kp fp) := by
  have hl : ∀ a o, fp.lookup a = some o → h.get? a = some o ∧ fix a = none ∧ kp a = none ∧ a ∉ φ := fun a o e => F _ (lookup_mem' e)
  have le : Le kp (holdL kp fp) := fun a o e => by
    unfold holdL
    cases q : fp.lookup a with
    | none => exact e
    | some x => have := (hl a x q).2.2.1; rw [e] at this; cases this
  have key : ∀ a o, holdL kp fp a = some o → h.get? a = some o ∧ fix a = none ∧ a ∉ φ := fun a o e => by
    unfold holdL at e
    cases q : fp.lookup a with
    | none => rw [q] at e; exact ⟨R.kpK a o e, R.dj a o e, fun m => by have := (R.out a m).2; rw [show kp a = some o from e] at this; cases this⟩
    | some x => rw [q] at e; cases e; exact ⟨(hl a o q).1, (hl a o q).2.1, (hl a o q).2.2.2⟩
  refine ⟨⟨R.base, R.fixK, fun a o e => (key a o e).1, fun a o e => (key a o e).2.1, R.len, R.nd, fun a ha => ⟨(R.out a ha).1, ?_⟩, R.obj, R.st, R.lo⟩, le⟩
  cases e : holdL kp fp a with
  | none => rfl
  | some o => exact absurd ha (key a o e).2.2
theorem Free.holdAt (F : Free fix kp φ h fp) {p : Addr × Obj} (hp : p ∈ fp) : holdL kp0 fp p.1 = some p.2 := by
  unfold holdL
  cases q : fp.lookup p.1 with
  | none => exact absurd rfl (lookup_none' q p hp)
  | some x =>
    have h1 := (F _ (lookup_mem' q)).1
    have h2 := (F p hp).1
    dsimp only at h1
    rw [h1] at h2; cases h2; rfl
theorem Free.back (F : Free fix kp φ h fp) (lk : Le (holdL kp0 fp) kp') (R' : Rel c fix' kp' φ' G' h') : Free fix' (cut kp' fp) φ' h' fp ∧ Rel c fix' (cut kp' fp) φ' G' h' := by
  have at' : ∀ p ∈ fp, kp' p.1 = some p.2 := fun p hp => lk _ _ (F.holdAt hp)
  refine ⟨fun p hp => ⟨R'.kpK _ _ (at' p hp), R'.dj _ _ (at' p hp), cut_in hp, fun m => ?_⟩, R'.less cut_le⟩
  have := (R'.out _ m).2; rw [at' p hp] at this; cases this
theorem Free.le (F : Free fix kp φ h fp) (l0 : Le kp0 kp) (lk : Le (holdL kp0 fp) kp') : Le kp0 (cut kp' fp) := fun a o e => by
  have ha : ∀ p ∈ fp, p.1 ≠ a := by
    rintro p hp rfl
    have := (F p hp).2.2.1; rw [l0 _ _ e] at this; cases this
  rw [cut_out ha]
  exact lk _ _ ((holdL_out ha).trans e)
theorem Free.holdLe (F : Free fix kp φ h fp) (l0 : Le kp0 kp) : Le (holdL kp0 fp) (holdL kp fp) := fun a o e => by
  unfold holdL at e ⊢
  cases q : fp.lookup a with
  | none => rw [q] at e; exact l0 _ _ e
  | some x => rw [q] at e; exact e

theorem EnvOk.at (V : EnvOk c sc nm ρ env fix kp φ) (hl : kp' env.locals = kp env.locals) (hc : ∀ x a, x ≠ ("__class__" : Str) → (sc.lookup x = some .cell ∨ sc.lookup x = some .free) → env.cells.lookup x = some a → kp' a = kp a) : EnvOk c sc nm ρ env fix kp' φ :=
  ⟨V.kind, V.names, V.globals, V.builtins, V.len, fun i x v e1 e2 => by
    obtain ⟨y, a, b⟩ := V.loads i x v e1 e2
    refine ⟨y, a, ?_⟩
    cases b with
    | loc h1 h2 h3 h4 h5 => exact .loc h1 (hl.trans h2) h3 h4 h5
    | cell h1 h2 h3 h4 => exact .cell h1 h2 ((hc _ _ (V.nocls _ _ e1) (.inl ((V.kindOf x).symm.trans h1)) h2).trans h3) h4
    | free h1 h2 h3 h4 h5 => exact .free h1 h2 ((hc _ _ (V.nocls _ _ e1) (.inr ((V.kindOf x).symm.trans h1)) h2).trans h3) h4 h5, fun x hne hx => by
    obtain ⟨a, ha, o, v, h1, h2⟩ := V.cells x hne hx
    exact ⟨a, ha, o, v, (hc x a hne hx ha).trans h1, h2⟩, by
    obtain ⟨o, es, ep, h1, h2, h3⟩ := V.frame
    exact ⟨o, es, ep, hl.trans h1, h2, h3⟩, V.apart, V.inj, V.uniq, V.nocls⟩
theorem EnvOk.offL (V : EnvOk c sc nm ρ env fix kp φ) (F : ∀ p ∈ fp, kp p.1 = none) : ∀ p ∈ fp, p.1 ≠ env.locals := by
  rintro p hp e
  obtain ⟨o, es, ep, h1, _⟩ := V.frame
  have := F p hp; rw [e, h1] at this; cases this
theorem EnvOk.offC (V : EnvOk c sc nm ρ env fix kp φ) (F : ∀ p ∈ fp, kp p.1 = none) {x : Str} {a : Addr} (hne : x ≠ ("__class__" : Str)) (hx : sc.lookup x = some .cell ∨ sc.lookup x = some .free) (ha : env.cells.lookup x = some a) : ∀ p ∈ fp, p.1 ≠ a := by
  rintro p hp e
  obtain ⟨b, hb, o, v, h1, _⟩ := V.cells x hne hx
  rw [ha] at hb; cases hb
  have := F p hp; rw [e, h1] at this; cases this
theorem EnvOk.hold (V : EnvOk c sc nm ρ env fix kp φ) (F : ∀ p ∈ fp, kp p.1 = none) : EnvOk c sc nm ρ env fix (holdL kp fp) φ :=
  V.at (holdL_out (V.offL F)) fun x a hne hx ha => holdL_out (V.offC F hne hx ha)
theorem EnvOk.cut (V : EnvOk c sc nm ρ env fix kp φ) (F : ∀ p ∈ fp, kp p.1 = none) (V' : EnvOk c sc nm ρ' env fix' kp' φ') : EnvOk c sc nm ρ' env fix' (Mine.cut kp' fp) φ' :=
  V'.at (cut_out (V.offL F)) fun x a hne hx ha => cut_out (V.offC F hne hx ha)
theorem EnvOk.lower (V : EnvOk c sc nm ρ' env fix kp φ) (h : ∀ (i : Nat) (v : MV), ρ[i]? = some (some v) → ρ'[i]? = some (some v)) : EnvOk c sc nm ρ env fix kp φ :=
  ⟨V.kind, V.names, V.globals, V.builtins, fun i v e => V.len i v (h i v e), fun i x v e1 e2 => V.loads i x v e1 (h i v e2), V.cells, V.frame, V.apart, V.inj, V.uniq, V.nocls⟩
theorem rep_none {k i : Nat} {v : MV} (h : (ρ ++ List.replicate k none)[i]? = some (some v)) : ρ[i]? = some (some v) := by
  by_cases hi : i < ρ.length
  · rwa [List.getElem?_append_left hi] at h
  · rw [List.getElem?_append_right (by omega)] at h
    obtain ⟨_, e⟩ := List.getElem?_eq_some_iff.mp h
    rw [List.getElem_replicate] at e
    cases e
theorem Own.hold (W : Own sc nm nb env kp0) (V : EnvOk c sc nm ρ env fix kp φ) (F : ∀ p ∈ fp, kp p.1 = none) : Own sc nm nb env (holdL kp0 fp) :=
  ⟨(holdL_out (V.offL F)).trans W.loc, fun i x a hi hn ha hk => (holdL_out (V.offC F (V.nocls _ _ hn) (.inl hk) ha)).trans (W.cell i x a hi hn ha hk)⟩

theorem ItOk.Free (I : ItOk c fix kp φ h it gd items fp) : Free fix kp φ h fp := fun p hp => ⟨I.here p hp, I.free p hp⟩
theorem ItOk.of (D : ItD c fix φ it gd items fp) (F : Mine.Free fix kp φ h fp) : ItOk c fix kp φ h it gd items fp := ⟨D, fun p hp => (F p hp).1, fun p hp => (F p hp).2⟩

theorem lookup_nodup {α : Type} {l : List (Str × α)} {x : Str} {k : α} {r : List (Str × α)} (h : ((x, k) :: r) = l) (hn : (l.map (·.1)).Nodup) : r.lookup x = none := by
  subst h
  rw [List.map_cons, List.nodup_cons] at hn
  cases e : r.lookup x with
  | none => rfl
  | some v => exact absurd (List.mem_map_of_mem (f := (·.1)) (mem_of_lookup e)) hn.1
theorem closure_ok : ∀ (names : Sp) (cs : List (Str × Addr)) (env : Env), (names.map (·.1)).Nodup → (∀ x, names.lookup x = some .free → (env.cells.lookup x).isSome = true) →
    ∃ cl, (forIn names cs fun (x : Str × NameKind) (r : List (Str × Addr)) => if (x.2 == .free) = true then (do let a ← cellOf env x.1; pure (ForInStep.yield ((x.1, a) :: r))) else pure (ForInStep.yield r) : Sem (List (Str × Addr))) = pure cl ∧
      ∀ n, cl.lookup n = if names.lookup n = some .free then env.cells.lookup n else cs.lookup n
  | [], cs, env, _, _ => ⟨cs, by rw [List.forIn_nil], fun n => rfl⟩
  | (y, k) :: r, cs, env, hn, hf => by
    have hy : r.lookup y = none := lookup_nodup rfl hn
    have hr : (r.map (·.1)).Nodup := by rw [List.map_cons, List.nodup_cons] at hn; exact hn.2
    have hf' : ∀ x, r.lookup x = some .free → (env.cells.lookup x).isSome = true := fun x hx => by
      refine hf x ?_
      rw [List.lookup_cons]
      cases q : x == y with
      | true => rw [eq_of_beq q, hy] at hx; cases hx
      | false => exact hx
    have step : ∀ n, ((y, k) :: r).lookup n = if n = y then some k else r.lookup n := fun n => by
      rw [List.lookup_cons]
      cases q : n == y with
      | true => rw [if_pos (eq_of_beq q)]
      | false => rw [if_neg (by intro e; rw [e] at q; simp at q)]
    rw [List.forIn_cons]
    by_cases hk : k = .free
    · subst hk
      obtain ⟨a, ha⟩ := Option.isSome_iff_exists.mp (hf y (by rw [step, if_pos rfl]))
      obtain ⟨cl, e, hl⟩ := closure_ok r ((y, a) :: cs) env hr hf'
      refine ⟨cl, ?_, fun n => ?_⟩
      · simp only [beq_self_eq_true, if_true]
        have : cellOf env y = pure a := by unfold cellOf; rw [ha]
        rw [this]
        exact e
      · rw [hl, step]
        by_cases hny : n = y
        · subst hny
          rw [hy, if_pos rfl, if_pos rfl, if_neg (by simp), List.lookup_cons]
          simp [ha]
        · rw [if_neg hny, List.lookup_cons, beq_eq_false_iff_ne.mpr hny]
    · obtain ⟨cl, e, hl⟩ := closure_ok r cs env hr hf'
      refine ⟨cl, ?_, fun n => ?_⟩
      · have : (k == NameKind.free) = false := beq_eq_false_iff_ne.mpr hk
        simp only [this, Bool.false_eq_true, if_false]
        exact e
      · rw [hl, step]
        by_cases hny : n = y
        · subst hny
          rw [hy, if_pos rfl, if_neg (by simp), if_neg (by simpa using hk)]
        · rw [if_neg hny]

theorem cells_lk : ∀ (names : Sp) (n : Nat) (acc : List (Str × Addr)), (names.map (·.1)).Nodup →
    ∀ x, (names.lookup x = some .cell → ∃ a, n ≤ a ∧ (cellsFrom n names acc).lookup x = some a) ∧ (names.lookup x ≠ some .cell → (cellsFrom n names acc).lookup x = acc.lookup x)
  | [], n, acc, _, x => ⟨fun e => (by cases e), fun _ => rfl⟩
  | (y, k) :: r, n, acc, hn, x => by
    have hy : r.lookup y = none := lookup_nodup rfl hn
    have hr : (r.map (·.1)).Nodup := by rw [List.map_cons, List.nodup_cons] at hn; exact hn.2
    have step : ((y, k) :: r).lookup x = if x = y then some k else r.lookup x := by
      rw [List.lookup_cons]
      cases q : x == y with
      | true => rw [if_pos (eq_of_beq q)]
      | false => rw [if_neg (by intro e; rw [e] at q; simp at q)]
    rw [step]
    unfold cellsFrom
    by_cases hk : k = .cell
    · subst hk
      simp only [beq_self_eq_true, if_true]
      obtain ⟨i1, i2⟩ := cells_lk r (n + 1) ((y, n) :: acc) hr x
      by_cases hx : x = y
      · subst hx
        rw [if_pos rfl]
        refine ⟨fun _ => ⟨n, Nat.le_refl _, ?_⟩, fun q => absurd rfl q⟩
        rw [i2 (by rw [hy]; simp), List.lookup_cons]; simp
      · rw [if_neg hx]
        refine ⟨fun e => ?_, fun e => ?_⟩
        · obtain ⟨a, h1, h2⟩ := i1 e; exact ⟨a, by omega, h2⟩
        · rw [i2 e, List.lookup_cons, beq_eq_false_iff_ne.mpr hx]
    · have : (k == NameKind.cell) = false := beq_eq_false_iff_ne.mpr hk
      simp only [this, Bool.false_eq_true, if_false]
      obtain ⟨i1, i2⟩ := cells_lk r n acc hr x
      by_cases hx : x = y
      · subst hx
        rw [if_pos rfl]
        exact ⟨fun e => absurd (Option.some.inj e) hk, fun _ => i2 (by rw [hy]; simp)⟩
      · rw [if_neg hx]; exact ⟨i1, i2⟩
theorem cells_app : ∀ (names : Sp) (n : Nat) (acc : List (Str × Addr)), cellsFrom n names acc = cellsFrom n names [] ++ acc
  | [], n, acc => rfl
  | (y, k) :: r, n, acc => by
    unfold cellsFrom
    split
    · rw [cells_app r (n + 1) ((y, n) :: acc), cells_app r (n + 1) [(y, n)], List.append_assoc]; rfl
    · exact cells_app r n acc
theorem pushCells_size : ∀ (names : Sp) (h : Heap), h.objs.size ≤ (pushCells h names).objs.size
  | [], h => Nat.le_refl _
  | (y, k) :: r, h => by
    unfold pushCells
    split
    · exact Nat.le_trans (by rw [Heap.size_push]; omega) (pushCells_size r _)
    · exact pushCells_size r h
end
end Mine
end
section
set_option autoImplicit false
set_option linter.unusedSectionVars false
set_option linter.unusedVariables false
namespace Mine
open PySem PySem.W PyProof.Rows PySem.Calls

section
variable {c : CX} {A : Around} {fix kp kp0 fix' kp' kp'' : Kp} {φ φ' : List Addr} {G G' : GH} {s : Shared} {h h' : Heap} {d nb : Nat} {sc : Sp} {nm : Nm} {ρ ρ' : Lo} {env : Env}

noncomputable def compE (scope : Scope) (cl : List (Str × Addr)) (C : Addr) (env : Env) : Env :=
  { scope := scope, locals := C, globals := env.globals, cells := cellsFrom (C + 1) scope.names cl, qual := env.qual, func := none, code := env.code, frame := env.frame, builtins := env.builtins }

theorem relabel_eq (V : EnvOk c sc nm ρ env fix kp φ) (scope : Scope) : (relabel scope env).names = relN sc scope.names := by
  unfold relabel relN
  refine List.map_congr_left fun p hp => ?_
  obtain ⟨n, k⟩ := p
  simp only [V.kind, V.kindOf, beq_self_eq_true, Bool.and_true]

theorem relN_lk : ∀ (names : Sp) (x : Str), (relN sc names).lookup x = if names.lookup x = some .free ∧ sc.lookup x = some .cell then some .cell else names.lookup x
  | [], x => by simp [relN]
  | (y, k) :: r, x => by
    have ih := relN_lk r x
    have step : ∀ k', ((y, k') :: relN sc r).lookup x = if x = y then some k' else (relN sc r).lookup x := fun k' => by
      rw [List.lookup_cons]
      cases q : x == y with
      | true => rw [if_pos (eq_of_beq q)]
      | false => rw [if_neg (by intro e; rw [e] at q; simp at q)]
    have step2 : ((y, k) :: r).lookup x = if x = y then some k else r.lookup x := by
      rw [List.lookup_cons]
      cases q : x == y with
      | true => rw [if_pos (eq_of_beq q)]
      | false => rw [if_neg (by intro e; rw [e] at q; simp at q)]
    have e : relN sc ((y, k) :: r) = (if k == .free && sc.lookup y == some .cell then (y, .cell) else (y, k)) :: relN sc r := rfl
    rw [e, step2]
    by_cases hx : x = y
    · subst hx
      by_cases hc : k = .free ∧ sc.lookup x = some .cell
      · obtain ⟨rfl, hc⟩ := hc
        rw [if_pos (by rw [hc]; rfl), step, if_pos rfl, if_pos rfl, if_pos ⟨rfl, hc⟩]
      · have : (k == .free && sc.lookup x == some .cell) = false := by
          rw [Bool.eq_false_iff]; intro q
          rw [Bool.and_eq_true] at q
          exact hc ⟨eq_of_beq q.1, eq_of_beq q.2⟩
        rw [if_neg (by rw [this]; decide), step, if_pos rfl, if_pos rfl, if_neg (fun q => hc ⟨Option.some.inj q.1, q.2⟩)]
    · rw [if_neg hx]
      split <;> (rw [step, if_neg hx]; exact ih)

theorem fm_cons {l : Nm} {x : Str} : (some x :: l).filterMap id = x :: l.filterMap id := rfl
theorem uniq_at : ∀ {l : Nm}, (l.filterMap id).Nodup → ∀ {i j : Nat} {x : Str}, l[i]? = some (some x) → l[j]? = some (some x) → i = j
  | [], _, i, j, x, h, _ => by cases i <;> cases h
  | o :: l, hn, i, j, x, hi, hj => by
    have hn' : (l.filterMap id).Nodup := by
      cases o with
      | none => exact hn
      | some y => rw [fm_cons, List.nodup_cons] at hn; exact hn.2
    have hd : ∀ k : Nat, l[k]? = some (some x) → o = some x → False := by
      rintro k hk rfl
      rw [fm_cons, List.nodup_cons] at hn
      exact hn.1 (List.mem_filterMap.mpr ⟨_, List.mem_of_getElem? hk, rfl⟩)
    cases i with
    | zero =>
      cases j with
      | zero => rfl
      | succ j => simp only [List.getElem?_cons_zero, Option.some.injEq] at hi; simp only [List.getElem?_cons_succ] at hj; exact (hd j hj hi).elim
    | succ i =>
      cases j with
      | zero => simp only [List.getElem?_cons_zero, Option.some.injEq] at hj; simp only [List.getElem?_cons_succ] at hi; exact (hd i hi hj).elim
      | succ j => simp only [List.getElem?_cons_succ] at hi hj; rw [uniq_at hn' hi hj]
theorem mask_at {names : Sp} {i : Nat} {x : Str} (h : (maskN nm names)[i]? = some (some x)) : nm[i]? = some (some x) ∧ names.lookup x = some .free := by
  unfold maskN at h
  rw [List.getElem?_map, Option.map_eq_some_iff] at h
  obtain ⟨o, e1, e2⟩ := h
  cases o with
  | none => cases e2
  | some y =>
    simp only [Option.bind_some] at e2
    split at e2
    · rename_i hb
      cases e2
      exact ⟨e1, eq_of_beq hb⟩
    · cases e2

theorem newComp_ok {scope : Scope} {ns : List Str} {cl : List (Str × Addr)} (V : EnvOk c sc nm ρ env fix kp φ) (S : St c fix kp φ G s) (hk : scope.kind = .function) (hs : scopeOk sc scope.names = true) (hu : uniqN (maskN nm scope.names ++ ns.map some) = true) (hf : noFree scope.names ns = true)
    (hcl : ∀ n, cl.lookup n = if scope.names.lookup n = some .free then env.cells.lookup n else none) {E : Value → Shared → Prop} {Q : Env → Shared → Prop}
    (q : ∀ cenv s' kp', cenv.locals = s.heap.objs.size → Le kp kp' → St c fix kp' φ G s' →
      EnvOk c (relN sc scope.names) (maskN nm scope.names ++ ns.map some) (ρ ++ List.replicate ns.length none) { cenv with scope := relabel scope env } fix kp' φ →
      Own (relN sc scope.names) (maskN nm scope.names ++ ns.map some) nm.length { cenv with scope := relabel scope env } kp →
      (∀ a, a < s.heap.objs.size → kp' a = kp a) → (∀ a o, s.heap.get? a = some o → s'.heap.get? a = some o) → Q cenv s') :
    wpAny c.M A (newFunctionEnv scope env.globals cl [] env.qual none .none (some env)) Q E s := by
  simp only [scopeOk, Bool.and_eq_true, decide_eq_true_eq] at hs
  obtain ⟨hnd, hfr⟩ := hs
  have hfree0 : ∀ x, scope.names.lookup x = some .free → x ≠ ("__class__" : Str) ∧ (sc.lookup x = some .cell ∨ sc.lookup x = some .free) := fun x hx => by
    have := List.all_eq_true.mp hfr _ (mem_of_lookup hx)
    simpa using this
  have hfree := fun x hx => (hfree0 x hx).2
  simp only [newFunctionEnv, Option.isSome_some, if_true]
  refine wpAny_bind (wpAny_alloc ?_)
  refine wpAny_bind (wpAny_layCells _ (fun name kind cells => by cases hkc : kind == NameKind.cell <;> simp) _ _ _ _ ?_)
  rw [List.forIn_nil]
  refine wpAny_bind (wpAny_pure (wpAny_pure ?_))
  have hsz : (s.heap.push { cls := .type "dict", data := .dict #[] }).objs.size = s.heap.objs.size + 1 := Heap.size_push ..
  have ok := cellsFrom_ok scope.names (s.heap.push { cls := .type "dict", data := .dict #[] }) (s.heap.objs.size + 1) [] ⟨fun _ _ hm => (nomatch hm), List.Pairwise.nil⟩ (by rw [hsz]; exact Nat.le_refl _)
  dsimp only
  rw [hsz] at ok ⊢
  generalize hH : pushCells (s.heap.push { cls := .type "dict", data := .dict #[] }) scope.names = H at ok ⊢
  have keep : ∀ a o, s.heap.get? a = some o → H.get? a = some o := fun a o e => by rw [← hH]; exact pushCells_keeps _ _ a o (Heap.get?_push_of_some _ e)
  have hC : H.get? s.heap.objs.size = some { cls := .type "dict", data := .dict #[] } := by rw [← hH]; exact pushCells_keeps _ _ _ _ (Heap.get?_push_size _ rfl)
  have lk := cells_lk scope.names (s.heap.objs.size + 1) cl hnd
  have app := cells_app scope.names (s.heap.objs.size + 1) cl
  have kpOld : ∀ a o, kp a = some o → a < s.heap.objs.size := fun a o e => Heap.lt_size (S.1.kpK a o e)
  have old : ∀ x a, scope.names.lookup x ≠ some .cell → (cellsFrom (s.heap.objs.size + 1) scope.names cl).lookup x = some a → scope.names.lookup x = some .free ∧ env.cells.lookup x = some a := fun x a h1 h2 => by
    rw [(lk x).2 h1, hcl] at h2
    split at h2
    · rename_i h3; exact ⟨h3, h2⟩
    · cases h2
  have oldLt : ∀ x a, scope.names.lookup x = some .free → env.cells.lookup x = some a → (∃ o v, kp a = some o ∧ o.data = .cell v) ∧ a < s.heap.objs.size := fun x a h1 h2 => by
    obtain ⟨b, hb, o, v, h3, h4⟩ := V.cells x (hfree0 x h1).1 (hfree x h1)
    rw [h2] at hb; cases hb
    exact ⟨⟨o, v, h3, h4⟩, kpOld _ _ h3⟩
  have new : ∀ x, scope.names.lookup x = some .cell → ∃ a, s.heap.objs.size + 1 ≤ a ∧ (cellsFrom (s.heap.objs.size + 1) scope.names cl).lookup x = some a ∧ H.IsCell a none ∧ (x, a) ∈ cellsFrom (s.heap.objs.size + 1) scope.names [] := fun x hx => by
    obtain ⟨a, h1, h2⟩ := (lk x).1 hx
    obtain ⟨b, h3, h4⟩ := (cells_lk scope.names (s.heap.objs.size + 1) [] hnd x).1 hx
    have e : b = a := by
      rw [app, List.lookup_append, h4] at h2
      exact Option.some.inj h2
    subst e
    exact ⟨b, h1, h2, (ok.empty _ _ (mem_of_lookup h4)).1, mem_of_lookup h4⟩
  have lkFree : ∀ x, scope.names.lookup x = some .free → (cellsFrom (s.heap.objs.size + 1) scope.names cl).lookup x = env.cells.lookup x := fun x hx => by
    rw [(lk x).2 (by rw [hx]; decide), hcl, if_pos hx]
  let kp1 : Kp := fun a => if s.heap.objs.size ≤ a then H.get? a else kp a
  have kp1o : ∀ a, a < s.heap.objs.size → kp1 a = kp a := fun a ha => if_neg (Nat.not_le.mpr ha)
  have kp1n : ∀ a, s.heap.objs.size ≤ a → kp1 a = H.get? a := fun a ha => if_pos ha
  have le1 : Le kp kp1 := fun a o e => (kp1o a (kpOld a o e)).trans e
  have R1 : Rel c fix kp1 φ G H := by
    have R0 := S.1.ext keep
    have key : ∀ a o, kp1 a = some o → H.get? a = some o ∧ fix a = none ∧ a ∉ φ := fun a o e => by
      by_cases ha : a < s.heap.objs.size
      · rw [kp1o a ha] at e
        exact ⟨R0.kpK a o e, R0.dj a o e, fun m => by have := (R0.out a m).2; rw [e] at this; cases this⟩
      · rw [kp1n a (Nat.not_lt.mp ha)] at e
        exact ⟨e, S.1.fixLt (Nat.not_lt.mp ha), fun m => ha (S.1.lt m)⟩
    refine ⟨R0.base, R0.fixK, fun a o e => (key a o e).1, fun a o e => (key a o e).2.1, R0.len, R0.nd, fun a m => ⟨(R0.out a m).1, ?_⟩, R0.obj, R0.st, R0.lo⟩
    cases e : kp1 a with
    | none => rfl
    | some o => exact absurd m (key a o e).2.2
  have hkind : ∀ x, (relN sc scope.names).lookup x = some .cell ∨ (relN sc scope.names).lookup x = some .free → scope.names.lookup x = some .cell ∨ scope.names.lookup x = some .free := fun x hx => by
    rw [relN_lk] at hx
    split at hx
    · rename_i h1; exact .inr h1.1
    · exact hx
  refine q _ _ kp1 rfl le1 ⟨R1, S.2⟩ ⟨?_, relabel_eq V scope, V.globals, V.builtins, fun i v e => ?_, fun i x v e1 e2 => ?_, fun x hne hx => ?_, ?_, fun x a ha => ?_, fun x y a hx hy => ?_, fun i j x hi hj => ?_, fun i x hi => ?_⟩ ⟨?_, fun i x a hi hx ha hkx => ?_⟩ kp1o keep
  · exact hk
  · have := V.len i v (rep_none e)
    rw [List.length_append]; unfold maskN; rw [List.length_map]; omega
  · have h0 := rep_none e2
    have hi : i < nm.length := V.len i v h0
    rw [List.getElem?_append_left (by unfold maskN; rw [List.length_map]; exact hi)] at e1
    obtain ⟨h1, h2⟩ := mask_at e1
    obtain ⟨y, vy, hl⟩ := V.loads i x v h1 h0
    refine ⟨y, vy, ?_⟩
    have kindX : Env.kindOf { ({ scope := scope, locals := s.heap.objs.size, globals := env.globals, cells := cellsFrom (s.heap.objs.size + 1) scope.names cl, qual := env.qual, func := none, code := env.code, frame := env.frame, builtins := env.builtins } : Env) with scope := relabel scope env } x = (relN sc scope.names).lookup x := by
      unfold Env.kindOf; rw [relabel_eq V scope]
    cases hl with
    | loc g1 _ _ _ _ =>
      rw [V.kindOf] at g1
      rcases hfree x h2 with q | q <;> (rw [g1] at q; cases q)
    | cell g1 g2 g3 g4 =>
      rw [V.kindOf] at g1
      exact .cell (kindX.trans (by rw [relN_lk, if_pos ⟨h2, g1⟩])) ((lkFree x h2).trans g2) (le1 _ _ g3) g4
    | free g1 g2 g3 g4 g5 =>
      rw [V.kindOf] at g1
      exact .free (kindX.trans (by rw [relN_lk, if_neg (by rintro ⟨_, q⟩; rw [g1] at q; cases q), h2])) ((lkFree x h2).trans g2) (le1 _ _ g3) g4 g5
  · rcases hkind x hx with h1 | h1
    · obtain ⟨a, h2, h3, ⟨o, h4, h5⟩, _⟩ := new x h1
      exact ⟨a, h3, o, _, (kp1n a (by omega)).trans h4, h5⟩
    · obtain ⟨a, h2, o, v, h3, h4⟩ := V.cells x (hfree0 x h1).1 (hfree x h1)
      exact ⟨a, (lkFree x h1).trans h2, o, v, le1 _ _ h3, h4⟩
  · exact ⟨_, _, _, (kp1n _ (Nat.le_refl _)).trans hC, rfl, by intro e he; simp at he⟩
  · have ha' : (cellsFrom (s.heap.objs.size + 1) scope.names cl).lookup x = some a := ha
    show a ≠ s.heap.objs.size
    by_cases h1 : scope.names.lookup x = some .cell
    · obtain ⟨b, h2, h3, _⟩ := new x h1
      rw [h3] at ha'; cases ha'; exact Nat.ne_of_gt h2
    · obtain ⟨h2, h3⟩ := old x a h1 ha'
      exact Nat.ne_of_lt (oldLt x a h2 h3).2
  · have hx' : (cellsFrom (s.heap.objs.size + 1) scope.names cl).lookup x = some a := hx
    have hy' : (cellsFrom (s.heap.objs.size + 1) scope.names cl).lookup y = some a := hy
    by_cases h1 : scope.names.lookup x = some .cell
    · obtain ⟨b, h2, h3, _, hm⟩ := new x h1
      rw [h3] at hx'; cases hx'
      by_cases h1' : scope.names.lookup y = some .cell
      · obtain ⟨b', h2', h3', _, hm'⟩ := new y h1'
        rw [h3'] at hy'; cases hy'
        exact name_of_addr ok.apart hm hm'
      · obtain ⟨g1, g2⟩ := old y _ h1' hy'
        exact absurd (Nat.lt_of_lt_of_le (oldLt y _ g1 g2).2 (Nat.le_of_succ_le h2)) (Nat.lt_irrefl _)
    · obtain ⟨g1, g2⟩ := old x _ h1 hx'
      by_cases h1' : scope.names.lookup y = some .cell
      · obtain ⟨b', h2', h3', _, hm'⟩ := new y h1'
        rw [h3'] at hy'; cases hy'
        exact absurd (Nat.lt_of_lt_of_le (oldLt x _ g1 g2).2 (Nat.le_of_succ_le h2')) (Nat.lt_irrefl _)
      · obtain ⟨g1', g2'⟩ := old y _ h1' hy'
        exact V.inj _ _ _ g2 g2'
  · exact uniq_at (of_decide_eq_true hu) hi hj
  · by_cases hlt : i < nm.length
    · rw [List.getElem?_append_left (by unfold maskN; rw [List.length_map]; exact hlt)] at hi
      exact V.nocls _ _ (mask_at hi).1
    · rw [List.getElem?_append_right (by unfold maskN; rw [List.length_map]; omega)] at hi
      rw [List.getElem?_map, Option.map_eq_some_iff] at hi
      obtain ⟨x', hm, e⟩ := hi
      cases e
      have := List.all_eq_true.mp hf x (List.mem_of_getElem? hm)
      rw [Bool.and_eq_true] at this
      simpa using this.2
  · show kp s.heap.objs.size = none
    exact S.1.kpLt (Nat.le_refl _)
  · have ha' : (cellsFrom (s.heap.objs.size + 1) scope.names cl).lookup x = some a := ha
    rw [List.getElem?_append_right (by unfold maskN; rw [List.length_map]; exact hi)] at hx
    rw [List.getElem?_map, Option.map_eq_some_iff] at hx
    obtain ⟨x', hm, e⟩ := hx
    cases e
    have hnf := List.all_eq_true.mp hf x (List.mem_of_getElem? hm)
    rw [Bool.and_eq_true] at hnf
    have hnf' : scope.names.lookup x ≠ some .free := by simpa using hnf.1
    have h1 : scope.names.lookup x = some .cell := (hkind x (.inl hkx)).resolve_right hnf'
    obtain ⟨b, h2, h3, _⟩ := new x h1
    rw [h3] at ha'; cases ha'
    exact S.1.kpLt (by omega)
theorem closureFor_ok {scope : Scope} (V : EnvOk c sc nm ρ env fix kp φ) (hs : scopeOk sc scope.names = true) : ∃ cl, closureFor scope env = pure cl ∧ ∀ n, cl.lookup n = if scope.names.lookup n = some .free then env.cells.lookup n else none := by
  simp only [scopeOk, Bool.and_eq_true, decide_eq_true_eq] at hs
  obtain ⟨hnd, hfr⟩ := hs
  obtain ⟨cl, e, h⟩ := closure_ok scope.names [] env hnd fun x hx => by
    have := List.all_eq_true.mp hfr _ (mem_of_lookup hx)
    have this' : x ≠ ("__class__" : Str) ∧ (sc.lookup x = some .cell ∨ sc.lookup x = some .free) := by simpa using this
    obtain ⟨a, ha, _⟩ := V.cells x this'.1 this'.2
    rw [ha]; rfl
  refine ⟨cl, ?_, fun n => by rw [h]; rfl⟩
  rw [← e]
  unfold closureFor
  simp only [bind_pure]
end
end Mine
end
section
set_option autoImplicit false
set_option linter.unusedSectionVars false
set_option linter.unusedVariables false
namespace Mine
open PySem PySem.W PyProof.Rows PySem.Calls

structure XOk (c : CX) (X : Ctx) : Prop where
  atr : X.atr = c.P.atr
  mth : X.mth = c.P.mth
  init : X.init = c.P.init

noncomputable def EOk (c : CX) (X : Ctx) (d : Nat) (e : ME) : Prop := ∀ {sc : Sp} {nm : Nm} {ρ : Lo} {env : Env} {A : Around} {fix kp : Kp} {φ : List Addr} {G G' : GH} {s : Shared} {x : PySem.Expr} {v : MV},
  chkE c.S e sc nm x = true → mE X e ρ G = some (v, G') → EnvOk c sc nm ρ env fix kp φ → St c fix kp φ G s → AOk A d → Ev c A fix kp φ (eval x env) s G' (fun f p z => c.VR f p v z)
noncomputable def TOk (c : CX) (X : Ctx) (d : Nat) (e : ME) : Prop := ∀ {sc : Sp} {nm : Nm} {ρ : Lo} {env : Env} {A : Around} {fix kp : Kp} {φ : List Addr} {G G' : GH} {s : Shared} {x : PySem.Expr} {b : Bool},
  chkT c.S e sc nm x = true → mE X e ρ G = some (.bool b, G') → EnvOk c sc nm ρ env fix kp φ → St c fix kp φ G s → AOk A d → Ev c A fix kp φ (isTrue x env (eval x env)) s G' (fun _ _ r => r = b)
noncomputable def EK (c : CX) (X : Ctx) (d : Nat) (e : ME) : Prop := EOk c X d e ∧ TOk c X d e
noncomputable def AllK (c : CX) (X : Ctx) (d : Nat) (es : List ME) : Prop := ∀ e ∈ es, EK c X d e

section
variable {c : CX} {X : Ctx} {d : Nat}

theorem noT {e : ME} (h : ∀ S sc nm x, chkT S e sc nm x = false) : TOk c X d e := fun hc => by rw [h] at hc; exact ft hc
theorem noE {e : ME} (h : ∀ S sc nm x, chkE S e sc nm x = false) : EOk c X d e := fun hc => by rw [h] at hc; exact ft hc

theorem cEs_nil {S : Sta} {sc : Sp} {nm : Nm} {xs : List PySem.Expr} {P : List PySem.Expr → Prop} (h : chkEs S [] sc nm xs = true) (g : P []) : P xs := k0 h g
theorem cEs_k {S : Sta} {sc : Sp} {nm : Nm} {e : ME} {r : List ME} {xs : List PySem.Expr} {P : List PySem.Expr → Prop} (h : chkEs S (e :: r) sc nm xs = true) (g : ∀ x t, chkE S e sc nm x = true → chkEs S r sc nm t = true → P (x :: t)) : P xs := match xs, h with
  | x :: t, h => g x t (ott h).1 (ott h).2
theorem cTs_k {S : Sta} {sc : Sp} {nm : Nm} {e : ME} {r : List ME} {xs : List PySem.Expr} {P : List PySem.Expr → Prop} (h : chkTs S (e :: r) sc nm xs = true) (g : ∀ x t, chkT S e sc nm x = true → chkTs S r sc nm t = true → P (x :: t)) : P xs := match xs, h with
  | x :: t, h => g x t (ott h).1 (ott h).2
noncomputable def EsOk (c : CX) (X : Ctx) (d : Nat) (es : List ME) : Prop := ∀ {sc : Sp} {nm : Nm} {ρ : Lo} {env : Env} {A : Around} {fix kp : Kp} {φ : List Addr} {G G' : GH} {s : Shared} {xs : List PySem.Expr} {vs : List MV}, chkEs c.S es sc nm xs = true → mEs X es ρ G = some (vs, G') → EnvOk c sc nm ρ env fix kp φ → St c fix kp φ G s → AOk A d →
    ∀ pos, Ev c A fix kp φ (spliced (backTo pos (starEach xs env))) s G' (fun f p z => c.VRs f p vs z)
section
variable {sc : Sp} {nm : Nm} {ρ : Lo} {env : Env} {A : Around} {fix kp : Kp} {φ : List Addr} {G G' : GH} {s : Shared} {xs : List PySem.Expr} {vs : List MV}
noncomputable def EsG (c : CX) (A : Around) (fix kp : Kp) (φ : List Addr) (env : Env) (pos : Pos) (s : Shared) (xs : List PySem.Expr) (vs : List MV) (G' : GH) : Prop := Ev c A fix kp φ (spliced (backTo pos (starEach xs env))) s G' (fun f p z => c.VRs f p vs z)
theorem es_nil (hc : chkEs c.S [] sc nm xs = true) (hm : mEs X [] ρ G = some (vs, G')) (S : St c fix kp φ G s) (pos : Pos) : EsG c A fix kp φ env pos s xs vs G' :=
  cEs_nil (P := fun xs => EsG c A fix kp φ env pos s xs vs G') hc (opk (P := fun vs G' => EsG c A fix kp φ env pos s [] vs G') hm fun E Q q => spliced_nil (q fix φ _ _ (Le.refl _) (List.prefix_refl _) S .nil))
theorem es_cons {e : ME} {es : List ME} (hE : EK c X d e) (ih : EsOk c X d es) (hc : chkEs c.S (e :: es) sc nm xs = true) (hm : mEs X (e :: es) ρ G = some (vs, G')) (V : EnvOk c sc nm ρ env fix kp φ) (S : St c fix kp φ G s) (hA : AOk A d) (pos : Pos) : EsG c A fix kp φ env pos s xs vs G' :=
  cEs_k (P := fun xs => EsG c A fix kp φ env pos s xs vs G') hc fun x xs hx hc =>
    iEs (Pv := fun vs => EsG c A fix kp φ env pos s (x :: xs) vs G') hm fun v G1 ws h1 h2 E Q q => by
      rw [starCons hx, backCons]
      exact spliced_cons (hE.1 hx h1 V S hA E _ fun f1 p1 y s1 l1 q1 S1 r1 => ih hc h2 (V.mono l1 q1) S1 hA pos E _ fun f2 p2 ys s2 l2 q2 S2 r2 => q f2 p2 _ s2 (l1.trans l2) (q1.trans q2) S2 (.cons (r1.mono l2 q2) r2))
theorem es_ok : ∀ {es : List ME} (hK : AllK c X d es), EsOk c X d es := fun {es} => List.rec (motive := fun es => AllK c X d es → EsOk c X d es) (fun _ => fun hc hm _ S _ pos => es_nil hc hm S pos) (fun e es ih hK => fun hc hm V S hA pos => es_cons (hK e (.head _)) (ih fun e' he => hK e' (.tail _ he)) hc hm V S hA pos) es
end
structure Row (c : CX) (env : Env) (b0 : Bool) (T : List PySem.Expr → Sem Bool) (m : List ME → Lo → GH → Option (MV × GH)) (X : Ctx) : Prop where
  nil : ∀ {A : Around} {E : Value → Shared → Prop} {Q : Bool → Shared → Prop} {s : Shared}, Q b0 s → wpAny c.M A (T []) Q E s
  cons : ∀ {x : PySem.Expr} {xs : List PySem.Expr} {A : Around} {E : Value → Shared → Prop} {Q : Bool → Shared → Prop} {s : Shared}, wpAny c.M A (isTrue x env (eval x env)) (fun r s1 => (r = b0 → wpAny c.M A (T xs) Q E s1) ∧ (r = (!b0) → Q r s1)) E s → wpAny c.M A (T (x :: xs)) Q E s
  nilM : ∀ {ρ : Lo} {G : GH}, m [] ρ G = some (.bool b0, G)
  consM : ∀ {e : ME} {r : List ME} {ρ : Lo} {G G' : GH} {v : MV} {P : MV → Prop}, m (e :: r) ρ G = some (v, G') → (∀ G1, mE X e ρ G = some (.bool b0, G1) → m r ρ G1 = some (v, G') → P v) → (mE X e ρ G = some (.bool (!b0), G') → P (.bool (!b0))) → P v
noncomputable def RowG (c : CX) (A : Around) (fix kp : Kp) (φ : List Addr) (t : Sem Bool) (s : Shared) (G' : GH) (v : MV) : Prop := Ev c A fix kp φ t s G' (fun _ _ r => .bool r = v)
section
variable {env : Env} {b0 : Bool} {T : List PySem.Expr → Sem Bool} {m : List ME → Lo → GH → Option (MV × GH)} {sc : Sp} {nm : Nm} {ρ : Lo} {A : Around} {kp fix : Kp} {φ : List Addr} {G G' : GH} {v : MV} {s : Shared} {xs : List PySem.Expr}
noncomputable def RowEs (c : CX) (A : Around) (kp : Kp) (env : Env) (T : List PySem.Expr → Sem Bool) (m : List ME → Lo → GH → Option (MV × GH)) (sc : Sp) (nm : Nm) (ρ : Lo) (G' : GH) (v : MV) (es : List ME) : Prop := ∀ {fix : Kp} {φ : List Addr} {G : GH} {s : Shared} {xs : List PySem.Expr}, chkTs c.S es sc nm xs = true → m es ρ G = some (v, G') → EnvOk c sc nm ρ env fix kp φ → St c fix kp φ G s → RowG c A fix kp φ (T xs) s G' v
theorem row_nil (R : Row c env b0 T m X) (hc : chkTs c.S [] sc nm xs = true) (hm : m [] ρ G = some (v, G')) (S : St c fix kp φ G s) : RowG c A fix kp φ (T xs) s G' v :=
  k0 (P := fun xs => RowG c A fix kp φ (T xs) s G' v) hc (opk (P := fun v G' => RowG c A fix kp φ (T []) s G' v) (R.nilM.symm.trans hm) fun E Q q => R.nil (q fix φ _ _ (Le.refl _) (List.prefix_refl _) S rfl))
theorem row_cons (R : Row c env b0 T m X) (hA : AOk A d) {e : ME} {es : List ME} (hK : EK c X d e) (ih : RowEs c A kp env T m sc nm ρ G' v es) (hc : chkTs c.S (e :: es) sc nm xs = true) (hm : m (e :: es) ρ G = some (v, G')) (V : EnvOk c sc nm ρ env fix kp φ) (S : St c fix kp φ G s) : RowG c A fix kp φ (T xs) s G' v :=
  cTs_k (P := fun xs => RowG c A fix kp φ (T xs) s G' v) hc fun x xs hx hc =>
      R.consM (P := fun v => (∀ G1, mE X e ρ G = some (.bool b0, G1) → m es ρ G1 = some (v, G') → RowG c A fix kp φ (T (x :: xs)) s G' v) → RowG c A fix kp φ (T (x :: xs)) s G' v) hm (fun G1 h1 h2 g => g G1 h1 h2)
        (fun h1 _ E Q q => R.cons (hK.2 hx h1 V S hA E _ fun f1 p1 y s1 l1 q1 S1 r1 => ⟨fun h => absurd (h.symm.trans r1) (by cases b0 <;> decide), fun h => q f1 p1 _ s1 l1 q1 S1 (congrArg MV.bool h)⟩))
        fun G1 h1 h2 E Q q => R.cons (hK.2 hx h1 V S hA E _ fun f1 p1 y s1 l1 q1 S1 r1 => ⟨fun _ => ih hc h2 (V.mono l1 q1) S1 E _ fun f2 p2 ys s2 l2 q2 S2 r2 => q f2 p2 _ s2 (l1.trans l2) (q1.trans q2) S2 r2, fun h => absurd (r1.symm.trans h) (by cases b0 <;> decide)⟩)
theorem row_ok (R : Row c env b0 T m X) (hA : AOk A d) : ∀ {es : List ME} (hK : AllK c X d es), RowEs c A kp env T m sc nm ρ G' v es := fun {es} => List.rec (motive := fun es => AllK c X d es → RowEs c A kp env T m sc nm ρ G' v es) (fun _ => fun hc hm _ S => row_nil R hc hm S) (fun e es ih hK => fun hc hm V S => row_cons R hA (hK e (.head _)) (ih fun e' he => hK e' (.tail _ he)) hc hm V S) es
end
theorem row_and {env : Env} : Row c env true (fun xs => allTrue .And xs env) (mAnd X) X where
  nil h := wpAny_allTrue_And_nil h
  cons h := wpAny_allTrue_And_cons (wpAny_mono h (fun r s1 h => by cases r with | true => exact h.1 rfl | false => exact h.2 rfl) fun _ _ e => e)
  nilM := rfl
  consM := iAnd
theorem row_or {env : Env} : Row c env false (fun xs => allTrue .Or xs env) (mOr X) X where
  nil h := wpAny_allTrue_Or_nil h
  cons h := wpAny_allTrue_Or_cons (wpAny_mono h (fun r s1 h => by cases r with | true => exact h.2 rfl | false => exact h.1 rfl) fun _ _ e => e)
  nilM := rfl
  consM h a b := iOr h b a
noncomputable def ifsT (env : Env) (xs : List PySem.Expr) (b : Bool) : Sem Bool := forIn xs b fun x r => if r = true then do let ok ← isTrue x env (eval x env); pure (ForInStep.yield ok) else pure (ForInStep.yield r)
theorem ifs_false {env : Env} : ∀ xs : List PySem.Expr, ifsT env xs false = pure false
  | [] => rfl
  | x :: xs => by
    unfold ifsT
    rw [List.forIn_cons]
    simp only [Bool.false_eq_true, if_false]
    exact ifs_false xs
theorem row_ifs {env : Env} : Row c env true (fun xs => ifsT env xs true) (mAnd X) X where
  nil h := wpAny_pure h
  cons {x xs A E Q s} h := by
    show wpAny c.M A (forIn (x :: xs) true _) Q E s
    rw [List.forIn_cons, if_pos rfl]
    refine wpAny_bind (wpAny_bind (wpAny_mono h (fun r s1 h => wpAny_pure ?_) fun _ _ e => e))
    cases r with
    | true => exact h.1 rfl
    | false => exact wpAny_of_eq (ifs_false xs) (h.2 rfl)
  nilM := rfl
  consM := iAnd
end
end Mine
end
section
set_option autoImplicit false
set_option linter.unusedSectionVars false
set_option linter.unusedVariables false
namespace Mine
open PySem PySem.W PyProof.Rows PySem.Calls

section
variable {c : CX} {X : Ctx} {d : Nat}

noncomputable def EvG (c : CX) (A : Around) (fix kp : Kp) (φ : List Addr) (x : PySem.Expr) (env : Env) (s : Shared) (G' : GH) (v : MV) : Prop := Ev c A fix kp φ (eval x env) s G' (fun f p z => c.VR f p v z)
noncomputable def TvG (c : CX) (A : Around) (fix kp : Kp) (φ : List Addr) (x : PySem.Expr) (env : Env) (s : Shared) (G' : GH) (v : MV) : Prop := RowG c A fix kp φ (isTrue x env (eval x env)) s G' v
theorem tOf {e : ME} (h : ∀ {sc : Sp} {nm : Nm} {ρ : Lo} {env : Env} {A : Around} {fix kp : Kp} {φ : List Addr} {G G' : GH} {s : Shared} {x : PySem.Expr} {v : MV}, chkT c.S e sc nm x = true → mE X e ρ G = some (v, G') → EnvOk c sc nm ρ env fix kp φ → St c fix kp φ G s → AOk A d → TvG c A fix kp φ x env s G' v) : TOk c X d e :=
  fun hc hm V S hA E Q q => h hc hm V S hA E Q fun f p z s1 l q1 S1 r => q f p z s1 l q1 S1 (MV.bool.inj r)
theorem evN {t : Sem Value} {A : Around} {fix kp : Kp} {φ : List Addr} {G : GH} {s : Shared} {v : MV} (S : St c fix kp φ G s) (h : Same c A fix φ s v t) : Ev c A fix kp φ t s G (fun f p z => c.VR f p v z) := Ev.same S h
theorem k_kN : EK c X d .kN := ⟨fun {sc nm ρ env A fix kp φ G G' s x v} hc hm V S hA => cE_kN (P := fun x => EvG c A fix kp φ x env s G' v) hc fun k p => opk (P := fun v G' => EvG c A fix kp φ (.Constant .none k p) env s G' v) hm (evN S fun E Q q => wpAny_Constant_none (q _ _ .none)), noT fun _ _ _ _ => rfl⟩
theorem k_kB (b : Bool) : EK c X d (.kB b) := ⟨fun {sc nm ρ env A fix kp φ G G' s x v} hc hm V S hA => cE_kB (P := fun x => EvG c A fix kp φ x env s G' v) hc fun k p => opk (P := fun v G' => EvG c A fix kp φ (.Constant (.bool b) k p) env s G' v) hm (evN S fun E Q q => wpAny_Constant_bool (q _ _ (.bool _))), noT fun _ _ _ _ => rfl⟩
theorem k_kI (i : Int) : EK c X d (.kI i) := ⟨fun {sc nm ρ env A fix kp φ G G' s x v} hc hm V S hA => cE_kI (P := fun x => EvG c A fix kp φ x env s G' v) hc fun k p => opk (P := fun v G' => EvG c A fix kp φ (.Constant (.int i) k p) env s G' v) hm (evN S fun E Q q => wpAny_Constant_int (q _ _ (.int _ _))), noT fun _ _ _ _ => rfl⟩
theorem k_kS (k : Nat) : EK c X d (.kS k) := ⟨fun {sc nm ρ env A fix kp φ G G' s x v} hc hm V S hA => cE_kS (P := fun x => EvG c A fix kp φ x env s G' v) hc fun n k' p h => opk (P := fun v G' => EvG c A fix kp φ (.Constant (.str n) k' p) env s G' v) hm (evN S fun E Q q => wpAny_Constant_str (q _ _ (.str _ h))), noT fun _ _ _ _ => rfl⟩
theorem k_loc (i : Nat) : EK c X d (.loc i) := ⟨fun {sc nm ρ env A fix kp φ G G' s x v} hc hm V S hA => cE_loc (P := fun x => EvG c A fix kp φ x env s G' v) hc fun _ _ c1 c2 c3 => (iE_loc hm).2 ▸ name_ok V S c1 (iE_loc hm).1 c3, noT fun _ _ _ _ => rfl⟩
theorem k_gI (O : c.Ok) (k : Nat) (i : Int) : EK c X d (.gI k i) := ⟨fun {sc nm ρ env A fix kp φ G G' s x v} hc hm V S hA => cE_gI (P := fun x => EvG c A fix kp φ x env s G' v) hc fun n p c1 c2 => opk (P := fun v G' => EvG c A fix kp φ (.Name n p) env s G' v) hm ((O.gint _ _ c2).elim fun t ht E Q q => glob_ok O V S c1 (.inl ht) (q fix φ _ _ (Le.refl _) (List.prefix_refl _) S (.int _ _))), noT fun _ _ _ _ => rfl⟩
theorem k_attr (O : c.Ok) (hX : XOk c X) {a : ME} {k : Nat} (ha : EK c X d a) : EK c X d (.attr a k) := ⟨fun {sc nm ρ env A fix kp φ G G' s x v} hc hm V S hA => cE_attr (P := fun x => EvG c A fix kp φ x env s G' v) hc fun _ _ _ c1 c2 c3 => iE_attr hm fun v1 h1 h2 E Q q =>
  Attribute_any_ (ha.1 c1 h1 V S hA E _ fun f1 p1 y s1 l1 q1 S1 r1 => aGet_ok O hX.atr c2 h2 S1 r1 E _ fun f2 p2 z s2 l2 q2 S2 r2 => q f2 p2 z s2 (l1.trans l2) (q1.trans q2) S2 r2) ((arm_eval_Attribute _ _ _ _).trans (by rw [noSup_base c3])), noT fun _ _ _ _ => rfl⟩
theorem k_sub (O : c.Ok) {a i : ME} (ha : EK c X d a) (hi : EK c X d i) : EK c X d (.sub a i) := ⟨fun {sc nm ρ env A fix kp φ G G' s x v} hc hm V S hA => cE_sub (P := fun x => EvG c A fix kp φ x env s G' v) hc fun _ _ _ c1 c2 => iE_sub hm fun v1 G1 w1 h1 h2 h3 E Q q =>
  Subscript_ (ha.1 c1 h1 V S hA E _ fun f1 p1 y s1 l1 q1 S1 r1 => hi.1 c2 h2 (V.mono l1 q1) S1 hA E _ fun f2 p2 z s2 l2 q2 S2 r2 => subO_ok O.tabN h3 S2 (r1.mono l2 q2) r2 E _ fun f3 p3 u s3 l3 q3 S3 r3 => q f3 p3 u s3 ((l1.trans l2).trans l3) ((q1.trans q2).trans q3) S3 r3), noT fun _ _ _ _ => rfl⟩
theorem k_bin {o : B2} {a b : ME} (ha : EK c X d a) (hb : EK c X d b) : EK c X d (.bin o a b) := ⟨fun {sc nm ρ env A fix kp φ G G' s x v} hc hm V S hA => cE_bin (P := fun x => EvG c A fix kp φ x env s G' v) hc fun _ _ _ _ c0 c1 c2 => iE_bin hm fun v1 G1 w1 h1 h2 h3 E Q q =>
  wpAny_BinOp (ha.1 c1 h1 V S hA E _ fun f1 p1 y s1 l1 q1 S1 r1 => hb.1 c2 h2 (V.mono l1 q1) S1 hA E _ fun f2 p2 z s2 l2 q2 S2 r2 => binO_ok h3 c0 S2 (r1.mono l2 q2) r2 E _ fun f3 p3 u s3 l3 q3 S3 r3 => q f3 p3 u s3 ((l1.trans l2).trans l3) ((q1.trans q2).trans q3) S3 r3), noT fun _ _ _ _ => rfl⟩
theorem k_neg {a : ME} (ha : EK c X d a) : EK c X d (.neg a) := ⟨fun {sc nm ρ env A fix kp φ G G' s x v} hc hm V S hA => cE_neg (P := fun x => EvG c A fix kp φ x env s G' v) hc fun _ _ c1 => iE_neg hm fun v1 h1 h2 E Q q =>
  wpAny_UnaryOp (ha.1 c1 h1 V S hA E _ fun f1 p1 y s1 l1 q1 S1 r1 => negO_ok h2 S1 r1 E _ fun f2 p2 z s2 l2 q2 S2 r2 => q f2 p2 z s2 (l1.trans l2) (q1.trans q2) S2 r2), noT fun _ _ _ _ => rfl⟩

theorem noSetT : ∀ {S : Sta} {e : ME} {sc : Sp} {nm : Nm} {l : List PySem.Expr} {k : Nat} {p : Pos}, chkE S e sc nm (.Set l k p) = false := fun {S e sc nm l k p} => by cases e <;> first | rfl | exact Bool.and_false _
theorem notSet {S : Sta} {e : ME} {sc : Sp} {nm : Nm} {x : PySem.Expr} (h : chkE S e sc nm x = true) (op : CmpOp) : behindInMarks op x = false := by
  cases x with
  | Set l k p => rw [noSetT] at h; exact ft h
  | _ => rfl

theorem k_cmp {o : C2} {a b : ME} (ha : EK c X d a) (hb : EK c X d b) : EK c X d (.cmp o a b) := ⟨
  fun {sc nm ρ env A fix kp φ G G' s x v} hc hm V S hA => cE_cmp (P := fun x => EvG c A fix kp φ x env s G' v) hc fun l op r p c0 c1 c2 => iE_cmp (Px := fun v => EvG c A fix kp φ (.Compare l [op] [r] p) env s G' v) hm fun v1 G1 w1 r h1 h2 h3 E Q q =>
    wpAny_Compare1 (ha.1 c1 h1 V S hA E _ fun f1 p1 y s1 l1 q1 S1 r1 => hb.1 c2 h2 (V.mono l1 q1) S1 hA E _ fun f2 p2 z s2 l2 q2 S2 r2 => cmpO_ok h3 c0 S2 (r1.mono l2 q2) r2 hA E _ (q f2 p2 _ s2 (l1.trans l2) (q1.trans q2) S2 (.bool _))) (notSet c2 _),
  tOf fun {sc nm ρ env A fix kp φ G G' s x v} hc hm V S hA => cT_cmp (P := fun x => TvG c A fix kp φ x env s G' v) hc fun l op r p c0 c1 c2 => iE_cmp (Px := fun v => TvG c A fix kp φ (.Compare l [op] [r] p) env s G' v) hm fun v1 G1 w1 r h1 h2 h3 E Q q =>
    wpAny_isTrue_Compare1 (ha.1 c1 h1 V S hA E _ fun f1 p1 y s1 l1 q1 S1 r1 => hb.1 c2 h2 (V.mono l1 q1) S1 hA E _ fun f2 p2 z s2 l2 q2 S2 r2 => cmpO_ok h3 c0 S2 (r1.mono l2 q2) r2 hA E _ (wpAny_truthy_bool (q f2 p2 _ s2 (l1.trans l2) (q1.trans q2) S2 rfl))) (notSet c2 _)⟩
theorem k_cmp2 {o1 o2 : C2} {a b e : ME} (ha : EK c X d a) (hb : EK c X d b) (he : EK c X d e) : EK c X d (.cmp2 o1 o2 a b e) := ⟨noE fun _ _ _ _ => rfl, tOf fun {sc nm ρ env A fix kp φ G G' s x v} hc hm V S hA =>
  cT_cmp2 (P := fun x => TvG c A fix kp φ x env s G' v) hc fun l op1 op2 r1 r2 p ho1 ho2 hca hcb hce => iE_cmp2 (Px := fun v => TvG c A fix kp φ (.Compare l [op1, op2] [r1, r2] p) env s G' v) hm
    (fun v1 G1 w1 G2 x1 r h1 h2 h3 h4 h5 E Q q => isTrue_chain (ha.1 hca h1 V S hA E _ fun f1 p1 y s1 l1 q1 S1 r1 => test_link (hb.1 hcb h2 (V.mono l1 q1) S1 hA E _ fun f2 p2 z s2 l2 q2 S2 r2 => cmpO_ok h3 ho1 S2 (r1.mono l2 q2) r2 hA E _ (wpAny_truthy_bool (by
      rw [if_pos rfl]
      exact test_last (he.1 hce h4 ((V.mono l1 q1).mono l2 q2) S2 hA E _ fun f3 p3 u s3 l3 q3 S3 r3 => cmpO_ok h5 ho2 S3 (r2.mono l3 q3) r3 hA E _ (wpAny_truthy_bool (q f3 p3 _ s3 ((l1.trans l2).trans l3) ((q1.trans q2).trans q3) S3 rfl))))))) (notSet hce _))
    (fun v1 G1 w1 h1 h2 h3 E Q q => isTrue_chain (ha.1 hca h1 V S hA E _ fun f1 p1 y s1 l1 q1 S1 r1 => test_link (hb.1 hcb h2 (V.mono l1 q1) S1 hA E _ fun f2 p2 z s2 l2 q2 S2 r2 => cmpO_ok h3 ho1 S2 (r1.mono l2 q2) r2 hA E _ (wpAny_truthy_bool (by
      rw [if_neg (by decide)]
      exact q f2 p2 _ s2 (l1.trans l2) (q1.trans q2) S2 rfl)))) (notSet hce _))⟩
theorem k_no {a : ME} (ha : EK c X d a) : EK c X d (.no a) := ⟨noE fun _ _ _ _ => rfl, tOf fun {sc nm ρ env A fix kp φ G G' s x v} hc hm V S hA => cT_no (P := fun x => TvG c A fix kp φ x env s G' v) hc fun y p c1 => iE_no (Px := fun v => TvG c A fix kp φ (.UnaryOp .Not y p) env s G' v) hm fun b h1 E Q q =>
  wpAny_isTrue_Not (ha.2 c1 h1 V S hA E _ fun f1 p1 y s1 l1 q1 S1 r1 => q f1 p1 _ s1 l1 q1 S1 (r1 ▸ rfl))⟩
theorem k_and {es : List ME} (h : AllK c X d es) : EK c X d (.and_ es) := ⟨noE fun _ _ _ _ => rfl, tOf fun {sc nm ρ env A fix kp φ G G' s x v} hc hm V S hA => cT_and (P := fun x => TvG c A fix kp φ x env s G' v) hc fun _ _ c1 E Q q => wpAny_isTrue_BoolOp (row_ok row_and hA h c1 hm V S E Q q)⟩
theorem k_or {es : List ME} (h : AllK c X d es) : EK c X d (.or_ es) := ⟨noE fun _ _ _ _ => rfl, tOf fun {sc nm ρ env A fix kp φ G G' s x v} hc hm V S hA => cT_or (P := fun x => TvG c A fix kp φ x env s G' v) hc fun _ _ c1 E Q q => wpAny_isTrue_BoolOp (row_ok row_or hA h c1 hm V S E Q q)⟩
theorem plainT_eq {e : PySem.Expr} {env : Env} {t : Sem Value} (h : plainT e = true) : isTrue e env t = (do let v ← t; standAt e.pos; holding [v] (truthy v)) := by
  cases e <;> first | rfl | exact ft h
theorem k_truth {a : ME} (ha : EK c X d a) : EK c X d (.truth a) := ⟨noE fun _ _ _ _ => rfl, tOf fun {sc nm ρ env A fix kp φ G G' s x v} hc hm V S hA => iE_truth (Px := fun v => TvG c A fix kp φ x env s G' v) hm fun b h1 E Q q =>
  wpAny_isTrue_value (ha.1 (cT_truth hc).1 h1 V S hA E _ fun f1 p1 y s1 l1 q1 S1 r1 => boolV (P := fun y => wpAny c.M A (truthy y) Q E s1) r1 (wpAny_truthy_bool (q f1 p1 _ s1 l1 q1 S1 rfl))) (plainT_eq (cT_truth hc).2)⟩
theorem k_ite {t a b : ME} (ht : EK c X d t) (ha : EK c X d a) (hb : EK c X d b) : EK c X d (.ite t a b) := ⟨fun {sc nm ρ env A fix kp φ G G' s x v} hc hm V S hA => cE_ite (P := fun x => EvG c A fix kp φ x env s G' v) hc fun _ _ _ _ c1 c2 c3 => iE_ite hm
  (fun G1 h1 h2 E Q q => wpAny_IfExp (ht.2 c1 h1 V S hA E _ fun f1 p1 y s1 l1 q1 S1 r1 => by
    rw [if_pos r1]
    exact ha.1 c2 h2 (V.mono l1 q1) S1 hA E _ fun f2 p2 z s2 l2 q2 S2 r2 => q f2 p2 z s2 (l1.trans l2) (q1.trans q2) S2 r2))
  (fun G1 h1 h2 E Q q => wpAny_IfExp (ht.2 c1 h1 V S hA E _ fun f1 p1 y s1 l1 q1 S1 r1 => by
    rw [if_neg (r1 ▸ Bool.false_ne_true)]
    exact hb.1 c3 h2 (V.mono l1 q1) S1 hA E _ fun f2 p2 z s2 l2 q2 S2 r2 => q f2 p2 z s2 (l1.trans l2) (q1.trans q2) S2 r2)), noT fun _ _ _ _ => rfl⟩
end
end Mine
end
section
set_option autoImplicit false
set_option linter.unusedSectionVars false
set_option linter.unusedVariables false
namespace Mine
open PySem PySem.W PyProof.Rows PySem.Calls

section
variable {c : CX} {X : Ctx} {d : Nat}

theorem three_ok {a b e : Value} : PySem.sizeOk (.fields #[a, b, e]) := Nat.le_trans (sizeLine_ge (by decide : 3 ≤ 8192)) (Nat.le_add_right _ 2)
theorem mEs_len {X : Ctx} {ρ : Lo} : ∀ {es : List ME} {vs : List MV} {G G' : GH}, mEs X es ρ G = some (vs, G') → vs.length = es.length
  | [], vs, G, G', h => (osome h).1 ▸ rfl
  | e :: es, vs, G, G', h => iEs (Pv := fun vs => vs.length = es.length + 1) h fun v G1 ws h1 h2 => congrArg Nat.succ (mEs_len h2)
theorem le64 {n m : Nat} (h : n = m) (h2 : m ≤ 64) : n ≤ 4096 := h ▸ Nat.le_trans h2 (by decide)
theorem k_tup {es : List ME} (hK : AllK c X d es) : EK c X d (.tup es) := ⟨fun {sc nm ρ env A fix kp φ G G' s x v} hc hm V S hA => cE_tup (P := fun x => EvG c A fix kp φ x env s G' v) hc fun xs k p c1 c2 => iE_tup (Px := fun v => EvG c A fix kp φ (.Tuple xs k p) env s G' v) hm fun vs h1 E Q q => by
  refine wpAny_Tuple (es_ok hK c1 h1 V S hA _ E _ fun f1 p1 ys s1 l1 q1 S1 r1 => ⟨sizeLine_ge (Nat.le_trans (le64 (r1.length.symm.trans (mEs_len h1)) c2) (by decide)), ?_⟩)
  obtain ⟨fix', le, hf, st⟩ := S1.frzPush (o := ⟨.type "tuple", none, .seq ys.toArray 0, #[]⟩) rfl
  exact q fix' p1 _ _ (l1.trans le) q1 (st s1.toks) (VR.tup hf (r1.mono le (List.prefix_refl _)) (le64 (mEs_len h1) c2)), noT fun _ _ _ _ => rfl⟩
theorem k_lst {m : Bool} {es : List ME} (hK : AllK c X d es) : EK c X d (.lst m es) := ⟨fun {sc nm ρ env A fix kp φ G G' s x v} hc hm V S hA => cE_lst (P := fun x => EvG c A fix kp φ x env s G' v) hc fun xs p c1 c2 => iE_lst hm fun vs G1 h1 hm' E Q q => by
  refine wpAny_List (es_ok hK c1 h1 V S hA _ E _ fun f1 p1 ys s1 l1 q1 S1 r1 => ⟨sizeLine_ge (Nat.le_trans (le64 (r1.length.symm.trans (mEs_len h1)) c2) (by decide)), ?_⟩)
  obtain ⟨fix', φ', le, pre, st, vr⟩ := mkPush m S1 r1 (le64 (mEs_len h1) c2)
  rw [← hm'] at st vr
  exact q fix' φ' _ _ (l1.trans le) (q1.trans pre) (st s1.toks) vr, noT fun _ _ _ _ => rfl⟩

theorem isKN_eq {e : ME} (h : isKN e = true) : e = .kN := ME.kN.elim (motive_1 := fun e => e = .kN) e (beq_ok (α := Nat) h) rfl
theorem part_ok {e : ME} {l : Option PySem.Expr} (he : EK c X d e) {sc : Sp} {nm : Nm} {ρ : Lo} {env : Env} {A : Around} {fix kp : Kp} {φ : List Addr} {G G' : GH} {s : Shared} {v : MV}
    (hc : (match l with | none => isKN e | some y => chkE c.S e sc nm y) = true) (hm : mE X e ρ G = some (v, G')) (V : EnvOk c sc nm ρ env fix kp φ) (S : St c fix kp φ G s) (hA : AOk A d) :
    Ev c A fix kp φ (valueOrNone (evalOpt l env)) s G' (fun f p z => c.VR f p v z) := by
  cases l with
  | none =>
    rw [isKN_eq hc] at hm
    exact opk (P := fun v G' => Ev c A fix kp φ (valueOrNone (evalOpt none env)) s G' (fun f p z => c.VR f p v z)) hm fun E Q q => wpAny_pure (q fix φ _ _ (Le.refl _) (List.prefix_refl _) S .none)
  | some y => exact he.1 hc hm V S hA

theorem k_slc {a lo hi : ME} (ha : EK c X d a) (hlo : EK c X d lo) (hhi : EK c X d hi) : EK c X d (.slc a lo hi) := ⟨fun {sc nm ρ env A fix kp φ G G' s x v} hc hm V S hA => cE_slc (P := fun x => EvG c A fix kp φ x env s G' v) hc fun _ _ _ _ _ c1 c2 c3 => iE_slc hm fun v1 G1 w1 G2 w2 h1 h2 h3 h4 E Q q =>
  Subscript_ (ha.1 c1 h1 V S hA E _ fun f1 p1 y s1 l1 q1 S1 r1 => by
    rw [arm_eval_Slice]
    refine wpAny_bind (part_ok hlo c2 h2 (V.mono l1 q1) S1 hA E _ fun f2 p2 z s2 l2 q2 S2 r2 => wpAny_bind (wpAny_holding (part_ok hhi c3 h3 (V.mono (l1.trans l2) (q1.trans q2)) S2 hA E _ fun f3 p3 u s3 l3 q3 S3 r3 => ?_)))
    exact wpAny_bind (wpAny_holding (wpAny_pure (wpAny_newObj_type (slcO_ok h4 S3 (r1.mono (l2.trans l3) (q2.trans q3)) (r2.mono l3 q3) r3 E _ fun f4 p4 w s4 l4 q4 S4 r4 => q f4 p4 w s4 (((l1.trans l2).trans l3).trans l4) (((q1.trans q2).trans q3).trans q4) S4 r4) three_ok)))), noT fun _ _ _ _ => rfl⟩
theorem k_rev {a : ME} (ha : EK c X d a) : EK c X d (.rev a) := ⟨fun {sc nm ρ env A fix kp φ G G' s x v} hc hm V S hA => cE_rev (P := fun x => EvG c A fix kp φ x env s G' v) hc fun _ _ _ _ _ _ c1 => iE_rev hm fun v1 h1 h4 E Q q =>
  Subscript_ (ha.1 c1 h1 V S hA E _ fun f1 p1 y s1 l1 q1 S1 r1 => by
    rw [arm_eval_Slice]
    refine wpAny_bind (wpAny_pure (wpAny_bind (wpAny_holding (wpAny_pure (wpAny_bind (wpAny_holding (wpAny_UnaryOp (wpAny_Constant_int (neg_int (wpAny_newObj_type ?_ three_ok))))))))))
    exact revO_ok (s := { s1 with toks := s1.toks + 1 + 1 }) h4 (S1.toks _) r1 E _ fun f4 p4 w s4 l4 q4 S4 r4 => q f4 p4 w s4 (l1.trans l4) (q1.trans q4) S4 r4), noT fun _ _ _ _ => rfl⟩
theorem St.newAt {kp : Kp} {fix : Kp} {φ : List Addr} {G : GH} {s : Shared} (S : St c fix kp φ G s) (a : Addr) : (φ ++ [a])[G.length]? = some a := by
  rw [← S.1.len, List.getElem?_append_right (Nat.le_refl _), Nat.sub_self]; rfl
theorem k_dct0 : EK c X d .dct0 := ⟨fun {sc nm ρ env A fix kp φ G G' s x v} hc hm V S hA => cE_dct0 (P := fun x => EvG c A fix kp φ x env s G' v) hc fun p => opk (P := fun v G' => EvG c A fix kp φ (.Dict [] [] p) env s G' v) hm fun E Q q =>
  wpAny_Dict_empty (q fix (φ ++ [s.heap.objs.size]) _ _ (Le.refl _) (List.prefix_append _ _) ⟨(S.1.push _).grow (Heap.get?_push_size _ rfl) (S.1.fixLt (Nat.le_refl _)) (S.1.kpLt (Nat.le_refl _)) (fun m => Nat.lt_irrefl _ (S.1.lt m)) ⟨[], rfl, .nil, List.nodup_nil, Nat.zero_le _⟩ (S.1.size (Nat.le_refl _)), S.2⟩ (.ref (S.newAt _))), noT fun _ _ _ _ => rfl⟩
inductive KVs (tab : List Str) (fix : Kp) (φ : List Addr) : List Nat → List MV → List (Value × Value) → Prop
  | nil : KVs tab fix φ [] [] []
  | cons {k : Nat} {v : MV} {x : Str} {t : Tok} {y : Value} {ks : List Nat} {vs : List MV} {ps : List (Value × Value)} : tab[k]? = some x → VR tab fix φ v y → KVs tab fix φ ks vs ps → KVs tab fix φ (k :: ks) (v :: vs) ((.str x t, y) :: ps)

section
variable {sc : Sp} {nm : Nm} {ρ : Lo} {env : Env} {A : Around} {kp fix : Kp} {pos : Pos} {ks : List Nat} {keys : List (Option PySem.Expr)} {xs : List PySem.Expr} {vs : List MV} {G G' : GH} {φ : List Addr} {s : Shared}
noncomputable def PairG (c : CX) (A : Around) (fix kp : Kp) (φ : List Addr) (env : Env) (pos : Pos) (keys : List (Option PySem.Expr)) (xs : List PySem.Expr) (s : Shared) (G' : GH) (ks : List Nat) (vs : List MV) : Prop := Ev c A fix kp φ (evalPairs (pairTrees keys xs env pos)) s G' (fun f p z => KVs c.S.tab f p ks vs z)
noncomputable def PairsOk (c : CX) (X : Ctx) (d : Nat) (es : List ME) : Prop := ∀ {sc : Sp} {nm : Nm} {ρ : Lo} {env : Env} {A : Around} {kp fix : Kp} {pos : Pos} {ks : List Nat} {keys : List (Option PySem.Expr)} {xs : List PySem.Expr} {vs : List MV} {G G' : GH} {φ : List Addr} {s : Shared}, keysE c.S ks keys = true → ks.length = es.length → chkEs c.S es sc nm xs = true → mEs X es ρ G = some (vs, G') → EnvOk c sc nm ρ env fix kp φ → St c fix kp φ G s → AOk A d → PairG c A fix kp φ env pos keys xs s G' ks vs
theorem pairs_nil (hk : keysE c.S ks keys = true) (hl : ks.length = 0) (hc : chkEs c.S [] sc nm xs = true) (hm : mEs X [] ρ G = some (vs, G')) (S : St c fix kp φ G s) : PairG c A fix kp φ env pos keys xs s G' ks vs := by
  rw [List.length_eq_zero_iff.mp hl] at hk ⊢
  exact k0 (P := fun keys => PairG c A fix kp φ env pos keys xs s G' [] vs) hk (cEs_nil (P := fun xs => PairG c A fix kp φ env pos [] xs s G' [] vs) hc (opk (P := fun vs G' => PairG c A fix kp φ env pos [] [] s G' [] vs) hm fun E Q q => wpAny_pure (q fix φ _ _ (Le.refl _) (List.prefix_refl _) S .nil)))
theorem keysE_k {S : Sta} {k : Nat} {ks : List Nat} {keys : List (Option PySem.Expr)} {P : List (Option PySem.Expr) → Prop} (h : keysE S (k :: ks) keys = true) (g : ∀ x a p t, S.tab[k]? = some x → keysE S ks t = true → P (some (.Constant (.str x) a p) :: t)) : P keys := match keys, h with
  | o :: t, h => keysE_cons (P := fun o => P (o :: t)) h fun x a p h1 h2 => g x a p t h1 h2
theorem pairs_cons {e : ME} {es : List ME} (hE : EK c X d e) (ih : PairsOk c X d es) (hk : keysE c.S ks keys = true) (hl : ks.length = es.length + 1) (hc : chkEs c.S (e :: es) sc nm xs = true) (hm : mEs X (e :: es) ρ G = some (vs, G')) (V : EnvOk c sc nm ρ env fix kp φ) (S : St c fix kp φ G s) (hA : AOk A d) : PairG c A fix kp φ env pos keys xs s G' ks vs := match ks, hl, hk with
  | k :: ks, hl, hk => keysE_k (P := fun keys => PairG c A fix kp φ env pos keys xs s G' (k :: ks) vs) hk fun kx a p keys hk1 hk2 => cEs_k (P := fun xs => PairG c A fix kp φ env pos (some (.Constant (.str kx) a p) :: keys) xs s G' (k :: ks) vs) hc fun x xs hx hc =>
      iEs (Pv := fun vs => PairG c A fix kp φ env pos (some (.Constant (.str kx) a p) :: keys) (x :: xs) s G' (k :: ks) vs) hm fun v G1 ws h1 h2 E Q q => by
        show wpAny _ A (evalPairs ((eval _ env, do let x ← eval x env; standAt pos; pure x) :: pairTrees keys xs env pos)) _ _ _
        rw [evalPairs]
        refine wpAny_bind (wpAny_Constant_str (wpAny_bind (wpAny_holding (wpAny_bind (hE.1 hx h1 V (S.toks _) hA E _ fun f1 p1 y s1 l1 q1 S1 r1 => ?_)))))
        exact wpAny_bind (wpAny_standAt (wpAny_pure (wpAny_bind (wpAny_holding (ih hk2 (Nat.succ.inj hl) hc h2 (V.mono l1 q1) S1 hA E _ fun f2 p2 ys s2 l2 q2 S2 r2 => wpAny_pure (q f2 p2 _ s2 (l1.trans l2) (q1.trans q2) S2 (.cons hk1 (r1.mono l2 q2) r2)))))))
theorem pairs_ok : ∀ {es : List ME} (hK : AllK c X d es), PairsOk c X d es := fun {es} => List.rec (motive := fun es => AllK c X d es → PairsOk c X d es) (fun _ => fun hk hl hc hm _ S _ => pairs_nil hk hl hc hm S) (fun e es ih hK => fun hk hl hc hm V S hA => pairs_cons (hK e (.head _)) (ih fun e' he => hK e' (.tail _ he)) hk hl hc hm V S hA) es
end

theorem setL_new {κ : Type} [DecidableEq κ] {k : κ} {v : MV} : ∀ {l : List (κ × MV)}, k ∉ l.map (·.1) → setL l k v = l ++ [(k, v)]
  | [], _ => rfl
  | p :: l, h => by
    rw [List.map_cons, List.mem_cons, not_or] at h
    rw [setL, if_neg (Ne.symm h.1), setL_new h.2]; rfl
noncomputable def StoredG (c : CX) (A : Around) (fix kp : Kp) (φ : List Addr) (G : GH) (a : Addr) (l : List (Nat × MV)) (ps : List (Value × Value)) (s : Shared) : Prop := ∀ (E : Value → Shared → Prop) (Q : PUnit → Shared → Prop), (∀ es' n' kp' s', St c fix kp' φ G s' → (∀ b, b ≠ a → kp' b = kp b) → kp' a = some ⟨.type "dict", none, .dict es'.toArray n', #[]⟩ → SDs c.prog c.w c.S.tab fix φ l es' → Q ⟨⟩ s') → wpAny c.M A (storeAll a ps) Q E s
theorem storeAll_ok (hT : c.S.tab.Nodup) {A : Around} {fix : Kp} {φ : List Addr} {G : GH} {a : Addr} {ks : List Nat} {vs : List MV} {ps : List (Value × Value)} (hkv : KVs c.S.tab fix φ ks vs ps) : ∀ {l : List (Nat × MV)} {es : List DictEntry} {n : Nat} {kp : Kp} {s : Shared}, St c fix kp φ G s →
    kp a = some ⟨.type "dict", none, .dict es.toArray n, #[]⟩ → SDs c.prog c.w c.S.tab fix φ l es → (l.map (·.1) ++ ks).Nodup → l.length + ks.length ≤ 4096 → StoredG c A fix kp φ G a (l ++ ks.zip vs) ps s := by
  induction hkv with
  | nil =>
    intro l es n kp s S ha hr hn hz E Q q
    unfold storeAll
    rw [List.forIn_nil]
    exact wpAny_pure (q es n kp s S (fun _ _ => rfl) ha (by rw [List.zip_nil_left, List.append_nil]; exact hr))
  | @cons k v x t y ks vs ps hk hv hr' ih =>
    intro l es n kp s S ha hr hn hz E Q q
    unfold storeAll
    rw [List.forIn_cons]
    have hnk : k ∉ l.map (·.1) := fun m => (List.nodup_append.mp hn).2.2 k m k (.head _) rfl
    refine wpAny_bind (wpAny_bind (dictSet_ex (knd := strKind c.prog c.w) strIs (S.1.kpK _ _ ha) (fun e he => EDs.keysOf hr e (memA he)) (sizeLine_ge (Nat.le_trans (by rw [← EDs.length hr]; exact Nat.le_trans (Nat.le_add_right _ _) hz) (by decide))) (fun j h' hj hs he => ?_) fun h' hj hs he => wpAny_pure ?_))
    · have a3 := (EDs.setSome (krS_inj hT) krS_fn hk hv hr hj).2.2
      rw [setL_new hnk, List.map_append] at a3
      have := congrArg List.length a3
      rw [List.length_append] at this
      exact absurd this (Nat.succ_ne_self _)
    · have a1 := (EDs.setNone (key := .str x t) (krS_inj hT) krS_fn hk strIs hv hr hj).1
      rw [setL_new hnk] at a1
      refine ih (s := { s with heap := h', toks := s.toks + 1 }) (kp := upd kp a (some ⟨.type "dict", none, .dict (es ++ [(⟨(strKind c.prog c.w).hash x, .str x t, y⟩ : DictEntry)]).toArray (n + 1), #[]⟩)) ⟨S.1.setKp ha (fun b hb z e => (hs.2 b hb).trans e) he, S.2⟩ (upd_self _ _ _) a1 (by rw [List.map_append, List.append_assoc]; exact hn) (by rw [List.length_append, List.length_singleton, Nat.add_assoc, Nat.add_comm 1]; exact hz) E Q fun es' n' kp' s' S' hk' ha' hr'' => ?_
      exact q es' n' kp' s' S' (fun b hb => (hk' b hb).trans (upd_ne _ _ hb)) ha' (by rw [List.append_assoc] at hr''; exact hr'')

theorem k_dct (O : c.Ok) {ks : List Nat} {es : List ME} (hK : AllK c X d es) : EK c X d (.dct ks es) := ⟨fun {sc nm ρ env A fix kp φ G G' s x v} hc hm V S hA => cE_dct (P := fun x => EvG c A fix kp φ x env s G' v) hc fun keys xs pos hk hce h3 hnd => iE_dct hm fun vs G1 h1 hlen hm' => by
  refine pairK (P := fun v G' => EvG c A fix kp φ (.Dict keys xs pos) env s G' v) hm'.symm fun E Q q => ?_
  have k1 := keysLen hk
  have k3 := xsLen hce
  have hz : ks.length ≤ 4096 := Nat.le_trans h3.2.1 (by decide)
  refine wpAny_Dict_any k1.1 (by rw [k1.2, k3]; exact h3.2.2) (fun e => absurd h3.1 (by rw [← k1.2, e]; decide)) (by rw [k1.2]; exact h3.2.1) ?_
  have hkn : kp s.heap.objs.size = none := S.1.kpLt (Nat.le_refl _)
  have ne : ∀ {b : Addr} {o : Obj}, kp b = some o → b ≠ s.heap.objs.size := fun e q => noS ((q ▸ hkn).symm.trans e)
  have S0 : St c fix (upd kp s.heap.objs.size (some ⟨.type "dict", none, .dict #[] 0, #[]⟩)) φ G { s with heap := s.heap.push { cls := .type "dict", data := .dict #[] } } :=
    ⟨(S.1.push _).hold (Heap.get?_push_size _ rfl) (S.1.fixLt (Nat.le_refl _)) (fun m => Nat.lt_irrefl _ (S.1.lt m)), S.2⟩
  have V0 : EnvOk c sc nm ρ env fix (upd kp s.heap.objs.size (some ⟨.type "dict", none, .dict #[] 0, #[]⟩)) φ :=
    V.at (V.frame.elim fun o h => h.elim fun es h => h.elim fun ep h => upd_ne _ _ (ne h.1)) fun x a hne hx ha => (V.cells x hne hx).elim fun b h => h.2.elim fun o h2 => h2.elim fun v h3 => upd_ne _ _ (ne (Option.some.inj (ha.symm.trans h.1) ▸ h3.1))
  refine pairs_ok hK hk h3.2.2 hce h1 V0 S0 hA E _ fun f1 p1 ps s1 l1 q1 S1 r1 => ?_
  refine storeAll_ok O.tabN (l := []) (es := []) (n := 0) r1 S1 (upd_self _ _ _) .nil hnd (by rw [List.length_nil, Nat.zero_add]; exact hz) E _ fun es' n' kp' s' S' hk' ha' hr' => ?_
  have hkp' : Le kp kp' := fun b o e => by rw [hk' b (ne e), upd_ne _ _ (ne e)]; exact e
  refine q f1 (p1 ++ [s.heap.objs.size]) _ s' l1 (q1.trans (List.prefix_append _ _)) ⟨?_, S'.2⟩ (.ref (S'.newAt _))
  exact (S'.1.less hkp').grow (S'.1.kpK _ _ ha') (S'.1.dj _ _ ha') hkn (fun m => noS ((S'.1.out _ m).2.symm.trans ha')) ⟨es', n', rfl, EDs.mono (Le.refl _) (List.prefix_append _ _) hr', by
    show ((ks.zip vs).map (·.1)).Nodup
    rw [List.map_fst_zip (Nat.le_of_eq hlen)]; exact hnd, by
    show (ks.zip vs).length ≤ 4096
    rw [List.length_zip]; exact Nat.le_trans (Nat.min_le_left _ _) hz⟩ (S.1.size (Nat.le_refl _)), noT fun _ _ _ _ => rfl⟩
end
end Mine
end
section
set_option autoImplicit false
set_option linter.unusedSectionVars false
set_option linter.unusedVariables false
namespace Mine
open PySem PySem.W PyProof.Rows PySem.Calls

noncomputable def CallOk (c : CX) (X : Ctx) (d : Nat) : Prop := ∀ {f : Nat} {vs : List MV} {G G' : GH} {v : MV}, X.call f vs G = some (v, G') → ∀ {A : Around} {fix kp : Kp} {φ : List Addr} {s : Shared} {ys : List Value}, St c fix kp φ G s → c.VRs fix φ vs ys → AOkC A d →
  ∀ {R : Result → Shared → Prop}, (∀ fix' φ' y s', Le fix fix' → φ <+: φ' → St c fix' kp φ' G' s' → c.VR fix' φ' v y → R (.ok (.ret y)) s') → codeAny c.M A (.call (.ref f) ⟨ys, []⟩) R s

section
variable {c : CX} {X : Ctx} {d : Nat}

theorem under_type {A : Around} {args : Args} (h : AOk A d) : AOkC (A.under (.builtin "type.__call__" args)) d := by
  have hw : Code.weight (.builtin "type.__call__" args) ≤ 2 := by
    unfold Code.weight
    have h1 : Code.frames (.builtin "type.__call__" args) = 0 := rfl
    have h2 : Code.isCaller (.builtin "type.__call__" args) = false := rfl
    rw [h1, h2]
    split <;> split <;> simp
  have hu : Code.cUnits (.builtin "type.__call__" args) = 1 := rfl
  refine ⟨h.handled, ?_, ?_⟩
  · have := h.depth
    show A.depth + Code.weight _ + _ < _
    omega
  · have := h.units
    show A.units + Code.cUnits _ + 20 * (d + 1) + 80 < _
    rw [hu]; omega

theorem k_call (O : c.Ok) (hC : CallOk c X d) {f : Nat} {es : List ME} (hK : AllK c X d es) : EK c X d (.call f es) := ⟨fun {sc nm ρ env A fix kp φ G G' s x v} hc hm V S hA => cE_call (P := fun x => EvG c A fix kp φ x env s G' v) hc fun _ _ _ _ hg hf hce hlen => iE_call hm fun vs G1 h1 hm E Q q =>
  wpAny_Call_Name_kw (glob_ok O V S hg (.inl (O.glob _ _ hf).1) (callK O (first := []) S (O.glob _ _ hf).2 hce (es_ok hK hce h1 V S hA _) fun f1 p1 ys s1 l1 q1 S1 r1 =>
    wpAny_call (hC hm S1 r1 hA.call fun f2 p2 y s2 l2 q2 S2 r2 => q f2 p2 y s2 (l1.trans l2) (q1.trans q2) S2 r2))), noT fun _ _ _ _ => rfl⟩

theorem initIn_k {K : Frag} {C f : Addr} {P : Prop} (h : initIn K C f = true) (g : makesIn K C = true → findIn K (.ref C) "__init__" = some (some (.ref f)) → typeIn K (.ref f) = some (.type "function") → keepIn K (.ref C) = true → P) : P :=
  ak h fun h h4 => ak h fun h h3 => ak h fun h1 h2 => g h1 (eq_of_beq h2) (eq_of_beq h3) h4
theorem newInst {C : Addr} {kp fix : Kp} {φ : List Addr} {G : GH} {s : Shared} (S : St c fix kp φ G s) {P : Prop} (g : ∀ fix', Le fix fix' → St c fix' kp (φ ++ [s.heap.objs.size]) (G ++ [.sd []]) { s with heap := (s.heap.push emptyDict).push (instObj C s.heap.objs.size) } → fix' (s.heap.objs.size + 1) = some (instObj C s.heap.objs.size) → P) : P := by
  have hsz : (s.heap.push emptyDict).objs.size = s.heap.objs.size + 1 := Heap.size_push ..
  have hx : ((s.heap.push emptyDict).push (instObj C s.heap.objs.size)).get? (s.heap.objs.size + 1) = some (instObj C s.heap.objs.size) := hsz ▸ Heap.get?_push_size (s.heap.push emptyDict) (o := instObj C s.heap.objs.size) rfl
  have newD := newFree S (Nat.le_refl _)
  have newX := newFree S (Nat.le_succ _)
  have R3 := ((S.1.push emptyDict).push (instObj C s.heap.objs.size)).grow (Heap.get?_push_of_some _ (Heap.get?_push_size _ rfl)) newD.1 newD.2.1 newD.2.2 (g := .sd []) ⟨[], 0, rfl, .nil, List.nodup_nil, Nat.zero_le _⟩ (S.1.size (Nat.le_refl _))
  obtain ⟨R4, l4⟩ := R3.freeze hx newX.2.1 (fun m => (List.mem_append.mp m).elim newX.2.2 fun m => Nat.succ_ne_self _ (List.mem_singleton.mp m)) newX.1
  exact g _ l4 ⟨R4, S.2⟩ (upd_self _ _ _)
theorem k_new (O : c.Ok) (hX : XOk c X) (hC : CallOk c X d) {C : Nat} {es : List ME} (hK : AllK c X d es) : EK c X d (.new C es) := ⟨fun {sc nm ρ env A fix kp φ G G' s x v} hc hm V S hA => cE_new (P := fun x => EvG c A fix kp φ x env s G' v) hc fun n pn xs p hg hf hce hlen => iE_new (Px := fun v => EvG c A fix kp φ (.Call (.Name n pn) xs [] p) env s G' v) hm fun vs G1 f h1 hi h2 E Q q =>
  initIn_k (O.init C f (hX.init ▸ hi)) fun i1 i2 i3 _ => wpAny_Call_Name_kw (glob_ok O V S hg (.inl (O.glob _ _ hf).1) (callK O (first := []) S (O.glob _ _ hf).2 hce (es_ok hK hce h1 V S hA _) fun f1 p1 ys s1 l1 q1 S1 r1 => wpAny_call (by
    obtain ⟨hh, g, dr, t, os⟩ := s1
    have K1 := S1.1.K O
    refine make_core (makes_of K1 i1) (looks_findIn K1 i2) (fun self => bind_fn K1 self i3) (.inl rfl) ?_
    refine newInst (C := C) S1 fun f4 l4 S4 hx => ?_
    have vo : ∀ {φ' : List Addr} {f2 : Kp}, Le f4 f2 → (p1 ++ [hh.objs.size]) <+: φ' → c.VR f2 φ' (.obj C G1.length) (.ref (hh.objs.size + 1)) := fun lf pf => VR.mono lf pf (.obj hx (S1.newAt _))
    refine hC h2 S4 (.cons (vo (Le.refl _) (List.prefix_refl _)) (r1.mono l4 (List.prefix_append _ _))) (under_type hA) fun f2 p2 y s2 l2 q2 S2 r2 => ?_
    exact ⟨noneV (P := fun y => y = .none) r2 rfl, q f2 p2 _ s2 ((l1.trans l4).trans l2) ((q1.trans (List.prefix_append _ _)).trans q2) S2 (vo l2 q2)⟩))), noT fun _ _ _ _ => rfl⟩

theorem methIn_k {K : Frag} {C : Addr} {x : Str} {f : Addr} {P : Prop} (h : methIn K C x f = true) (g : plainGet K C x = true → findIn K (.ref C) x = some (some (.ref f)) → isFn K (.ref f) = true → keepIn K (.ref f) = true → P) : P :=
  ak h fun h h4 => ak h fun h h3 => ak h fun h1 h2 => g h1 (eq_of_beq h2) h3 h4
theorem k_meth (O : c.Ok) (hX : XOk c X) (hC : CallOk c X d) {a : ME} {m : Nat} {es : List ME} (ha : EK c X d a) (hK : AllK c X d es) : EK c X d (.meth a m es) := ⟨fun {sc nm ρ env A fix kp φ G G' s x v} hc hm V S hA => cE_meth (P := fun x => EvG c A fix kp φ x env s G' v) hc fun _ n _ _ _ hca hk hns hce hlen hline => iE_meth hm fun C i G1 f l vs G2 h1 hmth hg hnone h2 hm E Q q =>
  methTree hns hline hlen (starNo hce).2 (ha.1 hca h1 V S hA E _ fun f1 p1 y s1 l1 q1 S1 r1 pl => by
    have hmi : methIn c.K C n f = true := (O.mth C m f (hX.mth ▸ hmth)).elim fun n' h => Option.some.inj (hk.symm.trans h.1) ▸ h.2
    refine methIn_k hmi fun m1 m2 m3 m4 => ?_
    refine objV (P := fun y => wpAny c.M A (getMethod y n pl) _ E s1) r1 fun xa dx hf hp => ?_
    refine S1.gd hp hg fun es' nn ho hr hnd z => ?_
    refine method_fn (od := some (dictOf es' nn)) (S1.1.K O) (instAt (S1.1.fixK _ _ hf) ho) (plainGet_of m1).1 (plainGet_of m1).2 m2 (eq_of_beq m3) (by show (lookIn n (dictOf es' nn)).map _ = _; rw [lookIn_dict, sdGetN O.tabN hk hr hnone]; rfl) ?_
    refine callK O (first := [.ref xa]) S1 m4 hce (es_ok hK hce h2 (V.mono l1 q1) S1 hA _) fun f2 p2 ys s2 l2 q2 S2 r2 => ?_
    exact wpAny_call (hC hm S2 (.cons (VR.mono l2 q2 (.obj hf hp)) r2) hA.call fun f3 p3 y s3 l3 q3 S3 r3 => q f3 p3 y s3 ((l1.trans l2).trans l3) ((q1.trans q2).trans q3) S3 r3)), noT fun _ _ _ _ => rfl⟩

theorem blt_boot (b : Bl) : bootBuiltins (blN b) = some (bltV b) := by cases b <;> rfl

theorem blt_call {M : Model} {A : Around} {E : Value → Shared → Prop} {s : Shared} {t : Sem Value} {pos : Pos} {Q : Value → Shared → Prop} (b : Bl) (h : wpAny M A t (fun v s₁ => wpAny M A (call (bltV b) [v]) Q E s₁) E s) : wpAny M A (callWith pos (bltV b) [] [(false, t)] []) Q E s :=
  match b with
  | .len => PySem.callWith_builtin1 h
  | .abs => PySem.callWith_builtin1 h
  | .int => PySem.callWith_type1 h
  | .list _ => PySem.callWith_type1 h
  | .tuple => PySem.callWith_type1 h
  | .sorted => PySem.callWith_builtin1 h

theorem k_blt (O : c.Ok) {b : Bl} {a : ME} (ha : EK c X d a) : EK c X d (.blt b a) := ⟨fun {sc nm ρ env A fix kp φ G G' s x v} hc hm V S hA => cE_blt (P := fun x => EvG c A fix kp φ x env s G' v) hc fun _ y _ hb hca => iE_blt hm fun v1 G1 h1 hm E Q q =>
  wpAny_Call_Name_kw (blt_ok O V S hb (blt_boot b) (by
    rw [starCons hca]
    exact blt_call b (ha.1 hca h1 V S hA E _ fun f1 p1 y s1 l1 q1 S1 r1 => bltO_ok hm S1 r1 E _ fun f2 p2 z s2 l2 q2 S2 r2 => q f2 p2 z s2 (l1.trans l2) (q1.trans q2) S2 r2))), noT fun _ _ _ _ => rfl⟩
theorem noDict {h : Heap} {a : Addr} {o : Obj} (e : h.get? a = some o) (hd : o.dict = none) : ∀ b, Value.ref a = .ref b → ∃ o, h.get? b = some o ∧ o.dict = none := fun b q => by cases q; exact ⟨o, e, hd⟩

theorem k_app (O : c.Ok) {a b : ME} (ha : EK c X d a) (hb : EK c X d b) : EK c X d (.app a b) := ⟨fun {sc nm ρ env A fix kp φ G G' s x v} hc hm V S hA => cE_app (P := fun x => EvG c A fix kp φ x env s G' v) hc fun y ap z p hns hca hcb hline => iE_app (Px := fun v => EvG c A fix kp φ (.Call (.Attribute y "append" ap) [z] [] p) env s G' v) hm fun v1 G1 x1 G2 h1 hls h2 h3 E Q q =>
  methTree hns hline (Nat.lt_of_sub_pos (by decide : 0 < 28 - 1)) (starNo (cEs1 hcb)).2 (ha.1 hca h1 V S hA E _ fun f1 p1 yo s1 l1 q1 S1 r1 pl => (Option.isSome_iff_exists.mp hls).elim fun l hl => by
    refine lstK (P := fun yo => c.VR f1 p1 v1 yo → wpAny c.M A (getMethod yo "append" pl) _ E s1) S1 r1 hl (fun D xs n ho _ _ r1 => ?_) r1
    refine getMethod_builtin ⟨_, ho, rfl⟩ PySem.F.plainAttrs_list PySem.F.slot_list_append PySem.F.type_list_append (noDict ho rfl) ?_
    rw [starCons hcb, backCons]
    exact callWith_builtin rfl (evalArgs_plain (spliced_cons (hb.1 hcb h2 (V.mono l1 q1) S1 hA E _ fun f2 p2 z s2 l2 q2 S2 r2 => spliced_nil (appO_ok h3 S2 (r1.mono l2 q2) r2 E _ fun f3 p3 u s3 l3 q3 S3 r3 => q f3 p3 u s3 ((l1.trans l2).trans l3) ((q1.trans q2).trans q3) S3 r3))))), noT fun _ _ _ _ => rfl⟩

theorem k_pop (O : c.Ok) {a : ME} (ha : EK c X d a) : EK c X d (.pop a) := ⟨fun {sc nm ρ env A fix kp φ G G' s x v} hc hm V S hA => cE_pop (P := fun x => EvG c A fix kp φ x env s G' v) hc fun _ _ _ hns hca hline => iE_pop hm fun v1 G1 h1 hm E Q q =>
  methTree hns hline (by decide) rfl (ha.1 hca h1 V S hA E _ fun f1 p1 yo s1 l1 q1 S1 r1 pl => by
    have H := popO_ok (A := A) hm S1 r1
    refine rL_k (P := fun v1 => c.VR f1 p1 v1 yo → wpAny c.M A (getMethod yo "pop" pl) _ E s1) hm (fun i l hg _ r1 => ?_) r1
    revert H
    refine refV (P := fun yo => Ev c A f1 kp p1 (call (.builtin "list.pop") [yo]) s1 G' _ → wpAny c.M A (getMethod yo "pop" pl) _ E s1) r1 fun D hp H => ?_
    refine S1.go hp hg fun xs n ho _ _ => ?_
    refine getMethod_builtin ⟨_, ho, rfl⟩ PySem.F.plainAttrs_list PySem.F.slot_list_pop PySem.F.type_list_pop (noDict ho rfl) ?_
    exact callWith_builtin rfl (evalArgs_nilG (spliced_nil (H E _ fun f3 p3 u s3 l3 q3 S3 r3 => q f3 p3 u s3 (l1.trans l3) (q1.trans q3) S3 r3)))), noT fun _ _ _ _ => rfl⟩

theorem k_get (O : c.Ok) {a b e : ME} (ha : EK c X d a) (hb : EK c X d b) (he : EK c X d e) : EK c X d (.get a b e) := ⟨fun {sc nm ρ env A fix kp φ G G' s x v} hc hm V S hA => cE_get (P := fun x => EvG c A fix kp φ x env s G' v) hc fun _ _ _ _ _ hns hca hcb hce' hline => iE_get hm fun v1 G1 k1 G2 d1 h1 hnd h2 h3 h4 E Q q =>
  methTree hns hline (Nat.lt_of_sub_pos (by decide : 0 < 28 - 2)) (starNo (cEs2 hcb hce')).2 (ha.1 hca h1 V S hA E _ fun f1 p1 yo s1 l1 q1 S1 r1 pl => by
    obtain ⟨pn, hpn⟩ := Option.isSome_iff_exists.mp hnd
    obtain ⟨k0, hk0, h4⟩ := Option.bind_eq_some_iff.mp h4
    obtain ⟨pn', hpn', h4⟩ := Option.map_eq_some_iff.mp h4
    refine rN_k (P := fun v1 => c.VR f1 p1 v1 yo → rN G' v1 = some pn' → wpAny c.M A (getMethod yo "get" pl) _ E s1) hpn (fun hg r1 hpn' => ?_) r1 hpn'
    have hg' : G'[pn.1]? = some (.nd pn'.2.1 pn'.2.2) := rN_k (P := fun v => v = .ref pn.1 → _) hpn' (fun h e => MV.ref.inj e ▸ h) rfl
    refine refV (P := fun yo => wpAny c.M A (getMethod yo "get" pl) _ E s1) r1 fun D hp => ?_
    refine S1.gn hp hg fun es ho hr _ _ => ?_
    refine getMethod_builtin ⟨_, ho, rfl⟩ PySem.F.plainAttrs_dict PySem.F.slot_dict_get PySem.F.type_dict_get (noDict ho rfl) ?_
    rw [starCons hcb, starCons hce', backCons, backCons]
    refine wpAny_dict_get2 (knd := intKind c.prog c.w) (beq_eq_false_iff_ne.mpr (Nat.ne_of_gt (S1.1.lo _ (List.mem_of_getElem? hp)))) ?_
    refine hb.1 hcb h2 (V.mono l1 q1) S1 hA E _ fun f2 p2 z2 s2 l2 q2 S2 r2 => he.1 hce' h3 (V.mono (l1.trans l2) (q1.trans q2)) S2 hA E _ fun f3 p3 z3 s3 l3 q3 S3 r3 => ?_
    refine iInt_k (P := fun k1 => c.VR f2 p2 k1 z2 → _) hk0 (fun r2 => ?_) r2
    refine intV (P := fun z2 => ∃ k m, (intKind c.prog c.w).is k z2 = true ∧ Heap.MapOf (intKind c.prog c.w) s3.heap D m ∧ Q ((m k).getD z3) { s3 with toks := s3.toks + 1 }) r2 fun t => ?_
    refine S3.gn (pre_get q3 (pre_get q2 hp)) hg' fun es' ho hr' _ _ => ⟨k0, _, intIs, ndMap ho hr', ?_⟩
    refine q f3 p3 _ _ ((l1.trans l2).trans l3) ((q1.trans q2).trans q3) (S3.toks _) ?_
    rw [← h4]
    cases hl : pn'.2.2.lookup k0 with
    | none => rw [EDs.findN krI_inj krI_fn (rfl : krI k0 k0) hr' hl]; exact r3
    | some v => obtain ⟨en, he1, he2⟩ := EDs.findS krI_inj krI_fn (rfl : krI k0 k0) hr' hl; rw [he1]; exact he2), noT fun _ _ _ _ => rfl⟩
end
end Mine
end
section
set_option autoImplicit false
set_option linter.unusedSectionVars false
set_option linter.unusedVariables false
namespace Mine
open PySem PySem.W PyProof.Rows PySem.Calls

section
variable {c : CX} {X : Ctx} {d : Nat}

theorem small_range {a b : Int} (h0 : 0 ≤ a) (h1 : a < 4096) (h2 : 0 ≤ b) (h3 : b < 4096) : Builtin.Range.small a b 1 = true := by
  have hs : Builtin.Range.rangeSize a b 1 = if a < b then b - a else 0 := rangeSize_one a b
  have fit : ∀ i : Int, -10000 ≤ i → i < 10000 → Builtin.Range.rangeFitsLong i = true := fun i q1 q2 => by
    unfold Builtin.Range.rangeFitsLong
    simp only [Bool.and_eq_true, decide_eq_true_eq]
    omega
  unfold Builtin.Range.small
  rw [hs, fit a (by omega) (by omega), fit b (by omega) (by omega), fit 1 (by omega) (by omega), fit _ (by split <;> omega) (by split <;> omega), if_pos (show (1 : Int) > 0 by decide), fit (b + (1 - 1)) (by omega) (by omega)]
  simp

theorem foldedSet_ok {e : PySem.Expr} {env : Env} (h : ∀ es k p, e ≠ .Set es k p) (x : Value) : foldedSetIterable e env x = pure x := by
  cases e <;> first | rfl | exact absurd rfl (h _ _ _)

theorem srcSet {S : Sta} {k : SK} {srcs : List ME} {sc : Sp} {nm : Nm} {e : PySem.Expr} (h : chkSrc S k srcs sc nm e = true) : ∀ es k' p, e ≠ .Set es k' p := by
  intro es k' p q
  rw [q] at h
  match srcs, h with
  | [], h => exact ft h
  | [a], h => cases k with
    | vals => exact ft (noSetT.symm.trans (show chkE S a sc nm (.Set es k' p) = true from h))
    | _ => exact ft h
  | a :: b :: r, h =>
    have h := (ott (show (r.isEmpty && _) = true from h)).2
    cases k <;> exact ft h

section
variable {G G' : GH} {v w : MV} {gd : Gd} {items : List Itm} {vs : List MV} {P : MV → Gd → List Itm → Prop} {P2 : MV → MV → Gd → List Itm → Prop}
theorem rngO1 (h : srcO G .rng [v] = some (gd, items)) (g : ∀ b, 0 ≤ b ∧ b < 4096 → P (.int b) .no (rangeO 0 b 1)) : P v gd items :=
  obk (o := iInt v) (f := fun b => if 0 ≤ b ∧ b < 4096 then some (Gd.no, rangeO 0 b 1) else none) h fun b h1 h => oif h fun h2 h => iInt_k (P := fun v => P v gd items) h1 (opk (P := P (.int b)) h (g b h2))
theorem rngO2 (h : srcO G .rng [v, w] = some (gd, items)) (g : ∀ a b, 0 ≤ a ∧ a < 4096 ∧ 0 ≤ b ∧ b < 4096 → P2 (.int a) (.int b) .no (rangeO a b 1)) : P2 v w gd items :=
  i2_k (k := fun a b => if 0 ≤ a ∧ a < 4096 ∧ 0 ≤ b ∧ b < 4096 then some (Gd.no, rangeO a b 1) else none) (P := fun v w => P2 v w gd items) h fun a b h => oif h fun h1 h => opk (P := P2 (.int a) (.int b)) h (g a b h1)
theorem enumO (h : srcO G .enum [v] = some (gd, items)) (g : ∀ l, P (.lst l) .no (enumT 0 l)) : P v gd items :=
  (Option.map_eq_some_iff.mp (show (iLst v).map (fun l => (Gd.no, enumT 0 l)) = some (gd, items) from h)).elim fun l h => iLst_k (P := fun v => P v gd items) h.1 (opk (P := P (.lst l)) (congrArg some h.2) (g l))
theorem zipO (h : srcO G .zip [v, w] = some (gd, items)) (g : ∀ a b, P2 (.lst a) (.lst b) .no (zipT a b)) : P2 v w gd items :=
  obk (o := iLst v) (f := fun a => (iLst w).map fun b => (Gd.no, zipT a b)) h fun a h1 h => (Option.map_eq_some_iff.mp h).elim fun b h => iLst_k (P := fun v => P2 v w gd items) h1 (iLst_k (P := fun w => P2 (.lst a) w gd items) h.1 (opk (P := P2 (.lst a) (.lst b)) (congrArg some h.2) (g a b)))
variable {ρ : Lo} {a b : ME} {Pv : List MV → Prop}
theorem iEs1 (h : mEs X [a] ρ G = some (vs, G')) (g : ∀ v, mE X a ρ G = some (v, G') → Pv [v]) : Pv vs :=
  iEs h fun v G1 ws h1 h2 => opk (P := fun ws G' => (∀ v, mE X a ρ G = some (v, G') → Pv [v]) → Pv (v :: ws)) h2 (fun g => g v h1) g
theorem iEs2 (h : mEs X [a, b] ρ G = some (vs, G')) (g : ∀ v w G2, mE X a ρ G = some (v, G2) → mE X b ρ G2 = some (w, G') → Pv [v, w]) : Pv vs :=
  iEs h fun v G1 ws h1 h2 => iEs1 (Pv := fun ws => Pv (v :: ws)) h2 fun w h3 => g v w G1 h1 h3
end
section
variable {k : SK} {sc : Sp} {nm : Nm} {ρ : Lo} {env : Env} {A : Around} {fix kp : Kp} {φ : List Addr} {G G1 : GH} {s : Shared} {e : PySem.Expr} {vs : List MV} {gd : Gd} {items : List Itm} {E : Value → Shared → Prop} {Q : Value → Shared → Prop} {a b : ME}
noncomputable def SrcQ (c : CX) (fix kp : Kp) (φ : List Addr) (G1 : GH) (k : SK) (gd : Gd) (items : List Itm) (Q : Value → Shared → Prop) : Prop := ∀ fix' φ' it s' fp, Le fix fix' → φ <+: φ' → St c fix' kp φ' G1 s' → ItOk c fix' kp φ' s'.heap it gd items fp → (kOne k true = true → fp.length = 1) → Q it s'
noncomputable def SrcG (c : CX) (A : Around) (fix kp : Kp) (φ : List Addr) (G1 : GH) (k : SK) (E : Value → Shared → Prop) (Q : Value → Shared → Prop) (e : PySem.Expr) (env : Env) (s : Shared) (gd : Gd) (items : List Itm) : Prop := SrcQ c fix kp φ G1 k gd items Q → wpAny c.M A (eval e env) (fun x s₁ => wpAny c.M A (pyIter x) Q E s₁) E s
theorem src_rng1 (O : c.Ok) (ha : EK c X d a) {v : MV} (hc : chkSrc c.S .rng [a] sc nm e = true) (h1 : mE X a ρ G = some (v, G1)) (hs : srcO G1 .rng [v] = some (gd, items)) (V : EnvOk c sc nm ρ env fix kp φ) (S : St c fix kp φ G s) (hA : AOk A d) : SrcG c A fix kp φ G1 .rng E Q e env s gd items :=
  cR_rng1 (P := fun e => SrcG c A fix kp φ G1 .rng E Q e env s gd items) hc fun nq y p hb hca => rngO1 (P := fun v gd items => mE X a ρ G = some (v, G1) → SrcG c A fix kp φ G1 .rng E Q (.Call (.Name "range" nq) [y] [] p) env s gd items) hs (fun b hb4 h1 q =>
    wpAny_Call_Name_kw (blt_ok O V S hb (y := .type "range") rfl (by
      rw [starCons hca]
      refine PySem.callWith_type1 (ha.1 hca h1 V S hA E _ fun f1 p1 y s1 l1 q1 S1 r1 => intV (P := fun y => wpAny c.M A (call (.type "range") [y]) _ E s1) r1 fun t => call_range_1 ?_)
      exact it_range (s := { s1 with heap := s1.heap.push _, toks := s1.toks + 1 + 1 }) ⟨S1.1.push _, S1.2⟩ (IsRange.new _ _ _ _ _ _ _) (fun it s' fp S' I hl => q f1 p1 it s' fp l1 q1 S' I fun _ => hl) (small_range (by decide) (by decide) hb4.1 hb4.2)))) h1
theorem src_enum (O : c.Ok) (ha : EK c X d a) {v : MV} (hc : chkSrc c.S .enum [a] sc nm e = true) (h1 : mE X a ρ G = some (v, G1)) (hs : srcO G1 .enum [v] = some (gd, items)) (V : EnvOk c sc nm ρ env fix kp φ) (S : St c fix kp φ G s) (hA : AOk A d) : SrcG c A fix kp φ G1 .enum E Q e env s gd items :=
  cR_enum (P := fun e => SrcG c A fix kp φ G1 .enum E Q e env s gd items) hc fun nq y p hb hca => enumO (P := fun v gd items => mE X a ρ G = some (v, G1) → SrcG c A fix kp φ G1 .enum E Q (.Call (.Name "enumerate" nq) [y] [] p) env s gd items) hs (fun l h1 q =>
    wpAny_Call_Name_kw (blt_ok O V S hb (y := .type "enumerate") rfl (by
      rw [starCons hca]
      exact PySem.callWith_type1 (ha.1 hca h1 V S hA E _ fun f1 p1 y s1 l1 q1 S1 r1 => it_enum O S1 r1 fun it s' fp S' I => q f1 p1 it s' fp l1 q1 S' I fun h => nomatch h)))) h1
theorem src_rng2 (O : c.Ok) (ha : EK c X d a) (hb : EK c X d b) {v w : MV} {G2 : GH} (hc : chkSrc c.S .rng [a, b] sc nm e = true) (h1 : mE X a ρ G = some (v, G2)) (h2 : mE X b ρ G2 = some (w, G1)) (hs : srcO G1 .rng [v, w] = some (gd, items)) (V : EnvOk c sc nm ρ env fix kp φ) (S : St c fix kp φ G s) (hA : AOk A d) : SrcG c A fix kp φ G1 .rng E Q e env s gd items :=
  cR_rng2 (P := fun e => SrcG c A fix kp φ G1 .rng E Q e env s gd items) hc fun nq y z p hbl hca hcb => rngO2 (P2 := fun v w gd items => mE X a ρ G = some (v, G2) → mE X b ρ G2 = some (w, G1) → SrcG c A fix kp φ G1 .rng E Q (.Call (.Name "range" nq) [y, z] [] p) env s gd items) hs (fun i j hb4 h1 h2 q =>
    wpAny_Call_Name_kw (blt_ok O V S hbl (y := .type "range") rfl (by
      rw [starCons hca, starCons hcb, backCons, backCons]
      refine PySem.callWith_type rfl (evalArgs_plain (spliced_cons (ha.1 hca h1 V S hA E _ fun f1 p1 y s1 l1 q1 S1 r1 => spliced_cons (hb.1 hcb h2 (V.mono l1 q1) S1 hA E _ fun f2 p2 z s2 l2 q2 S2 r2 => spliced_nil ?_))))
      refine intV (P := fun y => wpAny c.M A (call (.type "range") [y, z]) _ E s2) (r1.mono l2 q2) fun t => intV (P := fun z => wpAny c.M A (call (.type "range") [.int i t, z]) _ E s2) r2 fun u => call_range_2 ?_
      exact it_range (s := { s2 with heap := s2.heap.push _, toks := s2.toks + 1 }) ⟨S2.1.push _, S2.2⟩ (IsRange.new _ _ _ _ _ _ _) (fun it s' fp S' I hl => q f2 p2 it s' fp (l1.trans l2) (q1.trans q2) S' I fun _ => hl) (small_range hb4.1 hb4.2.1 hb4.2.2.1 hb4.2.2.2)))) h1 h2
theorem src_zip (O : c.Ok) (ha : EK c X d a) (hb : EK c X d b) {v w : MV} {G2 : GH} (hc : chkSrc c.S .zip [a, b] sc nm e = true) (h1 : mE X a ρ G = some (v, G2)) (h2 : mE X b ρ G2 = some (w, G1)) (hs : srcO G1 .zip [v, w] = some (gd, items)) (V : EnvOk c sc nm ρ env fix kp φ) (S : St c fix kp φ G s) (hA : AOk A d) : SrcG c A fix kp φ G1 .zip E Q e env s gd items :=
  cR_zip (P := fun e => SrcG c A fix kp φ G1 .zip E Q e env s gd items) hc fun nq y z p hbl hca hcb => zipO (P2 := fun v w gd items => mE X a ρ G = some (v, G2) → mE X b ρ G2 = some (w, G1) → SrcG c A fix kp φ G1 .zip E Q (.Call (.Name "zip" nq) [y, z] [] p) env s gd items) hs (fun i j h1 h2 q =>
    wpAny_Call_Name_kw (blt_ok O V S hbl (y := .type "zip") rfl (by
      rw [starCons hca, starCons hcb, backCons, backCons]
      exact PySem.callWith_type rfl (evalArgs_plain (spliced_cons (ha.1 hca h1 V S hA E _ fun f1 p1 y s1 l1 q1 S1 r1 => spliced_cons (hb.1 hcb h2 (V.mono l1 q1) S1 hA E _ fun f2 p2 z s2 l2 q2 S2 r2 => spliced_nil
        (it_zip O S2 (r1.mono l2 q2) r2 fun it s' fp S' I => q f2 p2 it s' fp (l1.trans l2) (q1.trans q2) S' I fun h => nomatch h))))))) ) h1 h2
theorem src_ok (O : c.Ok) {srcs : List ME} (hK : AllK c X d srcs)
    (hc : chkSrc c.S k srcs sc nm e = true) (hm : mEs X srcs ρ G = some (vs, G1)) (hs : srcO G1 k vs = some (gd, items)) (V : EnvOk c sc nm ρ env fix kp φ) (S : St c fix kp φ G s) (hA : AOk A d) : SrcG c A fix kp φ G1 k E Q e env s gd items := by
  match srcs, hK, hc, hm with
  | [], _, hc, _ => exact ft hc
  | [a], hK, hc, hm =>
    have ha := hK a (.head _)
    refine iEs1 (Pv := fun vs => srcO G1 k vs = some (gd, items) → SrcG c A fix kp φ G1 k E Q e env s gd items) hm (fun v h1 hs => ?_) hs
    cases k with
    | vals => exact fun q => ha.1 hc h1 V S hA E _ fun f1 p1 y s1 l1 q1 S1 r1 => it_vals (v := v) hs S1 r1 fun it s' fp S' I hl => q f1 p1 it s' fp l1 q1 S' I fun _ => hl
    | zip => exact ft hc
    | rng => exact src_rng1 O ha hc h1 hs V S hA
    | enum => exact src_enum O ha hc h1 hs V S hA
  | a :: b :: r, hK, hc, hm =>
    have ha := hK a (.head _)
    have hb := hK b (.tail _ (.head _))
    have hr := (ott (show (r.isEmpty && _) = true from hc)).1
    rw [List.isEmpty_iff.mp hr] at hc hm
    refine iEs2 (Pv := fun vs => srcO G1 k vs = some (gd, items) → SrcG c A fix kp φ G1 k E Q e env s gd items) hm (fun v w G2 h1 h2 hs => ?_) hs
    cases k with
    | vals => exact ft hc
    | enum => exact ft hc
    | rng => exact src_rng2 O ha hb hc h1 h2 hs V S hA
    | zip => exact src_zip O ha hb hc h1 h2 hs V S hA
end
end
end Mine
end
section
set_option autoImplicit false
set_option linter.unusedSectionVars false
set_option linter.unusedVariables false
namespace Mine
open PySem PySem.W PyProof.Rows PySem.Calls

noncomputable abbrev lstObj (xs : List Value) (n : Nat) : Obj := ⟨.type "list", none, .seq xs.toArray n, #[]⟩

structure CSt (c : CX) (fix kp0 kp : Kp) (φ : List Addr) (G : GH) (s : Shared) (sc : Sp) (nm : Nm) (ρ : Lo) (env : Env) (D : Addr) (acc : List MV) : Prop where
  le : Le kp0 kp
  st : St c fix kp φ G s
  env : EnvOk c sc nm ρ env fix kp φ
  acc : ∃ xs n, Free fix kp φ s.heap [(D, lstObj xs n)] ∧ c.VRs fix φ acc xs ∧ acc.length ≤ 4096

section
variable {c : CX} {X : Ctx} {d nb : Nat} {A : Around} {fix kp kp0 fix' kp' : Kp} {φ φ' : List Addr} {G G' : GH} {s s' : Shared} {h h' : Heap} {sc : Sp} {nm : Nm} {ρ ρ' : Lo} {env : Env} {fp : List (Addr × Obj)} {D : Addr} {acc acc' : List MV}

theorem Free.less (F : Free fix kp φ h fp) (l : Le kp' kp) : Free fix kp' φ h fp := fun p hp => ⟨(F p hp).1, (F p hp).2.1, by
  cases e : kp' p.1 with
  | none => exact ⟨rfl, (F p hp).2.2.2⟩
  | some o => have := l _ _ e; rw [(F p hp).2.2.1] at this; cases this⟩
theorem Free.kpN (F : Free fix kp φ h fp) : ∀ p ∈ fp, kp p.1 = none := fun p hp => (F p hp).2.2.1

theorem CSt.openK (C : CSt c fix kp0 kp φ G s sc nm ρ env D acc) {P : Prop} (g : ∀ o, St c fix (holdL kp [(D, o)]) φ G s → EnvOk c sc nm ρ env fix (holdL kp [(D, o)]) φ → Le (holdL kp0 [(D, o)]) (holdL kp [(D, o)]) → (Own sc nm nb env kp0 → Own sc nm nb env (holdL kp0 [(D, o)])) → Free fix kp φ s.heap [(D, o)] →
    (∀ {fix' kp' φ' G' s' ρ'}, Le fix fix' → φ <+: φ' → Le (holdL kp0 [(D, o)]) kp' → St c fix' kp' φ' G' s' → EnvOk c sc nm ρ' env fix' kp' φ' → CSt c fix' kp0 (cut kp' [(D, o)]) φ' G' s' sc nm ρ' env D acc) → P) : P :=
  C.acc.elim fun xs a => a.elim fun n a => g (lstObj xs n) ⟨(a.1.hold C.st.1).1, C.st.2⟩ (C.env.hold a.1.kpN) (a.1.holdLe C.le) (fun W => W.hold C.env a.1.kpN) a.1
    fun lf lp lk S' V' => ⟨a.1.le C.le lk, ⟨(a.1.back lk S'.1).2, S'.2⟩, C.env.cut a.1.kpN V', xs, n, (a.1.back lk S'.1).1, a.2.1.mono lf lp, a.2.2⟩
theorem CSt.holdI (C : CSt c fix kp0 kp φ G s sc nm ρ env D acc) (F : Free fix kp φ s.heap fp) (hD : ∀ p ∈ fp, p.1 ≠ D) : CSt c fix (holdL kp0 fp) (holdL kp fp) φ G s sc nm ρ env D acc :=
  C.acc.elim fun xs a => a.elim fun n a => ⟨F.holdLe C.le, ⟨(F.hold C.st.1).1, C.st.2⟩, C.env.hold F.kpN, xs, n, allOne ⟨(a.1 _ (.head _)).1, (a.1 _ (.head _)).2.1, (holdL_out hD).trans (a.1 _ (.head _)).2.2.1, (a.1 _ (.head _)).2.2.2⟩, a.2⟩
theorem CSt.dropI (C : CSt c fix' (holdL kp0 fp) kp' φ' G' s' sc nm ρ' env D acc) (F : Free fix kp φ h fp) (V : EnvOk c sc nm ρ env fix kp φ) (l0 : Le kp0 kp) : CSt c fix' kp0 (cut kp' fp) φ' G' s' sc nm ρ' env D acc ∧ Free fix' (cut kp' fp) φ' s'.heap fp :=
  C.acc.elim fun xs a => a.elim fun n a => ⟨⟨F.le l0 C.le, ⟨(F.back C.le C.st.1).2, C.st.2⟩, V.cut F.kpN C.env, xs, n, a.1.less cut_le, a.2⟩, (F.back C.le C.st.1).1⟩
theorem CSt.lower (C : CSt c fix kp0 kp φ G s sc nm ρ' env D acc) (h : ∀ (i : Nat) (v : MV), ρ[i]? = some (some v) → ρ'[i]? = some (some v)) : CSt c fix kp0 kp φ G s sc nm ρ env D acc := ⟨C.le, C.st, C.env.lower h, C.acc⟩

noncomputable def compBody (elt : PySem.Expr) (gens : List Comprehension) (scope : Scope) (pos : Pos) (dp : Nat) (acc : Value) (env : Env) (k : Sem PySem.Fin) : Sem PySem.Fin :=
  match gens[dp]? with
  | some g' => do
    let x ← eval g'.iter env
    standAt g'.iter.pos
    let x ← if g'.is_async != 0 then foldedIterable g'.iter x else foldedSetIterable g'.iter env x
    let _ ← runOwn (.compStart (.ListComp elt gens scope pos) dp (← holding [x] (if g'.is_async != 0 then asyncIter x else pyIter x)) acc env) env
    k
  | none => do
    (do let _ ← call (.builtin "list.append") [acc, ← eval elt env])
    k

theorem compTurn_eq {elt : PySem.Expr} {gens : List Comprehension} {scope : Scope} {pos : Pos} {dp : Nat} {it acc : Value} {env : Env} {g : Comprehension} (hg : gens[dp]? = some g) (ha : g.is_async = 0) :
    compTurn (.ListComp elt gens scope pos) dp it acc env = (do
      standAt g.iter.pos
      match ← pyNext it with
      | none => pure (.done .next)
      | some v =>
        letOwnedTupleGo g.target it v
        assign g.target env v
        let ok ← ifsT env g.ifs true
        if ok then compBody elt gens scope pos (dp + 1) acc env (again (.compLoop (.ListComp elt gens scope pos) dp it acc env))
        else again (.compLoop (.ListComp elt gens scope pos) dp it acc env)) := by
  unfold compTurn compBody ifsT
  simp only [hg, ha, bne_self_eq_false, Bool.false_eq_true, if_false]
  rfl

theorem compStart_ok {elt : PySem.Expr} {gens : List Comprehension} {scope : Scope} {pos : Pos} {dp : Nat} {it acc : Value} {env : Env} {g : Comprehension} {R : Result → Shared → Prop} (hg : gens[dp]? = some g) (ha : g.is_async = 0)
    (h0 : codeAny c.M A (.compLoop (.ListComp elt gens scope pos) dp it acc env) R s)
    (h : ∀ E, wpAny c.M A (pyIter it) (fun it' s' => codeAny c.M A (.compLoop (.ListComp elt gens scope pos) dp it' acc env) R s') E s) :
    codeAny c.M A (.compStart (.ListComp elt gens scope pos) dp it acc env) R s := by
  refine codeAny_of_tree ?_
  show wpAny _ A ((compStart (.ListComp elt gens scope pos) dp it acc env).onRaise (fun x => do noteFrame x env; standAt theWindowsPlace)) _ _ s
  refine wpAny_notedAt ?_
  unfold compStart
  have e : (clausesOf (.ListComp elt gens scope pos))[dp]? = some g := hg
  rw [e]
  have e2 : (some g).elim false (fun x : Comprehension => x.is_async != 0) = false := by rw [Option.elim_some, ha]; rfl
  rw [e2]
  simp only [Bool.false_eq_true, if_false]
  refine wpAny_bind (wpAny_askSetting ?_)
  split
  · first
      | exact wpAny_bind (wpAny_pure (wpAny_pure (And.intro rfl h0)))
      | exact wpAny_pure (And.intro rfl h0)
  · refine wpAny_bind (wpAny_rule (wpAny_bind (wpAny_standAt (wpAny_bind (wpAny_mono (h _) (fun it' s' h' => wpAny_pure (And.intro rfl h')) fun _ _ x => x)))))
end
end Mine
end
section
set_option autoImplicit false
set_option linter.unusedSectionVars false
set_option linter.unusedVariables false
namespace Mine
open PySem PySem.W PyProof.Rows PySem.Calls

noncomputable def BodyOk (c : CX) (X : Ctx) (d : Nat) (gs : List MG) (eltM : ME) : Prop :=
  ∀ {sc0 : Sp} {nm0 : Nm} {sc : Sp} {nm : Nm} {nb : Nat} {ρ : Lo} {env : Env} {A : Around} {fix kp0 kp : Kp} {φ : List Addr} {G G' : GH} {s : Shared} {D : Addr} {acc acc' : List MV} {elt : PySem.Expr} {gens : List Comprehension} {scope : Scope} {pos : Pos} {dp : Nat} {k : Sem PySem.Fin},
  chkGs c.S gs false sc0 nm0 sc nm nb (gens.drop dp) = true → chkE c.S eltM sc nm elt = true → mC X gs (fun ρ' G' => mE X eltM ρ' G') ρ G acc = some (acc', G') → (∀ i ∈ gs.flatMap tgtG, ∀ v, ρ[i]? ≠ some (some v)) → (gs.flatMap tgtG).Nodup →
  Own sc nm nb env kp0 → CSt c fix kp0 kp φ G s sc nm ρ env D acc → AOk A d → ∀ {E : Value → Shared → Prop} {Q : PySem.Fin → Shared → Prop},
  (∀ fix' kp' φ' s', Le fix fix' → φ <+: φ' → CSt c fix' kp0 kp' φ' G' s' sc nm ρ env D acc' → wpAny c.M A k Q E s') → wpAny c.M A (compBody elt gens scope pos dp (.ref D) env k) Q E s

section
variable {c : CX} {X : Ctx} {d nb : Nat} {A : Around} {fix kp kp0 fix' kp' : Kp} {φ φ' : List Addr} {G G' : GH} {s s' : Shared} {sc : Sp} {nm : Nm} {ρ ρ' : Lo} {env : Env} {fp : List (Addr × Obj)} {D : Addr} {acc acc' : List MV}

theorem setAll_spec : ∀ {is : List Nat} {vs : List MV} {ρ ρ' : Lo}, setAll ρ is vs = some ρ' → ∀ j, j ∉ is → ρ'[j]? = ρ[j]?
  | [], vs, ρ, ρ', h, j, _ => setAll_nil (P := fun _ => ρ'[j]? = ρ[j]?) h fun e => e ▸ rfl
  | i :: is, vs, ρ, ρ', h, j, hj => setAll_cons (P := fun _ => ρ'[j]? = ρ[j]?) h fun v r ρ1 h1 h2 => (setAll_spec h2 j fun m => hj (.tail _ m)).trans ((set1_get (j := j) h1).2.2 fun e => hj (e ▸ .head _))
theorem asgO_spec {one : Bool} {tgt : List Nat} {v : MV} (h : asgO one tgt v ρ = some ρ') (j : Nat) (hj : j ∉ tgt) : ρ'[j]? = ρ[j]? := match one, h with
  | true, h => asgO_one (P := fun tgt => j ∉ tgt → ρ'[j]? = ρ[j]?) h (fun i h hj => (set1_get (j := j) h).2.2 fun e => hj (e ▸ .head _)) hj
  | false, h => asgO_tup (P := fun _ => ρ'[j]? = ρ[j]?) h fun l h => setAll_spec h j hj
theorem tgtE_fit {one : Bool} {tgt : List Nat} {t : PySem.Expr} (h : tgtE sc nm one tgt t = true) : tgtFit one t := match one, h with
  | true, h => kENam (P := tgtFit true) (k := fun x _ => q1 tgt fun i => tgtOk sc nm i x) h fun _ _ _ => ⟨_, _, rfl⟩
  | false, h => kETup (P := tgtFit false) (k := fun ts _ _ => tgtsOk sc nm tgt ts) h fun _ _ _ _ => ⟨_, _, _, rfl⟩

noncomputable def stepC (X : Ctx) (one : Bool) (tgt : List Nat) (ifs : List ME) (gs : List MG) (eltM : ME) (ρ : Lo) : MV → GH → List MV → Option (List MV × GH) := fun v G acc => (asgO one tgt v ρ).bind fun ρ' =>
  onB (mAnd X ifs ρ' G) (fun G2 => mC X gs (fun ρ' G' => mE X eltM ρ' G') ρ' G2 acc) fun G2 => some (acc, G2)
theorem loopC_nil {gd : Gd} {st : MV → GH → List MV → Option (List MV × GH)} {r : List MV × GH} {P : List MV × GH → Prop} (h : loopC gd st [] G acc = some r) (g : gdOk G gd = true → P (acc, G)) : P r :=
  oif (p := gdOk G gd = true) h fun h1 h => Option.some.inj h ▸ g h1
theorem loopC_k {gd : Gd} {st : MV → GH → List MV → Option (List MV × GH)} {x : Itm} {l : List Itm} {r : List MV × GH} {P : Prop} (h : loopC gd st (x :: l) G acc = some r) (g : ∀ v acc2 G2, gdOk G gd = true → fetch G gd x = some v → st v G acc = some (acc2, G2) → loopC gd st l G2 acc2 = some r → P) : P :=
  oif (p := gdOk G gd = true) h fun h1 h => obk (o := fetch G gd x) h fun v h2 h => obk (o := st v G acc) h fun p h3 h => g v p.1 p.2 h1 h2 h3 h
theorem stepC_k {one : Bool} {tgt : List Nat} {ifs : List ME} {gs : List MG} {eltM : ME} {v : MV} {r : List MV} {P : Prop} (h : stepC X one tgt ifs gs eltM ρ v G acc = some (r, G')) (g1 : ∀ ρ1 G3, asgO one tgt v ρ = some ρ1 → mAnd X ifs ρ1 G = some (.bool true, G3) → mC X gs (fun ρ' G' => mE X eltM ρ' G') ρ1 G3 acc = some (r, G') → P)
    (g2 : ∀ ρ1, asgO one tgt v ρ = some ρ1 → mAnd X ifs ρ1 G = some (.bool false, G') → r = acc → P) : P :=
  obk (o := asgO one tgt v ρ) h fun ρ1 h1 h => onBk h (fun G3 h2 h => g1 ρ1 G3 h1 h2 h) fun G3 h2 h => opk (P := fun r G' => (mAnd X ifs ρ1 G = some (.bool false, G') → r = acc → P) → P) h (fun g => g h2 rfl) (g2 ρ1 h1)

inductive CInv (c : CX) (fix : Kp) (kp0 : Kp) (φ : List Addr) (G' : GH) (sc : Sp) (nm : Nm) (ρ : Lo) (env : Env) (D : Addr) (acc' : List MV) (gd : Gd) (st : MV → GH → List MV → Option (List MV × GH)) (it : Value) (one : Bool) (n : Nat) (s : Shared) : Prop
  | mk {fix1 kp1 : Kp} {φ1 : List Addr} {G1 : GH} {acc1 : List MV} {items1 : List Itm} {fp1 : List (Addr × Obj)} : Le fix fix1 → φ <+: φ1 → loopC gd st items1 G1 acc1 = some (acc', G') → CSt c fix1 kp0 kp1 φ1 G1 s sc nm ρ env D acc1 → ItOk c fix1 kp1 φ1 s.heap it gd items1 fp1 → (∀ p ∈ fp1, p.1 ≠ D) → (one = true → fp1.length = 1) → items1.length = n →
      CInv c fix kp0 φ G' sc nm ρ env D acc' gd st it one n s
structure LpF (c : CX) (X : Ctx) (d : Nat) (gs : List MG) (eltM : ME) (tgt : List Nat) (one : Bool) (ifs : List ME) (sc0 : Sp) (nm0 : Nm) (sc : Sp) (nm : Nm) (nb : Nat) (ρ : Lo) (elt : PySem.Expr) (gens : List Comprehension) (dp : Nat) (g : Comprehension) : Prop where
  hB : BodyOk c X d gs eltM
  hI : AllK c X d ifs
  hg : gens[dp]? = some g
  ha : g.is_async = 0
  ht : tgtE sc nm one tgt g.target = true
  hnb : ∀ i ∈ tgt, nb ≤ i
  hci : chkTs c.S ifs sc nm g.ifs = true
  hcg : chkGs c.S gs false sc0 nm0 sc nm nb (gens.drop (dp + 1)) = true
  hce : chkE c.S eltM sc nm elt = true
  hnd : (tgt ++ gs.flatMap tgtG).Nodup
  hfree : ∀ i ∈ tgt ++ gs.flatMap tgtG, ∀ v, ρ[i]? ≠ some (some v)

section
variable {gs : List MG} {eltM : ME} {tgt : List Nat} {one : Bool} {ifs : List ME} {sc0 : Sp} {nm0 : Nm} {elt : PySem.Expr} {gens : List Comprehension} {scope : Scope} {pos : Pos} {dp : Nat} {g : Comprehension} {it : Value} {gd : Gd} {items : List Itm} {E : Value → Shared → Prop}
theorem comp_one (F : LpF c X d gs eltM tgt one ifs sc0 nm0 sc nm nb ρ elt gens dp g) (W : Own sc nm nb env kp0) (hA : AOk A d) {v : MV} {y : Value} (hst : stepC X one tgt ifs gs eltM ρ v G acc = some (acc', G')) (C : CSt c fix kp0 kp φ G s sc nm ρ env D acc) (vy : c.VR fix φ v y) {k : Sem PySem.Fin} {Q : PySem.Fin → Shared → Prop}
    (q : ∀ fix' kp' φ' s', Le fix fix' → φ <+: φ' → CSt c fix' kp0 kp' φ' G' s' sc nm ρ env D acc' → wpAny c.M A k Q E s') :
    wpAny c.M A (assign g.target env y) (fun _ s' => wpAny c.M A (do let ok ← ifsT env g.ifs true; if ok then compBody elt gens scope pos (dp + 1) (.ref D) env k else k) Q E s') E s := by
  refine C.openK (nb := nb) fun o S2 V2 le2 own2 FD close => ?_
  have key : ∀ {ρ1 : Lo}, asgO one tgt v ρ = some ρ1 → (∀ fix' kp' φ' s' b G3, mAnd X ifs ρ1 G = some (.bool b, G3) → Le fix fix' → φ <+: φ' → CSt c fix' kp0 kp' φ' G3 s' sc nm ρ1 env D acc → wpAny c.M A (if b then compBody elt gens scope pos (dp + 1) (.ref D) env k else k) Q E s') → ∀ {b : Bool} {G3 : GH}, mAnd X ifs ρ1 G = some (.bool b, G3) →
      wpAny c.M A (assign g.target env y) (fun _ s' => wpAny c.M A (do let ok ← ifsT env g.ifs true; if ok then compBody elt gens scope pos (dp + 1) (.ref D) env k else k) Q E s') E s := fun has h b G3 hand =>
    target_ok hA.handled V2 S2 (own2 W) le2 F.hnb F.ht has vy fun kp6 s6 le6 S6 V6 => wpAny_bind (row_ok row_ifs hA F.hI F.hci hand V6 S6 E _ fun fix7 φ7 b' s7 l7 p7 S7 hb => by
      rw [MV.bool.inj hb]
      exact h fix7 _ φ7 s7 b G3 hand l7 p7 (close l7 p7 le6 S7 (V6.mono l7 p7)))
  have hlow : ∀ {ρ1 : Lo}, asgO one tgt v ρ = some ρ1 → ∀ (i : Nat) (v : MV), ρ[i]? = some (some v) → ρ1[i]? = some (some v) := fun has i v e => (asgO_spec has i fun m => F.hfree i (List.mem_append_left _ m) v e).trans e
  refine stepC_k hst (fun ρ1 G3 has hand hmc => key has (fun fix7 kp7 φ7 s7 b G4 hb l7 p7 C7 => ?_) hand) fun ρ1 has hand hr => key has (fun fix7 kp7 φ7 s7 b G4 hb l7 p7 C7 => ?_) hand
  · obtain ⟨e1, e2⟩ := osome (hb.symm.trans hand)
    rw [MV.bool.inj e1, if_pos rfl]
    rw [e2] at C7
    have hn := List.nodup_append.mp F.hnd
    exact F.hB F.hcg F.hce hmc (fun i m v e => F.hfree i (List.mem_append_right _ m) v ((asgO_spec has i fun m' => hn.2.2 i m' i m rfl).symm.trans e)) hn.2.1 W C7 hA fun fix8 kp8 φ8 s8 l8 p8 C8 => q fix8 kp8 φ8 s8 (l7.trans l8) (p7.trans p8) (C8.lower (hlow has))
  · obtain ⟨e1, e2⟩ := osome (hb.symm.trans hand)
    rw [MV.bool.inj e1, if_neg (by decide)]
    rw [e2] at C7
    rw [hr] at q
    exact q fix7 kp7 φ7 s7 l7 p7 (C7.lower (hlow has))
theorem comp_loop (F : LpF c X d gs eltM tgt one ifs sc0 nm0 sc nm nb ρ elt gens dp g) (W : Own sc nm nb env kp0) (hA : AOk A d)
    (hl : loopC gd (stepC X one tgt ifs gs eltM ρ) items G acc = some (acc', G')) (C : CSt c fix kp0 kp φ G s sc nm ρ env D acc) (I : ItOk c fix kp φ s.heap it gd items fp) (hfp : one = true → fp.length = 1) (hfD : ∀ p ∈ fp, p.1 ≠ D) {R : Result → Shared → Prop}
    (hR : ∀ fix' kp' φ' s', Le fix fix' → φ <+: φ' → CSt c fix' kp0 kp' φ' G' s' sc nm ρ env D acc' → R (.ok .next) s') : codeAny c.M A (.compLoop (.ListComp elt gens scope pos) dp it (.ref D) env) R s := by
  refine codeAny_loop rfl (CInv c fix kp0 φ G' sc nm ρ env D acc' gd (stepC X one tgt ifs gs eltM ρ) it one) ?_ items.length (.mk (Le.refl _) (List.prefix_refl _) hl C I hfD hfp rfl)
  intro n s1 inv
  cases inv with
  | @mk fix1 kp1 φ1 G1 acc1 items1 fp1 le1 pre1 hl1 C1 I1 hfD1 hfp1 hn =>
  clear hl C I hfp hfD
  show wpAny _ A ((compTurn (.ListComp elt gens scope pos) dp it (.ref D) env).onRaise (fun x => do noteFrame x env; theTreesLotGoes x)) _ _ s1
  refine wpAny_noted ?_
  rw [compTurn_eq F.hg F.ha]
  refine wpAny_bind (wpAny_standAt ?_)
  refine C1.openK (nb := nb) fun o S2 V2 le2 own2 FD close => ?_
  have hkD : ∀ {fp : List (Addr × Obj)}, (∀ p ∈ fp, holdL kp1 [(D, o)] p.1 = none) → ∀ p ∈ fp, p.1 ≠ D := fun h p hp e => noS ((h p hp).symm.trans ((congrArg (holdL kp1 [(D, o)]) e).trans (FD.holdAt (.head _))))
  have I2 : ItOk c fix1 (holdL kp1 [(D, o)]) φ1 s1.heap it gd items1 fp1 := .of I1.d fun p hp => ⟨(I1.Free p hp).1, (I1.Free p hp).2.1, (holdL_out (allOne (Ne.symm (hfD1 p hp)))).trans (I1.Free p hp).2.2.1, (I1.Free p hp).2.2.2⟩
  clear I1 hfD1
  cases items1 with
  | nil =>
    refine loopC_nil (P := fun r => r = (acc', G') → _) hl1 (fun hgd e => ?_) rfl
    refine wpAny_bind (it_end I2 S2 hgd hA.handled fun s2 S3 => wpAny_pure (hR _ (cut (holdL kp1 [(D, o)]) [(D, o)]) _ _ le1 pre1 ?_))
    exact pairK' (P := fun acc' G' => CSt c fix1 kp0 (cut (holdL kp1 [(D, o)]) [(D, o)]) φ1 G' s2 sc nm ρ env D acc') e (close (Le.refl _) (List.prefix_refl _) le2 S3 V2)
  | cons x items2 =>
    refine loopC_k hl1 fun v acc2 G2 hgd hv hst hl2 => ?_
    refine wpAny_bind (it_step I2 S2 hgd hv (tgtE_fit F.ht) hfp1 fun fix2 y s2 fp2 l2 S3 vy I3 hlen => wpAny_bind ?_)
    have C3 := close l2 (List.prefix_refl _) le2 S3 (V2.mono l2 (List.prefix_refl _))
    have hfD2 := hkD fun p hp => (I3.Free p hp).2.2.1
    have I4 : Free fix2 (cut (holdL kp1 [(D, o)]) [(D, o)]) φ1 s2.heap fp2 := I3.Free.less cut_le
    exact comp_one F (W.hold C3.env I4.kpN) hA hst (C3.holdI I4 hfD2) vy fun fix8 kp8 φ8 s8 l8 p8 C8 => wpAny_pure ⟨rfl, items2.length, hn ▸ Nat.lt_succ_self _,
        .mk ((le1.trans l2).trans l8) (pre1.trans p8) hl2 (C8.dropI I4 C3.env C3.le).1 (.of (I3.d.mono l8 p8) (C8.dropI I4 C3.env C3.le).2) hfD2 (fun h => hlen.trans (hfp1 h)) rfl⟩
end
end
end Mine
end
section
set_option autoImplicit false
set_option linter.unusedSectionVars false
set_option linter.unusedVariables false
namespace Mine
open PySem PySem.W PyProof.Rows PySem.Calls

noncomputable def GK (c : CX) (X : Ctx) (d : Nat) : MG → Prop
  | .mk _ _ _ srcs ifs => AllK c X d srcs ∧ AllK c X d ifs

section
variable {c : CX} {X : Ctx} {d : Nat}

theorem drop_nil {α : Type} {l : List α} {n : Nat} (h : l.drop n = []) : l[n]? = none := List.getElem?_eq_none_iff.mpr (List.drop_eq_nil_iff.mp h)

section
variable {sc0 : Sp} {nm0 : Nm} {sc : Sp} {nm : Nm} {nb : Nat} {ρ : Lo} {env : Env} {A : Around} {fix kp0 kp : Kp} {φ : List Addr} {G G' : GH} {s : Shared} {D : Addr} {acc acc' : List MV} {elt : PySem.Expr} {gens : List Comprehension} {scope : Scope} {pos : Pos} {dp : Nat} {k : Sem PySem.Fin} {E : Value → Shared → Prop}
theorem app_ok {v : MV} {y : Value}
    (C : CSt c fix kp0 kp φ G s sc nm ρ env D acc) (vy : c.VR fix φ v y) (hz : acc.length < 4096) {Q : Value → Shared → Prop}
    (q : ∀ s' z, CSt c fix kp0 kp φ G s' sc nm ρ env D (acc ++ [v]) → Q z s') : wpAny c.M A (call (.builtin "list.append") [.ref D, y]) Q E s :=
  C.acc.elim fun xs a => a.elim fun n a => by
    have f := a.1 _ (.head _)
    refine wpAny_list_append_plain (hsz := sizeLine_ge (by rw [List.size_toArray, ← a.2.1.length]; exact Nat.le_trans (Nat.le_of_lt hz) (by decide))) ⟨n, f.1⟩ fun h' hp hs => hp.elim fun n' hn' => ?_
    refine q _ _ ⟨C.le, ⟨C.st.1.heap fun a o ha e => (hs.2 a fun q => ?_).trans e, C.st.2⟩, C.env, xs ++ [y], n', allOne ⟨?_, f.2⟩, a.2.1.append (.one vy), by rw [List.length_append]; exact hz⟩
    · rw [q] at ha
      rcases ha with ha | ha | ha
      · rw [f.2.1] at ha; exact noF ha
      · rw [f.2.2.1] at ha; exact noF ha
      · exact f.2.2.2 ha
    · show h'.get? D = some (lstObj (xs ++ [y]) n')
      rw [hn', List.push_toArray]
noncomputable def BodyG (c : CX) (A : Around) (E : Value → Shared → Prop) (elt : PySem.Expr) (gens : List Comprehension) (scope : Scope) (pos : Pos) (dp : Nat) (D : Addr) (env : Env) (k : Sem PySem.Fin) (fix kp0 : Kp) (φ : List Addr) (s : Shared) (sc : Sp) (nm : Nm) (ρ : Lo) (acc' : List MV) (G' : GH) : Prop :=
  ∀ {Q : PySem.Fin → Shared → Prop}, (∀ fix' kp' φ' s', Le fix fix' → φ <+: φ' → CSt c fix' kp0 kp' φ' G' s' sc nm ρ env D acc' → wpAny c.M A k Q E s') → wpAny c.M A (compBody elt gens scope pos dp (.ref D) env k) Q E s
theorem body_nil {eltM : ME} (hE : EK c X d eltM) (hcg : chkGs c.S [] false sc0 nm0 sc nm nb (gens.drop dp) = true) (hce : chkE c.S eltM sc nm elt = true) (hm : mC X [] (fun ρ' G' => mE X eltM ρ' G') ρ G acc = some (acc', G')) (C : CSt c fix kp0 kp φ G s sc nm ρ env D acc) (hA : AOk A d) :
    BodyG c A E elt gens scope pos dp D env k fix kp0 φ s sc nm ρ acc' G' :=
  iC_nil hm fun v G1 h1 hz e => pairK' (P := fun acc' G' => BodyG c A E elt gens scope pos dp D env k fix kp0 φ s sc nm ρ acc' G') e.symm fun q => by
    unfold compBody
    rw [drop_nil (List.isEmpty_iff.mp hcg)]
    exact C.openK (nb := nb) fun o S2 V2 le2 _ FD close => wpAny_bind (wpAny_bind (hE.1 hce h1 V2 S2 hA E _ fun f1 p1 y s1 l1 q1 S1 r1 => wpAny_bind (app_ok (close l1 q1 le2 S1 (V2.mono l1 q1)) r1 hz fun s' z C' => wpAny_pure (q _ _ _ _ l1 q1 C'))))
theorem cGs_k {g : MG} {r : List MG} {b : Bool} {S : Sta} {ys : List Comprehension} {P : Prop} (h : chkGs S (g :: r) b sc0 nm0 sc nm nb ys = true) (k : ∀ y t, ys = y :: t → chkG S g b sc0 nm0 sc nm nb y = true → chkGs S r false sc0 nm0 sc nm nb t = true → P) : P := match ys, h with
  | y :: t, h => k y t rfl (ott h).1 (ott h).2
theorem body_cons (O : c.Ok) {eltM : ME} {tgt : List Nat} {one : Bool} {sk : SK} {srcs ifs : List ME} {gs : List MG} (hB : BodyOk c X d gs eltM) (hG : GK c X d (.mk tgt one sk srcs ifs)) (hcg : chkGs c.S (.mk tgt one sk srcs ifs :: gs) false sc0 nm0 sc nm nb (gens.drop dp) = true) (hce : chkE c.S eltM sc nm elt = true)
    (hm : mC X (.mk tgt one sk srcs ifs :: gs) (fun ρ' G' => mE X eltM ρ' G') ρ G acc = some (acc', G')) (hfree : ∀ i ∈ (MG.mk tgt one sk srcs ifs :: gs).flatMap tgtG, ∀ v, ρ[i]? ≠ some (some v)) (hnd : ((MG.mk tgt one sk srcs ifs :: gs).flatMap tgtG).Nodup) (W : Own sc nm nb env kp0) (C : CSt c fix kp0 kp φ G s sc nm ρ env D acc) (hA : AOk A d) :
    BodyG c A E elt gens scope pos dp D env k fix kp0 φ s sc nm ρ acc' G' := fun {Q} q =>
  cGs_k hcg fun g gt hdr hc1 hrest => cG_one hc1 fun ha' hk1 ht hnb' hsrc hci => iC_cons hm fun vs G1 gd items h1 hs hm => by
    have hg := dropCons hdr
    unfold compBody
    rw [hg.1]
    simp only [ha', bne_self_eq_false, Bool.false_eq_true, if_false]
    refine C.openK (nb := nb) fun o S2 V2 le2 _ FD close => ?_
    refine wpAny_bind (wpAny_mono (src_ok O hG.1 hsrc h1 hs V2 S2 hA (E := E) (Q := fun it s2 => wpAny c.M A (runOwn (.compStart (.ListComp elt gens scope pos) dp it (.ref D) env) env) (fun _ s' => wpAny c.M A k Q E s') E s2) fun f1 p1 it s2 fp l1 q1 S1 I hfp => ?_) (fun x s1 hx => ?_) fun _ _ e => e)
    · have C1 := close l1 q1 le2 S1 (V2.mono l1 q1)
      have hfD : ∀ p ∈ fp, p.1 ≠ D := fun p hp e => noS ((I.Free p hp).2.2.1.symm.trans ((congrArg (holdL kp [(D, o)]) e).trans (FD.holdAt (.head _))))
      have I1 : ItOk c f1 (cut (holdL kp [(D, o)]) [(D, o)]) p1 s2.heap it gd items fp := .of I.d (I.Free.less cut_le)
      have F : LpF c X d gs eltM tgt one ifs sc0 nm0 sc nm nb ρ elt gens dp g := ⟨hB, hG.2, hg.1, ha', ht, hnb', hci, hg.2.symm ▸ hrest, hce, hnd, hfree⟩
      have loop := comp_loop (scope := scope) (pos := pos) (R := fun r s' => match r with | .ok f => wpAny c.M A k Q E s' | .error e => cameBackBy c.M A env E e s') F W hA hm C1 I1 (fun h => hfp (h ▸ hk1)) hfD
        fun f3 k3 p3 s3 l3 q3 C3 => q f3 k3 p3 s3 (l1.trans l3) (q1.trans q3) C3
      exact wpAny_runOwn (compStart_ok hg.1 ha' loop fun E' => it_self I1 loop)
    · exact wpAny_bind (wpAny_standAt (wpAny_bind (wpAny_of_eq (foldedSet_ok (srcSet hsrc) x) (wpAny_bind (wpAny_holding (wpAny_mono hx (fun it s2 hi => wpAny_bind hi) fun _ _ e => e))))))
end
theorem body_ok (O : c.Ok) {eltM : ME} (hE : EK c X d eltM) : ∀ {gs : List MG} (hG : ∀ g ∈ gs, GK c X d g), BodyOk c X d gs eltM := fun {gs} => List.rec (motive := fun gs => (∀ g ∈ gs, GK c X d g) → BodyOk c X d gs eltM)
  (fun _ => fun hcg hce hm _ _ _ C hA _ _ q => body_nil hE hcg hce hm C hA q)
  (fun g gs ih hG => match g, hG with
    | .mk _ _ _ _ _, hG => fun hcg hce hm hfree hnd W C hA _ _ q => body_cons O (ih fun g hg => hG g (.tail _ hg)) (hG _ (.head _)) hcg hce hm hfree hnd W C hA q) gs
end
end Mine
end
section
set_option autoImplicit false
set_option linter.unusedSectionVars false
set_option linter.unusedVariables false
namespace Mine
open PySem PySem.W PyProof.Rows PySem.Calls

section
variable {c : CX} {X : Ctx} {d : Nat}

theorem lookup_of_mem {α : Type} : ∀ {l : List (Str × α)} {n : Str} {k : α}, (l.map (·.1)).Nodup → (n, k) ∈ l → l.lookup n = some k
  | (m, j) :: r, n, k, hn, h0 => by
    have hn := List.nodup_cons.mp (show (m :: r.map (·.1)).Nodup from hn)
    rcases List.mem_cons.mp h0 with e | h
    · rw [← e, List.lookup_cons, beq_self_eq_true]
    · rw [List.lookup_cons, beq_eq_false_iff_ne.mpr fun (e : n = m) => hn.1 (List.mem_map.mpr ⟨(n, k), h, e⟩)]
      exact lookup_of_mem hn.2 h
theorem chkGs_nb {S : Sta} {sc0 sc : Sp} {nm0 nm : Nm} {nb : Nat} : ∀ {gs : List MG} {b : Bool} {xs : List Comprehension}, chkGs S gs b sc0 nm0 sc nm nb xs = true → ∀ i ∈ gs.flatMap tgtG, nb ≤ i
  | [], _, _, _, i, hi => absurd hi List.not_mem_nil
  | .mk tgt one k srcs ifs :: gs, b, xs, h, i, hi => cGs_k h fun _ _ _ h1 h2 => by
    rw [List.flatMap_cons, List.mem_append] at hi
    exact hi.elim (fun hi => cG_one h1 fun _ _ _ h4 _ _ => h4 i hi) fun hi => chkGs_nb h2 i hi

section
variable {sc : Sp} {nm : Nm} {ρ : Lo} {env : Env} {A : Around} {fix kp : Kp} {φ : List Addr} {G G' : GH} {s : Shared} {elt : PySem.Expr} {gens : List Comprehension} {scope : Scope} {pos p : Pos} {v : MV} {use : Option (Value → Sem Unit)} {E : Value → Shared → Prop} {Q : Value → Shared → Prop}
noncomputable def CompQ (c : CX) (A : Around) (fix kp : Kp) (φ : List Addr) (G' : GH) (v : MV) (E : Value → Shared → Prop) (use : Option (Value → Sem Unit)) (Q : Value → Shared → Prop) : Prop :=
  ∀ fix' kp' φ' y C s', Le fix fix' → φ <+: φ' → Le kp kp' → St c fix' kp' φ' G' s' → c.VR fix' φ' v y → kp C = none → (∃ o es ep, kp' C = some o ∧ o.data = .dict es ep ∧ StrKeys es) → compPost c.M A E use Q y C (.ok .next) s'
theorem comp_fin {m : Bool} {f1 k5 kp : Kp} {p1 : List Addr} {l : List MV} {G1 : GH} {s5 : Shared} {sc5 : Sp} {nm5 : Nm} {ρ5 : Lo} {env5 : Env} {kp0 : Kp} {D C : Addr} (h : (v, G') = mkL m l G1) (C5 : CSt c f1 kp0 k5 p1 G1 s5 sc5 nm5 ρ5 env5 D l) (l1 : Le fix f1) (q1 : φ <+: p1) (hD : sysModules < D) (hkC : kp C = none) (hk : Le kp k5) (fr : ∃ o es ep, k5 C = some o ∧ o.data = .dict es ep ∧ StrKeys es) (q : CompQ c A fix kp φ G' v E use Q) : compPost c.M A E use Q (.ref D) C (.ok .next) s5 :=
  C5.acc.elim fun xs a => a.elim fun n a => by
    have e := a.1 _ (.head _)
    cases m with
    | false =>
      refine pairK' (P := fun v G' => CompQ c A fix kp φ G' v E use Q → _) h.symm (fun q => ?_) q
      obtain ⟨R', l'⟩ := C5.st.1.freeze e.1 e.2.2.1 e.2.2.2 e.2.1
      exact q _ k5 p1 _ _ s5 (l1.trans l') q1 hk ⟨R', C5.st.2⟩ (.lst (upd_self _ _ _) (a.2.1.mono l' (List.prefix_refl _)) a.2.2) hkC fr
    | true =>
      refine pairK' (P := fun v G' => CompQ c A fix kp φ G' v E use Q → _) h.symm (fun q => ?_) q
      have R' := C5.st.1.grow e.1 e.2.1 e.2.2.1 e.2.2.2 (g := .lst l) ⟨xs, n, rfl, a.2.1.mono (Le.refl _) (List.prefix_append _ _), a.2.2⟩ hD
      exact q _ k5 _ _ _ s5 l1 (q1.trans (List.prefix_append _ _)) hk ⟨R', C5.st.2⟩ (.ref (C5.st.newAt _)) hkC fr
theorem comp_core (O : c.Ok) {m : Bool} {k : Nat} {eltM : ME} {gs : List MG} (hE : EK c X d eltM) (hG : ∀ g ∈ gs, GK c X d g)
    (hc : chkE c.S (.comp m k eltM gs) sc nm (.ListComp elt gens scope pos) = true) (hm : mE X (.comp m k eltM gs) ρ G = some (v, G')) (V : EnvOk c sc nm ρ env fix kp φ) (S : St c fix kp φ G s) (hA : AOk A d)
    (q : CompQ c A fix kp φ G' v E use Q) :
    wpAny c.M A (comprehension (.ListComp elt gens scope pos) scope env p (newList []) false (firstIter gens env) use) Q E s :=
  cC_facts hc fun hkind hso hlen hun hfst hnf hnd hcg hce => match gs, hcg, hG, hnd, hm with
  | [], hcg, _, _, _ => by
    cases gens with
    | nil => exact ft hfst
    | cons g gt => exact ft hcg
  | .mk tgt one sk srcs ifs :: gs, hcg, hG, hnd, hm => cGs_k hcg fun g gt hgens hc1 hrest => cG_one hc1 fun ha' hk1 ht hnb' hsrc hci => iE_comp hm fun l G1 hmc hl4 hmk => iC_cons hmc fun vs G2 gd items h1 hs hmc => by
    have hGK := hG _ (.head _)
    have V0 : EnvOk c sc nm (ρ ++ List.replicate k none) env fix kp φ := V.lower fun i v e => rep_none e
    have hfree : ∀ i ∈ (MG.mk tgt one sk srcs ifs :: gs).flatMap tgtG, ∀ v, (ρ ++ List.replicate k none)[i]? ≠ some (some v) := fun i hi v e => absurd (V0.len i v e) (Nat.not_lt.mpr (chkGs_nb hcg i hi))
    obtain ⟨cl, hclo, hcl⟩ := closureFor_ok V hso
    rw [hgens] at hlen hun hnf hrest hc1 ht hci hce ⊢
    refine wpAny_comprehension_free (g := g) (gs := gt) rfl (foldedSet_ok (srcSet hsrc)) hclo hkind (fun x hx hl => hl ▸ lookup_of_mem (of_decide_eq_true (ott hso).1) hx) ?_
    rw [show firstIter (g :: gt) env = eval g.iter env by cases g; rfl]
    refine src_ok O hGK.1 hsrc h1 hs V0 S hA fun f1 p1 it s1 fp l1 q1 S1 I hfp => ?_
    have V1 := V.mono l1 q1
    refine wpAny_newObj_type ?_ (show ([] : List Value).toArray.size ≤ sizeLine from Nat.zero_le _)
    have S2 : St c f1 kp p1 G2 { s1 with heap := s1.heap.push { cls := .type "list", dict := none, data := .seq ([] : List Value).toArray } } := ⟨S1.1.push _, S1.2⟩
    have nD := newFree S1 (Nat.le_refl _)
    refine newComp_ok V1 S2 hkind hso hun hnf hcl fun cenv s4 kp4 hCl l4 S4 V4 W4 hkpo hkeep => ?_
    have hsz : (s1.heap.push { cls := .type "list", dict := none, data := .seq ([] : List Value).toArray }).objs.size = s1.heap.objs.size + 1 := Heap.size_push ..
    have hDat : s4.heap.get? s1.heap.objs.size = some (lstObj [] 0) := hkeep _ _ (Heap.get?_push_size _ rfl)
    have hkD : kp4 s1.heap.objs.size = none := (hkpo _ (hsz ▸ Nat.lt_succ_self _)).trans nD.2.1
    have C0 : CSt c f1 kp kp4 p1 G2 s4 (relN sc scope.names) (maskN nm scope.names ++ (namesG (g :: gt)).map some) (ρ ++ List.replicate k none) { cenv with scope := relabel scope env } s1.heap.objs.size [] :=
      ⟨l4, S4, hlen ▸ V4, [], 0, allOne ⟨hDat, nD.1, hkD, nD.2.2⟩, .nil, Nat.zero_le _⟩
    have hlt : ∀ p ∈ fp, p.1 < s1.heap.objs.size := fun p hp => Heap.lt_size (I.Free p hp).1
    have I4 : ItOk c f1 kp4 p1 s4.heap it gd items fp := .of I.d fun p hp => ⟨hkeep _ _ (Heap.get?_push_of_some _ (I.Free p hp).1), (I.Free p hp).2.1, (hkpo _ (hsz ▸ Nat.lt_succ_of_lt (hlt p hp))).trans (I.Free p hp).2.2.1, (I.Free p hp).2.2.2⟩
    have F : LpF c X d gs eltM tgt one ifs sc nm (relN sc scope.names) (maskN nm scope.names ++ (namesG (g :: gt)).map some) nm.length (ρ ++ List.replicate k none) elt (g :: gt) 0 g := ⟨body_ok O hE (gs := gs) fun g hg => hG g (.tail _ hg), hGK.2, rfl, ha', ht, hnb', hci, hrest, hce, hnd, hfree⟩
    have loop := comp_loop (scope := scope) (pos := pos) (R := compPost c.M A E use Q (.ref s1.heap.objs.size) cenv.locals) F W4 hA hmc C0 I4 (fun h => hfp (h ▸ hk1)) (fun p hp => Nat.ne_of_lt (hlt p hp))
      fun f5 k5 p5 s5 l5 q5 C5 => comp_fin hmk C5 (l1.trans l5) (q1.trans q5) (S1.1.size (Nat.le_refl _)) W4.loc C5.le C5.env.frame q
    exact compStart_ok (g := g) rfl ha' loop fun E' => it_self I4 loop
end
end
end Mine
end
section
set_option autoImplicit false
set_option linter.unusedSectionVars false
set_option linter.unusedVariables false
namespace Mine
open PySem PySem.W PyProof.Rows PySem.Calls

section
variable {c : CX} {X : Ctx} {d : Nat}

theorem firstAsync_no {m : Bool} {k : Nat} {eltM : ME} {gs : List MG} {sc : Sp} {nm : Nm} {elt : PySem.Expr} {gens : List Comprehension} {scope : Scope} {pos : Pos}
    (hc : chkE c.S (.comp m k eltM gs) sc nm (.ListComp elt gens scope pos) = true) : firstAsync gens = false :=
  cC_facts hc fun _ _ _ _ hfst _ _ hcg _ => match gens, gs, hfst, hcg with
  | [], _, h, _ => ft h
  | _ :: _, [], _, h => ft h
  | ⟨t, i, f, a⟩ :: _, .mk _ _ _ _ _ :: _, _, h => cG_one (cG_cons h).1 fun (ha : a = 0) _ _ _ _ _ => ha ▸ rfl

theorem St.dropC {fix kp kp' : Kp} {φ : List Addr} {G : GH} {s : Shared} {C : Addr} {h' : Heap} (S : St c fix kp' φ G s) (l : Le kp kp') (hkC : kp C = none) {o : Obj} (h1 : kp' C = some o) (hs : Heap.SameBut C s.heap h') : St c fix kp φ G { s with heap := h' } := by
  refine ⟨(S.1.less l).heap fun a x ha e => (hs.2 a fun q => ?_).trans e, S.2⟩
  rw [q] at ha
  rcases ha with ha | ha | ha
  · rw [S.1.dj _ _ h1] at ha; exact noF ha
  · rw [hkC] at ha; exact noF ha
  · exact noS ((S.1.out _ ha).2.symm.trans h1)

theorem k_comp (O : c.Ok) {m : Bool} {k : Nat} {eltM : ME} {gs : List MG} (hE : EK c X d eltM) (hG : ∀ g ∈ gs, GK c X d g) : EK c X d (.comp m k eltM gs) := ⟨fun {sc nm ρ env A fix kp φ G G' s x v} hc hm V S hA => cE_comp (P := fun x => EvG c A fix kp φ x env s G' v) hc fun elt gens scope pos hc E Q q => by
  rw [eval_ListComp, firstAsync_no hc]
  exact comp_core O hE hG hc hm V S hA (use := none) fun f1 k1 p1 y C s1 l1 q1 lk S1 vy hkC fr => fr.elim fun o fr => fr.elim fun es fr => fr.elim fun ep h =>
    ⟨fun n => nsFind es n, ⟨o, es, ep, S1.1.kpK _ _ h.1, h.2.1, h.2.2, fun _ => rfl⟩, fun h' hs => q f1 p1 y _ l1 q1 (S1.dropC lk hkC h.1 hs) vy⟩, noT fun _ _ _ _ => rfl⟩

noncomputable def SrtOk (c : CX) (X : Ctx) (d : Nat) : Prop := ∀ a e m, EK c X d a → EK c X d e → EK c X d (.srtK a e m)

theorem eK (O : c.Ok) (hX : XOk c X) (hC : CallOk c X d) (hS : SrtOk c X d) (e : ME) : EK c X d e :=
  ME.rec (motive_1 := EK c X d) (motive_2 := GK c X d) (motive_3 := AllK c X d) (motive_4 := fun gs => ∀ g ∈ gs, GK c X d g)
    k_kN k_kB k_kI k_kS k_loc (k_gI O) (fun _ _ h => k_attr O hX h) (fun _ _ a b => k_sub O a b) (fun _ _ _ a b e => k_slc a b e) (fun _ a => k_rev a) (fun _ _ _ a b => k_bin a b) (fun _ a => k_neg a) (fun _ a => k_no a) (fun _ h => k_and h) (fun _ h => k_or h) (fun _ a => k_truth a)
    (fun _ _ _ a b => k_cmp a b) (fun _ _ _ _ _ a b e => k_cmp2 a b e) (fun _ _ _ a b e => k_ite a b e) (fun _ h => k_tup h) (fun _ _ h => k_lst h) (fun _ _ h => k_dct O h) k_dct0 (fun _ _ _ _ h hg => k_comp O h hg) (fun _ _ h => k_call O hC h) (fun _ _ h => k_new O hX hC h) (fun _ _ _ a h => k_meth O hX hC a h)
    (fun _ _ a => k_blt O a) (fun _ _ a b => k_app O a b) (fun _ a => k_pop O a) (fun _ _ _ a b e => k_get O a b e) (fun a e m ha he => hS a e m ha he) (fun _ _ _ _ => ⟨noE fun _ _ _ _ => rfl, noT fun _ _ _ _ => rfl⟩)
    (fun _ _ _ _ _ a b => ⟨a, b⟩) allNil (fun _ _ a b => allCons a b) allNil (fun _ _ a b => allCons a b) e
theorem esK (O : c.Ok) (hX : XOk c X) (hC : CallOk c X d) (hS : SrtOk c X d) (es : List ME) : AllK c X d es := fun e _ => eK O hX hC hS e
theorem gK (O : c.Ok) (hX : XOk c X) (hC : CallOk c X d) (hS : SrtOk c X d) : ∀ g : MG, GK c X d g
  | .mk _ _ _ srcs ifs => ⟨esK O hX hC hS srcs, esK O hX hC hS ifs⟩
theorem gsK (O : c.Ok) (hX : XOk c X) (hC : CallOk c X d) (hS : SrtOk c X d) (gs : List MG) : ∀ g ∈ gs, GK c X d g := fun g _ => gK O hX hC hS g
end
end Mine
end
section
set_option autoImplicit false
set_option linter.unusedSectionVars false
set_option linter.unusedVariables false
namespace Mine
open PySem PySem.W PyProof.Rows PySem.Calls

inductive FlR (c : CX) (fix : Kp) (φ : List Addr) : Fl → Flow → Prop
  | next : FlR c fix φ .next .next
  | brk : FlR c fix φ .brk .brk
  | cont : FlR c fix φ .cont .cont
  | ret {v : MV} {y : Value} : c.VR fix φ v y → FlR c fix φ (.ret v) (.ret y)
theorem FlR.mono {c : CX} {fix fix' : Kp} {φ φ' : List Addr} {a : Fl} {b : Flow} (h : FlR c fix φ a b) (l : Le fix fix') (p : φ <+: φ') : FlR c fix' φ' a b := by
  cases h with
  | next => exact .next
  | brk => exact .brk
  | cont => exact .cont
  | ret h => exact .ret (h.mono l p)

structure FSt (c : CX) (fix kp0 kp : Kp) (φ : List Addr) (G : GH) (s : Shared) (sc : Sp) (nm : Nm) (ρ : Lo) (env : Env) : Prop where
  le : Le kp0 kp
  st : St c fix kp φ G s
  env : EnvOk c sc nm ρ env fix kp φ

noncomputable def SQ (c : CX) (fix kp0 : Kp) (φ : List Addr) (G' : GH) (sc : Sp) (nm : Nm) (ρ' : Lo) (env : Env) (fl : Fl) (Q : Flow → Shared → Prop) : Prop := ∀ fix' kp' φ' f s', Le fix fix' → φ <+: φ' → FSt c fix' kp0 kp' φ' G' s' sc nm ρ' env → FlR c fix' φ' fl f → Q f s'
noncomputable def SG (c : CX) (A : Around) (fix kp0 : Kp) (φ : List Addr) (s : Shared) (sc : Sp) (nm : Nm) (env : Env) (G' : GH) (E : Value → Shared → Prop) (Q : Flow → Shared → Prop) (st : Stmt) (fl : Fl) (ρ' : Lo) : Prop := SQ c fix kp0 φ G' sc nm ρ' env fl Q → wpAny c.M A (exec st env) Q E s
noncomputable def SsG (c : CX) (A : Around) (fix kp0 : Kp) (φ : List Addr) (s : Shared) (sc : Sp) (nm : Nm) (env : Env) (E : Value → Shared → Prop) (Q : Flow → Shared → Prop) (sts : List Stmt) (fl : Fl) (ρ' : Lo) (G' : GH) : Prop := SQ c fix kp0 φ G' sc nm ρ' env fl Q → wpAny c.M A (execs sts env) Q E s
noncomputable def SOk (c : CX) (X : Ctx) (d : Nat) (x : MS) : Prop := ∀ {sc : Sp} {nm : Nm} {ρ ρ' : Lo} {env : Env} {A : Around} {fix kp0 kp : Kp} {φ : List Addr} {G G' : GH} {s : Shared} {st : Stmt} {fl : Fl},
  chkS c.S x sc nm st = true → mS X x ρ G = some (fl, ρ', G') → Own sc nm 0 env kp0 → FSt c fix kp0 kp φ G s sc nm ρ env → AOk A d → ∀ {E : Value → Shared → Prop} {Q : Flow → Shared → Prop}, SG c A fix kp0 φ s sc nm env G' E Q st fl ρ'
noncomputable def SsOk (c : CX) (X : Ctx) (d : Nat) (xs : List MS) : Prop := ∀ {sc : Sp} {nm : Nm} {ρ ρ' : Lo} {env : Env} {A : Around} {fix kp0 kp : Kp} {φ : List Addr} {G G' : GH} {s : Shared} {sts : List Stmt} {fl : Fl},
  chkSs c.S xs sc nm sts = true → mSs X xs ρ G = some (fl, ρ', G') → Own sc nm 0 env kp0 → FSt c fix kp0 kp φ G s sc nm ρ env → AOk A d → ∀ {E : Value → Shared → Prop} {Q : Flow → Shared → Prop}, SsG c A fix kp0 φ s sc nm env E Q sts fl ρ' G'

section
variable {c : CX} {X : Ctx} {d : Nat}

theorem iSs {X : Ctx} {x : MS} {r : List MS} {ρ ρ' : Lo} {G G' : GH} {fl : Fl} {P : Prop} (h : mSs X (x :: r) ρ G = some (fl, ρ', G')) (g1 : ∀ ρ1 G1, mS X x ρ G = some (.next, ρ1, G1) → mSs X r ρ1 G1 = some (fl, ρ', G') → P) (g2 : fl ≠ .next → mS X x ρ G = some (fl, ρ', G') → P) : P :=
  obk (o := mS X x ρ G) h fun o h1 h => by
    obtain ⟨f, ρ1, G1⟩ := o
    cases f with
    | next => exact g1 ρ1 G1 h1 h
    | brk => exact opk3 (P := fun fl ρ' G' => (fl ≠ .next → mS X x ρ G = some (fl, ρ', G') → P) → P) h (fun g => g nofun h1) g2
    | cont => exact opk3 (P := fun fl ρ' G' => (fl ≠ .next → mS X x ρ G = some (fl, ρ', G') → P) → P) h (fun g => g nofun h1) g2
    | ret v => exact opk3 (P := fun fl ρ' G' => (fl ≠ .next → mS X x ρ G = some (fl, ρ', G') → P) → P) h (fun g => g nofun h1) g2
theorem FlR.isNext {fix : Kp} {φ : List Addr} {f : Flow} (h : FlR c fix φ .next f) : f = .next := by cases h; rfl
theorem FlR.stop {fix : Kp} {φ : List Addr} {a : Fl} {f : Flow} (h : FlR c fix φ a f) (hn : a ≠ .next) : f ≠ .next := by
  cases h with
  | next => exact absurd rfl hn
  | _ => nofun
section
variable {sc : Sp} {nm : Nm} {ρ ρ' : Lo} {env : Env} {A : Around} {fix kp0 kp : Kp} {φ : List Addr} {G G' : GH} {s : Shared} {E : Value → Shared → Prop} {Q : Flow → Shared → Prop} {sts : List Stmt} {fl : Fl}
theorem ss_nil (hc : chkSs c.S [] sc nm sts = true) (hm : mSs X [] ρ G = some (fl, ρ', G')) (F : FSt c fix kp0 kp φ G s sc nm ρ env) : SsG c A fix kp0 φ s sc nm env E Q sts fl ρ' G' :=
  k0 (P := fun sts => SsG c A fix kp0 φ s sc nm env E Q sts fl ρ' G') hc (opk3 (P := SsG c A fix kp0 φ s sc nm env E Q []) hm fun q => wpAny_execs_nil (q fix kp φ _ s (Le.refl _) (List.prefix_refl _) F .next))
theorem cSs_k {S : Sta} {x : MS} {r : List MS} {P : List Stmt → Prop} (h : chkSs S (x :: r) sc nm sts = true) (g : ∀ y t, chkS S x sc nm y = true → chkSs S r sc nm t = true → P (y :: t)) : P sts := match sts, h with
  | y :: t, h => g y t (ott h).1 (ott h).2
theorem notNext {fo : Flow} {T : Prop} {s1 : Shared} (h : fo ≠ .next) (hq : Q fo s1) : (match (generalizing := false) fo with | .next => T | f => Q f s1 : Prop) := by
  cases fo with
  | next => exact absurd rfl h
  | _ => exact hq
theorem ss_cons {x : MS} {xs : List MS} (hx : SOk c X d x) (ih : SsOk c X d xs) (hc : chkSs c.S (x :: xs) sc nm sts = true) (hm : mSs X (x :: xs) ρ G = some (fl, ρ', G')) (W : Own sc nm 0 env kp0) (F : FSt c fix kp0 kp φ G s sc nm ρ env) (hA : AOk A d) : SsG c A fix kp0 φ s sc nm env E Q sts fl ρ' G' :=
  cSs_k (P := fun sts => SsG c A fix kp0 φ s sc nm env E Q sts fl ρ' G') hc fun st sts hc1 hc2 q => wpAny_execs_cons (iSs hm
    (fun ρ1 G1 h1 hm => hx hc1 h1 W F hA fun f1 k1 p1 fo s1 l1 q1 F1 r1 => by
      rw [r1.isNext]
      exact ih hc2 hm W F1 hA fun f2 k2 p2 fo2 s2 l2 q2 F2 r2 => q f2 k2 p2 fo2 s2 (l1.trans l2) (q1.trans q2) F2 r2)
    fun hne hm => hx hc1 hm W F hA fun f1 k1 p1 fo s1 l1 q1 F1 r1 => notNext (r1.stop hne) (q _ _ _ _ _ l1 q1 F1 r1))
theorem ss_ok : ∀ {xs : List MS} (h : ∀ x ∈ xs, SOk c X d x), SsOk c X d xs := fun {xs} => List.rec (motive := fun xs => (∀ x ∈ xs, SOk c X d x) → SsOk c X d xs) (fun _ => fun hc hm _ F _ => ss_nil hc hm F) (fun x xs ih h => fun hc hm W F hA => ss_cons (h x (.head _)) (ih fun y hy => h y (.tail _ hy)) hc hm W F hA) xs
end
section
variable {sc : Sp} {nm : Nm} {ρ ρ' : Lo} {env : Env} {A : Around} {fix kp0 kp : Kp} {φ : List Addr} {G G' : GH} {s : Shared}
theorem interactive_no (V : EnvOk c sc nm ρ env fix kp φ) : interactive env = false := by
  unfold interactive; rw [V.kind]; rfl

theorem notComp {x : PySem.Expr} {l : Nat} (h : isComp x = false) : swapsWith x none l env = pure false := by
  cases x <;> first | rfl | exact nomatch h
theorem s_expr {a : ME} (ha : EK c X d a) : SOk c X d (.expr a) := by
  intro sc nm ρ ρ' env A fix kp0 kp φ G G' s st fl hc hm W F hA E Q
  exact cS_expr (P := fun st => SG c A fix kp0 φ s sc nm env G' E Q st fl ρ') hc fun x pos c1 c2 => iS_expr (Pl := fun fl ρ' => SG c A fix kp0 φ s sc nm env G' E Q (.Expr x pos) fl ρ') hm fun v h1 q =>
    wpAny_Expr_any (ha.1 c1 h1 F.env F.st hA E _ fun f1 p1 y s1 l1 q1 S1 r1 => q f1 kp p1 _ s1 l1 q1 ⟨F.le, S1, F.env.mono l1 q1⟩ .next) (interactive_no F.env) (notComp c2)
theorem swaps_attr {value o : PySem.Expr} {n : Str} {p : Pos} {l : Nat} : swapsWith value (some (.Attribute o n p)) l env = pure false := by cases value <;> rfl
theorem swaps_sub {value o i : PySem.Expr} {p : Pos} {l : Nat} : swapsWith value (some (.Subscript o i p)) l env = pure false := by cases value <;> rfl
theorem swaps_tup {value : PySem.Expr} {ts : List PySem.Expr} {k : Nat} {p : Pos} {l : Nat} : swapsWithSole [.Tuple ts k p] value l env = pure false := by cases value <;> rfl

theorem s_asgA (O : c.Ok) (hX : XOk c X) {o a : ME} {k : Nat} (ho : EK c X d o) (ha : EK c X d a) : SOk c X d (.asgA o k a) := by
  intro sc nm ρ ρ' env A fix kp0 kp φ G G' s st fl hc hm W F hA E Q
  exact cS_asgA (P := fun st => SG c A fix kp0 φ s sc nm env G' E Q st fl ρ') hc fun y n p v pos c1 c2 c3 => iS_asgA (Pl := fun fl ρ' => SG c A fix kp0 φ s sc nm env G' E Q (.Assign [.Attribute y n p] v pos) fl ρ') hm fun x1 G1 v1 G2 h1 h2 h3 q =>
    plainObj_wpAny_Assign_Attribute (ha.1 c1 h1 F.env F.st hA E _ fun f1 p1 y s1 l1 q1 S1 r1 => ho.1 c2 h2 (F.env.mono l1 q1) S1 hA E _ fun f2 p2 z s2 l2 q2 S2 r2 =>
      aSet_ok O hX.atr c3 h3 S2 r2 (r1.mono l2 q2) E _ fun f3 p3 u s3 l3 q3 S3 _ => q f3 kp p3 _ s3 ((l1.trans l2).trans l3) ((q1.trans q2).trans q3) ⟨F.le, S3, F.env.mono ((l1.trans l2).trans l3) ((q1.trans q2).trans q3)⟩ .next) swaps_attr
theorem s_asgS (O : c.Ok) {o i a : ME} (ho : EK c X d o) (hi : EK c X d i) (ha : EK c X d a) : SOk c X d (.asgS o i a) := by
  intro sc nm ρ ρ' env A fix kp0 kp φ G G' s st fl hc hm W F hA E Q
  exact cS_asgS (P := fun st => SG c A fix kp0 φ s sc nm env G' E Q st fl ρ') hc fun y z p v pos c1 c2 c3 => iS_asgS (Pl := fun fl ρ' => SG c A fix kp0 φ s sc nm env G' E Q (.Assign [.Subscript y z p] v pos) fl ρ') hm fun x1 G1 v1 G2 w1 G3 h1 h2 h3 h4 q =>
    wpAny_Assign_Subscript (ha.1 c1 h1 F.env F.st hA E _ fun f1 p1 y s1 l1 q1 S1 r1 => ho.1 c2 h2 (F.env.mono l1 q1) S1 hA E _ fun f2 p2 z s2 l2 q2 S2 r2 => hi.1 c3 h3 (F.env.mono (l1.trans l2) (q1.trans q2)) S2 hA E _ fun f3 p3 u s3 l3 q3 S3 r3 =>
      subSet_ok O.tabN h4 S3 (r2.mono l3 q3) r3 (r1.mono (l2.trans l3) (q2.trans q3)) E _ fun f4 p4 u s4 l4 q4 S4 _ => q f4 kp p4 _ s4 (((l1.trans l2).trans l3).trans l4) (((q1.trans q2).trans q3).trans q4) ⟨F.le, S4, F.env.mono (((l1.trans l2).trans l3).trans l4) (((q1.trans q2).trans q3).trans q4)⟩ .next) swaps_sub
theorem s_if {t : ME} {a b : List MS} (ht : EK c X d t) (ha : SsOk c X d a) (hb : SsOk c X d b) : SOk c X d (.ifS t a b) := by
  intro sc nm ρ ρ' env A fix kp0 kp φ G G' s st fl hc hm W F hA E Q
  exact cS_if (P := fun st => SG c A fix kp0 φ s sc nm env G' E Q st fl ρ') hc fun _ _ _ _ c1 c2 c3 => iS_if hm
    (fun G1 h1 hm q => wpAny_If (ht.2 c1 h1 F.env F.st hA E _ fun f1 p1 y s1 l1 q1 S1 r1 => by
      rw [if_pos r1]
      exact ha c2 hm W ⟨F.le, S1, F.env.mono l1 q1⟩ hA fun f2 k2 p2 z s2 l2 q2 F2 r2 => q f2 k2 p2 z s2 (l1.trans l2) (q1.trans q2) F2 r2))
    (fun G1 h1 hm q => wpAny_If (ht.2 c1 h1 F.env F.st hA E _ fun f1 p1 y s1 l1 q1 S1 r1 => by
      rw [if_neg (r1 ▸ Bool.false_ne_true)]
      exact hb c3 hm W ⟨F.le, S1, F.env.mono l1 q1⟩ hA fun f2 k2 p2 z s2 l2 q2 F2 r2 => q f2 k2 p2 z s2 (l1.trans l2) (q1.trans q2) F2 r2))
theorem s_ret {a : ME} (ha : EK c X d a) : SOk c X d (.ret a) := by
  intro sc nm ρ ρ' env A fix kp0 kp φ G G' s st fl hc hm W F hA E Q
  refine cS_ret (P := fun st => SG c A fix kp0 φ s sc nm env G' E Q st fl ρ') hc (fun x pos c1 => iS_ret (Pl := fun fl ρ' => SG c A fix kp0 φ s sc nm env G' E Q (.Return (some x) pos) fl ρ') hm fun v h1 q =>
    wpAny_Return_some (ha.1 c1 h1 F.env F.st hA E _ fun f1 p1 y s1 l1 q1 S1 r1 => q f1 kp p1 _ s1 l1 q1 ⟨F.le, S1, F.env.mono l1 q1⟩ (.ret r1))) fun pos c1 => iS_ret (Pl := fun fl ρ' => SG c A fix kp0 φ s sc nm env G' E Q (.Return none pos) fl ρ') hm fun v h1 => ?_
  rw [isKN_eq c1] at h1
  exact opk (P := fun v G' => SG c A fix kp0 φ s sc nm env G' E Q (.Return none pos) (.ret v) ρ) h1 fun q => wpAny_Return_none (q fix kp φ _ s (Le.refl _) (List.prefix_refl _) F (.ret .none))
theorem s_pass : SOk c X d .pass := by
  intro sc nm ρ ρ' env A fix kp0 kp φ G G' s st fl hc hm W F hA E Q
  exact cS_pass (P := fun st => SG c A fix kp0 φ s sc nm env G' E Q st fl ρ') hc fun p => opk3 (P := fun fl ρ' G' => SG c A fix kp0 φ s sc nm env G' E Q (.Pass p) fl ρ') hm fun q => wpAny_Pass (q fix kp φ _ s (Le.refl _) (List.prefix_refl _) F .next)
theorem s_cont : SOk c X d .cont := by
  intro sc nm ρ ρ' env A fix kp0 kp φ G G' s st fl hc hm W F hA E Q
  exact cS_cont (P := fun st => SG c A fix kp0 φ s sc nm env G' E Q st fl ρ') hc fun p => opk3 (P := fun fl ρ' G' => SG c A fix kp0 φ s sc nm env G' E Q (.Continue p) fl ρ') hm fun q => wpAny_Continue (q fix kp φ _ s (Le.refl _) (List.prefix_refl _) F .cont)
theorem s_brk : SOk c X d .brk := by
  intro sc nm ρ ρ' env A fix kp0 kp φ G G' s st fl hc hm W F hA E Q
  exact cS_brk (P := fun st => SG c A fix kp0 φ s sc nm env G' E Q st fl ρ') hc fun p => opk3 (P := fun fl ρ' G' => SG c A fix kp0 φ s sc nm env G' E Q (.Break p) fl ρ') hm fun q => wpAny_Break (q fix kp φ _ s (Le.refl _) (List.prefix_refl _) F .brk)
end
end
end Mine
end
section
set_option autoImplicit false
set_option linter.unusedSectionVars false
set_option linter.unusedVariables false
namespace Mine
open PySem PySem.W PyProof.Rows PySem.Calls

section
variable {c : CX} {X : Ctx} {d : Nat}

theorem EnvOk.up {sc : Sp} {nm : Nm} {ρ : Lo} {env : Env} {fix kp kp' : Kp} {φ : List Addr} (V : EnvOk c sc nm ρ env fix kp φ) (l : Le kp kp') : EnvOk c sc nm ρ env fix kp' φ :=
  V.at (by obtain ⟨o, _, _, h, _⟩ := V.frame; rw [h, l _ _ h]) fun x a hne hx ha => by
    obtain ⟨b, hb, o, v, h1, _⟩ := V.cells x hne hx
    rw [ha] at hb; cases hb
    rw [h1, l _ _ h1]

theorem swaps_name {v : PySem.Expr} {x : Str} {p : Pos} {l : Nat} {env : Env} (h : okE v = true) : (∃ elt gens scope pos, v = .ListComp elt gens scope pos) ∨ swapsWith v (some (.Name x p)) l env = pure false := by
  cases v <;> first | exact .inr rfl | exact .inl ⟨_, _, _, _, rfl⟩ | exact ft h
theorem cE_isComp {S : Sta} {a : ME} {sc : Sp} {nm : Nm} {elt : PySem.Expr} {gens : List Comprehension} {scope : Scope} {pos : Pos} (h : chkE S a sc nm (.ListComp elt gens scope pos) = true) : ∃ m k eltM gs, a = .comp m k eltM gs := by
  cases a with
  | comp m k e gs => exact ⟨m, k, e, gs, rfl⟩
  | srtK a e m => exact ft (ott h).2
  | _ => exact ft h
theorem lookS {C : Addr} {o : Obj} : ([(C, o)] : List (Addr × Obj)).lookup C = some o := by rw [List.lookup_cons]; simp
theorem lookN {a C : Addr} {o : Obj} (h : ¬ a = C) : ([(C, o)] : List (Addr × Obj)).lookup a = none := by rw [List.lookup_cons, beq_eq_false_iff_ne.mpr h]; rfl
theorem s_asg (O : c.Ok) {i : Nat} {a : ME} (ha : EK c X d a) (hcp : ∀ m k elt gs, a = .comp m k elt gs → EK c X d elt ∧ ∀ g ∈ gs, GK c X d g) : SOk c X d (.asg i a) := by
  intro sc nm ρ ρ' env A fix kp0 kp φ G G' s st fl hc hm W F hA E Q
  refine cS_asg (P := fun st => SG c A fix kp0 φ s sc nm env G' E Q st fl ρ') hc fun x p v pos htg hca hok => iS_asg (Pf := fun fl => SG c A fix kp0 φ s sc nm env G' E Q (.Assign [.Name x p] v pos) fl ρ') hm fun v1 h1 hs1 q => ?_
  have plain : swapsWith v (some (.Name x p)) pos.line env = pure false → wpAny c.M A (exec (.Assign [.Name x p] v pos) env) Q E s := fun hsw => by
    refine wpAny_Assign_Name ?_ hsw
    refine ha.1 hca h1 F.env F.st hA E _ fun f1 p1 y s1 l1 q1 S1 r1 => ?_
    exact store_ok (F.env.mono l1 q1) S1 W F.le (Nat.zero_le _) htg hs1 r1 fun k2 s2 l2 S2 V2 => q f1 k2 p1 _ s2 l1 q1 ⟨l2, S2, V2⟩ .next
  rcases swaps_name (x := x) (p := p) (l := pos.line) (env := env) hok with ⟨elt, gens, scope, cpos, rfl⟩ | hsw
  rotate_left
  · exact plain hsw
  obtain ⟨b, hb⟩ : ∃ b, swapsWith (.ListComp elt gens scope cpos) (some (.Name x p)) pos.line env = pure b := ⟨_, rfl⟩
  cases b with
  | false => exact plain hb
  | true =>
    obtain ⟨m, k, eltM, gs, rfl⟩ := cE_isComp hca
    obtain ⟨hE, hG⟩ := hcp _ _ _ _ rfl
    rw [exec_Assign_Name_used _ _ _ _ hb]
    refine wpAny_bind (wpAny_standAt (wpAny_bind ?_))
    show wpAny _ A (do let _ ← comprehension (.ListComp elt gens scope cpos) scope env (firstIterPos gens cpos) (newList []) (firstAsync gens) (firstIter gens env) (some (assign (.Name x p) env))) _ _ s
    rw [firstAsync_no hca]
    refine wpAny_bind (wpAny_mono (comp_core O hE hG hca h1 F.env F.st hA (use := some (assign (.Name x p) env)) (Q := fun _ s' => Q .next s') fun f1 k1 p1 y C s1 l1 q1 lk S1 vy hkC fr => ?_) (fun _ s' hq => wpAny_pure (wpAny_pure hq)) fun _ _ e => e)
    obtain ⟨o, es, ep, g1, g2, g3⟩ := fr
    have hCn : ∀ p ∈ [(C, o)], kp p.1 = none := fun p hp => by rw [List.mem_singleton] at hp; subst hp; exact hkC
    have V1 : EnvOk c sc nm ρ env f1 k1 p1 := (F.env.mono l1 q1).up lk
    have hle : Le (holdL kp0 [(C, o)]) k1 := fun a x e => by
      unfold holdL at e
      by_cases hac : a = C
      · subst hac
        rw [lookS] at e
        cases e
        exact g1
      · rw [lookN hac] at e
        exact lk _ _ (F.le _ _ e)
    have hCC : (holdL kp0 [(C, o)]) C = some o := by
      unfold holdL
      rw [lookS]; rfl
    refine wpAny_assign_Name (store_ok V1 S1 (W.hold F.env hCn) hle (Nat.zero_le _) htg hs1 vy fun k2 s2 l2 S2 V2 => ?_)
    have hk2 : k2 C = some o := l2 _ _ hCC
    refine ⟨fun n => nsFind es n, ⟨o, es, ep, S2.1.kpK _ _ hk2, g2, g3, fun _ => rfl⟩, fun h' hsb => ?_⟩
    have le0 : Le kp0 (Mine.cut k2 [(C, o)]) := fun a x e => by
      have hac : ∀ p ∈ [(C, o)], p.1 ≠ a := fun p hp => by
        rw [List.mem_singleton] at hp; subst hp
        rintro rfl
        have := F.le _ _ e; rw [hkC] at this; cases this
      rw [cut_out hac]
      exact l2 _ _ ((holdL_out hac).trans e)
    exact q f1 (Mine.cut k2 [(C, o)]) p1 _ _ l1 q1 ⟨le0, S2.dropC cut_le (cut_in (p := (C, o)) (.head _)) hk2 hsb, F.env.cut hCn V2⟩ .next

theorem swNo_none {sc : Sp} {nm : Nm} {ρ : Lo} {env : Env} {fix kp : Kp} {φ : List Addr} {ts : List PySem.Expr} {k : Nat} {p : Pos} {v : PySem.Expr} (V : EnvOk c sc nm ρ env fix kp φ) (h : swNo sc ts v = true) : swappedStores [.Tuple ts k p] v env = pure none := by
  unfold swappedStores
  cases v with
  | Tuple vs k2 p2 =>
    have h := (Bool.or_eq_true _ _).mp (show (!(ts.length == 2 || ts.length == 3) || !(vs.length == ts.length) || ts.any fun t => match nameO t with | some x => !(sc.lookup x == some .local) | none => true) = true from h)
    dsimp only
    split
    · rfl
    · rename_i hn
      split
      · rfl
      · rw [if_pos]
        simp only [Bool.or_eq_true, not_or, bne, Bool.not_eq_true] at hn
        rcases h with h | h
        · rcases (Bool.or_eq_true _ _).mp h with h | h
          · rw [hn.1.1] at h; cases h
          · rw [hn.1.2] at h; cases h
        · rw [Bool.or_eq_true]
          left
          rw [bne_iff_ne]
          refine Nat.ne_of_lt (List.length_filterMap_lt_length_iff_exists.mpr ?_)
          obtain ⟨t, ht, hq⟩ := List.any_eq_true.mp h
          refine ⟨t, ht, ?_⟩
          clear h ht hn
          cases t <;> first | rfl | skip
          rename_i x px
          have hq : (!(sc.lookup x == some .local)) = true := hq
          show (if (_ && _) = true then _ else _) = none
          rw [V.kindOf]
          rw [if_neg]
          intro q
          rw [Bool.and_eq_true] at q
          rw [q.1] at hq
          cases hq
  | _ => rfl

theorem tgtE_tup {sc : Sp} {nm : Nm} {is : List Nat} {ts : List PySem.Expr} {k : Nat} {p : Pos} (h : tgtsOk sc nm is ts = true) : tgtE sc nm false is (.Tuple ts k p) = true := by
  have e : tgtE sc nm false is (.Tuple ts k p) = tgtsOk sc nm is ts := by kernel_rfl
  exact e.trans h
theorem s_asgT {is : List Nat} {a : ME} (ha : EK c X d a) : SOk c X d (.asgT is a) := by
  intro sc nm ρ ρ' env A fix kp0 kp φ G G' s st fl hc hm W F hA E Q
  refine cS_asgT (P := fun st => SG c A fix kp0 φ s sc nm env G' E Q st fl ρ') hc fun ts k p v pos htg hca hsw => iS_asgT (Pf := fun fl => SG c A fix kp0 φ s sc nm env G' E Q (.Assign [.Tuple ts k p] v pos) fl ρ') hm fun l h1 hs1 q => ?_
  refine Assign_Tuple ?_ swaps_tup (swNo_none F.env hsw)
  refine ha.1 hca h1 F.env F.st hA E _ fun f1 p1 y s1 l1 q1 S1 r1 => ?_
  exact target_ok (one := false) (tgt := is) (t := .Tuple ts _ _) (v := .tup l) (ρ' := ρ') hA.handled (F.env.mono l1 q1) S1 W F.le (fun i _ => Nat.zero_le _) (tgtE_tup htg) hs1 r1 fun k2 s2 l2 S2 V2 => q f1 k2 p1 _ s2 l1 q1 ⟨l2, S2, V2⟩ .next
theorem fm_congr {α β : Type} {f g : α → Option β} : ∀ {l : List α}, (∀ x ∈ l, f x = g x) → l.filterMap f = l.filterMap g
  | [], _ => rfl
  | a :: l, h => by
    rw [List.filterMap_cons, List.filterMap_cons, h a (.head _), fm_congr fun x m => h x (.tail _ m)]
theorem fm_len {α β : Type} {f : α → Option β} : ∀ {l : List α}, (∀ x ∈ l, ∃ y, f x = some y) → (l.filterMap f).length = l.length
  | [], _ => rfl
  | a :: l, h => by
    obtain ⟨y, hy⟩ := h a (.head _)
    rw [List.filterMap_cons, hy, List.length_cons, List.length_cons, fm_len fun x m => h x (.tail _ m)]
theorem tgts_len {sc : Sp} {nm : Nm} : ∀ {is : List Nat} {ts : List PySem.Expr}, tgtsOk sc nm is ts = true → is.length = ts.length
  | [], _, h => k0 (P := fun ts => 0 = ts.length) h rfl
  | i :: is, [], h => nomatch h
  | i :: is, t :: ts, h => congrArg Nat.succ (kENam (P := fun _ => is.length = ts.length) (k := fun x _ => tgtOk sc nm i x && tgtsOk sc nm is ts) h fun x p h => tgts_len (ott h).2)
theorem tn_app {sc : Sp} {nm : Nm} : ∀ {is js : List Nat} {xs ys : List Str}, tnOk sc nm is xs = true → tnOk sc nm js ys = true → tnOk sc nm (is ++ js) (xs ++ ys) = true
  | [], js, xs, ys, h, h2 => k0 (P := fun xs => tnOk sc nm js (xs ++ ys) = true) h h2
  | i :: is, js, [], ys, h, h2 => nomatch h
  | i :: is, js, x :: xs, ys, h, h2 => Bool.and_eq_true_iff.mpr ⟨(ott h).1, tn_app (ott h).2 h2⟩
theorem tn_rev {sc : Sp} {nm : Nm} : ∀ {is : List Nat} {xs : List Str}, tnOk sc nm is xs = true → tnOk sc nm is.reverse xs.reverse = true
  | [], xs, h => k0 (P := fun xs => tnOk sc nm [] xs.reverse = true) h rfl
  | i :: is, [], h => nomatch h
  | i :: is, x :: xs, h => by
    rw [List.reverse_cons, List.reverse_cons]
    exact tn_app (tn_rev (ott h).2) (Bool.and_eq_true_iff.mpr ⟨(ott h).1, rfl⟩)
theorem actsB {M : Model} {env : Env} : ∀ {xs : List Str}, Acts M env (xs.map fun n => bindName env n) xs
  | [] => rfl
  | _ :: _ => ⟨fun h => wpAny_bindName h, actsB⟩

theorem swYes_some {sc : Sp} {nm : Nm} {ρ : Lo} {env : Env} {fix kp : Kp} {φ : List Addr} {ts : List PySem.Expr} {k : Nat} {p : Pos} {v : PySem.Expr} (V : EnvOk c sc nm ρ env fix kp φ) (h : swYes sc ts v = true) : swappedStores [.Tuple ts k p] v env = pure (some (ts.filterMap nameO)) ∧ (ts.filterMap nameO).length = ts.length := by
  refine kETup (P := fun v => swappedStores [.Tuple ts k p] v env = pure (some (ts.filterMap nameO)) ∧ _) h fun vs k2 p2 h => ?_
  refine ak h fun h h7 => ak h fun h h6 => ak h fun h h5 => ak h fun h h4 => ak h fun h h3 => ak h fun h1 h2 => ?_
  have hall : ∀ {P : PySem.Expr → Prop}, (∀ x px, sc.lookup x = some .local → (px.line == lineOf ts) = true → P (.Name x px)) → ∀ t ∈ ts, P t := fun g t ht =>
    kENam (k := fun x p => sc.lookup x == some .local && p.line == lineOf ts) (List.all_eq_true.mp h3 t ht) fun x px h => g x px (beq_ok (ott h).1) (ott h).2
  have hlen : (ts.filterMap nameO).length = ts.length := fm_len (hall fun x px _ _ => ⟨x, rfl⟩)
  refine ⟨?_, hlen⟩
  have h4' : (ts.filterMap nameO).eraseDups.length = ts.length := eq_of_beq h4
  have hn : ∀ {f : PySem.Expr → Option Str}, (∀ x px, sc.lookup x = some .local → (px.line == lineOf ts) = true → f (.Name x px) = some x) → ts.filterMap f = ts.filterMap nameO := fun h => fm_congr (hall h)
  have h7' := (Bool.not_eq_true' _).mp h7
  unfold swappedStores
  dsimp only
  have hb : env.blockKind = .function := by unfold Env.blockKind; rw [V.kind]; rfl
  rw [if_neg (by simp only [h1, bne, h2, hb]; decide)]
  rw [if_neg (fun hq => by have := h7'.symm.trans hq; cases this)]
  rw [hn fun x px g1 g2 => by
    show (if (env.kindOf x == some .local && px.line == (ts.head?.map (·.pos.line)).getD 0) = true then some x else none) = some x
    rw [if_pos]
    rw [V.kindOf, g1, Bool.and_eq_true]
    exact ⟨by decide, g2⟩]
  rw [if_neg (by rw [hlen, h4']; simp)]
  rw [if_neg (by rw [(Bool.not_eq_true' _).mp h5]; decide), if_neg (by rw [(Bool.not_eq_true' _).mp h6]; decide)]

theorem s_asgW {is : List Nat} {a : ME} (ha : EK c X d a) : SOk c X d (.asgW is a) := by
  intro sc nm ρ ρ' env A fix kp0 kp φ G G' s st fl hc hm W F hA E Q
  refine cS_asgW (P := fun st => SG c A fix kp0 φ s sc nm env G' E Q st fl ρ') hc fun ts k p v pos htg hca hsw => iS_asgW (Pf := fun fl => SG c A fix kp0 φ s sc nm env G' E Q (.Assign [.Tuple ts k p] v pos) fl ρ') hm fun l h1 hlen hs1 q => ?_
  obtain ⟨hsome, hnl⟩ := swYes_some (k := _) (p := _) F.env hsw
  refine Assign_Tuple_swapped ?_ swaps_tup hsome
  refine ha.1 hca h1 F.env F.st hA E _ fun f1 p1 y s1 l1 q1 S1 r1 => ?_
  obtain ⟨a, xs, n, rfl, hf, r⟩ := tupIn r1
  have hll := r.length
  have hnt : (ts.filterMap nameO).length = xs.toArray.size := by
    rw [hnl, List.size_toArray, ← hll, ← hlen]
    rw [tgts_len htg]
  rw [hnt]
  refine unpackItems_tuple hA.handled ⟨_, S1.1.fixK _ _ hf, rfl, n, rfl⟩ fun h' hx => ?_
  have S' : St c f1 kp p1 G' { s1 with heap := h' } := ⟨S1.1.heap fun b o hb e => hx b o (fun q => by
    have := Heap.lt_size e
    rw [q] at this
    exact Nat.lt_irrefl _ this) e, S1.2⟩
  exact acts_ok W (fun k2 s2 l2 S2 V2 => q f1 k2 p1 _ s2 l1 q1 ⟨l2, S2, V2⟩ .next) (F.env.mono l1 q1) S' F.le (fun _ _ => Nat.zero_le _) (tn_rev (tgts_of (M := c.M) (env := env) htg).1) actsB hs1 (by simpa using r.reverse)
end
end Mine
end
section
set_option autoImplicit false
set_option linter.unusedSectionVars false
set_option linter.unusedVariables false
namespace Mine
open PySem PySem.W PyProof.Rows PySem.Calls

section
variable {c : CX} {X : Ctx} {d : Nat}

@[elab_as_elim]
theorem FlR.turn {fix : Kp} {φ : List Addr} {fl fl' : Fl} {f : Flow} {ρ ρ' : Lo} {G G' : GH} {k : Lo → GH → Option (Fl × Lo × GH)} {M : Flow → Prop} {P : Lo → GH → Prop} (h : flO (fl, ρ, G) k = some (fl', ρ', G')) (r : FlR c fix φ fl f) (F : P ρ G) (t1 : k ρ G = some (fl', ρ', G') → M .next) (t2 : k ρ G = some (fl', ρ', G') → M .cont)
    (b : P ρ' G' → FlR c fix φ fl' .next → M .brk) (t : ∀ y, P ρ' G' → FlR c fix φ fl' (.ret y) → M (.ret y)) : M f := by
  cases r with
  | next => exact t1 h
  | cont => exact t2 h
  | brk => exact opk3 (P := fun fl' ρ' G' => (P ρ' G' → FlR c fix φ fl' .next → M .brk) → M .brk) h (fun g => g F .next) b
  | ret hv => exact opk3 (P := fun fl' ρ' G' => (∀ y, P ρ' G' → FlR c fix φ fl' (.ret y) → M (.ret y)) → M (.ret _)) h (fun g => g _ F (.ret hv)) t
inductive WInv (c : CX) (fix kp0 : Kp) (φ : List Addr) (sc : Sp) (nm : Nm) (env : Env) (L : Nat → Lo → GH → Prop) (n : Nat) (s : Shared) : Prop
  | mk {fix1 kp1 : Kp} {φ1 : List Addr} {G1 : GH} {ρ1 : Lo} : Le fix fix1 → φ <+: φ1 → L n ρ1 G1 → FSt c fix1 kp0 kp1 φ1 G1 s sc nm ρ1 env → WInv c fix kp0 φ sc nm env L n s
inductive FInv (c : CX) (fix kp0 : Kp) (φ : List Addr) (sc : Sp) (nm : Nm) (env : Env) (L : List Itm → Lo → GH → Prop) (it : Value) (gd : Gd) (one : Bool) (n : Nat) (s : Shared) : Prop
  | mk {fix1 kp1 : Kp} {φ1 : List Addr} {G1 : GH} {ρ1 : Lo} {items : List Itm} {fp : List (Addr × Obj)} : Le fix fix1 → φ <+: φ1 → L items ρ1 G1 → FSt c fix1 kp0 kp1 φ1 G1 s sc nm ρ1 env → ItOk c fix1 kp1 φ1 s.heap it gd items fp → (one = true → fp.length = 1) → n = items.length → FInv c fix kp0 φ sc nm env L it gd one n s

theorem s_while {t : ME} {b : List MS} (ht : EK c X d t) (hb : SsOk c X d b) : SOk c X d (.whileS t b) := by
  intro sc nm ρ ρ' env A fix kp0 kp φ G G' s st fl hc hm W F hA E Q
  refine cS_while (P := fun st => SG c A fix kp0 φ s sc nm env G' E Q st fl ρ') hc fun x y p c1 c2 q => wpAny_While ?_
  refine codeAny_whileLoop (WInv c fix kp0 φ sc nm env fun n ρ G => loopW (fun ρ G => mE X t ρ G) (fun ρ G => mSs X b ρ G) n ρ G = some (fl, ρ', G')) (fun n s1 inv => ?_) X.W (.mk (Le.refl _) (List.prefix_refl _) hm F)
  clear hm F
  cases inv with
  | @mk fix1 kp1 φ1 G1 ρ1 l1 q1 hl F1 =>
  cases n with
  | zero => exact nomatch hl
  | succ n =>
    refine onBk hl (fun G2 h1 hl => ht.2 c1 h1 F1.env F1.st hA _ _ fun f2 p2 y s2 l2 q2 S2 r2 => ?_) fun G2 h1 hl => ht.2 c1 h1 F1.env F1.st hA _ _ fun f2 p2 y s2 l2 q2 S2 r2 => ?_
    · rw [if_pos r2]
      refine obk hl fun o h2 hl => ?_
      exact hb c2 h2 W ⟨F1.le, S2, F1.env.mono l2 q2⟩ hA fun f3 k3 p3 z s3 l3 q3 F3 r3 => by
        exact FlR.turn (P := fun ρ' G' => FSt c f3 kp0 k3 p3 G' s3 sc nm ρ' env) hl r3 F3
          (fun h => ⟨n, Nat.lt_succ_self _, .mk ((l1.trans l2).trans l3) ((q1.trans q2).trans q3) h F3⟩) (fun h => ⟨n, Nat.lt_succ_self _, .mk ((l1.trans l2).trans l3) ((q1.trans q2).trans q3) h F3⟩)
          (fun F3 r => q f3 k3 p3 _ s3 ((l1.trans l2).trans l3) ((q1.trans q2).trans q3) F3 r) fun y F3 r => q f3 k3 p3 _ s3 ((l1.trans l2).trans l3) ((q1.trans q2).trans q3) F3 r
    · rw [if_neg (r2 ▸ Bool.false_ne_true)]
      exact opk3 (P := fun fl ρ' G' => SQ c fix kp0 φ G' sc nm ρ' env fl Q → wpAny c.M A (execs [] env) Q _ s2) hl (fun q => wpAny_execs_nil (q f2 kp1 p2 _ s2 (l1.trans l2) (q1.trans q2) ⟨F1.le, S2, F1.env.mono l2 q2⟩ .next)) q
theorem loopS_k {gd : Gd} {f : MV → Lo → GH → Option (Fl × Lo × GH)} {x : Itm} {l : List Itm} {ρ : Lo} {G : GH} {r : Fl × Lo × GH} {P : Prop} (h : loopS gd f (x :: l) ρ G = some r) (g : ∀ v o, gdOk G gd = true → fetch G gd x = some v → f v ρ G = some o → flO o (fun ρ' G' => loopS gd f l ρ' G') = some r → P) : P :=
  oif (p := gdOk G gd = true) h fun h1 h => obk (o := fetch G gd x) h fun v h2 h => obk (o := f v ρ G) h fun o h3 h => g v o h1 h2 h3 h
theorem it_stepF {A : Around} {fix kp : Kp} {φ : List Addr} {G : GH} {s : Shared} {it : Value} {gd : Gd} {x : Itm} {items : List Itm} {fp : List (Addr × Obj)} {v : MV} {one : Bool} {target : PySem.Expr} {E : Value → Shared → Prop} {B : Value → Shared → Prop} {R : Option Value → Shared → Prop}
    (I : ItOk c fix kp φ s.heap it gd (x :: items) fp) (S : St c fix kp φ G s) (hg : gdOk G gd = true) (hv : fetch G gd x = some v) (ht : tgtFit one target) (hk : one = true → fp.length = 1) (hR : ∀ y s1, wpAny c.M A (letOwnedTupleGo target it y) (fun _ s' => B y s') E s1 → R (some y) s1)
    (q : Nx c fix kp φ G v it gd items fp.length B) : wpAny c.M A (pyNext it) R E s :=
  wpAny_mono (it_next I S hg hv ht hk q) (fun r s1 h => by
    cases r with
    | none => exact h.elim
    | some y => exact hR y s1 h) fun _ _ e => e
theorem s_for (O : c.Ok) {tgt : List Nat} {one : Bool} {k : SK} {srcs : List ME} {b : List MS} (hK : AllK c X d srcs) (hb : SsOk c X d b) : SOk c X d (.forS tgt one k srcs b) := by
  intro sc nm ρ ρ' env A fix kp0 kp φ G G' s st fl hc hm W F hA E Q
  refine cS_for (P := fun st => SG c A fix kp0 φ s sc nm env G' E Q st fl ρ') hc fun tg y bd p hk1 htg hsrc hcb => iS_for hm fun vs G1 gd items h1 hs hm q => wpAny_For ?_ (foldedSet_ok (srcSet hsrc))
  refine src_ok O hK hsrc h1 hs F.env F.st hA fun f1 p1 it s1 fp l1 q1 S1 I hfp => ?_
  refine codeAny_forLoop_any (FInv c fix kp0 φ sc nm env (fun its ρ G => loopS gd (fun v ρ G => (asgO one tgt v ρ).bind fun ρ' => mSs X b ρ' G) its ρ G = some (fl, ρ', G')) it gd one) (fun n s2 inv => ?_) items.length (.mk l1 q1 hm ⟨F.le, S1, F.env.mono l1 q1⟩ I (fun h => hfp (h ▸ hk1)) rfl)
  clear hm F h1 hs S1 I hfp
  cases inv with
  | @mk fix2 kp2 φ2 G2 ρ2 items2 fp2 l2 q2 hl F2 I2 hfp2 hn =>
  cases items2 with
  | nil =>
    refine oif (p := gdOk G2 gd = true) hl fun hgd hl => opk3 (P := fun fl ρ' G' => SQ c fix kp0 φ G' sc nm ρ' env fl Q → _) hl (fun q => it_end I2 F2.st hgd hA.handled fun s3 S3 => wpAny_execs_nil (q fix2 kp2 φ2 _ s3 l2 q2 ⟨F2.le, S3, F2.env⟩ .next)) q
  | cons x items3 =>
    refine loopS_k hl fun v o hgd hv ho hl => obk ho fun ρ3 ha ho => ?_
    refine it_stepF I2 F2.st hgd hv (tgtE_fit htg) hfp2 (fun y s3 h => h) fun fix3 y s3 fp3 l3 S3 vy I3 hlen => ?_
    have F3 := I3.Free
    have V3 := F2.env.mono l3 (List.prefix_refl _)
    refine target_ok hA.handled (V3.hold F3.kpN) ⟨(F3.hold S3.1).1, S3.2⟩ (W.hold V3 F3.kpN) (F3.holdLe F2.le) (fun i _ => Nat.zero_le _) htg ha vy fun kp4 s4' l4 S4 V4 => ?_
    refine hb hcb ho (W.hold V3 F3.kpN) ⟨l4, S4, V4⟩ hA fun f6 k6 p6 z s6 l6 q6 F6 r6 => ?_
    have bk := F3.back F6.le F6.st.1
    have turn : loopS gd (fun v ρ G => (asgO one tgt v ρ).bind fun ρ' => mSs X b ρ' G) items3 o.2.1 o.2.2 = some (fl, ρ', G') → ∃ m, m < n ∧ FInv c fix kp0 φ sc nm env (fun its ρ G => loopS gd (fun v ρ G => (asgO one tgt v ρ).bind fun ρ' => mSs X b ρ' G) its ρ G = some (fl, ρ', G')) it gd one m s6 := fun h =>
      ⟨items3.length, hn ▸ Nat.lt_succ_self _, .mk ((l2.trans l3).trans l6) (q2.trans q6) h ⟨F3.le F2.le F6.le, ⟨bk.2, F6.st.2⟩, V3.cut F3.kpN F6.env⟩ (.of (I3.d.mono l6 q6) bk.1) (fun h => hlen.trans (hfp2 h)) rfl⟩
    exact FlR.turn (P := fun ρ' G' => FSt c f6 kp0 (Mine.cut k6 fp3) p6 G' s6 sc nm ρ' env) hl r6 ⟨F3.le F2.le F6.le, ⟨bk.2, F6.st.2⟩, V3.cut F3.kpN F6.env⟩ turn turn
        (fun B1 r => q f6 _ p6 _ s6 ((l2.trans l3).trans l6) (q2.trans q6) B1 r) fun y B1 r => q f6 _ p6 _ s6 ((l2.trans l3).trans l6) (q2.trans q6) B1 r

mutual
theorem sK (O : c.Ok) (hX : XOk c X) (hC : CallOk c X d) (hS : SrtOk c X d) : ∀ x : MS, SOk c X d x
  | .expr a => s_expr (eK O hX hC hS a)
  | .asg i a => s_asg O (eK O hX hC hS a) fun _ _ elt gs _ => ⟨eK O hX hC hS elt, gsK O hX hC hS gs⟩
  | .asgT is a => s_asgT (eK O hX hC hS a)
  | .asgW is a => s_asgW (eK O hX hC hS a)
  | .asgA o k a => s_asgA O hX (eK O hX hC hS o) (eK O hX hC hS a)
  | .asgS o i a => s_asgS O (eK O hX hC hS o) (eK O hX hC hS i) (eK O hX hC hS a)
  | .ifS t a b => s_if (eK O hX hC hS t) (ss_ok (ssK O hX hC hS a)) (ss_ok (ssK O hX hC hS b))
  | .whileS t b => s_while (eK O hX hC hS t) (ss_ok (ssK O hX hC hS b))
  | .forS tgt one k srcs b => s_for O (esK O hX hC hS srcs) (ss_ok (ssK O hX hC hS b))
  | .ret a => s_ret (eK O hX hC hS a)
  | .cont => s_cont
  | .brk => s_brk
  | .pass => s_pass
theorem ssK (O : c.Ok) (hX : XOk c X) (hC : CallOk c X d) (hS : SrtOk c X d) : ∀ xs : List MS, ∀ x ∈ xs, SOk c X d x
  | [] => fun _ h => by cases h
  | x :: xs => allCons (sK O hX hC hS x) (ssK O hX hC hS xs)
end
end
end Mine
end
section
set_option autoImplicit false
set_option linter.unusedSectionVars false
set_option linter.unusedVariables false
namespace Mine
open PySem PySem.W PyProof.Rows PySem.Calls

section
variable {c : CX} {X : Ctx} {d : Nat} {A : Around} {fix kp kp0 : Kp} {φ : List Addr} {G : GH} {s : Shared}

theorem setAll_fill {k : Nat} : ∀ {vs pre : List MV}, setAll (pre.map some ++ List.replicate (vs.length + k) none) (List.range' pre.length vs.length) vs = some ((pre ++ vs).map some ++ List.replicate k none)
  | [], pre => by simp [setAll]
  | v :: vs, pre => by
    rw [List.length_cons, List.range'_succ, setAll]
    have h1 : set1 (pre.map some ++ List.replicate (vs.length + 1 + k) none) pre.length v = some ((pre ++ [v]).map some ++ List.replicate (vs.length + k) none) := by
      unfold set1
      rw [if_pos (by rw [List.length_append, List.length_map, List.length_replicate]; omega)]
      congr 1
      rw [show vs.length + 1 + k = (vs.length + k) + 1 by omega, List.replicate_succ, List.set_append_right _ _ (by rw [List.length_map]; exact Nat.le_refl _), List.length_map, Nat.sub_self]
      simp
    rw [h1, Option.bind_some]
    have := setAll_fill (k := k) (vs := vs) (pre := pre ++ [v])
    rw [List.length_append, List.length_singleton, List.append_assoc] at this
    exact this

noncomputable def namesOk (sc : Sp) (nms : List Str) : Bool := nms.all (fun x => (sc.lookup x == some .local || sc.lookup x == some .cell) && !(x == ("__class__" : Str)))
theorem tn_range {sc : Sp} {nms : List Str} (h : namesOk sc nms = true) : ∀ {n i : Nat}, i + n ≤ nms.length → tnOk sc (nms.map some) (List.range' i n) ((nms.drop i).take n) = true
  | 0, i, _ => by simp [tnOk]
  | n + 1, i, hi => by
    have hlt : i < nms.length := by omega
    rw [List.range'_succ, List.drop_eq_getElem_cons hlt, List.take_succ_cons, tnOk, tn_range h (by omega), Bool.and_true]
    have := List.all_eq_true.mp h nms[i] (List.getElem_mem hlt)
    rw [Bool.and_eq_true] at this
    unfold tgtOk
    rw [List.getElem?_map, List.getElem?_eq_getElem hlt, this.1]
    simp

theorem frameStores (env : Env) {f : Str × Value → PUnit → Sem (ForInStep PUnit)} (hf : ∀ n v u, f (n, v) u = (do storeName env n v; pure (.yield ⟨⟩))) {sc : Sp} {nm : Nm} : ∀ {is : List Nat} {xs : List Str} {vs : List MV} {ys : List Value} {ρ ρ' : Lo} {kp : Kp} {s : Shared}, EnvOk c sc nm ρ env fix kp φ → St c fix kp φ G s → Own sc nm 0 env kp0 → Le kp0 kp → tnOk sc nm is xs = true → setAll ρ is vs = some ρ' → c.VRs fix φ vs ys →
    ∀ {E : Value → Shared → Prop} {Q : PUnit → Shared → Prop}, (∀ kp' s', Le kp0 kp' → St c fix kp' φ G s' → EnvOk c sc nm ρ' env fix kp' φ → Q ⟨⟩ s') → wpAny c.M A (forIn (xs.zip ys) ⟨⟩ f) Q E s
  | [], [], [], _, ρ, ρ', kp, s, V, S, W, hle, ht, hs, hv, E, Q, q => by
    cases hv; cases hs
    rw [List.zip_nil_left, List.forIn_nil]
    exact wpAny_pure (q _ _ hle S V)
  | i :: is, x :: xs, v :: vs, _, ρ, ρ', kp, s, V, S, W, hle, ht, hs, .cons (x := y) (xs := ys) vy hv, E, Q, q => by
    simp only [tnOk, Bool.and_eq_true] at ht
    simp only [setAll, Option.bind_eq_some_iff] at hs
    obtain ⟨ρ1, h1, h2⟩ := hs
    rw [List.zip_cons_cons, List.forIn_cons, hf]
    refine wpAny_bind (wpAny_bind (store_ok V S W hle (Nat.zero_le _) ht.1 h1 vy fun kp1 s1 l1 S1 V1 => ?_))
    exact wpAny_pure (frameStores env hf V1 S1 W l1 ht.2 h2 hv q)
  | [], _ :: _, _, _, _, _, _, _, _, _, _, _, ht, _, _, _, _, _ => by simp [tnOk] at ht
  | _ :: _, [], _, _, _, _, _, _, _, _, _, _, ht, _, _, _, _, _ => by simp [tnOk] at ht
  | [], [], _ :: _, _, _, _, _, _, _, _, _, _, _, hs, _, _, _, _ => by simp [setAll] at hs
  | _ :: _, _ :: _, [], _, _, _, _, _, _, _, _, _, _, hs, _, _, _, _ => by simp [setAll] at hs

theorem newFn_ok {scope : Scope} {nms : List Str} {k : Nat} {ys : List Value} {vs : List MV} {cl : List (Str × Addr)} {qual : Str} {f : Addr} {code : Value} (S : St c fix kp φ G s) (hk : scope.kind = .function) (hnd : (scope.names.map (·.1)).Nodup) (hnn : nms.Nodup)
    (hnk : namesOk scope.names nms = true) (hlen : nms.length = vs.length + k) (hvs : c.VRs fix φ vs ys) (hfree : ∀ x, scope.names.lookup x = some .free → x = ("__class__" : Str)) (hcl : ∀ x a, cl.lookup x = some a → x = ("__class__" : Str) ∧ a < s.heap.objs.size)
    {E : Value → Shared → Prop} {Q : Env → Shared → Prop}
    (q : ∀ s' kp' env, env = newEnv scope s.heap.objs.size mainGlobals (cellsFrom (s.heap.objs.size + 1) scope.names cl) qual (some f) code none builtinsNs → St c fix kp' φ G s' → Le kp kp' →
      EnvOk c scope.names (nms.map some) (vs.map some ++ List.replicate k none) env fix kp' φ → Own scope.names (nms.map some) 0 env kp → Q env s') :
    wpAny c.M A (newFunctionEnv scope mainGlobals cl ((nms.take vs.length).zip ys) qual (some f) code none builtinsNs) Q E s := by
  simp only [newFunctionEnv, Option.isSome_none, Bool.false_eq_true, if_false]
  refine wpAny_bind (wpAny_alloc ?_)
  refine wpAny_bind (wpAny_layCells _ (fun name kind cells => by cases hkc : kind == NameKind.cell <;> simp) _ _ _ _ ?_)
  have hsz : (s.heap.push { cls := .type "frame", data := .dict #[] }).objs.size = s.heap.objs.size + 1 := Heap.size_push ..
  have ok := cellsFrom_ok scope.names (s.heap.push { cls := .type "frame", data := .dict #[] }) (s.heap.objs.size + 1) [] ⟨fun _ _ hm => (nomatch hm), List.Pairwise.nil⟩ (by rw [hsz]; exact Nat.le_refl _)
  dsimp only
  rw [hsz] at ok ⊢
  generalize hH : pushCells (s.heap.push { cls := .type "frame", data := .dict #[] }) scope.names = H at ok ⊢
  have keep : ∀ a o, s.heap.get? a = some o → H.get? a = some o := fun a o e => by rw [← hH]; exact pushCells_keeps _ _ a o (Heap.get?_push_of_some _ e)
  have hC : H.get? s.heap.objs.size = some { cls := .type "frame", data := .dict #[] } := by rw [← hH]; exact pushCells_keeps _ _ _ _ (Heap.get?_push_size _ rfl)
  have lk := cells_lk scope.names (s.heap.objs.size + 1) cl hnd
  have app := cells_app scope.names (s.heap.objs.size + 1) cl
  have kpOld : ∀ a o, kp a = some o → a < s.heap.objs.size := fun a o e => Heap.lt_size (S.1.kpK a o e)
  have old : ∀ x a, scope.names.lookup x ≠ some .cell → (cellsFrom (s.heap.objs.size + 1) scope.names cl).lookup x = some a → x = ("__class__" : Str) ∧ a < s.heap.objs.size := fun x a h1 h2 => by
    rw [(lk x).2 h1] at h2
    exact hcl x a h2
  have new : ∀ x, scope.names.lookup x = some .cell → ∃ a, s.heap.objs.size + 1 ≤ a ∧ (cellsFrom (s.heap.objs.size + 1) scope.names cl).lookup x = some a ∧ H.IsCell a none ∧ (x, a) ∈ cellsFrom (s.heap.objs.size + 1) scope.names [] := fun x hx => by
    obtain ⟨a, h1, h2⟩ := (lk x).1 hx
    obtain ⟨b, h3, h4⟩ := (cells_lk scope.names (s.heap.objs.size + 1) [] hnd x).1 hx
    have e : b = a := by
      rw [app, List.lookup_append, h4] at h2
      exact Option.some.inj h2
    subst e
    exact ⟨b, h1, h2, (ok.empty _ _ (mem_of_lookup h4)).1, mem_of_lookup h4⟩
  let kp1 : Kp := fun a => if s.heap.objs.size ≤ a then H.get? a else kp a
  have kp1o : ∀ a, a < s.heap.objs.size → kp1 a = kp a := fun a ha => if_neg (Nat.not_le.mpr ha)
  have kp1n : ∀ a, s.heap.objs.size ≤ a → kp1 a = H.get? a := fun a ha => if_pos ha
  have le1 : Le kp kp1 := fun a o e => (kp1o a (kpOld a o e)).trans e
  have R1 : Rel c fix kp1 φ G H := by
    have R0 := S.1.ext keep
    have key : ∀ a o, kp1 a = some o → H.get? a = some o ∧ fix a = none ∧ a ∉ φ := fun a o e => by
      by_cases ha : a < s.heap.objs.size
      · rw [kp1o a ha] at e
        exact ⟨R0.kpK a o e, R0.dj a o e, fun m => by have := (R0.out a m).2; rw [e] at this; cases this⟩
      · rw [kp1n a (Nat.not_lt.mp ha)] at e
        exact ⟨e, S.1.fixLt (Nat.not_lt.mp ha), fun m => ha (S.1.lt m)⟩
    refine ⟨R0.base, R0.fixK, fun a o e => (key a o e).1, fun a o e => (key a o e).2.1, R0.len, R0.nd, fun a m => ⟨(R0.out a m).1, ?_⟩, R0.obj, R0.st, R0.lo⟩
    cases e : kp1 a with
    | none => rfl
    | some o => exact absurd m (key a o e).2.2
  let env := newEnv scope s.heap.objs.size mainGlobals (cellsFrom (s.heap.objs.size + 1) scope.names cl) qual (some f) code none builtinsNs
  have V1 : EnvOk c scope.names (nms.map some) (List.replicate (vs.length + k) none) env fix kp1 φ := by
    refine ⟨hk, rfl, rfl, rfl, fun i v e => ?_, fun i x v e1 e2 => ?_, fun x hne hx => ?_, ?_, fun x a ha => ?_, fun x y a hx hy => ?_, fun i j x hi hj => ?_, fun i x hi => ?_⟩
    · obtain ⟨_, e'⟩ := List.getElem?_eq_some_iff.mp e
      rw [List.getElem_replicate] at e'; cases e'
    · obtain ⟨_, e'⟩ := List.getElem?_eq_some_iff.mp e2
      rw [List.getElem_replicate] at e'; cases e'
    · rcases hx with h1 | h1
      · obtain ⟨a, h2, h3, ⟨o, h4, h5⟩, _⟩ := new x h1
        exact ⟨a, h3, o, _, (kp1n a (Nat.le_of_succ_le h2)).trans h4, h5⟩
      · exact absurd (hfree x h1) hne
    · exact ⟨_, _, _, (kp1n _ (Nat.le_refl _)).trans hC, rfl, by intro e he; simp at he⟩
    · have ha' : (cellsFrom (s.heap.objs.size + 1) scope.names cl).lookup x = some a := ha
      show a ≠ s.heap.objs.size
      by_cases h1 : scope.names.lookup x = some .cell
      · obtain ⟨b, h2, h3, _⟩ := new x h1
        rw [h3] at ha'; cases ha'; exact Nat.ne_of_gt h2
      · exact Nat.ne_of_lt (old x a h1 ha').2
    · have hx' : (cellsFrom (s.heap.objs.size + 1) scope.names cl).lookup x = some a := hx
      have hy' : (cellsFrom (s.heap.objs.size + 1) scope.names cl).lookup y = some a := hy
      by_cases h1 : scope.names.lookup x = some .cell
      · obtain ⟨b, h2, h3, _, hm⟩ := new x h1
        rw [h3] at hx'; cases hx'
        by_cases h1' : scope.names.lookup y = some .cell
        · obtain ⟨b', h2', h3', _, hm'⟩ := new y h1'
          rw [h3'] at hy'; cases hy'
          exact name_of_addr ok.apart hm hm'
        · exact absurd (Nat.lt_of_lt_of_le (old y _ h1' hy').2 (Nat.le_of_succ_le h2)) (Nat.lt_irrefl _)
      · by_cases h1' : scope.names.lookup y = some .cell
        · obtain ⟨b', h2', h3', _, hm'⟩ := new y h1'
          rw [h3'] at hy'; cases hy'
          exact absurd (Nat.lt_of_lt_of_le (old x _ h1 hx').2 (Nat.le_of_succ_le h2')) (Nat.lt_irrefl _)
        · rw [(old x _ h1 hx').1, (old y _ h1' hy').1]
    · rw [List.getElem?_map, Option.map_eq_some_iff] at hi hj
      obtain ⟨x1, hi, e1⟩ := hi
      obtain ⟨x2, hj, e2⟩ := hj
      cases e1; cases e2
      exact (List.getElem?_inj (List.getElem?_eq_some_iff.mp hi).1 hnn).mp (hi.trans hj.symm)
    · rw [List.getElem?_map, Option.map_eq_some_iff] at hi
      obtain ⟨x1, hi, e1⟩ := hi
      cases e1
      have := List.all_eq_true.mp hnk x (List.mem_of_getElem? hi)
      rw [Bool.and_eq_true] at this
      simpa using this.2
  have W1 : Own scope.names (nms.map some) 0 env kp := by
    refine ⟨S.1.kpLt (Nat.le_refl _), fun i x a hi hx ha hkx => ?_⟩
    have ha' : (cellsFrom (s.heap.objs.size + 1) scope.names cl).lookup x = some a := ha
    obtain ⟨b, h2, h3, _⟩ := new x hkx
    rw [h3] at ha'; cases ha'
    exact S.1.kpLt (Nat.le_of_succ_le h2)
  have ht := tn_range hnk (n := vs.length) (i := 0) (by omega)
  rw [List.drop_zero] at ht
  have hsa := setAll_fill (k := k) (vs := vs) (pre := [])
  refine wpAny_bind (frameStores (s := { s with heap := H }) env (fun _ _ _ => rfl) V1 ⟨R1, S.2⟩ W1 le1 ht (by simpa using hsa) hvs fun kp2 s2 l2 S2 V2 => ?_)
  exact wpAny_pure (q s2 kp2 env rfl S2 l2 V2 W1)
end
end Mine
end
section
set_option autoImplicit false
set_option linter.unusedSectionVars false
set_option linter.unusedVariables false
namespace Mine
open PySem PySem.W PyProof.Rows PySem.Calls
theorem zip_lookup {α : Type} : ∀ {ns : List Str} {ys : List α}, ns.length = ys.length → ∀ n ∈ ns, ((ns.zip ys).lookup n).isNone = false
  | [], _, _, n, h => nomatch h
  | m :: ns, [], h, _, _ => nomatch h
  | m :: ns, y :: ys, h, n, hn => by
    rw [List.zip_cons_cons, List.lookup_cons]
    cases q : n == m with
    | true => rfl
    | false => exact zip_lookup (Nat.succ.inj h) n ((List.mem_cons.mp hn).resolve_left (beq_eq_false_iff_ne.mp q))
theorem zip_fm {α : Type} : ∀ {ns : List Str} {ys : List α}, ns.Nodup → ns.length = ys.length → ns.filterMap (fun n => ((ns.zip ys).lookup n).map (n, ·)) = ns.zip ys
  | [], ys, _, _ => rfl
  | m :: ns, [], _, h => nomatch h
  | m :: ns, y :: ys, hn, h => by
    have hn := List.nodup_cons.mp hn
    have e : ns.filterMap (fun n => (((m, y) :: ns.zip ys).lookup n).map (n, ·)) = ns.zip ys := (fm_congr fun n hm => by
      rw [List.lookup_cons, beq_eq_false_iff_ne.mpr fun q : n = m => hn.1 (q ▸ hm)]).trans (zip_fm hn.2 (Nat.succ.inj h))
    have e2 : ((m, y) :: ns.zip ys).lookup m = some y := by rw [List.lookup_cons, beq_self_eq_true]
    show List.filterMap (fun n => (((m, y) :: ns.zip ys).lookup n).map (n, ·)) (m :: ns) = _
    rw [List.filterMap_cons, e, e2]
    rfl
theorem fi0 {α β γ : Type} {L : List α} {s : β} {f : α → β → Sem (ForInStep β)} {k : β → Sem γ} (h : L = []) : (forIn L s f >>= k) = k s := by
  rw [h, List.forIn_nil, pure_bind]
theorem bind0 {fd : FuncData} {ys : List Value} {args : List Arg} {kd : List (Option PySem.Expr)} {ds : List PySem.Expr} (hp : fd.params = ⟨[], args, none, [], kd, none, ds⟩) (h6 : fd.defaults = .none) (hn : (args.map (·.arg)).Nodup) (hl : (args.map (·.arg)).length = ys.length) :
    bindArgs fd ⟨ys, []⟩ = pure ((args.map (·.arg)).zip ys) := by
  obtain ⟨_, _, _, _, _, _, _, _, _⟩ := fd
  cases hp
  cases h6
  refine (if_neg ?_).trans ((if_neg ?_).trans ?_)
  · rw [Bool.and_eq_true]
    exact fun q => Nat.lt_irrefl _ (hl ▸ of_decide_eq_true q.1)
  · show ¬ (!(List.filter (fun n => (((args.map (·.arg)).zip ys).lookup n).isNone) (List.take _ (args.map (·.arg)))).isEmpty) = true
    rw [List.filter_eq_nil_iff.mpr fun n hm => by rw [zip_lookup hl n (List.mem_of_mem_take hm)]; exact Bool.false_ne_true]
    exact Bool.false_ne_true
  refine (fi0 ?_).trans ?_
  · show List.zip _ (List.drop _ ([] : List Value)) = []
    rw [List.drop_nil, List.zip_nil_right]
  · exact congrArg (pure (f := Sem)) ((congrArg (List.filterMap fun n => (((args.map (·.arg)).zip ys).lookup n).map (n, ·)) (List.append_nil (args.map (·.arg)))).trans (zip_fm hn hl))
theorem fi1 {α β γ : Type} {x : α} {s s' : β} {f : α → β → Sem (ForInStep β)} {k : β → Sem γ} (h : f x s = pure (.yield s')) : (forIn [x] s f >>= k) = k s' := by
  rw [List.forIn_cons, h]
  rfl
theorem bind1 {fd : FuncData} {s : Shared} {A B : Arg} {kd : List (Option PySem.Expr)} {ds : List PySem.Expr} {y1 v0 : Value} {T : Addr} {o : Obj} {n : Nat} (hp : fd.params = ⟨[], [A, B], none, [], kd, none, ds⟩) (hab : A.arg ≠ B.arg)
    (hd : fd.defaults = .ref T) (ho : s.heap.get? T = some o) (hs : o.data = .seq #[v0] n) : BindsTo s fd ⟨[y1], []⟩ [(A.arg, y1), (B.arg, v0)] := by
  intro M AA E Q q
  obtain ⟨_, _, _, _, _, _, _, _, _⟩ := fd
  cases hp
  cases hd
  have e1 : ∀ n ∈ [A.arg], ¬ (([(A.arg, y1)] : List (Str × Value)).lookup n).isNone = true := fun n hn => by rw [List.mem_singleton.mp hn, List.lookup_cons, beq_self_eq_true]; exact Bool.false_ne_true
  have e2 : (([(A.arg, y1)] : List (Str × Value)).lookup B.arg).isNone = true := by rw [List.lookup_cons, beq_eq_false_iff_ne.mpr (Ne.symm hab)]; rfl
  refine wpAny_bind (wpAny_pure ?_)
  refine wpAny_bind (wpAny_seqItems ho hs (wpAny_of_eq ((if_neg Bool.false_ne_true).trans ((if_neg ?_).trans ((fi1 (s' := [(A.arg, y1), (B.arg, v0)]) (if_pos e2)).trans ?_))) q))
  · show ¬ (!(List.filter (fun n => (([(A.arg, y1)] : List (Str × Value)).lookup n).isNone) [A.arg]).isEmpty) = true
    rw [List.filter_eq_nil_iff.mpr e1]
    exact Bool.false_ne_true
  · exact congrArg (pure (f := Sem)) (zip_fm (ns := [A.arg, B.arg]) (ys := [y1, v0]) (List.nodup_cons.mpr ⟨fun h => hab (List.mem_singleton.mp h), List.nodup_cons.mpr ⟨nofun, List.nodup_nil⟩⟩) rfl)
end Mine
end
section
set_option autoImplicit false
set_option linter.unusedSectionVars false
set_option linter.unusedVariables false
namespace Mine
open PySem PySem.W PyProof.Rows PySem.Calls

structure SupFacts (c : CX) (C f2 : Addr) (nms : List Str) (params : Arguments) (cl : List (Str × Addr)) (cdv : Value) where
  D : Addr
  cc : Addr
  cda : Addr
  ar : Arg
  vs : Array Value
  file : Str
  tf : Tok
  ccl : Value
  cdd : Option Addr
  ccs : Array (Option Value)
  clo : Value
  cld : Option Addr
  csl : Array (Option Value)
  cdD : ClassData
  args : params.args.head? = some ar
  pos : params.posonlyargs = []
  arn : nms[0]? = some ar.arg
  cle : cl = [(("__class__" : Str), cc)]
  code : cdv = .ref cda
  codeK : c.K.lookup cda = some ⟨ccl, cdd, .fields vs, ccs⟩
  fileK : vs[2]? = some (.str file tf)
  isMain : ((c.prog.main.file : Str) == file) = true
  cell : c.K.lookup cc = some ⟨clo, cld, .cell (some (.ref D)), csl⟩
  cls : clsIn c.K D = some cdD
  sub : mroIn c.K C (.ref D) = some true
  top : (c.prog.main.scope.names.lookup ("super" : Str)).isSome = false
  opq : nsIn c.K cStatics "thirdparty.any" = some none
  meth : ks_superIn c.K C D "__init__" = some (some (.ref f2))
  fn : fnIn c.K f2 = true
  typ : typeIn c.K (.ref f2) = some (.type "function")

section
variable {c : CX} {X : Ctx} {d : Nat}

theorem load_ok {sc : Sp} {nm : Nm} {ρ : Lo} {env : Env} {A : Around} {fix kp : Kp} {φ : List Addr} {G : GH} {s : Shared} {i : Nat} {x : Str} {v : MV} (V : EnvOk c sc nm ρ env fix kp φ) (S : St c fix kp φ G s) (h1 : nm[i]? = some (some x)) (h2 : ρ[i]? = some (some v))
    {E : Value → Shared → Prop} {Q : Value → Shared → Prop} (q : ∀ y, c.VR fix φ v y → Q y s) : wpAny c.M A (loadName env x) Q E s := by
  obtain ⟨y, vy, hl⟩ := V.loads i x v h1 h2
  cases hl with
  | loc hk ho hd hs hf => exact wpAny_loadName_local (m := fun n => nsFind _ n) V.kind hk ⟨_, _, _, S.1.kpK _ _ ho, hd, hs, fun _ => rfl⟩ hf (q _ vy)
  | cell hk hc ho hd => exact wpAny_loadName_cell V.kind hk hc ⟨_, S.1.kpK _ _ ho, hd⟩ (q _ vy)
  | free hk hc ho hd hn => exact wpAny_loadName_free V.kind hk hc ⟨_, S.1.kpK _ _ ho, hd⟩ (q _ vy) (beq_eq_false_iff_ne.mpr hn)

theorem callM (O : c.Ok) {nm : Nm} {sc : Sp} {env : Env} {A : Around} {fix kp : Kp} {φ : List Addr} {G : GH} {s : Shared} {q f2 : Addr} {self : Value} {es : List ME} {xs : List PySem.Expr} {vs : List MV} {G' : GH} {pos : Pos} {E : Value → Shared → Prop} {Q : Value → Shared → Prop} (S : St c fix kp φ G s) (hq : kp q = some (methodObj (.ref f2) self)) (hk : fnIn c.K f2 = true) (hc : chkEs c.S es sc nm xs = true)
    (h : Ev c A fix kp φ (spliced (backTo pos (starEach xs env))) s G' (fun f p z => c.VRs f p vs z))
    (qq : ∀ fix' φ' ys s', Le fix fix' → φ <+: φ' → St c fix' kp φ' G' s' → c.VRs fix' φ' vs ys → wpAny c.M A (call (.ref q) ys) Q E s') :
    wpAny c.M A (callWith pos (.ref q) [] (backTo pos (starEach xs env)) []) Q E s := by
  obtain ⟨a, _⟩ := starNo (env := env) (pos := pos) hc
  refine callWith_of (P := fun h => MethP c.K q f2 self h) (by rw [a]; rfl) (fun h X => keeps_M hk h X) ?_
  cases xs with
  | nil =>
    exact evalArgs_nilG (h E _ fun fix' φ' ys s' le pre S' vr => ⟨⟨S'.1.kpK _ _ hq, S'.1.K O⟩, qq fix' φ' ys s' le pre S' vr⟩)
  | cons x xs =>
    cases es with
    | nil => exact ft hc
    | cons e es =>
      have hc := cEs_cons hc
      rw [starCons hc.1, backCons] at h ⊢
      exact evalArgs_plain (h E _ fun fix' φ' ys s' le pre S' vr => ⟨⟨S'.1.kpK _ _ hq, S'.1.K O⟩, qq fix' φ' ys s' le pre S' vr⟩)

theorem sup_ok (O : c.Ok) (hC : CallOk c X d) {f f2 C : Addr} {es : List ME} (hK : AllK c X d es) {nms : List Str} {params : Arguments} {scope : Scope} {cl : List (Str × Addr)} {cdv : Value} {qual : Str} {L : Addr} (U : SupFacts c C f2 nms params cl cdv)
    {oc : Value} {od : Option Addr} {osl : Array (Option Value)} {fd : FuncData} (here : c.K.lookup f = some ⟨oc, od, .func fd, osl⟩) (hpar : fd.params = params) (hnd : (scope.names.map (·.1)).Nodup)
    {body : List Stmt} {env : Env} (he : env = newEnv scope L mainGlobals (cellsFrom (L + 1) scope.names cl) qual (some f) cdv none builtinsNs)
    {ρ ρ' : Lo} {A : Around} {fix kp0 kp : Kp} {φ : List Addr} {G G' : GH} {s : Shared} {st : Stmt} {fl : Fl}
    (hc : chkSup c.S (.expr (.sup f2 C es)) scope.names (nms.map some) st = true) (hm : mS X (.expr (.sup f2 C es)) ρ G = some (fl, ρ', G')) (F : FSt c fix kp0 kp φ G s scope.names (nms.map some) ρ env) (hA : AOk A d)
    {E : Value → Shared → Prop} {Q : Flow → Shared → Prop} (q : ∀ fix' φ' s', Le fix fix' → φ <+: φ' → FSt c fix' kp0 kp φ' G' s' scope.names (nms.map some) ρ' env → fl = .next → Q .next s') :
    _root_.PySem.wpAt c.M A (.func body env) (exec st env) Q E s := by
  apply cU hc; intro py p1 ap xs p pq hb hcls hsup hce hlen hline
  refine iS_sup (Pl := fun fl ρ' => (∀ fix' φ' s', Le fix fix' → φ <+: φ' → FSt c fix' kp0 kp φ' G' s' scope.names (nms.map some) ρ' env → fl = .next → Q .next s') → _root_.PySem.wpAt c.M A (.func body env) (exec (.Expr (.Call (.Attribute (.Call (.Name "super" py) [] [] p1) "__init__" ap) xs [] p) pq) env) Q E s) hm (fun vs G1 i v1 h2 hρ h1 q => ?_) q
  have V := F.env
  refine ks_wpAt_Expr_any ?_ (interactive_no V) rfl
  rw [arm_eval_Call]
  have hbl := hb
  simp only [bltK, gloK, Bool.and_eq_true, beq_iff_eq, Bool.not_eq_true'] at hbl
  have hks : env.kindOf "super" = some .globalImplicit := (V.kindOf _).trans hbl.1.1
  have hkc : env.kindOf "__class__" = some .free := (V.kindOf _).trans hcls
  obtain ⟨hh, g, dr, t, os⟩ := s
  have K0 : c.K.In hh := F.st.1.K O
  obtain ⟨oD, hD1, hD2⟩ : ∃ oD, hh.get? U.D = some oD ∧ oD.data = .cls U.cdD := by
    have hD := U.cls
    unfold clsIn at hD
    split at hD
    · rename_i c' d' cd' sl ho
      cases hD
      exact ⟨_, K0 _ _ ho, rfl⟩
    · cases hD
  have hcellL : env.cells.lookup ("__class__" : Str) = some U.cc := by
    subst he
    show (cellsFrom (L + 1) scope.names cl).lookup ("__class__" : Str) = some U.cc
    rw [((cells_lk scope.names (L + 1) cl hnd) ("__class__" : Str)).2 (by rw [hcls]; decide)]
    exact (congrArg (fun l => List.lookup ("__class__" : Str) l) U.cle).trans rfl
  have hfu : env.func = some f := by subst he; rfl
  have hco : env.code = .ref U.cda := by subst he; exact U.code
  have hbN : c.mg "super" = none := (O.blt _ (by simpa using hbl.2)).1
  have h00 : (nms.map some)[0]? = some (some U.ar.arg) := by rw [List.getElem?_map, U.arn]; rfl
  refine _root_.PySem.wpAt_bind (ks_wpAt_super_base (env := env) hks hkc (by decide) hfu (K0 _ _ here) rfl (by rw [hpar, U.pos, List.nil_append]; exact U.args) hco (K0 _ _ U.codeK) rfl U.fileK U.isMain U.top ?_)
  refine ks_loadName_global V.kind hks (loadGlobal_builtin (by rw [V.globals]; exact O.g.keeps F.st.1.baseK) hbN (by rw [V.builtins]; exact O.b.keeps F.st.1.baseK) ((O.boot _ (by decide)).trans (show bootBuiltins "super" = some (.type "super") from rfl)) ⟨rfl, ?_⟩)
  refine wpAny_loadName_free V.kind hkc hcellL ⟨_, K0 _ _ U.cell, rfl⟩ ?_
  refine load_ok V F.st h00 hρ fun yv vy => ?_
  cases vy with
  | @obj _ _ xa dx hf hp =>
  have hx : hh.get? xa = some (instObj C dx) := F.st.1.fixK _ _ hf
  refine ks_wpAny_isType_cls hD1 hD2 ⟨rfl, ?_⟩
  refine ks_wpAny_call_super hD1 hD2 hx rfl (fun c e => by cases e) (looks_mroIn K0 U.sub) (fun h' e k => ?_)
  have S1 : St c fix kp φ G ⟨h', g, dr, t, os⟩ := ⟨F.st.1.ext k, F.st.2⟩
  have K1 : c.K.In h' := S1.1.K O
  refine _root_.PySem.wpAt_of_wpAny (wpAny_bind (wpAny_standAt ?_))
  have hform : methodCallForm (xs.length + ([] : List Keyword).length) (backTo p (starEach xs env)) (backToKw p (keywordEach [] env)) = true := by
    unfold methodCallForm
    rw [(starNo (env := env) (pos := p) hce).2]
    simp only [Bool.true_and, Bool.and_eq_true, decide_eq_true_eq]
    exact ⟨rfl, by simp [backToKw, keywordEach]; omega⟩
  have hpos : ∀ o, methodCallPos true o env ap p = pure p := fun o => by unfold methodCallPos; simp [hline]
  unfold methodCall
  rw [hform]
  refine wpAny_bind (wpAny_holding ?_)
  cases hc : clsIn c.K C with
  | none => have := U.meth; unfold ks_superIn at this; rw [hc] at this; cases this
  | some cd =>
  have hmeth := U.meth
  unfold ks_superIn at hmeth
  rw [hc] at hmeth
  obtain ⟨of, hof, hofc⟩ : ∃ of, h'.get? f2 = some of ∧ of.cls = .type "function" := by
    have ht' : (c.K.lookup f2).map (·.cls) = some (.type "function") := U.typ
    cases z : c.K.lookup f2 with
    | none => rw [z] at ht'; cases ht'
    | some of => rw [z] at ht'; exact ⟨of, K1 _ _ z, Option.some.inj ht'⟩
  have hxC : xa ≠ C := by
    rintro rfl
    have hc2 := hc
    unfold clsIn at hc2
    split at hc2
    · rename_i c0 d0 cd0 sl0 ho
      have := K0 _ _ ho
      rw [hx] at this; cases this
    · cases hc2
  refine ks_wpAny_getMethod_super e (looks_opaque K1 U.opq) (l₀ := cd.mro) (fun A Q E s k q => wpAny_bind ((looks_clsIn K1 hc) A _ E s k (wpAny_pure q))) rfl K1 hmeth hof hofc hxC (by decide) ?_
  have hq0 : kp h'.objs.size = none := S1.1.kpLt (Nat.le_refl _)
  have S2 : St c fix (upd kp h'.objs.size (some (methodObj (.ref f2) (.ref xa)))) φ G ⟨h'.push (methodObj (.ref f2) (.ref xa)), g, dr, t + 1, os⟩ :=
    ⟨(S1.1.push _).hold (Heap.get?_push_size _ rfl) (S1.1.fixLt (Nat.le_refl _)) (fun m => Nat.lt_irrefl _ (S1.1.lt m)), S1.2⟩
  have lek : Le kp (upd kp h'.objs.size (some (methodObj (.ref f2) (.ref xa)))) := fun a o ea => by
    have : a ≠ h'.objs.size := by rintro rfl; rw [hq0] at ea; cases ea
    rw [upd_ne _ _ this]; exact ea
  have V2 := V.up lek
  refine wpAny_bind (wpAny_of_eq (hpos _) ?_)
  refine callM O S2 (upd_self _ _ _) U.fn hce (es_ok hK hce h2 V2 S2 hA _) fun f3 p3 ys s3 l3 q3 S3 r3 => ?_
  refine wpAny_call (ks_codeAny_call_bound (S3.1.kpK _ _ (upd_self _ _ _)) ?_)
  refine hC h1 S3 (.cons (VR.mono l3 q3 (.obj hf hp)) r3) hA.call fun f4 p4 y4 s4 l4 q4 S4 r4 => ?_
  exact q f4 p4 s4 (l3.trans l4) (q3.trans q4) ⟨F.le, ⟨S4.1.less lek, S4.2⟩, (V.mono l3 q3).mono l4 q4⟩ rfl
end
end Mine
end
section
set_option autoImplicit false
set_option linter.unusedSectionVars false
set_option linter.unusedVariables false
namespace Mine
open PySem PySem.W PyProof.Rows PySem.Calls

noncomputable def BindsK (c : CX) (mf : MFun) (nms : List Str) (fd : FuncData) : Prop := ∀ vs : List MV, vs.length + mf.dfl.length = mf.n → ∀ {fix : Kp} {φ : List Addr} {ys : List Value} {s : Shared}, c.VRs fix φ vs ys → c.K.In s.heap → ∃ ys', c.VRs fix φ (vs ++ mf.dfl) ys' ∧ BindsTo s fd ⟨ys, []⟩ ((nms.take mf.n).zip ys')
set_option genInjectivity false in
set_option genSizeOf false in
structure FnFull (c : CX) (f : Addr) (mf : MFun) extends FnOk c f mf where
  clo : ∀ x a, cl.lookup x = some a → x = ("__class__" : Str) ∧ (c.K.lookup a).isSome = true
  binds : BindsK c mf nms (fnX name qual params body scope cl dV kV doc pm an cdv ct)
  sup : ∀ f2 C es r, mf.body = .expr (.sup f2 C es) :: r → SupFacts c C f2 nms params cl cdv

section
variable {c : CX} {X : Ctx} {d : Nat}

structure FOk (S : Sta) (f : MFun) (nms : List Str) (ps : Arguments) (scope : Scope) (body : List Stmt) : Prop where
  len : nms.length = f.n + f.k
  free : ∀ x, scope.names.lookup x = some .free → x = ("__class__" : Str)
  nd : nms.Nodup
  args : ps.args.map (·.arg) = nms.take f.n
  pr : ps = ⟨[], ps.args, none, [], ps.kw_defaults, none, ps.defaults⟩
  kind : scope.kind = .function
  gen : scope.isGenerator = false
  cor : scope.isCoroutine = false
  snd : (scope.names.map (·.1)).Nodup
  nok : namesOk scope.names nms = true
  chk : chkB S f.body scope.names (nms.map some) body = true
theorem ps_eq {ps : Arguments} (h1 : ps.posonlyargs.isEmpty = true) (h2 : ps.vararg.isNone = true) (h3 : ps.kwonlyargs.isEmpty = true) (h4 : ps.kwarg.isNone = true) : ps = ⟨[], ps.args, none, [], ps.kw_defaults, none, ps.defaults⟩ := by
  obtain ⟨a, b, c, d, e, f, g⟩ := ps
  obtain rfl : a = [] := List.isEmpty_iff.mp h1
  obtain rfl : c = none := Option.isNone_iff_eq_none.mp h2
  obtain rfl : d = [] := List.isEmpty_iff.mp h3
  obtain rfl : f = none := Option.isNone_iff_eq_none.mp h4
  rfl
theorem bnot {b : Bool} (h : (!b) = true) : b = false := (Bool.not_eq_true' _).mp h
theorem free_of {l : Sp} (h : (l.all fun p => !(p.2 == .free) || p.1 == ("__class__" : Str)) = true) {x : Str} (hx : l.lookup x = some .free) : x = ("__class__" : Str) :=
  (Bool.or_eq_true_iff.mp (List.all_eq_true.mp h _ (mem_of_lookup hx))).elim (fun q => absurd (bnot q) Bool.true_eq_false.mp) eq_of_beq
theorem chkF_ok {S : Sta} {f : MFun} {nms : List Str} {ps : Arguments} {scope : Scope} {body : List Stmt} (h : chkF S f nms ps scope body = true) : FOk S f nms ps scope body :=
  have h15 := ott h
  have h14 := ott h15.1
  have h13 := ott h14.1
  have h12 := ott h13.1
  have h11 := ott h12.1
  have h10 := ott h11.1
  have h9 := ott h10.1
  have h8 := ott h9.1
  have h7 := ott h8.1
  have h6 := ott h7.1
  have h5 := ott h6.1
  have h4 := ott h5.1
  have h3 := ott h4.1
  have h2 := ott h3.1
  ⟨of_decide_eq_true h2.1, fun x hx => free_of h3.2 hx, of_decide_eq_true h4.2, of_decide_eq_true h5.2, ps_eq h6.2 h7.2 h8.2 h9.2, eq_of_beq h10.2, bnot h11.2, bnot h12.2, of_decide_eq_true h13.2, h14.2, h15.2⟩

section
variable {mf : MFun} {nms : List Str} {fd : FuncData} {scope : Scope} {body : List Stmt}
theorem binds_plain (F : FOk c.S mf nms fd.params scope body) (hd : mf.dfl = []) (hdv : fd.defaults = .none) : BindsK c mf nms fd := fun vs hl {fix φ ys s} hv hK => by
  rw [hd, List.length_nil, Nat.add_zero] at hl
  rw [hd, List.append_nil]
  refine ⟨ys, hv, BindsTo.of_eq ?_⟩
  rw [← F.args]
  refine bind0 F.pr hdv ?_ ?_
  · rw [F.args]; exact F.nd.sublist (List.take_sublist _ _)
  · rw [F.args, List.length_take, ← hv.length, F.len]; omega
theorem two {α : Type} {l : List α} (h : l.length = 2) {P : List α → Prop} (g : ∀ a b, P [a, b]) : P l := match l, h with
  | [a, b], _ => g a b
theorem oneMV {vs : List MV} (h : vs.length + 1 = 2) {P : List MV → Prop} (g : ∀ a, P [a]) : P vs := match vs, h with
  | [a], _ => g a
theorem binds_one (F : FOk c.S mf nms fd.params scope body) (hn : mf.n = 2) {v0 : Int} (hd : mf.dfl = [.int v0]) {T : Addr} (hdv : fd.defaults = .ref T) {oc : Value} {od : Option Addr} {osl : Array (Option Value)} {n : Nat} {t : Tok} (hT : c.K.lookup T = some ⟨oc, od, .seq #[.int v0 t] n, osl⟩) : BindsK c mf nms fd := fun vs hl {fix φ ys s} hv hK => by
  rw [hd, hn] at hl
  rw [hd, ← F.args]
  have hz : (nms.take mf.n).length = 2 := by rw [List.length_take, F.len, hn]; omega
  have hnd := F.nd.sublist (List.take_sublist mf.n _)
  rw [← F.args] at hz hnd
  rw [List.length_map] at hz
  refine two hz (P := fun l => fd.params.args = l → (l.map (·.arg)).Nodup → ∃ ys', c.VRs fix φ (vs ++ [.int v0]) ys' ∧ BindsTo s fd ⟨ys, []⟩ ((l.map (·.arg)).zip ys')) (fun A B hA hnd => ?_) rfl hnd
  have hp := F.pr
  rw [hA] at hp
  refine oneMV hl (P := fun vs => c.VRs fix φ vs ys → ∃ ys', c.VRs fix φ (vs ++ [.int v0]) ys' ∧ BindsTo s fd ⟨ys, []⟩ (([A, B].map (·.arg)).zip ys')) (fun v1 hv => ?_) hv
  cases hv with
  | @cons _ y1 _ r vy1 hr =>
  cases hr
  exact ⟨[y1, .int v0 t], .cons vy1 (.one (.int _ _)), bind1 hp (fun q => (List.nodup_cons.mp hnd).1 (List.mem_singleton.mpr q)) hdv (hK _ _ hT) rfl⟩
end

noncomputable def retOf (fo : Flow) : Value := match fo with
  | .ret v => v
  | _ => .none
theorem FlR.done {fix : Kp} {φ : List Addr} {fl : Fl} {ρ : Lo} {G G' : GH} {v : MV} {fo : Flow} {P : GH → Prop} {R : Value → Prop} (r : FlR c fix φ fl fo) (h : outF (fl, ρ, G) = some (v, G')) (F : P G) (q : ∀ y, P G' → c.VR fix φ v y → R y) : R (retOf fo) := by
  cases r with
  | next => exact opk (P := fun v G' => (∀ y, P G' → c.VR fix φ v y → R y) → R .none) h (fun g => g _ F .none) q
  | brk => exact noS h
  | cont => exact noS h
  | ret hy => exact opk (P := fun v G' => (∀ y, P G' → c.VR fix φ v y → R y) → R _) h (fun g => g _ F hy) q
noncomputable def DoneQ (c : CX) (fix kp : Kp) (φ : List Addr) (G' : GH) (v : MV) (R : Result → Shared → Prop) : Prop := ∀ fix' φ' y s', Le fix fix' → φ <+: φ' → St c fix' kp φ' G' s' → c.VR fix' φ' v y → R (.ok (.ret y)) s'
theorem body_in (O : c.Ok) {f : Addr} {mf : MFun} (Fk : FnFull c f mf) (hX : XOk c X) (hC : CallOk c X d) (hS : SrtOk c X d) {ρ : Lo} {G G' : GH} {v : MV} {L : Addr} {A : Around} {fix kp kp1 : Kp} {φ : List Addr} {s : Shared} {env : Env} {x : MS} {r : List MS} {st : Stmt} {sts : List Stmt} {o : Fl × Lo × GH} {qual : Str}
    (hbody : mf.body = x :: r) (hB : chkB c.S (x :: r) Fk.scope.names (Fk.nms.map some) (st :: sts) = true) (hnd : (Fk.scope.names.map (·.1)).Nodup) (he : env = newEnv Fk.scope L mainGlobals (cellsFrom (L + 1) Fk.scope.names Fk.cl) qual (some f) Fk.cdv none builtinsNs)
    (hout : mSs X (x :: r) ρ G = some o) (hm : outF o = some (v, G')) (W : Own Fk.scope.names (Fk.nms.map some) 0 env kp) (F : FSt c fix kp kp1 φ G s Fk.scope.names (Fk.nms.map some) ρ env) (hA : AOk A d) {R : Result → Shared → Prop} (q : DoneQ c fix kp φ G' v R) {bd : List Stmt} {E : Value → Shared → Prop} :
    _root_.PySem.wpAt c.M A (.func bd env) (execs (st :: sts) env) (fun fo s' => R (.ok (.ret (retOf fo))) s') E s := by
  have fin : ∀ fix' kp' φ' fo s', Le fix fix' → φ <+: φ' → FSt c fix' kp kp' φ' o.2.2 s' Fk.scope.names (Fk.nms.map some) o.2.1 env → FlR c fix' φ' o.1 fo → R (.ok (.ret (retOf fo))) s' := fun fix' kp' φ' fo s' l2 q2 F2 r2 =>
    r2.done (P := fun G => St c fix' kp φ' G s') (R := fun y => R (.ok (.ret y)) s') hm ⟨F2.st.1.less F2.le, F2.st.2⟩ fun y S hy => q fix' φ' y s' l2 q2 S hy
  rcases (cB_cons hB).1 with hx | hx
  · exact _root_.PySem.wpAt_of_wpAny (ss_ok (ssK O hX hC hS (x :: r)) (show chkSs c.S (x :: r) Fk.scope.names (Fk.nms.map some) (st :: sts) = true from Bool.and_eq_true_iff.mpr ⟨hx, (cB_cons hB).2⟩) hout W F hA fin)
  · refine cU_expr (P := fun x => mf.body = x :: r → mSs X (x :: r) ρ G = some o → chkSup c.S x Fk.scope.names (Fk.nms.map some) st = true → _) hx (fun f2 C es _ hbody hout hx => ?_) hbody hout hx
    have key : ∀ {fl1 : Fl} {ρ1 : Lo} {G2 : GH}, mS X (.expr (.sup f2 C es)) ρ G = some (fl1, ρ1, G2) → (fl1 = .next → mSs X r ρ1 G2 = some o) → _root_.PySem.wpAt c.M A (.func bd env) (execs (st :: sts) env) (fun fo s' => R (.ok (.ret (retOf fo))) s') E s := fun hm1 hgo =>
      ks_wpAt_execs_cons (sup_ok O hC (esK O hX hC hS es) (Fk.sup f2 C es r hbody) Fk.here rfl hnd he hx hm1 F hA fun f3 p3 s3 l3 q3 F3 hfl =>
        _root_.PySem.wpAt_of_wpAny (ss_ok (ssK O hX hC hS r) (cB_cons hB).2 (hgo hfl) W F3 hA fun f4 k4 p4 z s4 l4 q4 F4 r4 => fin f4 k4 p4 z s4 (l3.trans l4) (q3.trans q4) F4 r4))
    exact iSs hout (fun ρ1 G2 h1 h2 => key h1 fun _ => h2) fun hn h1 => key h1 fun e => absurd e hn
theorem fn_ok (O : c.Ok) {f : Addr} {mf : MFun} (Fk : FnFull c f mf) (hX : XOk c X) (hC : CallOk c X d) (hS : SrtOk c X d) {vs : List MV} {ρ : Lo} {G G' : GH} {v : MV} (hb : bindO mf vs = some ρ) (hm : outO (mSs X mf.body ρ G) = some (v, G'))
    {A : Around} {fix kp : Kp} {φ : List Addr} {s : Shared} {ys : List Value} (S : St c fix kp φ G s) (hv : c.VRs fix φ vs ys) (hA : AOkC A (d + 1)) {R : Result → Shared → Prop}
    (q : DoneQ c fix kp φ G' v R) : codeAny c.M A (.call (.ref f) ⟨ys, []⟩) R s := by
  have F := chkF_ok Fk.chk
  have K0 := S.1.K O
  refine oif hb fun hl hb => (Fk.binds vs hl hv K0).elim fun ys' hq => ?_
  refine codeAny_call_function (by have := hA.depth; omega) (K0 _ _ Fk.here) rfl F.cor F.gen rfl (codeRec_of K0 Fk.code) (hq.2 _ _ _ _ ?_)
  have hcl : ∀ x a, Fk.cl.lookup x = some a → x = ("__class__" : Str) ∧ a < s.heap.objs.size := fun x a e =>
    ⟨(Fk.clo x a e).1, (Option.isSome_iff_exists.mp (Fk.clo x a e).2).elim fun o ho => Heap.lt_size (K0 _ _ ho)⟩
  have hlen : (vs ++ mf.dfl).length = mf.n := by rw [List.length_append]; exact hl
  rw [← hlen]
  refine newFn_ok (k := mf.k) S F.kind F.snd F.nd F.nok (by rw [hlen]; exact F.len) hq.1 F.free hcl fun s1 kp1 env he S1 l1 V1 W1 => ?_
  refine ⟨S1.1.noLimit O, ks_codeAny_funcAt ?_⟩
  rw [Option.some.inj hb] at V1
  refine obk hm fun o hout hm => ?_
  have hB := F.chk
  cases hb1 : mf.body with
  | nil => rw [hb1] at hB; cases hb2 : Fk.body <;> rw [hb2] at hB <;> exact ft hB
  | cons x r =>
  cases hb2 : Fk.body with
  | nil => rw [hb1, hb2] at hB; exact ft hB
  | cons st sts =>
  rw [hb1, hb2] at hB
  rw [hb1] at hout
  exact body_in O Fk hX hC hS hb1 hB F.snd he hout hm W1 ⟨l1, S1, V1⟩ (hA.body env) q

theorem calls_ok (O : c.Ok) (hF : ∀ f mf, c.P.fn f = some mf → Nonempty (FnFull c f mf)) (hS : ∀ X d, XOk c X → CallOk c X d → SrtOk c X d) (W : Nat) : ∀ d, CallOk c (ctx c.P W (mcall c.P W d)) d
  | 0 => fun hm => nomatch (show none = some (_, _) from hm)
  | d + 1 => fun hm {_ _ _ _ _ _} S hv hA {_} q =>
    obk (o := c.P.fn _) hm fun mf hmf h => obk (o := bindO mf _) h fun ρ hb h => (hF _ mf hmf).elim fun Fk => fn_ok O Fk ⟨rfl, rfl, rfl⟩ (calls_ok O hF hS W d) (hS _ _ ⟨rfl, rfl, rfl⟩ (calls_ok O hF hS W d)) hb h S hv hA q
end
end Mine
end
section
set_option autoImplicit false
set_option linter.unusedSectionVars false
set_option linter.unusedVariables false
namespace Mine
open PySem PySem.W PyProof.Rows PySem.Calls

section
variable {α : Type} {P : Prop}
theorem anyk {o : Option α} {p : α → Bool} (h : o.any p = true) (g : ∀ a, o = some a → p a = true → P) : P := match o, h with
  | some a, h => g a rfl h
end
noncomputable def fdD (d : Data) : Option FuncData := match d with | .func fd => some fd | _ => none
noncomputable def fieldsD (d : Data) : Option (Array Value) := match d with | .fields vs => some vs | _ => none
noncomputable def cellD (d : Data) : Option Value := match d with | .cell v => v | _ => none
noncomputable def seqD (d : Data) : Option (Array Value × Nat) := match d with | .seq xs n => some (xs, n) | _ => none
noncomputable def dOf {α : Type} (f : Data → Option α) (o : Option Obj) : Option α := o.bind fun o => f o.data
theorem dOf_k {α : Type} {f : Data → Option α} {o : Option Obj} {x : α} {d' : Data} {P : Option Obj → Prop} (h : dOf f o = some x) (k : ∀ {Q : Data → Prop} {d : Data}, f d = some x → Q d' → Q d) (g : ∀ a b c, P (some ⟨a, b, d', c⟩)) : P o :=
  (Option.bind_eq_some_iff.mp h).elim fun o q => q.1 ▸ k (Q := fun d => P (some ⟨o.cls, o.dict, d, o.slots⟩)) q.2 (g _ _ _)
section
variable {Q : Data → Prop} {d : Data}
theorem fdD_k {fd : FuncData} (h : fdD d = some fd) (g : Q (.func fd)) : Q d := by
  cases d with
  | func w => exact Option.some.inj h ▸ g
  | _ => exact noS h
theorem fieldsD_k {vs : Array Value} (h : fieldsD d = some vs) (g : Q (.fields vs)) : Q d := by
  cases d with
  | fields w => exact Option.some.inj h ▸ g
  | _ => exact noS h
theorem cellD_k {v : Value} (h : cellD d = some v) (g : Q (.cell (some v))) : Q d := by
  cases d with
  | cell w => exact (show w = some v from h) ▸ g
  | _ => exact noS h
theorem seqD_k {p : Array Value × Nat} (h : seqD d = some p) (g : Q (.seq p.1 p.2)) : Q d := by
  cases d with
  | seq xs n => obtain rfl := Option.some.inj h; exact g
  | _ => exact noS h
end
noncomputable def strOf (v : Value) : Option Str := match v with | .str s _ => some s | _ => none
noncomputable def refOf (v : Value) : Option Addr := match v with | .ref a => some a | _ => none
noncomputable def isNoneV (v : Value) : Bool := match v with | .none => true | _ => false
noncomputable def intOf (v : Value) : Option Int := match v with | .int i _ => some i | _ => none
noncomputable def stmtsOf (b : FuncBody) : Option (List Stmt) := match b with | .stmts l => some l | _ => none
section
variable {v : Value} {P : Value → Prop}
theorem strOf_k {s : Str} (h : strOf v = some s) (g : ∀ t, P (.str s t)) : P v := match v, h with
  | .str _ t, h => Option.some.inj h ▸ g t
theorem refOf_k {a : Addr} (h : refOf v = some a) (g : P (.ref a)) : P v := match v, h with
  | .ref _, h => Option.some.inj h ▸ g
theorem isNoneV_k (h : isNoneV v = true) (g : P .none) : P v := match v, h with
  | .none, _ => g
theorem intOf_k {i : Int} (h : intOf v = some i) (g : ∀ t, P (.int i t)) : P v := match v, h with
  | .int _ t, h => Option.some.inj h ▸ g t
end
theorem stmtsOf_k {b : FuncBody} {l : List Stmt} {P : FuncBody → Prop} (h : stmtsOf b = some l) (g : P (.stmts l)) : P b := match b, h with
  | .stmts _, h => Option.some.inj h ▸ g

noncomputable def supIn (K : Frag) (prog : Program) (C f2 : Addr) (nms : List Str) (params : Arguments) (cl : List (Str × Addr)) (cdv : Value) : Bool :=
  cl.head?.any fun p => params.args.head?.any fun ar => (refOf cdv).any fun cda => (dOf fieldsD (K.lookup cda)).any fun vs => vs[2]?.any fun fv => (strOf fv).any fun file => (dOf cellD (K.lookup p.2)).any fun dv => (refOf dv).any fun D => (clsIn K D).any fun _ =>
    decide (cl = [(("__class__" : Str), p.2)]) && (nms[0]? == some ar.arg && (params.posonlyargs.isEmpty && (prog.main.file == file && (mroIn K C (.ref D) == some true && (ks_superIn K C D "__init__" == some (some (.ref f2))
    && (!(prog.main.scope.names.lookup ("super" : Str)).isSome && (nsIn K cStatics "thirdparty.any" == some none && (fnIn K f2 && typeIn K (.ref f2) == some (.type "function")))))))))
noncomputable def oneIn (K : Frag) (v0 : Int) (T : Addr) : Bool := (dOf seqD (K.lookup T)).any fun xs => xs.1[0]?.any fun v => (intOf v).any fun i => decide (xs.1 = #[v]) && i == v0
noncomputable def dflIn (K : Frag) (mf : MFun) (dV : Value) : Bool := match mf.dfl with
  | [] => isNoneV dV
  | v :: r => r.isEmpty && (mf.n == 2 && (iInt v).any fun v0 => (refOf dV).any fun T => oneIn K v0 T)
noncomputable def supOk (K : Frag) (prog : Program) (mf : MFun) (nms : List Str) (fd : FuncData) : Bool := match mf.body with
  | .expr (.sup f2 C _) :: _ => supIn K prog C f2 nms fd.params fd.closure fd.code
  | _ => true
noncomputable def fnChk (K : Frag) (prog : Program) (S : Sta) (f : Addr) (mf : MFun) (nms : List Str) : Bool := (dOf fdD (K.lookup f)).any fun fd => (stmtsOf fd.body).any fun body =>
  chkF S mf nms fd.params fd.scope body && (codeIn K fd.code fd.qualname && (fd.globals == mainGlobals && (fd.builtins == builtinsNs && (isNoneV fd.kwdefaults && (dflIn K mf fd.defaults
      && ((fd.closure.all fun p => p.1 == ("__class__" : Str) && (K.lookup p.2).isSome) && supOk K prog mf nms fd))))))

section
variable {c : CX}
theorem sup_of {C f2 : Addr} {nms : List Str} {params : Arguments} {cl : List (Str × Addr)} {cdv : Value} (h : supIn c.K c.prog C f2 nms params cl cdv = true) : Nonempty (SupFacts c C f2 nms params cl cdv) :=
  anyk h fun p _ h => anyk h fun ar har h => anyk h fun cda hcda h => anyk h fun vs hvs h => anyk h fun fv hfv h => anyk h fun file hfile h => anyk h fun dv hdv h => anyk h fun D hD h => anyk h fun cdD hcd h =>
    ak h fun h1 h => ak h fun h2 h => ak h fun h3 h => ak h fun h4 h => ak h fun h6 h => ak h fun h7 h => ak h fun h8 h => ak h fun h9 h => ak h fun h10 h11 =>
      refOf_k (P := fun cdv => Nonempty (SupFacts c C f2 nms params cl cdv)) hcda (dOf_k (P := fun o => c.K.lookup cda = o → Nonempty (SupFacts c C f2 nms params cl (.ref cda))) hvs fieldsD_k (fun a b s hk =>
        strOf_k (P := fun fv => vs[2]? = some fv → Nonempty (SupFacts c C f2 nms params cl (.ref cda))) hfile (fun tk hv =>
          refOf_k (P := fun dv => dOf cellD (c.K.lookup p.2) = some dv → Nonempty (SupFacts c C f2 nms params cl (.ref cda))) hD (fun hdv =>
            dOf_k (P := fun o => c.K.lookup p.2 = o → Nonempty (SupFacts c C f2 nms params cl (.ref cda))) hdv cellD_k (fun a2 b2 s2 hk2 =>
              ⟨⟨D, p.2, cda, ar, vs, file, tk, a, b, s, a2, b2, s2, cdD, har, List.isEmpty_iff.mp h3, beq_ok h2, of_decide_eq_true h1, rfl, hk, hv, h4, hk2, hcd, beq_ok h6, bnot h8, beq_ok h9, beq_ok h7, h10, beq_ok h11⟩⟩) rfl) hdv) hfv) rfl)
theorem fd_eq {fd : FuncData} {body : List Stmt} (h1 : fd.body = .stmts body) (h2 : fd.globals = mainGlobals) (h3 : fd.builtins = builtinsNs) : fd = fnX fd.name fd.qualname fd.params body fd.scope fd.closure fd.defaults fd.kwdefaults fd.doc fd.pyModule fd.annotations fd.code fd.closureTuple := by
  obtain ⟨_, _, _, _, _, _, _, _, _⟩ := fd
  cases h1
  cases h2
  cases h3
  rfl
theorem dfl_of {mf : MFun} {nms : List Str} {fd : FuncData} {scope : Scope} {body : List Stmt} (F : FOk c.S mf nms fd.params scope body) (h : dflIn c.K mf fd.defaults = true) : BindsK c mf nms fd := by
  unfold dflIn at h
  cases hd : mf.dfl with
  | nil =>
    rw [hd] at h
    exact binds_plain F hd (isNoneV_k (P := fun v => v = .none) h rfl)
  | cons v r =>
    rw [hd] at h
    refine ak h fun h1 h => ak h fun h2 h => anyk h fun v0 hv h => anyk h fun T hT h => anyk h fun xs hxs h => anyk h fun w hw h => anyk h fun i hi h => ak h fun h3 h4 => ?_
    rw [List.isEmpty_iff.mp h1] at hd
    have hd2 : mf.dfl = [.int v0] := iInt_k (P := fun v => mf.dfl = [v] → mf.dfl = [.int v0]) hv id hd
    refine dOf_k (P := fun o => c.K.lookup T = o → BindsK c mf nms fd) hxs seqD_k (fun a b s hk => ?_) rfl
    rw [of_decide_eq_true h3] at hk
    refine intOf_k (P := fun w => c.K.lookup T = some ⟨a, b, .seq #[w] xs.2, s⟩ → BindsK c mf nms fd) hi (fun t hk => ?_) hk
    rw [eq_of_beq h4] at hk
    exact binds_one F (eq_of_beq h2) hd2 (refOf_k (P := fun v => v = .ref T) hT rfl) hk
theorem clo_of {cl : List (Str × Addr)} (h : (cl.all fun p => p.1 == ("__class__" : Str) && (c.K.lookup p.2).isSome) = true) (x : Str) (a : Addr) (e : cl.lookup x = some a) : x = ("__class__" : Str) ∧ (c.K.lookup a).isSome = true :=
  have := ott (List.all_eq_true.mp h _ (mem_of_lookup e))
  ⟨eq_of_beq this.1, this.2⟩
theorem sup_at {mf : MFun} {nms : List Str} {fd : FuncData} (h : supOk c.K c.prog mf nms fd = true) {f2 C : Nat} {es : List ME} {r : List MS} (e : mf.body = .expr (.sup f2 C es) :: r) : Nonempty (SupFacts c C f2 nms fd.params fd.closure fd.code) := by
  unfold supOk at h
  rw [e] at h
  exact sup_of h
theorem fn_of {f : Addr} {mf : MFun} {nms : List Str} (h : fnChk c.K c.prog c.S f mf nms = true) : Nonempty (FnFull c f mf) :=
  anyk h fun fd hfd h => anyk h fun body hb h => ak h fun h1 h => ak h fun h2 h => ak h fun h3 h => ak h fun h4 h => ak h fun h5 h => ak h fun h6 h => ak h fun h7 h8 => by
    have e := fd_eq (stmtsOf_k (P := fun b => b = .stmts body) hb rfl) (eq_of_beq h3) (eq_of_beq h4)
    refine dOf_k (P := fun o => c.K.lookup f = o → Nonempty (FnFull c f mf)) hfd fdD_k (fun oc od osl hk => ?_) rfl
    have hB := dfl_of (chkF_ok h1) h6
    rw [e] at hk hB
    exact ⟨{ nms := nms, here := hk, code := h2, chk := h1, kw := isNoneV_k (P := fun v => v = .none) h5 rfl, clo := clo_of h7, binds := hB, sup := fun f2 C es r e => Classical.choice (sup_at h8 e), .. }⟩
end
end Mine
end
section
set_option autoImplicit false
set_option linter.unusedSectionVars false
set_option linter.unusedVariables false
namespace Mine
open PySem PySem.W PyProof.Rows PySem.Calls

noncomputable def atrsOk (K : Frag) (tab : List Str) (l : List (Nat × Nat)) : Bool := l.all fun p => match tab[p.2]? with | some x => attrIn K p.1 x | none => false
noncomputable def mthsOk (K : Frag) (tab : List Str) (l : List (Nat × Nat × Nat)) : Bool := l.all fun p => match tab[p.2.1]? with | some x => methIn K p.1 x p.2.2 | none => false
noncomputable def initsOk (K : Frag) (l : List (Nat × Nat)) : Bool := l.all fun p => initIn K p.1 p.2
noncomputable def globsOk (K : Frag) (l : List (Str × Nat)) : Bool := l.all fun p => nsIn K mainGlobals p.1 == some (some (.ref p.2)) && keepIn K (.ref p.2)
noncomputable def gintsOk (K : Frag) (l : List (Str × Int)) : Bool := l.all fun p => match nsIn K mainGlobals p.1 with | some (some (.int i _)) => i == p.2 | _ => false
noncomputable def bltsOk (K : Frag) (l : List Str) : Bool := l.all fun x => nsIn K mainGlobals x == some none && !(x == ("__name__" : Str))

theorem mg_at {K : Frag} {h : Heap} {mg : Str → Option Value} {n : Str} {v : Option Value} (X : K.In h) (G : h.Ns mainGlobals mg) (e : nsIn K mainGlobals n = some v) : mg n = v := by
  cases v with
  | none => exact mg_none_of X G e
  | some v => exact mg_of X G e

theorem ok_of {c : CX} (hT : c.S.tab.Nodup) (KX : c.K.In c.hb) (g : c.hb.Ns mainGlobals c.mg) (b : c.hb.Ns builtinsNs c.mb) (boot : ∀ x : Str, x ≠ "__name__" → c.mb x = bootBuiltins x) (nl : c.hb.NoLimit)
    {atrs : List (Nat × Nat)} {mths : List (Nat × Nat × Nat)} {inits : List (Nat × Nat)} (ha : ∀ C k, c.P.atr C k = true → (C, k) ∈ atrs) (hm : ∀ C m f, c.P.mth C m = some f → (C, m, f) ∈ mths) (hi : ∀ C f, c.P.init C = some f → (C, f) ∈ inits)
    (ka : atrsOk c.K c.S.tab atrs = true) (km : mthsOk c.K c.S.tab mths = true) (ki : initsOk c.K inits = true) (kg : globsOk c.K c.S.globs = true) (kn : gintsOk c.K c.S.gints = true) (kb : bltsOk c.K c.S.blts = true) : c.Ok where
  tabN := hT
  Kin := KX
  g := g
  b := b
  boot := boot
  nolimit := nl
  glob x f h := by
    have := List.all_eq_true.mp kg _ (mem_of_lookup h)
    simp only [Bool.and_eq_true, beq_iff_eq] at this
    exact ⟨mg_at KX g this.1, this.2⟩
  gint x i h := by
    have := List.all_eq_true.mp kn _ (mem_of_lookup h)
    dsimp only at this
    split at this
    · rename_i j t e
      obtain rfl := eq_of_beq this
      exact ⟨t, mg_at KX g e⟩
    · cases this
  blt x h := by
    have := List.all_eq_true.mp kb _ h
    simp only [Bool.and_eq_true, beq_iff_eq, Bool.not_eq_true', beq_eq_false_iff_ne] at this
    exact ⟨mg_at KX g this.1, this.2⟩
  atr C k h := by
    have := List.all_eq_true.mp ka _ (ha C k h)
    dsimp only at this
    split at this
    · rename_i x e; exact ⟨x, e, this⟩
    · cases this
  mth C m f h := by
    have := List.all_eq_true.mp km _ (hm C m f h)
    dsimp only at this
    split at this
    · rename_i x e; exact ⟨x, e, this⟩
    · cases this
  init C f h := List.all_eq_true.mp ki _ (hi C f h)

theorem start_ok {c : CX} {s : Shared} (hb : c.hb = s.heap) (hg : c.gs = s.gens) (ho : c.os = s.os) (hs : (s.heap.get? cStatics).isSome = true) : St c (fun a => s.heap.get? a) (fun _ => none) [] [] s :=
  ⟨⟨fun a o e => by rw [hb] at e; exact e, fun a o e => e, fun a o e => (by cases e), fun a o e => (by cases e), rfl, List.Pairwise.nil, fun a h => (by cases h), fun i a g e => (by simp at e), by rw [hb]; exact hs, fun a h => (by cases h)⟩, hg.symm, ho.symm⟩
end Mine
end
section
set_option autoImplicit false
set_option linter.unusedSectionVars false
set_option linter.unusedVariables false
namespace Mine
open PySem PySem.W PyProof.Rows PySem.Calls

theorem srtF {S : Sta} {a e : ME} {m : Nat} {sc : Sp} {nm : Nm} {x : PySem.Expr} (hs : S.skey = false) (h : chkE S (.srtK a e m) sc nm x = true) : False := by
  have key : S.skey = true := (ott h).1
  rw [hs] at key; cases key
theorem srt_no {c : CX} {X : Ctx} {d : Nat} (h : c.S.skey = false) : SrtOk c X d := fun a e m _ _ =>
  ⟨fun {sc nm ρ env A fix kp φ G G' s x v} hc => (srtF h hc).elim, noT fun _ _ _ _ => rfl⟩

theorem law_bool {prog' : Program} {w : World} {S : Sta} {P : Prog} {K : Frag} {s₁ : Shared} {mg mb : Str → Option Value} (O : (CX.mk prog' w S P K s₁.heap mg mb s₁.gens s₁.os).Ok) (hst : (K.lookup cStatics).isSome = true)
    (hF : ∀ f mf, P.fn f = some mf → ∃ nms, fnChk K prog' S f mf nms = true) (hS : ∀ X d, XOk (CX.mk prog' w S P K s₁.heap mg mb s₁.gens s₁.os) X → CallOk (CX.mk prog' w S P K s₁.heap mg mb s₁.gens s₁.os) X d → SrtOk (CX.mk prog' w S P K s₁.heap mg mb s₁.gens s₁.os) X d)
    {W d : Nat} (hd : d ≤ 100) {f : Nat} {ns : List Int} {G' : GH} (hlen : ns.length ≤ 4096) (hm : mcall P W d f [.lst (ns.map .int)] [] = some (.bool true, G')) {l : Addr} {xs : List Value} (hl : s₁.heap.get? l = some { cls := .type "list", data := .seq xs.toArray }) (hx : IntsAre xs ns)
    {R : Result → Shared → Prop} (q : ∀ s', (∀ b o, s₁.heap.get? b = some o → s'.heap.get? b = some o) → s'.gens = s₁.gens → s'.os = s₁.os → R (.ok (.ret (.bool true))) s') : codeAny (model prog' w) callerA (.call (.ref f) ⟨[.ref l], []⟩) R s₁ := by
  have hstat : (s₁.heap.get? cStatics).isSome = true := by
    obtain ⟨o, ho⟩ := Option.isSome_iff_exists.mp hst
    rw [O.Kin _ _ ho]; rfl
  have S0 := start_ok (c := CX.mk prog' w S P K s₁.heap mg mb s₁.gens s₁.os) (s := s₁) rfl rfl rfl hstat
  have hC : CallOk (CX.mk prog' w S P K s₁.heap mg mb s₁.gens s₁.os) (ctx P W (mcall P W d)) d := calls_ok O (fun f mf h => let ⟨nms, e⟩ := hF f mf h; fn_of e) hS W d
  have hv : (CX.mk prog' w S P K s₁.heap mg mb s₁.gens s₁.os).VR (fun a => s₁.heap.get? a) [] (.lst (ns.map .int)) (.ref l) :=
    .lst hl (intsOut (c := CX.mk prog' w S P K s₁.heap mg mb s₁.gens s₁.os) hx) (by rw [List.length_map]; exact hlen)
  refine hC hm S0 (.cons hv .nil) ⟨rfl, ?_, ?_⟩ fun fix' φ' y s' le pre S' vy => ?_
  · show callerA.depth + 4 * (d + 1) < recursionLimit
    have h1 : callerA.depth ≤ 310 := by decide
    have h2 : recursionLimit = 1000 := rfl
    omega
  · show callerA.units + 20 * (d + 1) + 80 < cLine
    have h1 : callerA.units ≤ 10 := by decide
    have h2 : cLine = 9900 := rfl
    omega
  · cases vy
    exact q s' (fun b o e => S'.1.fixK _ _ (le _ _ e)) S'.2.1 S'.2.2

end Mine
end
section
set_option autoImplicit false
set_option linter.unusedSectionVars false
set_option linter.unusedVariables false
namespace Mine
open PySem PySem.W PyProof.Rows PySem.Calls

section
variable {c : CX} {A : Around} {fix kp fix' : Kp} {φ φ' : List Addr} {G G' : GH} {s s' : Shared} {h h' : Heap} {fp fp' : List (Addr × Obj)} {a kS : Addr} {o o' : Obj}

theorem Free.sub (F : Free fix kp φ h fp) (m : ∀ p ∈ fp', p ∈ fp) : Free fix kp φ h fp' := fun p hp => F p (m p hp)
theorem St.chg (S : St c fix kp φ G s) (F : Free fix kp φ s.heap fp) (ha : (a, o) ∈ fp) (hs : Heap.SameBut a s.heap h') {tk : Nat} : St c fix kp φ G { s with heap := h', toks := tk } :=
  have f := F _ ha
  ⟨S.1.heap fun b x hb e => (hs.2 b fun q => by
    rw [q] at hb
    rcases hb with hb | hb | hb
    · rw [f.2.1] at hb; exact noF hb
    · rw [f.2.2.1] at hb; exact noF hb
    · exact f.2.2.2 hb).trans e, S.2⟩
theorem Free.chg (F : Free fix kp φ h fp) (ha : (a, o) ∈ fp) (hs : Heap.SameBut a h h') (ho : h'.get? a = some o') (m : ∀ p ∈ fp', p = (a, o') ∨ (p ∈ fp ∧ p.1 ≠ a)) : Free fix kp φ h' fp' := fun p hp => (m p hp).elim
  (fun e => e ▸ ⟨ho, (F _ ha).2⟩) fun q => ⟨(hs.2 p.1 q.2).trans (F p q.1).1, (F p q.1).2⟩
theorem Free.run (F : Free fix kp φ h fp) (R : Rel c fix kp φ G h) : Rel c fix (holdL kp fp) φ G h ∧ ∀ {fix' φ' G' h'}, Rel c fix' (holdL kp fp) φ' G' h' → Rel c fix' kp φ' G' h' ∧ Free fix' kp φ' h' fp :=
  ⟨(F.hold R).1, fun R' => have b := F.back (Le.refl _) R'; have l := F.le (Le.refl kp) (Le.refl _); ⟨b.2.less l, b.1.less l⟩⟩

section
variable {E : Value → Shared → Prop} {P : PySem.Fin → Shared → Prop} {vs : List Value} {kz : List Int} {keys : Array Value} {e e1 : Nat}

noncomputable def SortQ (c : CX) (fix kp : Kp) (φ : List Addr) (G : GH) (a : Addr) (kz : List Int) (vs : List Value) (P : PySem.Fin → Shared → Prop) (s : Shared) : Prop := ∀ h' tk out n, St c fix kp φ G { s with heap := h', toks := tk } → Free fix kp φ h' [(a, seqObj "list" out n)] → KskOut true kz vs out.toList → P (.done (.ret .none)) { s with heap := h', toks := tk }

noncomputable def srtT (a : Addr) (before : Nat) (keyStore : Value) (old : List Value) (out : Array Value) : Sem PySem.Fin := do
  Builtin.List.listUpdate keyStore fun _ => #[]
  letGo old []
  let touched := (← seqEpoch a) != before
  Builtin.List.listUpdate (.ref a) fun _ => out
  if touched then rule "list.sort.modified"; raiseError "ValueError" "list modified during sort"
  ret .none
theorem tail_eq {st : SortSt} (hfl : failedOf st = none) : ksk_tail a true e1 (.ref kS) st = srtT a e1 (.ref kS) ((arrOf st).map (·.1)).toList ((arrOf st).map (·.2)).reverse := by
  unfold ksk_tail
  rw [hfl]
  rfl
theorem srt_tail0 {old : List Value} {out : Array Value} (S : St c fix kp φ G s) (F : Free fix kp φ s.heap [(kS, seqObj "list" keys e), (a, seqObj "list" #[] e1)]) (hka : kS ≠ a) (hsz : keys.size ≤ 4096) (hout : out.size ≤ 4096)
    (q : ∀ h' n, St c fix kp φ G { s with heap := h' } → Free fix kp φ h' [(a, seqObj "list" out n)] → P (.done (.ret .none)) { s with heap := h' }) : wpAny c.M A (srtT a e1 (.ref kS) old out) P E s := by
  have fk := F _ (.head _)
  have fa := F _ (.tail _ (.head _))
  have s1 := Heap.SameBut.update s.heap kS (Obj.mapSeq fun _ => (#[] : Array Value))
  have na := (s1.2 a hka.symm).trans fa.1
  have S1 := S.chg F (.head _) s1 (tk := s.toks)
  have F1 : Free fix kp φ (s.heap.update kS (Obj.mapSeq fun _ => (#[] : Array Value))) [(a, seqObj "list" #[] e1)] := allOne ⟨na, fa.2⟩
  have s2 := Heap.SameBut.update (s.heap.update kS (Obj.mapSeq fun _ => (#[] : Array Value))) a (Obj.mapSeq fun _ => out)
  have g2 := get?_update_seq na fun _ => out
  refine wpAny_bind (listUpdate_at fk.1 rfl ?_ (sizeLine_ge (Nat.le_trans hsz (by decide))) (Nat.zero_le _))
  refine wpAny_bind (wpAny_letGo ?_)
  refine wpAny_bind (seqEpoch_at na rfl ?_)
  refine wpAny_bind (listUpdate_at na rfl ?_ (Nat.zero_le _) (Nat.le_trans (sizeLine_ge (Nat.le_trans hout (by decide))) (Nat.le_succ _)))
  rw [if_neg (by rw [bne_self_eq_false]; exact Bool.false_ne_true)]
  exact wpAny_pure (q _ _ (St.chg (s := { s with heap := s.heap.update kS (Obj.mapSeq fun _ => (#[] : Array Value)) }) S1 F1 (.head _) s2) (F1.chg (.head _) s2 g2 (allOne (.inl rfl))))
theorem srt_tail {st : SortSt} (S : St c fix kp φ G s) (F : Free fix kp φ s.heap [(kS, seqObj "list" keys e), (a, seqObj "list" #[] e1)]) (hka : kS ≠ a) (hk : IntsAre keys.toList kz) (hlen : kz.length = vs.length) (h64 : vs.length < 64)
    (hp : (arrOf st).Perm (keys.zip vs.toArray)) (hs : SortedTo (arrOf st) (arrOf st).size) (hfl : failedOf st = none) (q : SortQ c fix kp φ G a kz vs P s) : wpAny c.M A (ksk_tail a true e1 (.ref kS) st) P E s := by
  have hsz : keys.size = vs.length := Array.length_toList.symm.trans (hk.length.trans hlen)
  rw [tail_eq hfl]
  refine srt_tail0 S F hka (by omega) ?_ fun h' n S' F' => q h' s.toks _ n S' F' (ksk_out (b := true) hk hp hs)
  rw [Array.size_reverse, Array.size_map, hp.size_eq, Array.size_zip, hsz, List.size_toArray, Nat.min_self]
  omega

theorem srt_end (S : St c fix kp φ G s) (F : Free fix kp φ s.heap [(kS, seqObj "list" keys e), (a, seqObj "list" #[] e1)]) (hka : kS ≠ a) (hk : IntsAre keys.toList kz) (hlen : kz.length = vs.length) (h64 : vs.length < 64)
    (q : SortQ c fix kp φ G a kz vs P s) : wpAny c.M A (ksk_end a true vs.toArray e1 (.ref kS) keys) P E s := by
  have hsz : keys.size = vs.length := Array.length_toList.symm.trans (hk.length.trans hlen)
  have hzs : (keys.zip vs.toArray).size = vs.length := by rw [Array.size_zip, hsz, List.size_toArray, Nat.min_self]
  have hst : (keys.zip vs.toArray).reverse.Perm (keys.zip vs.toArray) := Array.perm_iff_toList_perm.mpr (by rw [Array.toList_reverse]; exact List.reverse_perm _)
  unfold ksk_end
  dsimp only
  rw [if_pos rfl, if_pos rfl]
  refine wpAny_bind (wpAny_rule ?_)
  by_cases h2 : vs.toArray.size < 2
  · rw [if_pos h2, if_pos h2]
    refine wpAny_bind (wpAny_pure ?_)
    rw [StateT.run_pure]
    refine wpAny_bind (wpAny_pure ?_)
    refine srt_tail (st := SortSt.mk' general' (keys.zip vs.toArray).reverse #[] 7 none) S F hka hk hlen h64 hst ?_ rfl q
    intro i j hij hj
    have hj2 : j < (keys.zip vs.toArray).reverse.size := hj
    rw [hst.size_eq, hzs] at hj2
    rw [List.size_toArray] at h2
    obtain rfl : i = j := by omega
    exact Int.le_refl _
  · rw [if_neg h2, if_neg h2]
    rw [List.size_toArray] at h2
    rw [ksk_kind hk (by rw [hsz]; omega)]
    refine wpAny_bind (wpAny_pure ?_)
    refine wpAny_bind (wpAny_mono (wpS_sortRuns (a₀ := keys.zip vs.toArray) (st := SortSt.mk' oneType' (keys.zip vs.toArray).reverse #[] 7 none)
      (Q := fun _ st' => (arrOf st').Perm (keys.zip vs.toArray) ∧ failedOf st' = none ∧ SortedTo (arrOf st') (keys.zip vs.toArray).size)
      (ksk_intKeys hk) ⟨hst, rfl, rfl, rfl⟩ (by rw [hzs]; omega) (by rw [hzs]; exact h64) fun st' a1 a2 a3 => ⟨a1, a2, a3⟩) ?_ fun _ _ e => e)
    rintro ⟨⟨⟩, st'⟩ s' ⟨rfl, hp, hf, hs⟩
    exact srt_tail S F hka hk hlen h64 hp (by rw [hp.size_eq]; exact hs) hf q

inductive KInv (c : CX) (fix kp : Kp) (φ : List Addr) (cl : MV → GH → Option (MV × GH)) (zs ks : List Int) (G' : GH) (kS a q : Addr) (oq : Obj) (e1 : Nat) (i : Nat) (s : Shared) : Prop
  | mk {fix1 : Kp} {φ1 : List Addr} {G1 : GH} {kA : Array Value} {e : Nat} : Le fix fix1 → φ <+: φ1 → St c fix1 kp φ1 G1 s → Free fix1 kp φ1 s.heap [(kS, seqObj "list" kA e), (a, seqObj "list" #[] e1), (q, oq)] → IntsAre kA.toList (ks.take i) → keysO cl ((zs.drop i).map .int) G1 = some (ks.drop i, G') → KInv c fix kp φ cl zs ks G' kS a q oq e1 i s
theorem keysO_cons {cl : MV → GH → Option (MV × GH)} {v : MV} {r : List MV} {ks : List Int} {Q : Prop} (hk : keysO cl (v :: r) G = some (ks, G')) (g : ∀ k G1 ks', cl v G = some (.int k, G1) → keysO cl r G1 = some (ks', G') → ks = k :: ks' → Q) : Q :=
  obk (o := cl v G) hk fun p h1 hk => obk (o := iInt p.1) hk fun k h2 hk => (Option.map_eq_some_iff.mp hk).elim fun w hw =>
    iInt_k (P := fun v' => cl v G = some (v', p.2) → Q) h2 (fun h1 => g k p.2 w.1 h1 (hw.1.trans (congrArg some (congrArg (Prod.mk w.1) (congrArg Prod.snd hw.2)))) (congrArg Prod.fst hw.2).symm) h1
theorem keysO_len {cl : MV → GH → Option (MV × GH)} : ∀ {l : List MV} {G G' : GH} {ks : List Int}, keysO cl l G = some (ks, G') → ks.length = l.length
  | [], _, _, _, h => by cases h; rfl
  | _ :: _, _, _, _, h => keysO_cons h fun k G1 ks' _ h2 e => by rw [e, List.length_cons, List.length_cons, keysO_len h2]

theorem srt_rest {X : Ctx} {d : Nat} (hC : CallOk c X d) (hA : AOkC A d) {f q xa : Addr} {C i : Nat} {zs ks : List Int} (S : St c fix kp φ G s) (F : Free fix kp φ s.heap [(kS, seqObj "list" #[] 0), (a, seqObj "list" #[] e1), (q, methodObj (.ref f) (.ref xa))]) (hka : kS ≠ a) (hkq : kS ≠ q)
    (hx : c.VR fix φ (.obj C i) (.ref xa)) (hi : IntsAre vs zs) (h64 : vs.length < 64) (hkeys : keysO (fun v G => X.call f [.obj C i, v] G) (zs.map .int) G = some (ks, G'))
    (qq : ∀ {fix' φ' s'}, Le fix fix' → φ <+: φ' → St c fix' kp φ' G' s' → SortQ c fix' kp φ' G' a ks vs P s') : wpAny c.M A (ksk_rest a (.ref q) true vs.toArray e1 (.ref kS)) P E s := by
  have hzl : vs.length = zs.length := hi.length
  have hkl : ks.length = vs.length := (keysO_len hkeys).trans ((List.length_map ..).trans hzl.symm)
  unfold ksk_rest
  refine wpAny_bind (wpAny_rule ?_)
  rw [List.forIn_toArray]
  refine wpAny_bind (ksk_fold (KInv c fix kp φ (fun v G => X.call f [.obj C i, v] G) zs ks G' kS a q (methodObj (.ref f) (.ref xa)) e1) vs 0 s (.mk (Le.refl _) (List.prefix_refl _) S F .nil hkeys) (fun j x s' hxj inv => ?_) fun s' inv => ?_)
  · rw [Nat.zero_add] at inv ⊢
    cases inv with
    | @mk fix1 φ1 G1 kA e l1 q1 S1 F1 hk hr =>
    have hj : j < vs.length := (List.getElem?_eq_some_iff.mp hxj).1
    have hjz : j < zs.length := hzl ▸ hj
    have hz : kA.size ≤ 64 := by
      have h1 := hk.length
      rw [Array.length_toList, List.length_take] at h1
      omega
    rw [List.drop_eq_getElem_cons hjz, List.map_cons] at hr
    obtain ⟨t, ht⟩ := hi.get j zs[j] (List.getElem?_eq_getElem hjz)
    rw [ht] at hxj
    obtain rfl := Option.some.inj hxj
    refine keysO_cons hr fun k G2 ks' hcall hrest hks => ?_
    have hkj : ks[j]? = some k := by
      have := List.getElem?_drop (xs := ks) (i := j) (j := 0)
      rw [hks] at this
      exact this.symm.trans rfl
    have hks' : ks.drop (j + 1) = ks' := by rw [← List.drop_drop, hks]; rfl
    refine wpAny_bind (wpAny_attempt (wpAny_mono (Q := fun v s2 => ∃ t2 fix2 φ2, v = .int k t2 ∧ Le fix1 fix2 ∧ φ1 <+: φ2 ∧ St c fix2 kp φ2 G2 s2 ∧ Free fix2 kp φ2 s2.heap [(kS, seqObj "list" kA e), (a, seqObj "list" #[] e1), (q, methodObj (.ref f) (.ref xa))])
      (wpAny_call (method_call (F1 _ (.tail _ (.tail _ (.head _)))).1 (hC hcall ⟨(F1.run S1.1).1, S1.2⟩ (.cons (VR.mono l1 q1 hx) (.one (.int zs[j] t))) hA fun fix2 φ2 y s2 l2 q2 S2 r2 => ?_))) (fun v s2 he => ?_) fun _ _ hF => hF))
    · refine intV (P := fun y => ∃ t2 fix2 φ2, y = .int k t2 ∧ Le fix1 fix2 ∧ φ1 <+: φ2 ∧ St c fix2 kp φ2 G2 s2 ∧ Free fix2 kp φ2 s2.heap [(kS, seqObj "list" kA e), (a, seqObj "list" #[] e1), (q, methodObj (.ref f) (.ref xa))]) r2 fun t2 => ?_
      have b := (F1.run S1.1).2 S2.1
      exact ⟨t2, fix2, φ2, rfl, l2, q2, ⟨b.1, S2.2⟩, b.2⟩
    · obtain ⟨t2, fix2, φ2, rfl, l2, q2, S2, F2⟩ := he
      have s1 := Heap.SameBut.update s2.heap kS (Obj.mapSeq (·.push (.int k t2)))
      have fk := F2 _ (.head _)
      obtain ⟨e2, g2⟩ : ∃ e2, (s2.heap.update kS (Obj.mapSeq (·.push (.int k t2)))).get? kS = some (seqObj "list" (kA.push (.int k t2)) e2) := ⟨_, get?_update_seq fk.1 (·.push (.int k t2))⟩
      refine wpAny_bind (listUpdate_at fk.1 rfl ?_ (sizeLine_ge (Nat.le_trans hz (by decide))) (Nat.le_trans (Nat.le_of_eq (Array.size_push ..)) (Nat.succ_le_succ (sizeLine_ge (Nat.le_trans hz (by decide))))))
      refine wpAny_pure ⟨rfl, .mk (kA := kA.push (.int k t2)) (e := e2) (l1.trans l2) (q1.trans q2) (S2.chg F2 (.head _) s1) (F2.chg (.head _) s1 g2 fun p hp => ?_) ?_ (by rw [hks']; exact hrest)⟩
      · rcases List.mem_cons.mp hp with rfl | hp
        · exact .inl rfl
        · refine .inr ⟨.tail _ hp, ?_⟩
          rcases List.mem_cons.mp hp with rfl | hp
          · exact hka.symm
          · rw [List.mem_singleton.mp hp]; exact hkq.symm
      · rw [List.take_add_one, hkj, Array.toList_push]
        exact ksk_snoc hk
  · rw [Nat.zero_add] at inv
    cases inv with
    | @mk fix1 φ1 G1 kA e l1 q1 S1 F1 hk hr =>
    rw [List.take_of_length_le (Nat.le_of_eq hkl)] at hk
    rw [List.drop_of_length_le (Nat.le_of_eq hzl.symm)] at hr
    obtain rfl : G1 = G' := congrArg Prod.snd (Option.some.inj hr)
    refine wpAny_bind (listItems_at (F1 _ (.head _)).1 rfl ?_)
    exact srt_end S1 (F1.sub fun p hp => (List.mem_cons.mp hp).elim (fun e => e ▸ .head _) fun hp => List.mem_singleton.mp hp ▸ .tail _ (.head _)) hka hk hkl h64 (qq l1 q1 S1)

theorem srt_tree {X : Ctx} {d : Nat} (hC : CallOk c X d) (hA : AOkC A d) {f q xa : Addr} {C i n : Nat} {zs ks : List Int} (S : St c fix kp φ G s) (F : Free fix kp φ s.heap [(a, seqObj "list" vs.toArray n), (q, methodObj (.ref f) (.ref xa))]) (hqa : q ≠ a)
    (hx : c.VR fix φ (.obj C i) (.ref xa)) (hi : IntsAre vs zs) (h64 : vs.length < 64) (hkeys : keysO (fun v G => X.call f [.obj C i, v] G) (zs.map .int) G = some (ks, G'))
    (qq : ∀ {fix' φ' s'}, Le fix fix' → φ <+: φ' → St c fix' kp φ' G' s' → SortQ c fix' kp φ' G' a ks vs P s') : wpAny c.M A (ksk_tree a (.ref q) true) P E s := by
  have fa := F _ (.head _)
  have fq := F _ (.tail _ (.head _))
  have z8 : vs.length ≤ 8192 := Nat.le_trans (Nat.le_of_lt h64) (by decide)
  have s1 := Heap.SameBut.update s.heap a (Obj.mapSeq fun _ => (#[] : Array Value))
  obtain ⟨e1, g1⟩ : ∃ e1, (s.heap.update a (Obj.mapSeq fun _ => (#[] : Array Value))).get? a = some (seqObj "list" #[] e1) := ⟨_, get?_update_seq fa.1 fun _ => #[]⟩
  have S1 := S.chg F (.head _) s1 (tk := s.toks)
  have F1 : Free fix kp φ (s.heap.update a (Obj.mapSeq fun _ => (#[] : Array Value))) [(a, seqObj "list" #[] e1), (q, methodObj (.ref f) (.ref xa))] := F.chg (.head _) s1 g1 fun p hp => (List.mem_cons.mp hp).elim .inl fun hp => .inr ⟨.tail _ hp, List.mem_singleton.mp hp ▸ hqa⟩
  refine wpAny_bind (listItems_at fa.1 rfl ?_)
  refine wpAny_bind (listUpdate_at fa.1 rfl ?_ (sizeLine_ge (List.size_toArray ▸ z8)) (Nat.zero_le _))
  refine wpAny_bind (seqEpoch_at g1 rfl ?_)
  refine wpAny_bind (wpAny_newTuple ?_ (sizeLine_ge z8))
  refine wpAny_bind (wpAny_newList ?_ (Nat.zero_le _))
  refine wpAny_holding ?_
  generalize s.heap.update a (Obj.mapSeq fun _ => (#[] : Array Value)) = H at S1 F1
  have R3 := (S1.1.push (seqObj "tuple" vs.toArray 0)).push (seqObj "list" #[] 0)
  have nw := newFree (s := { s with heap := H.push (seqObj "tuple" vs.toArray 0) }) ⟨S1.1.push (seqObj "tuple" vs.toArray 0), S.2⟩ (Nat.le_refl (H.push (seqObj "tuple" vs.toArray 0)).objs.size)
  have lt : ∀ {b o}, H.get? b = some o → (H.push (seqObj "tuple" vs.toArray 0)).objs.size ≠ b := fun e => Nat.ne_of_gt (Heap.lt_size (Heap.get?_push_of_some _ e))
  exact srt_rest (s := { s with heap := (H.push (seqObj "tuple" vs.toArray 0)).push (seqObj "list" #[] 0) }) hC hA ⟨R3, S.2⟩ (fun p hp => (List.mem_cons.mp hp).elim (fun e => e ▸ ⟨Heap.get?_push_size _ rfl, nw⟩) fun hp => ⟨Heap.get?_push_of_some _ (Heap.get?_push_of_some _ (F1 p hp).1), (F1 p hp).2⟩)
    (lt (F1 _ (.head _)).1) (lt (F1 _ (.tail _ (.head _))).1) hx hi h64 hkeys qq
end
theorem zip_inj {ks zs : List Int} (hn : ks.Nodup) {p q : Int × Int} (hp : p ∈ ks.zip zs) (hq : q ∈ ks.zip zs) (e : p.1 = q.1) : p = q := by
  obtain ⟨i, hi⟩ := List.mem_iff_getElem?.mp hp
  obtain ⟨j, hj⟩ := List.mem_iff_getElem?.mp hq
  have a := List.getElem?_zip_eq_some.mp hi
  have b := List.getElem?_zip_eq_some.mp hj
  have l := (List.getElem?_eq_some_iff.mp a.1).1
  obtain rfl : i = j := (List.getElem?_inj l hn).mp (a.1.trans ((congrArg some e).trans b.1.symm))
  exact Option.some.inj (hi.symm.trans hj)
theorem srt_out {ks zs : List Int} {vs out : List Value} (h : KskOut true ks vs out) (hi : IntsAre vs zs) (hn : ks.Nodup) : IntsAre out (((ks.zip zs).mergeSort fun p q => decide (q.1 ≤ p.1)).map (·.2)) := by
  obtain ⟨ps, hp, rfl, hs⟩ := h
  have e1 : (ps.map fun p : Int × Value => (p.1, numOf p.2)).Perm (ks.zip zs) := by
    have := hp.map fun p : Int × Value => (p.1, numOf p.2)
    rw [show (ks.zip vs).map (fun p : Int × Value => (p.1, numOf p.2)) = ks.zip zs by rw [← hi.nums, List.zip_map_right]; exact List.map_congr_left fun _ _ => rfl] at this
    exact this
  have e2 : (ps.map fun p : Int × Value => (p.1, numOf p.2)) = (ks.zip zs).mergeSort fun p q => decide (q.1 ≤ p.1) := by
    refine List.Perm.eq_of_pairwise (le := fun p q : Int × Int => q.1 ≤ p.1) (fun p q hp hq h1 h2 => zip_inj hn (e1.mem_iff.mp hp) ((List.mergeSort_perm _ _).mem_iff.mp hq) (Int.le_antisymm h2 h1)) (List.pairwise_map.mpr hs) ?_ (e1.trans (List.mergeSort_perm _ _).symm)
    exact (List.pairwise_mergeSort (le := fun p q : Int × Int => decide (q.1 ≤ p.1)) (fun a b c h1 h2 => decide_eq_true (Int.le_trans (of_decide_eq_true h2) (of_decide_eq_true h1))) (fun a b => by rw [Bool.or_eq_true, decide_eq_true_eq, decide_eq_true_eq]; exact Int.le_total _ _) _).imp fun h => of_decide_eq_true h
  rw [← e2, List.map_map]
  have e3 := intsAre_map (ps.map Prod.snd) fun v hv => (List.mem_map.mp hv).elim fun p q => q.2 ▸ hi.all _ (List.of_mem_zip (hp.mem_iff.mp q.1)).2
  rw [List.map_map] at e3
  exact e3
section
variable {E : Value → Shared → Prop} {vs : List Value}
theorem srt_call {X : Ctx} {d : Nat} (hC : CallOk c X d) (hA : AOk A d) {f q xa l : Addr} {C i : Nat} {zs ks : List Int} (S : St c fix kp φ G s) (F : Free fix kp φ s.heap [(q, methodObj (.ref f) (.ref xa))])
    (hx : c.VR fix φ (.obj C i) (.ref xa)) (hl : s.heap.IsList l vs.toArray) (hi : IntsAre vs zs) (h64 : vs.length < 64) (hkeys : keysO (fun v G => X.call f [.obj C i, v] G) (zs.map .int) G = some (ks, G')) (hn : ks.Nodup) :
    Ev c A fix kp φ (call (.builtin "sorted") [.ref l] [(Str.ofString "key", .ref q), (Str.ofString "reverse", .bool true)]) s G' fun f p z => c.VR f p (.lst (((ks.zip zs).mergeSort fun p q => decide (q.1 ≤ p.1)).map fun p => .int p.2)) z := fun E Q qq => by
  have z8 : vs.length ≤ 8192 := Nat.le_trans (Nat.le_of_lt h64) (by decide)
  refine call_function_entry_kw kind_sorted plain_sorted entry_sorted (ksk_s2 _ _ _) ?_
  unfold Builtin.«sorted»
  refine wpAny_bind (m := checkCount "sorted" 1 1 _) (wpAny_pure ?_)
  refine wpAny_bind (collect_list hl ?_ (sizeLine_ge z8))
  refine wpAny_bind (wpAny_newList ?_ (sizeLine_ge z8))
  have nw0 := newFree S (Nat.le_refl _)
  have S1 : St c fix kp φ G { s with heap := s.heap.push (seqObj "list" #[] 0) } := ⟨S.1.push _, S.2⟩
  have F1 : Free fix kp φ (s.heap.push (seqObj "list" #[] 0)) [(s.heap.objs.size, seqObj "list" #[] 0), (q, methodObj (.ref f) (.ref xa))] := fun p hp => (List.mem_cons.mp hp).elim (fun e => e ▸ ⟨Heap.get?_push_size _ rfl, nw0⟩) fun hp => ⟨Heap.get?_push_of_some _ (F p hp).1, (F p hp).2⟩
  have s1 := Heap.SameBut.update (s.heap.push (seqObj "list" #[] 0)) s.heap.objs.size (Obj.mapSeq (· ++ vs.toArray))
  have S2 := S1.chg F1 (.head _) s1 (tk := s.toks)
  have hqz : q ≠ s.heap.objs.size := Nat.ne_of_lt (Heap.lt_size (F _ (.head _)).1)
  have f2 := (s1.2 q hqz).trans (F1 _ (.tail _ (.head _))).1
  generalize (s.heap.push (seqObj "list" #[] 0)).update s.heap.objs.size (Obj.mapSeq (· ++ vs.toArray)) = H at S2 f2
  have nw := newFree S2 (Nat.le_refl H.objs.size)
  have g3 : (H.push (seqObj "list" vs.toArray 0)).get? H.objs.size = some (seqObj "list" vs.toArray 0) := Heap.get?_push_size _ rfl
  refine wpAny_bind (wpAny_holding (wpAny_call_entry_kw PyProof.Rows.slot_list_sort ⟨_, g3, rfl⟩ PyProof.Rows.entry_list_sort ?_ (ksk_l2 _ _ _)))
  show wpAny c.M A.in1.in1 (Builtin.«list.sort» ⟨[.ref H.objs.size], [(Str.ofString "key", .ref q), (Str.ofString "reverse", .bool true)]⟩) _ _ _
  rw [ksk_t2]
  have hA2 : AOkC A.in1.in1 d := ⟨hA.handled, by have := hA.depth; show A.depth + 4 * (d + 1) < recursionLimit; omega, by have := hA.units; show A.units + 1 + 1 + 20 * (d + 1) + 80 < cLine; omega⟩
  refine srt_tree (s := { s with heap := H.push (seqObj "list" vs.toArray 0) }) (fix := fix) (kp := kp) (φ := φ) (G := G) hC hA2 ⟨S2.1.push _, S2.2⟩
    (fun p hp => (List.mem_cons.mp hp).elim (fun e => e ▸ ⟨g3, nw⟩) fun hp => by
      rw [List.mem_singleton.mp hp]
      exact ⟨Heap.get?_push_of_some _ f2, (F _ (.head _)).2⟩) (Nat.ne_of_lt (Heap.lt_size f2)) hx hi h64 hkeys fun {fix' φ' s'} le pre S' h' tk out n S3 F3 ko => ⟨_, rfl, wpAny_pure ⟨_, rfl, ?_⟩⟩
  have f3 := F3 _ (.head _)
  have fr := S3.1.freeze f3.1 f3.2.2.1 f3.2.2.2 f3.2.1
  have io := srt_out ko hi hn
  refine qq _ φ' _ _ (le.trans fr.2) pre ⟨fr.1, S3.2⟩ (VR.lst (xs := out.toList) (n := n) (by rw [Array.toArray_toList]; exact upd_self _ _ _) ?_ ?_)
  · have := intsOut (c := c) (fix := upd fix' H.objs.size (some (seqObj "list" out n))) (φ := φ') io
    rw [List.map_map] at this
    exact this
  · rw [List.length_map, List.length_mergeSort, List.length_zip]
    have := hi.length
    omega
end
noncomputable def bndIn (K : Frag) (C : Addr) (n : Str) (f : Addr) : Bool := hasDictIn K C && (specialIn K (.ref f) "__get__" == some (some (.builtin "function.__get__")) && (takesIn K (.ref f) == some false && !copiedNames.contains n))
theorem bound_ok {E : Value → Shared → Prop} {Q : Value → Shared → Prop} {K : Frag} {x C f : Addr} {n : Str} {ox : Obj} {es : List DictEntry} {m : Nat} (X : K.In s.heap) (I : W.InstAt s.heap x ox C (some (dictOf es m))) (hm : methIn K C n f = true) (hb : bndIn K C n f = true) (hl : getL n es = some none)
    (q : Q (.ref s.heap.objs.size) { s with heap := s.heap.push (methodObj (.ref f) (.ref x)), toks := s.toks + 1 }) : wpAny c.M A (getAttr (.ref x) n true) Q E s :=
  methIn_k hm fun m1 m2 m3 _ => ak hb fun b1 hb => ak hb fun b2 hb => ak hb fun b3 b4 =>
    get_bind X I (plainGet_of m1).1 (findObj_fn b1 m2 (eq_of_beq b2) (eq_of_beq b3) (bnot b4) (by rw [lookIn_dict, hl])) (plainGet_of m1).2
      (wpAny_call (fn_get (s := { s with toks := s.toks + 1 }) X (eq_of_beq m3) (handed_on rfl q)))
end
section
variable {c : CX} {X : Ctx} {d : Nat}
theorem iE_srt {a e : ME} {m : Nat} {ρ : Lo} {G G' : GH} {x : MV} {P : MV → Prop} (h : mE X (.srtK a e m) ρ G = some (x, G')) (g : ∀ v G1 C i G2 f l zs ks, mE X a ρ G = some (v, G1) → mE X e ρ G1 = some (.obj C i, G2) → mthO X G2 m C i = some f → lsO G2 v = some l → intsO l = some zs → zs.length < 64 → keysO (fun v G => X.call f [.obj C i, v] G) (zs.map .int) G2 = some (ks, G') → ks.Nodup → P (.lst (((ks.zip zs).mergeSort fun p q => decide (q.1 ≤ p.1)).map fun p => .int p.2))) : P x :=
  obk (o := mE X a ρ G) h fun p h1 h => obk (o := mE X e ρ p.2) h fun q h2 h => obk (o := iObj q.1) h fun o h3 h => obk (o := mthO X q.2 m o.1 o.2) h fun f h4 h => obk (o := (lsO q.2 p.1).bind intsO) h fun zs h5 h => oif h fun h6 h => obk (o := keysO _ _ q.2) h fun r h7 h => oif h fun h8 h =>
    obk (o := lsO q.2 p.1) h5 fun l h5 h9 => opk (P := fun x G' => (keysO (fun v G => X.call f [.obj o.1 o.2, v] G) (zs.map .int) q.2 = some (r.1, G') → P (.lst (((r.1.zip zs).mergeSort fun p q => decide (q.1 ≤ p.1)).map fun p => .int p.2))) → P x) h (fun g => g h7)
      fun h7 => g p.1 p.2 o.1 o.2 q.2 f l zs r.1 h1 (iObj_k (P := fun v => mE X e ρ p.2 = some (v, q.2) → mE X e ρ p.2 = some (.obj o.1 o.2, q.2)) h3 id h2) h4 h5 h9 h6 h7 h8
theorem cE_srt {S : Sta} {sc : Sp} {nm : Nm} {a b : ME} {m : Nat} {x : PySem.Expr} {P : PySem.Expr → Prop} (h : chkE S (.srtK a b m) sc nm x = true) (g : ∀ q y z n ap k1 c0 cp k2 p, bltK S sc ("sorted" : Str) = true → chkE S a sc nm y = true → chkE S b sc nm z = true → noSup z = true → S.tab[m]? = some n → P (.Call (.Name "sorted" q) [y] [⟨some ("key" : Str), .Attribute z n ap, k1⟩, ⟨some ("reverse" : Str), .Constant (.bool true) c0 cp, k2⟩] p)) : P x :=
  ak h fun _ h => kECal h fun _ xs ks p h => kENam (P := fun g => P (.Call g xs ks p)) h fun x nq h => k1 (P := fun xs => P (.Call (.Name x nq) xs ks p)) h fun y h => Mine.k2 (P := fun ks => P (.Call (.Name x nq) [y] ks p)) h fun w1 w2 h => by
    obtain ⟨a1, v1, p1⟩ := w1
    obtain ⟨a2, v2, p2⟩ := w2
    refine kEAtt (P := fun v1 => P (.Call (.Name x nq) [y] [⟨a1, v1, p1⟩, ⟨a2, v2, p2⟩] p)) h fun z n ap h => kECon (P := fun v2 => P (.Call (.Name x nq) [y] [⟨a1, .Attribute z n ap, p1⟩, ⟨a2, v2, p2⟩] p)) h fun cc c0 cp h => kCBoo (P := fun cc => P (.Call (.Name x nq) [y] [⟨a1, .Attribute z n ap, p1⟩, ⟨a2, .Constant cc c0 cp, p2⟩] p)) h fun t h =>
      ak h fun h h9 => ak h fun h h8 => ak h fun h h7 => ak h fun h h6 => ak h fun h h5 => ak h fun h h4 => ak h fun h h3 => ak h fun h1 h2 => ?_
    obtain rfl : a1 = some ("key" : Str) := eq_of_beq h4
    obtain rfl : a2 = some ("reverse" : Str) := eq_of_beq h5
    rw [h1, eq_of_beq h2]
    exact g nq y z n ap p1 c0 cp p2 p h3 h6 h7 h8 (beq_ok h9)
theorem k_srt (O : c.Ok) (hX : XOk c X) (hC : CallOk c X d) (hB : ∀ C m f n, c.P.mth C m = some f → c.S.tab[m]? = some n → bndIn c.K C n f = true) {a e : ME} {m : Nat} (ha : EK c X d a) (he : EK c X d e) : EK c X d (.srtK a e m) := ⟨fun {sc nm ρ env A fix kp φ G G' s x v} hc hm V S hA =>
  cE_srt (P := fun x => EvG c A fix kp φ x env s G' v) hc fun nq y z n ap kp1 c0 cp kp2 p hb hca hce hns hk => iE_srt (P := fun v => EvG c A fix kp φ _ env s G' v) hm fun v1 G1 C i G2 f l zs ks h1 h2 hmt hl hz h64 hkeys hnd E Q q =>
    wpAny_Call_Name_kw (blt_ok O V S hb (y := .builtin "sorted") rfl (by
      rw [starCons hca]
      refine callWith_builtin_kwB rfl rfl (evalArgs_kwB rfl (spliced_cons (ha.1 hca h1 V S hA E _ fun f1 p1 lv s1 l1 q1 S1 r1 => spliced_nil (kws_cons (Attribute_any_ (he.1 hce h2 (V.mono l1 q1) S1 hA E _ fun f2 p2 ov s2 l2 q2 S2 r2 => ?_) ((arm_eval_Attribute _ _ _ _).trans (by rw [noSup_base hns])))))))
      refine iMth hmt fun ol hmth hg hnone => ?_
      have hmi : methIn c.K C n f = true := (O.mth C m f (hX.mth ▸ hmth)).elim fun n' h => Option.some.inj (hk.symm.trans h.1) ▸ h.2
      refine objV (P := fun ov => wpAny c.M A (getAttr ov n true) _ E s2) r2 fun xa dx hf hp => ?_
      refine S2.gd hp hg fun es' nn ho hr hnd' z' => ?_
      refine bound_ok (S2.1.K O) (instAt (S2.1.fixK _ _ hf) ho) hmi (hB C m f n (hX.mth ▸ hmth) hk) (sdGetN O.tabN hk hr hnone) ?_
      refine kws_cons (wpAny_Constant_bool (kws_nil ?_))
      have S3 : St c f2 kp p2 G2 { s2 with heap := s2.heap.push (methodObj (.ref f) (.ref xa)), toks := s2.toks + 1 } := ⟨S2.1.push _, S2.2⟩
      have F3 : Free f2 kp p2 (s2.heap.push (methodObj (.ref f) (.ref xa))) [(s2.heap.objs.size, methodObj (.ref f) (.ref xa))] := allOne ⟨Heap.get?_push_size _ rfl, newFree S2 (Nat.le_refl _)⟩
      refine lstK (P := fun lv => wpAny c.M A (call (.builtin "sorted") [lv] _) Q E _) S3 (r1.mono l2 q2) hl fun la xs ln ho2 hr2 z2 => ?_
      have hi := intsIn hr2 hz
      exact srt_call (vs := xs.toList) hC hA S3 F3 (.obj hf hp) (by rw [Array.toArray_toList]; exact isL ho2) hi (by rw [hi.length]; exact h64) hkeys hnd E _ fun f4 p4 u s4 l4 q4 S4 r4 => q f4 p4 u s4 ((l1.trans l2).trans l4) ((q1.trans q2).trans q4) S4 r4)), noT fun _ _ _ _ => rfl⟩
end
end Mine
end
section
set_option autoImplicit false
set_option linter.unusedVariables false
open PySem PySem.W PyProof.Rows
namespace Mine
noncomputable def runF (st : SharedT → Thread → Option (SharedT × Thread)) (n₀ : Nat) (ann : Option Value) : Nat → SharedT → Thread → Option SharedT
  | 0, _, _ => none
  | n + 1, s, t => match through t with
    | true => some s
    | false => match stepOk n₀ ann t with
      | false => none
      | true => match st s t with
        | some (s', t') => runF st n₀ ann n s' t'
        | none => none
theorem runF_spec {tb : String → Option Builtin} {p : Program} {w : World} {n₀ : Nat} {ann : Option Value} : ∀ {n : Nat} {s r : SharedT} {t : Thread}, runF (stepT (denote tb) p w) n₀ ann n s t = some r → topRun tb p w n₀ ann n s.abs t = some r.abs
  | 0, _, _, _, h => by cases h
  | n + 1, s, r, t, h => by
    unfold runF at h
    unfold topRun
    cases he : through t with
    | true => rw [he] at h; cases h; rfl
    | false =>
      rw [he] at h
      cases hk : stepOk n₀ ann t with
      | false => rw [hk] at h; cases h
      | true =>
        rw [hk] at h
        cases hs : stepT (denote tb) p w s t with
        | none => rw [hs] at h; cases h
        | some x => obtain ⟨s₂, t₂⟩ := x; rw [hs] at h; rw [stepT_spec hs]; exact runF_spec h
noncomputable def convT : List Obj → Nat → BT → Option BT
  | [], _, t => some t
  | o :: r, n, t => match ((t.ins n o).get n).isSome with
    | true => convT r (n + 1) (t.ins n o)
    | false => none
theorem convT_spec {life : Life} : ∀ {l : List Obj} {n : Nat} {t t' : BT}, convT l n t = some t' → absHeap t' (n + l.length) life = ⟨(absHeap t n life).objs ++ l.toArray, life⟩
  | [], n, t, t', h => by
    cases h
    rw [List.length_nil, Nat.add_zero]
    show Heap.mk _ _ = Heap.mk _ _
    simp [absHeap]
  | o :: r, n, t, t', h => by
    unfold convT at h
    cases e : ((t.ins n o).get n).isSome with
    | false => rw [e] at h; cases h
    | true =>
      rw [e] at h
      have := convT_spec (life := life) h
      rw [List.length_cons, show n + (r.length + 1) = n + 1 + r.length by omega, this, absHeap_ins e]
      show Heap.mk _ _ = Heap.mk _ _
      congr 1
      show (absHeap t n life).objs.push o ++ r.toArray = _
      simp
noncomputable def convS (s : Shared) : Option SharedT := match convT s.heap.objs.toList 0 .nil with
  | some t => some ⟨t, s.heap.objs.toList.length, s.heap.life, s.gens, s.drawn, s.toks, s.os⟩
  | none => none
theorem convS_spec {s : Shared} {r : SharedT} (h : convS s = some r) : r.abs = s := by
  obtain ⟨⟨objs, life⟩, gens, drawn, toks, os⟩ := s
  unfold convS at h
  dsimp only at h
  cases e : convT objs.toList 0 .nil with
  | none => rw [e] at h; cases h
  | some t =>
    rw [e] at h
    cases h
    have := convT_spec (life := life) e
    rw [Nat.zero_add] at this
    show Shared.mk (absHeap t objs.toList.length life) _ _ _ _ = _
    rw [this]
    congr 2
    simp [absHeap, BT.list]
noncomputable def tailT (p : Program) (s₀ s₁ : Shared) : Option Shared := match staticsOk (importedModules p.main.body) s₀.heap s₁.heap && namesBound p s₁.heap && gensDone s₁ && laidKept s₀.heap s₁.heap with
  | true => some s₁
  | false => none
noncomputable def fromT (st : SharedT → Thread → Option (SharedT × Thread)) (p : Program) (N : Nat) (s₀ : Shared) : Option SharedT :=
  match s₀.heap.isNs mainGlobals && s₀.gens.size == 0 with
  | true => match convS s₀ with
    | some S₀ => (runF st s₀.heap.objs.size (s₀.heap.nsMap mainGlobals "__annotations__") N S₀ (topStub p)).bind fun S₁ => (tailT p s₀ S₁.abs).map fun _ => S₁
    | none => none
  | false => none
theorem tailT_eq {p : Program} {s₀ s₁ s : Shared} (h : tailT p s₀ s₁ = some s) : s = s₁ := by
  unfold tailT at h
  cases e : (staticsOk (importedModules p.main.body) s₀.heap s₁.heap && namesBound p s₁.heap && gensDone s₁ && laidKept s₀.heap s₁.heap) with
  | false => rw [e] at h; cases h
  | true => rw [e] at h; exact (Option.some.inj h).symm
theorem fromT_spec {tb : String → Option Builtin} {p : Program} {w : World} {N : Nat} {s₀ : Shared} {S : SharedT} (h : fromT (stepT (denote tb) p w) p N s₀ = some S) : topFrom tb p w N s₀ = some S.abs := by
  unfold fromT at h
  unfold topFrom
  cases e : (s₀.heap.isNs mainGlobals && s₀.gens.size == 0) with
  | false => rw [e] at h; cases h
  | true =>
    rw [e] at h
    dsimp only at h ⊢
    cases c : convS s₀ with
    | none => rw [c] at h; cases h
    | some S₀ =>
      rw [c] at h
      dsimp only at h
      rw [Option.bind_eq_some_iff] at h
      obtain ⟨S₁, h1, h2⟩ := h
      obtain ⟨s, h3, rfl⟩ := Option.map_eq_some_iff.mp h2
      have := runF_spec h1
      rw [convS_spec c] at this
      rw [this]
      have h4 := tailT_eq h3
      subst h4
      exact h3
noncomputable def getT (S : SharedT) (a : Nat) : Option Obj := match Nat.blt a S.n with
  | true => PySem.W.alive ((S.tree.get a).getD default)
  | false => none
theorem getT_abs (S : SharedT) (a : Nat) : S.abs.heap.get? a = getT S a := by
  unfold getT
  show (absHeap S.tree S.n S.life).get? a = _
  cases e : Nat.blt a S.n with
  | false => exact abs_get_none fun h => by rw [Nat.blt_eq.mpr h] at e; cases e
  | true =>
    unfold Heap.get?
    rw [absHeap_at, if_pos (Nat.blt_eq.mp e)]
    generalize (S.tree.get a).getD default = o
    show (match some o with | some ⟨_, _, .freed, _⟩ => none | o => o) = PySem.W.alive o
    obtain ⟨c, d, dt, sl⟩ := o
    cases dt <;> rfl
theorem left_of {p q : Program} {loose : List Str} {Xt : Shared → Bool} {K : Params → Frag} {as : List Addr} {e : ∀ P, as = (K P).map (·.1)} {N : Nat}
    (hA : ∀ w : World, ((fencedOpening treeTable p w N).bind (fromT (stepT (denote treeTable) p w) p N)).map (fun S => openSeen q loose (importedModules p.main.body) Xt true S.abs) = some (openGood q loose))
    (hB : ∀ w : World, ((fencedOpening treeTable p w N).bind (fromT (stepT (denote treeTable) p w) p N)).map (fun S => as.map (getT S)) = some ((K w.params).map fun x => some x.2)) : LeftO p q loose Xt (Hook.obs (kHook K as e)) (Hook.val (kHook K as e)) N true := fun w => by
  obtain ⟨S, a, b⟩ := Option.map_eq_some_iff.mp (hA w)
  obtain ⟨S', a', b'⟩ := Option.map_eq_some_iff.mp (hB w)
  rw [a] at a'
  cases a'
  rw [Option.bind_eq_some_iff] at a
  obtain ⟨s₀, a1, a2⟩ := a
  unfold openEnds
  rw [a1, Option.bind_some, fromT_spec a2]
  have c : (kHook K as e).obs S.abs = as.map (getT S) := List.map_congr_left fun x _ => getT_abs S x
  exact congrArg some (Prod.ext b (c.trans b'))
end Mine
end
section
open PySem PySem.W PyProof.Rows
set_option Elab.async false
set_option maxRecDepth 100000
set_option maxHeartbeats 8000000
namespace Mine1
noncomputable def kp : List Nat := [0, 2, 3, 4, 5, 6, 7, 8, 9, 10, 12, 14, 15, 16, 17, 18, 19, 20]
noncomputable def qv : Program := { PySem.Challenge.pw_qz0032_01 with main := { PySem.Challenge.pw_qz0032_01.main with body := kp.filterMap fun i => PySem.Challenge.pw_qz0032_01.main.body[i]? } }
theorem said : PySem.Challenge.rw_qz0032_01.wellSaid = true := by
  unfold OpenLaw.wellSaid OpenRow.wellSaid OpenRow.partSaid looksOpen
  simp only [Bool.and_eq_true]
  repeat' apply And.intro
  all_goals decide +kernel
theorem seenA (w : World) : ((fencedOpening treeTable PySem.Challenge.pw_qz0032_01 w 5998).bind (Mine.fromT (stepT (denote treeTable) PySem.Challenge.pw_qz0032_01 w) PySem.Challenge.pw_qz0032_01 5998)).map (fun S => openSeen Mine1.qv [] (importedModules PySem.Challenge.pw_qz0032_01.main.body) (fun s => xlAt Mine1.qv [] s && recOk (RowW.records (OpenRow.toRowW PySem.Challenge.rw_qz0032_01.row)) s) true S.abs) = some (openGood Mine1.qv []) := by
  delta fencedOpening; rw [PySem.W.Fast.te10274390034422433532, PySem.W.Fast.te1435165496053646825, PySem.W.Fast.te14289696077712309145, PySem.W.Fast.te14364793385576792824, PySem.W.Fast.te11892475500146522536, PySem.W.Fast.te10156331382660048174, PySem.W.Fast.te4187177175401517315]; kernel_rfl
local macro_rules | `(tactic| o_law) => `(tactic| refine holds_law Mine1.said fun said => ?_)
local macro_rules | `(tactic| o_head $H) => `(tactic| (refine holds_open (q := Mine1.qv) (loose := []) (Xt := fun s => xlAt Mine1.qv [] s && recOk (RowW.records (OpenRow.toRowW PySem.Challenge.rw_qz0032_01.row)) s) (XP := XL Mine1.qv []) (Yf := Hook.obs $H) (Ya := Hook.val $H) (YP := Hook.says $H) (N := 5998) ?hl (Hook.of $H) (Hook.keeps $H) (fun s e => xl_of s (Bool.and_eq_true_iff.mp e).1) XL.keeps (by rfl) (by rfl) (by rfl) (fun s e => recFacts_of (Bool.and_eq_true_iff.mp e).2) (by rfl) (by first | assumption | decide +kernel) (by decide +kernel) ⟨rfl, rfl, rfl, rfl, rfl, by decide +kernel⟩ ?hw ?hc; case hl => (refine Mine.left_of Mine1.seenA fun w => ?_; delta fencedOpening; rw [PySem.W.Fast.te10274390034422433532, PySem.W.Fast.te1435165496053646825, PySem.W.Fast.te14289696077712309145, PySem.W.Fast.te14364793385576792824, PySem.W.Fast.te11892475500146522536, PySem.W.Fast.te10156331382660048174]; kernel_rfl)))
open_top hd for PySem.Challenge.rw_qz0032_01
end Mine1
end
section
set_option Elab.async false
set_option maxRecDepth 100000
set_option maxHeartbeats 8000000
open PySem PySem.W PyProof.Rows
namespace Mine
noncomputable abbrev KK (w : World) : Frag := Mine1.hd.heap_1 w.params
noncomputable abbrev rprog : Program := PySem.Challenge.rw_qz0032_01.row.prog
theorem f_tab : sta.tab.Nodup := by decide +kernel
theorem f_atr (w : World) : atrsOk (KK w) sta.tab pAtrs = true := by kernel_rfl
theorem f_mth (w : World) : mthsOk (KK w) sta.tab pMths = true := by kernel_rfl
theorem f_init (w : World) : initsOk (KK w) pInits = true := by kernel_rfl
theorem f_glob (w : World) : globsOk (KK w) sta.globs = true := by kernel_rfl
theorem f_gint (w : World) : gintsOk (KK w) sta.gints = true := by kernel_rfl
theorem f_blt (w : World) : bltsOk (KK w) sta.blts = true := by kernel_rfl
noncomputable def fnsIn (K : Frag) (pr : Program) : Bool := pFns.all fun p => fnChk K pr sta p.1 p.2.1 (p.2.2.map Str.ofString)
theorem f_fns (w : World) : fnsIn (KK w) rprog = true := by kernel_rfl
theorem f_fn (w : World) {f : Nat} {mf : MFun} {l : List String} (h : (f, mf, l) ∈ pFns) : fnChk (KK w) rprog sta f mf (l.map Str.ofString) = true :=
  (List.all_eq_true.mp (show (pFns.all fun p => fnChk (KK w) rprog sta p.1 p.2.1 (p.2.2.map Str.ofString)) = true from f_fns w)) (f, mf, l) h
theorem f_stat (w : World) : ((KK w).lookup cStatics).isSome = true := by kernel_rfl
theorem f_law_at (w : World) : nsIn (KK w) mainGlobals "law" = some (some (.ref f_law)) := by kernel_rfl
noncomputable def bndsOk (K : Frag) (tab : List Str) (l : List (Nat × Nat × Nat)) : Bool := l.all fun p => tab[p.2.1]?.all fun n => bndIn K p.1 n p.2.2
theorem f_bnd (w : World) : bndsOk (KK w) sta.tab pMths = true := by kernel_rfl
theorem f_bnd1 (w : World) {C m f : Nat} {n : Str} (h : (C, m, f) ∈ pMths) (hn : sta.tab[m]? = some n) : bndIn (KK w) C n f = true := by
  have := (List.all_eq_true.mp (show (pMths.all fun p => sta.tab[p.2.1]?.all fun n => bndIn (KK w) p.1 n p.2.2) = true from f_bnd w)) (C, m, f) h
  dsimp only at this
  rw [hn] at this
  exact this
theorem p_atr (C k : Nat) (h : pAtr C k = true) : (C, k) ∈ pAtrs := by simpa [pAtr] using h
theorem p_mth (C m f : Nat) (h : pMth C m = some f) : (C, m, f) ∈ pMths := by
  unfold pMth at h
  rw [Option.map_eq_some_iff] at h
  obtain ⟨⟨a, b, g⟩, h1, h2⟩ := h
  have h3 := List.find?_some h1
  simp only [Bool.and_eq_true, beq_iff_eq] at h3
  obtain ⟨rfl, rfl⟩ := h3
  cases h2
  exact List.mem_of_find?_eq_some h1
theorem p_init (C f : Nat) (h : pInit C = some f) : (C, f) ∈ pInits := lookup_mem' h
theorem p_fn (f : Nat) (mf : MFun) (h : pFn f = some mf) : ∃ l, (f, mf, l) ∈ pFns := by
  unfold pFn at h
  rw [Option.map_eq_some_iff] at h
  obtain ⟨⟨a, l⟩, h1, h2⟩ := h
  cases h2
  exact ⟨l, lookup_mem' h1⟩
end Mine
end
section
set_option Elab.async false
set_option maxRecDepth 100000
set_option maxHeartbeats 8000000
open PySem PySem.W PyProof.Rows
namespace Mine
theorem law1 (plain : ∀ ns : List Int, ns.length ≤ 63 → ∃ W d G', d ≤ 100 ∧ mcall prog W d f_law [.lst (ns.map .int)] [] = some (.bool true, G')) : PySem.Challenge.rw_qz0032_01.Holds := Mine1.hd (by
  k_fill
  intro w s₀ s₁ mg mb G Y fa o pm cd doc dV kV ho hd hcd hD hmg hg args vals as hpre hlay hrd hwl hlo
  have KX := kIn_of Y
  refine Ground.open G ?_
  intro T B D TE TW
  wrow_args hpre hlay hrd hwl hlo
  all_goals (first | refine callC_kw (enter_call ?_) | refine enter_call ?_ | refine callC_kw (enter_callW ?_) | refine enter_callW ?_ )
  rename_i ns _ _ _ _ _ _ _ l xs _ hL _ hW _ hI _ hlen _
  have O : (CX.mk rprog w sta prog (KK w) s₁.heap mg mb s₁.gens s₁.os).Ok := ok_of f_tab KX T.g T.b T.builtins T.nolimit p_atr p_mth p_init (f_atr w) (f_mth w) (f_init w) (f_glob w) (f_gint w) (f_blt w)
  have hfa : fa = f_law := by
    have h1 : mg "law" = some (.ref f_law) := mg_at KX T.g (f_law_at w)
    have h2 : mg "law" = some (.ref fa) := hmg
    rw [h1] at h2
    cases h2; rfl
  subst hfa
  obtain ⟨W, d, G', hd', hm⟩ := plain ns (by omega)
  cases hW with
  | @list _ xs2 ds hl2 _ =>
  obtain ⟨o2, ho2, hc2, n2, hd2⟩ := hL
  rw [hl2] at ho2
  cases ho2
  cases hd2
  refine law_bool O (f_stat w) (fun f mf h => ?_) (fun X d hX hC a e m ha he => k_srt O hX hC (fun C m f n h1 h2 => f_bnd1 w (p_mth C m f h1) h2) ha he) hd' (by omega) hm hl2 hI fun s' hk hgs hos => ?_
  · obtain ⟨nm, hmem⟩ := p_fn f mf h
    exact ⟨nm.map Str.ofString, f_fn w hmem⟩
  · refine ⟨.inl ⟨_, .bool true, [], rfl, raisesW_false ?_, .bool true, ?_, fun _ => ⟨.nil, fun a h => (by cases h)⟩⟩, .of_keep hk, hos, .of_eq (hgs.trans hg)⟩
    · wrow_none_raised
    · kc_post)
end Mine
end
section
set_option autoImplicit false
set_option linter.unusedVariables false
set_option linter.unusedSimpArgs false
set_option linter.unusedSectionVars false
namespace Mine.Law
theorem bnd {α β : Type} {o : Option α} {a : α} {f : α → Option β} {r : Option β} (h : o = some a) (k : f a = r) : o.bind f = r := h ▸ k
theorem mpp {α β : Type} {o : Option α} {a : α} {f : α → β} (h : o = some a) : o.map f = some (f a) := h ▸ rfl
theorem mcall_of {P : Prog} {W d f : Nat} {mf : MFun} {args : List MV} {ρ : Lo} {G : GH} (h1 : P.fn f = some mf) (h2 : bindO mf args = some ρ) : mcall P W (d + 1) f args G = outO (mSs (ctx P W (mcall P W d)) mf.body ρ G) :=
  bnd (o := P.fn f) h1 (bnd (o := bindO mf args) h2 rfl)
section
variable {X : Ctx} {ρ ρ' : Lo} {G G' : GH}
theorem seq_next {x : MS} {r : List MS} (h : mS X x ρ G = some (.next, ρ', G')) : mSs X (x :: r) ρ G = mSs X r ρ' G' := bnd (o := mS X x ρ G) h rfl
theorem seq_stop {x : MS} {r : List MS} {fl : Fl} (h : mS X x ρ G = some (fl, ρ', G')) (hn : fl ≠ .next) : mSs X (x :: r) ρ G = some (fl, ρ', G') :=
  bnd (o := mS X x ρ G) h (by cases fl <;> first | rfl | exact absurd rfl hn)
theorem seq_nil : mSs X [] ρ G = some (.next, ρ, G) := rfl
theorem loc_eq {i : Nat} {v : MV} (h : ρ[i]? = some (some v)) : mE X (.loc i) ρ G = some (v, G) := bnd (o := ρ[i]?) h rfl
theorem es0 : mEs X [] ρ G = some ([], G) := rfl
theorem esC {e : ME} {r : List ME} {v : MV} {vs : List MV} {G2 : GH} (h : mE X e ρ G = some (v, G')) (h2 : mEs X r ρ G' = some (vs, G2)) : mEs X (e :: r) ρ G = some (v :: vs, G2) := bnd (o := mE X e ρ G) h (mpp h2)
theorem es1 {e : ME} {v : MV} (h : mE X e ρ G = some (v, G')) : mEs X [e] ρ G = some ([v], G') := esC h es0
theorem es2 {e e2 : ME} {v v2 : MV} {G2 : GH} (h : mE X e ρ G = some (v, G')) (h2 : mE X e2 ρ G' = some (v2, G2)) : mEs X [e, e2] ρ G = some ([v, v2], G2) := esC h (es1 h2)
theorem es3 {e e2 e3 : ME} {v v2 v3 : MV} {G2 G3 : GH} (h : mE X e ρ G = some (v, G')) (h2 : mE X e2 ρ G' = some (v2, G2)) (h3 : mE X e3 ρ G2 = some (v3, G3)) : mEs X [e, e2, e3] ρ G = some ([v, v2, v3], G3) := esC h (es2 h2 h3)
theorem es4 {e e2 e3 e4 : ME} {v v2 v3 v4 : MV} {G2 G3 G4 : GH} (h : mE X e ρ G = some (v, G')) (h2 : mE X e2 ρ G' = some (v2, G2)) (h3 : mE X e3 ρ G2 = some (v3, G3)) (h4 : mE X e4 ρ G3 = some (v4, G4)) : mEs X [e, e2, e3, e4] ρ G = some ([v, v2, v3, v4], G4) := esC h (es3 h2 h3 h4)
theorem sub_eq {e i : ME} {v w x : MV} {G2 : GH} (h : mE X e ρ G = some (v, G')) (h2 : mE X i ρ G' = some (w, G2)) (h3 : subO G2 v w = some x) : mE X (.sub e i) ρ G = some (x, G2) := bnd (o := mE X e ρ G) h (bnd h2 (mpp h3))
theorem attr_eq {e : ME} {k : Nat} {v x : MV} (h : mE X e ρ G = some (v, G')) (h2 : aGet X G' k v = some x) : mE X (.attr e k) ρ G = some (x, G') := bnd (o := mE X e ρ G) h (mpp h2)
theorem bin_eq {o : B2} {a b : ME} {v w x : MV} {G2 : GH} (h : mE X a ρ G = some (v, G')) (h2 : mE X b ρ G' = some (w, G2)) (h3 : binO G2 o v w = some x) : mE X (.bin o a b) ρ G = some (x, G2) := bnd (o := mE X a ρ G) h (bnd h2 (mpp h3))
theorem cmp_eq {o : C2} {a b : ME} {v w : MV} {x : Bool} {G2 : GH} (h : mE X a ρ G = some (v, G')) (h2 : mE X b ρ G' = some (w, G2)) (h3 : cmpO G2 o v w = some x) : mE X (.cmp o a b) ρ G = some (.bool x, G2) := bnd (o := mE X a ρ G) h (bnd h2 (mpp h3))
theorem kI_eq {i : Int} : mE X (.kI i) ρ G = some (.int i, G) := rfl
theorem gI_eq {k : Nat} {i : Int} : mE X (.gI k i) ρ G = some (.int i, G) := rfl
theorem kN_eq : mE X .kN ρ G = some (.none, G) := rfl
theorem kB_eq {b : Bool} : mE X (.kB b) ρ G = some (.bool b, G) := rfl
theorem blt_eq {b : Bl} {a : ME} {v : MV} {r : MV × GH} (h : mE X a ρ G = some (v, G')) (h2 : bltO G' b v = some r) : mE X (.blt b a) ρ G = some r := bnd (o := mE X a ρ G) h h2
theorem app_eq {e a : ME} {v x : MV} {G1 G2 G3 : GH} (h : mE X e ρ G = some (v, G1)) (hl : (lsO G1 v).isSome = true) (h2 : mE X a ρ G1 = some (x, G2)) (h3 : appO G2 v x = some G3) : mE X (.app e a) ρ G = some (.none, G3) := bnd (o := mE X e ρ G) h ((if_pos hl).trans (bnd h2 (mpp h3)))
theorem asgS_eq {o i e : ME} {x v w : MV} {G1 G2 G3 G4 : GH} (h : mE X e ρ G = some (x, G1)) (h2 : mE X o ρ G1 = some (v, G2)) (h3 : mE X i ρ G2 = some (w, G3)) (h4 : subSet G3 v w x = some G4) : mS X (.asgS o i e) ρ G = some (.next, ρ, G4) := bnd (o := mE X e ρ G) h (bnd (o := mE X o ρ G1) h2 (bnd (o := mE X i ρ G2) h3 (mpp h4)))
theorem and_t {e : ME} {r : List ME} (h : mE X e ρ G = some (.bool true, G')) : mAnd X (e :: r) ρ G = mAnd X r ρ G' := onB_t h
theorem and_f {e : ME} {r : List ME} (h : mE X e ρ G = some (.bool false, G')) : mAnd X (e :: r) ρ G = some (.bool false, G') := onB_f h
theorem or_t {e : ME} {r : List ME} (h : mE X e ρ G = some (.bool true, G')) : mOr X (e :: r) ρ G = some (.bool true, G') := onB_t h
theorem or_f {e : ME} {r : List ME} (h : mE X e ρ G = some (.bool false, G')) : mOr X (e :: r) ρ G = mOr X r ρ G' := onB_f h
theorem and_nil : mAnd X [] ρ G = some (.bool true, G) := rfl
theorem or_nil : mOr X [] ρ G = some (.bool false, G) := rfl
theorem andE {es : List ME} {r : MV × GH} (h : mAnd X es ρ G = some r) : mE X (.and_ es) ρ G = some r := h
theorem orE {es : List ME} {r : MV × GH} (h : mOr X es ρ G = some r) : mE X (.or_ es) ρ G = some r := h
theorem eq_int {a b : Int} : cmpO G .eq (.int a) (.int b) = some (a == b) := rfl
theorem ne_int {a b : Int} : cmpO G .ne (.int a) (.int b) = some (!(a == b)) := rfl
theorem cont_eq : mS X .cont ρ G = some (.cont, ρ, G) := rfl
theorem brk_eq : mS X .brk ρ G = some (.brk, ρ, G) := rfl
theorem ls_nil {st : MV → Lo → GH → Option (Fl × Lo × GH)} : loopS .no st [] ρ G = some (.next, ρ, G) := if_pos rfl
theorem ls_next {st : MV → Lo → GH → Option (Fl × Lo × GH)} {v : MV} {r : List Itm} {fl : Fl} (h : st v ρ G = some (fl, ρ', G')) (hf : fl = .next ∨ fl = .cont) : loopS .no st (.val v :: r) ρ G = loopS .no st r ρ' G' :=
  (if_pos (show gdOk G .no = true from rfl)).trans (bnd (o := st v ρ G) h (hf.elim (fun e => e ▸ rfl) fun e => e ▸ rfl))
theorem ls_ret {st : MV → Lo → GH → Option (Fl × Lo × GH)} {v x : MV} {r : List Itm} (h : st v ρ G = some (.ret x, ρ', G')) : loopS .no st (.val v :: r) ρ G = some (.ret x, ρ', G') :=
  (if_pos (show gdOk G .no = true from rfl)).trans (bnd (o := st v ρ G) h rfl)
theorem asg_eq {i : Nat} {e : ME} {v : MV} (h : mE X e ρ G = some (v, G')) (h2 : set1 ρ i v = some ρ') : mS X (.asg i e) ρ G = some (.next, ρ', G') := bnd (o := mE X e ρ G) h (mpp h2)
theorem expr_eq {e : ME} {v : MV} (h : mE X e ρ G = some (v, G')) : mS X (.expr e) ρ G = some (.next, ρ, G') := mpp (o := mE X e ρ G) h
theorem if_t {e : ME} {a b : List MS} (h : mE X e ρ G = some (.bool true, G')) : mS X (.ifS e a b) ρ G = mSs X a ρ G' := onB_t h
theorem if_f {e : ME} {a b : List MS} (h : mE X e ρ G = some (.bool false, G')) : mS X (.ifS e a b) ρ G = mSs X b ρ G' := onB_f h
theorem ret_eq {e : ME} {v : MV} (h : mE X e ρ G = some (v, G')) : mS X (.ret e) ρ G = some (.ret v, ρ, G') := mpp (o := mE X e ρ G) h
theorem no_eq {a : ME} {b : Bool} (h : mE X a ρ G = some (.bool b, G')) : mE X (.no a) ρ G = some (.bool (!b), G') := bnd (o := mE X a ρ G) h rfl
theorem tr_eq {a : ME} {b : Bool} (h : mE X a ρ G = some (.bool b, G')) : mE X (.truth a) ρ G = some (.bool b, G') := bnd (o := mE X a ρ G) h rfl
theorem while_t {t : Lo → GH → Option (MV × GH)} {st : Lo → GH → Option (Fl × Lo × GH)} {n : Nat} {G1 : GH} (h : t ρ G = some (.bool true, G1)) (h2 : st ρ G1 = some (.next, ρ', G')) : loopW t st (n + 1) ρ G = loopW t st n ρ' G' := (onB_t h).trans (bnd (o := st ρ G1) h2 rfl)
theorem while_b {t : Lo → GH → Option (MV × GH)} {st : Lo → GH → Option (Fl × Lo × GH)} {n : Nat} {G1 : GH} (h : t ρ G = some (.bool true, G1)) (h2 : st ρ G1 = some (.brk, ρ', G')) : loopW t st (n + 1) ρ G = some (.next, ρ', G') := (onB_t h).trans (bnd (o := st ρ G1) h2 rfl)
theorem while_f {t : Lo → GH → Option (MV × GH)} {st : Lo → GH → Option (Fl × Lo × GH)} {n : Nat} {G1 : GH} (h : t ρ G = some (.bool false, G1)) : loopW t st (n + 1) ρ G = some (.next, ρ, G1) := onB_f h
end
theorem bin_shr {G : GH} {a b : Int} (h : 0 ≤ b) : binO G .shr (.int a) (.int b) = some (.int (a.fdiv (2 ^ b.toNat))) :=
  show (if 0 ≤ b then some (MV.int (a.fdiv (2 ^ b.toNat))) else none) = _ from if_pos h
theorem bin_band {G : GH} {a : Int} (h : 0 ≤ a) : binO G .band (.int a) (.int 1) = some (.int (a % 2)) :=
  show (if (1 : Int) = 1 ∧ 0 ≤ a then some (MV.int (a % 2)) else none) = _ from if_pos ⟨rfl, h⟩
theorem so_rng1 {G : GH} {b : Int} (h : 0 ≤ b ∧ b < 4096) : srcO G .rng [.int b] = some (.no, rangeO 0 b 1) :=
  show (if 0 ≤ b ∧ b < 4096 then some (Gd.no, rangeO 0 b 1) else none) = _ from if_pos h
theorem bin_app {G : GH} {a b : List MV} (h : a.length + b.length < 4096) : binO G .add (.lst a) (.lst b) = some (.lst (a ++ b)) :=
  show (if a.length + b.length < 4096 then some (MV.lst (a ++ b)) else none) = _ from if_pos h
theorem bound_nat {m n : Nat} : boundO m (.int (n : Int)) = some n := show (if 0 ≤ (n : Int) then some (n : Int).toNat else none) = some n from if_pos (Int.natCast_nonneg n)
theorem slc_hi {G : GH} {l : List MV} {n : Nat} : slcO G (.lst l) .none (.int (n : Int)) = some (.lst (l.take n)) :=
  (bnd (o := boundO l.length (.int (n : Int))) bound_nat rfl : ((boundO l.length (.int (n : Int))).bind fun b => some (MV.lst ((l.take b).drop 0))) = _)
theorem slc_lo {G : GH} {l : List MV} {n : Nat} : slcO G (.lst l) (.int (n : Int)) .none = some (.lst (l.drop n)) :=
  (bnd (o := boundO 0 (.int (n : Int))) bound_nat (congrArg (fun r : List MV => some (MV.lst (r.drop n))) (List.take_length ..)) : ((boundO 0 (.int (n : Int))).bind fun a => some (MV.lst ((l.take l.length).drop a))) = _)
theorem bin_mul {G : GH} {a b : Int} (h1 : small a = true) (h2 : small b = true) : binO G .mul (.int a) (.int b) = some (.int (a * b)) :=
  show (if (small a && small b) = true then some (MV.int (a * b)) else none) = _ from if_pos (by rw [h1, h2]; rfl)
section
variable {G : GH} {i n : Nat} {l : List MV} {v x : MV}
theorem isS {α : Type} {o : Option α} {a : α} (h : o = some a) : o.isSome = true := h ▸ rfl
theorem isL (h : G[i]? = some (.lst l)) : (lsO G (.ref i)).isSome = true := isS (o := lsO G (.ref i)) (hL_of h)
theorem rN_lst (h : G[i]? = some (.lst l)) : rN G (.ref i) = none := congrArg (Option.map (fun p => (i, p))) (hN_lst h)
theorem sub_lst (h : G[i]? = some (.lst l)) (hn : l[n]? = some v) : subO G (.ref i) (.int (n : Int)) = some v := by
  show (match rN G (.ref i) with | some p => p.2.2.lookup (n : Int) | none => (lsO G (.ref i)).bind fun l => if 0 ≤ (n : Int) then l[(n : Int).toNat]? else none) = _
  rw [rN_lst h]
  exact bnd (hL_of h) ((if_pos (Int.natCast_nonneg n)).trans hn)
theorem subF_lst (hn : l[n]? = some v) : subO G (.lst l) (.int (n : Int)) = some v :=
  show (if 0 ≤ (n : Int) then l[(n : Int).toNat]? else none) = some v from (if_pos (Int.natCast_nonneg n)).trans hn
theorem set_lst (h : G[i]? = some (.lst l)) (hn : n < l.length) : subSet G (.ref i) (.int (n : Int)) x = some (G.set i (.lst (l.set n x))) := by
  unfold subSet
  simp only [iInt_int, rN_lst h]
  exact bnd (o := hL G i) (hL_of h) (if_pos ⟨Int.natCast_nonneg n, Int.ofNat_lt.mpr hn⟩)
theorem app_lst (h : G[i]? = some (.lst l)) (hl : l.length < 4096) : appO G (.ref i) x = some (G.set i (.lst (l ++ [x]))) := bnd (o := hL G i) (hL_of h) (if_pos hl)
theorem pop_lst (h : G[i]? = some (.lst l)) (hx : l.getLast? = some x) : popO G (.ref i) = some (x, G.set i (.lst l.dropLast)) := bnd (o := hL G i) (hL_of h) (mpp hx)
theorem len_lst (h : G[i]? = some (.lst l)) : bltO G .len (.ref i) = some (.int l.length, G) := mpp (o := hL G i) (hL_of h)
end
end Mine.Law
end
section
set_option autoImplicit false
set_option linter.unusedVariables false
set_option linter.unusedSimpArgs false
set_option linter.unusedSectionVars false
namespace Mine.Law

noncomputable def Src (G : GH) (gd : Gd) : List Itm → List MV → Prop
  | [], [] => True
  | a :: r, v :: t => fetch G gd a = some v ∧ Src G gd r t
  | _, _ => False

theorem src_no (G : GH) : ∀ l : List MV, Src G .no (l.map .val) l
  | [] => trivial
  | _ :: r => ⟨rfl, src_no G r⟩
theorem src_at {G : GH} {i n : Nat} {l : List MV} (h : G[i]? = some (.lst l)) : ∀ (m k : Nat), m + k = l.length → Src G (.lst i n) ((List.range' m k).map .at) (l.drop m)
  | m, 0, e => by rw [List.drop_of_length_le (by omega)]; trivial
  | m, k + 1, e => by
    have hm : m < l.length := by omega
    rw [List.range'_succ, List.map_cons, List.drop_eq_getElem_cons hm]
    refine ⟨?_, src_at h (m + 1) k (by omega)⟩
    exact bnd (hL_of h) (List.getElem?_eq_getElem hm)
theorem src_ref {G : GH} {i : Nat} {l : List MV} (h : G[i]? = some (.lst l)) : Src G (.lst i l.length) ((List.range l.length).map .at) l := by
  rw [List.range_eq_range']
  exact src_at h 0 l.length (by omega)

theorem so_lst {G : GH} {l : List MV} : srcO G .vals [.lst l] = some (.no, l.map .val) := rfl
theorem so_tup {G : GH} {l : List MV} : srcO G .vals [.tup l] = some (.no, l.map .val) := rfl
theorem so_ref {G : GH} {i : Nat} {l : List MV} (h : G[i]? = some (.lst l)) : srcO G .vals [.ref i] = some (.lst i l.length, (List.range l.length).map .at) := by
  show valsO G (.ref i) = _
  unfold valsO
  simp only [iRef_ref, hN_lst h]
  exact mpp (hL_of h)
theorem gd_ref {G : GH} {i : Nat} {l : List MV} (h : G[i]? = some (.lst l)) : gdOk G (.lst i l.length) = true := by
  show (match hL G i with | some l' => decide (l'.length = l.length) | none => false) = true
  rw [hL_of h]; exact decide_eq_true rfl

section
variable {X : Ctx} {ρ : Lo} {G : GH}

theorem loopC_pure {gd : Gd} {st : MV → GH → List MV → Option (List MV × GH)} {out : MV → List MV} (hg : gdOk G gd = true) :
    ∀ (items : List Itm) (l acc : List MV), Src G gd items l → (∀ v ∈ l, ∀ acc : List MV, acc.length + (out v).length ≤ 4000 → st v G acc = some (acc ++ out v, G)) → acc.length + (l.flatMap out).length ≤ 4000 → loopC gd st items G acc = some (acc ++ l.flatMap out, G)
  | [], [], acc, _, _, _ => (if_pos hg).trans (by rw [List.flatMap_nil, List.append_nil])
  | a :: r, v :: t, acc, S, h, hl => by
    rw [List.flatMap_cons, List.length_append] at hl
    rw [List.flatMap_cons, ← List.append_assoc]
    exact (if_pos hg).trans (bnd S.1 (bnd (h v (.head _) acc (by omega)) (loopC_pure hg r t _ S.2 (fun v hv => h v (.tail _ hv)) (by rw [List.length_append]; omega))))
  | [], _ :: _, _, S, _, _ => S.elim
  | _ :: _, [], _, S, _, _ => S.elim

theorem mC_nil {emit : Lo → GH → Option (MV × GH)} {v : MV} {G' : GH} {acc : List MV} (h : emit ρ G = some (v, G')) (hl : acc.length < 4096) : mC X [] emit ρ G acc = some (acc ++ [v], G') := bnd (o := emit ρ G) h (if_pos hl)

theorem mC_cons {tgt : List Nat} {one : Bool} {k : SK} {srcs ifs : List ME} {gs : List MG} {emit : Lo → GH → Option (MV × GH)} {vs l acc : List MV} {gd : Gd} {items : List Itm} (out : MV → List MV)
    (h1 : mEs X srcs ρ G = some (vs, G)) (h2 : srcO G k vs = some (gd, items)) (hg : gdOk G gd = true) (S : Src G gd items l)
    (hs : ∀ v ∈ l, ∃ ρ' b, asgO one tgt v ρ = some ρ' ∧ mAnd X ifs ρ' G = some (.bool b, G) ∧ (b = false → out v = []) ∧ (b = true → ∀ acc : List MV, acc.length + (out v).length ≤ 4000 → mC X gs emit ρ' G acc = some (acc ++ out v, G)))
    (hl : acc.length + (l.flatMap out).length ≤ 4000) : mC X (.mk tgt one k srcs ifs :: gs) emit ρ G acc = some (acc ++ l.flatMap out, G) := by
  refine bnd (o := mEs X srcs ρ G) h1 (bnd h2 (loopC_pure hg items l acc S (fun v hv acc ha => ?_) hl))
  obtain ⟨ρ', b, e1, e2, e3, e4⟩ := hs v hv
  refine bnd e1 ?_
  cases b with
  | true => exact (onB_t e2).trans (e4 rfl acc ha)
  | false => rw [e3 rfl, List.append_nil]; exact onB_f e2

theorem comp_of {k : Nat} {elt : ME} {gs : List MG} {l : List MV} {G' : GH} (h : mC X gs (fun ρ' G' => mE X elt ρ' G') (ρ ++ List.replicate k none) G [] = some (l, G')) (hl : l.length < 4096) : mE X (.comp false k elt gs) ρ G = some (.lst l, G') := bnd (o := mC X gs (fun ρ' G' => mE X elt ρ' G') (ρ ++ List.replicate k none) G []) h (if_pos hl)

theorem comp1 {k : Nat} {elt : ME} {tgt : List Nat} {one : Bool} {sk : SK} {srcs ifs : List ME} {vs l : List MV} {gd : Gd} {items : List Itm} (p : MV → Bool) (f : MV → MV)
    (h1 : mEs X srcs (ρ ++ List.replicate k none) G = some (vs, G)) (h2 : srcO G sk vs = some (gd, items)) (hg : gdOk G gd = true) (S : Src G gd items l)
    (hs : ∀ v ∈ l, ∃ ρ', asgO one tgt v (ρ ++ List.replicate k none) = some ρ' ∧ mAnd X ifs ρ' G = some (.bool (p v), G) ∧ (p v = true → mE X elt ρ' G = some (f v, G)))
    (hl : l.length ≤ 4000) : mE X (.comp false k elt [.mk tgt one sk srcs ifs]) ρ G = some (.lst ((l.filter p).map f), G) := by
  have e : ∀ l : List MV, l.flatMap (fun v => if p v then [f v] else []) = (l.filter p).map f := fun l => by
    induction l with
    | nil => rfl
    | cons a r ih =>
      rw [List.flatMap_cons, ih, List.filter_cons]
      split <;> rfl
  have hlen : ((l.filter p).map f).length ≤ l.length := by rw [List.length_map]; exact List.length_filter_le p l
  refine comp_of ?_ (by omega)
  have := mC_cons (X := X) (ρ := ρ ++ List.replicate k none) (G := G) (tgt := tgt) (one := one) (k := sk) (srcs := srcs) (ifs := ifs) (gs := []) (emit := fun ρ' G' => mE X elt ρ' G') (acc := []) (fun v => if p v then [f v] else []) h1 h2 hg S (fun v hv => by
    obtain ⟨ρ', e1, e2, e3⟩ := hs v hv
    refine ⟨ρ', p v, e1, e2, fun h => by rw [if_neg (by simp [h])], fun h acc ha => ?_⟩
    rw [if_pos h] at ha ⊢
    exact mC_nil (e3 h) (by simp at ha; omega)) (by rw [e]; simp; exact Nat.le_trans (List.length_filter_le p l) hl)
  rw [e, List.nil_append] at this
  exact this

theorem loopC_inv {st : MV → GH → List MV → Option (List MV × GH)} {Q : Nat → GH → List MV → Prop} :
    ∀ (l : List MV) (i : Nat) (G : GH) (acc : List MV), (∀ (j : Nat) (v : MV) (G : GH) (acc : List MV), i ≤ j → l[j - i]? = some v → Q j G acc → ∃ acc' G', st v G acc = some (acc', G') ∧ Q (j + 1) G' acc') → Q i G acc →
      ∃ acc' G', loopC .no st (l.map .val) G acc = some (acc', G') ∧ Q (i + l.length) G' acc'
  | [], i, G, acc, _, q => ⟨acc, G, if_pos rfl, q⟩
  | v :: t, i, G, acc, h, q => by
    obtain ⟨acc1, G1, e1, q1⟩ := h i v G acc (Nat.le_refl _) (by simp) q
    obtain ⟨acc2, G2, e2, q2⟩ := loopC_inv t (i + 1) G1 acc1 (fun j v G acc hj hv => h j v G acc (by omega) (by
      have : j - i = (j - (i + 1)) + 1 := by omega
      rw [this, List.getElem?_cons_succ]; exact hv)) q1
    refine ⟨acc2, G2, ?_, by rw [List.length_cons, show i + (t.length + 1) = i + 1 + t.length by omega]; exact q2⟩
    exact (if_pos (show gdOk G .no = true from rfl)).trans (bnd (o := st v G acc) e1 e2)

theorem comp_inv {k : Nat} {elt : ME} {tgt : List Nat} {one : Bool} {sk : SK} {srcs : List ME} {vs l : List MV} {G1 : GH} (Q : Nat → GH → List MV → Prop)
    (h1 : mEs X srcs (ρ ++ List.replicate k none) G = some (vs, G1)) (h2 : srcO G1 sk vs = some (.no, l.map .val)) (q : Q 0 G1 [])
    (hs : ∀ (j : Nat) (v : MV) (G : GH) (acc : List MV), l[j]? = some v → Q j G acc → ∃ ρ' x G', asgO one tgt v (ρ ++ List.replicate k none) = some ρ' ∧ mE X elt ρ' G = some (x, G') ∧ Q (j + 1) G' (acc ++ [x]))
    (hQ : ∀ j G acc, Q j G acc → acc.length = j) (hl : l.length ≤ 4000) : ∃ acc G', mE X (.comp false k elt [.mk tgt one sk srcs []]) ρ G = some (.lst acc, G') ∧ Q l.length G' acc := by
  obtain ⟨acc, G', e, q'⟩ := loopC_inv (st := fun v G acc => (asgO one tgt v (ρ ++ List.replicate k none)).bind fun ρ' =>
      onB (mAnd X [] ρ' G) (fun G2 => mC X [] (fun ρ' G' => mE X elt ρ' G') ρ' G2 acc) fun G2 => some (acc, G2)) (Q := fun j G acc => Q j G acc ∧ j ≤ l.length) l 0 G1 [] (fun j v G acc _ hv q => by
    rw [Nat.sub_zero] at hv
    have hj := (List.getElem?_eq_some_iff.mp hv).1
    obtain ⟨ρ', x, G', a1, a2, a3⟩ := hs j v G acc hv q.1
    refine ⟨acc ++ [x], G', ?_, a3, by omega⟩
    have := hQ _ _ _ q.1
    exact bnd a1 (mC_nil (X := X) a2 (by omega))) ⟨q, Nat.zero_le _⟩
  rw [Nat.zero_add] at q'
  refine ⟨acc, G', comp_of ?_ (by have := hQ _ _ _ q'.1; omega), q'.1⟩
  exact bnd (o := mEs X srcs (ρ ++ List.replicate k none) G) h1 (bnd h2 e)

theorem loopS_inv {st : MV → Lo → GH → Option (Fl × Lo × GH)} {Q : Nat → Lo → GH → Prop} :
    ∀ (l : List MV) (i : Nat) (ρ : Lo) (G : GH), (∀ (j : Nat) (v : MV) (ρ : Lo) (G : GH), i ≤ j → l[j - i]? = some v → Q j ρ G → ∃ fl ρ' G', st v ρ G = some (fl, ρ', G') ∧ (fl = .next ∨ fl = .cont) ∧ Q (j + 1) ρ' G') → Q i ρ G →
      ∃ ρ' G', loopS .no st (l.map .val) ρ G = some (.next, ρ', G') ∧ Q (i + l.length) ρ' G'
  | [], i, ρ, G, _, q => ⟨ρ, G, ls_nil, q⟩
  | v :: t, i, ρ, G, h, q => by
    obtain ⟨fl, ρ1, G1, e1, hf, q1⟩ := h i v ρ G (Nat.le_refl _) (by simp) q
    obtain ⟨ρ2, G2, e2, q2⟩ := loopS_inv t (i + 1) ρ1 G1 (fun j v ρ G hj hv => h j v ρ G (by omega) (by
      have : j - i = (j - (i + 1)) + 1 := by omega
      rw [this, List.getElem?_cons_succ]; exact hv)) q1
    refine ⟨ρ2, G2, ?_, by rw [List.length_cons, show i + (t.length + 1) = i + 1 + t.length by omega]; exact q2⟩
    rw [List.map_cons, ls_next e1 hf]
    exact e2
theorem for_inv {tgt : List Nat} {one : Bool} {sk : SK} {srcs : List ME} {b : List MS} {vs l : List MV} {G1 : GH} (Q : Nat → Lo → GH → Prop)
    (h1 : mEs X srcs ρ G = some (vs, G1)) (h2 : srcO G1 sk vs = some (.no, l.map .val)) (q : Q 0 ρ G1)
    (hs : ∀ (j : Nat) (v : MV) (ρ : Lo) (G : GH), l[j]? = some v → Q j ρ G → ∃ ρ' fl ρ'' G', asgO one tgt v ρ = some ρ' ∧ mSs X b ρ' G = some (fl, ρ'', G') ∧ (fl = .next ∨ fl = .cont) ∧ Q (j + 1) ρ'' G') :
    ∃ ρ' G', mS X (.forS tgt one sk srcs b) ρ G = some (.next, ρ', G') ∧ Q l.length ρ' G' := by
  obtain ⟨ρ', G', e, q'⟩ := loopS_inv (st := fun v ρ G => (asgO one tgt v ρ).bind fun ρ' => mSs X b ρ' G) (Q := Q) l 0 ρ G1 (fun j v ρ G _ hv q => by
    rw [Nat.sub_zero] at hv
    obtain ⟨ρ', fl, ρ'', G', a1, a2, a3, a4⟩ := hs j v ρ G hv q
    exact ⟨fl, ρ'', G', bnd a1 a2, a3, a4⟩) q
  rw [Nat.zero_add] at q'
  refine ⟨ρ', G', ?_, q'⟩
  exact bnd (o := mEs X srcs ρ G) h1 (bnd h2 e)
end

section
variable {X : Ctx} {ρ ρ' : Lo} {G G' : GH}
theorem tup_eq {es : List ME} {vs : List MV} (h : mEs X es ρ G = some (vs, G')) : mE X (.tup es) ρ G = some (.tup vs, G') := mpp (o := mEs X es ρ G) h
theorem lstF_eq {es : List ME} {vs : List MV} (h : mEs X es ρ G = some (vs, G')) : mE X (.lst false es) ρ G = some (.lst vs, G') := mpp (o := mEs X es ρ G) h
theorem lstT_eq {es : List ME} {vs : List MV} (h : mEs X es ρ G = some (vs, G')) : mE X (.lst true es) ρ G = some (.ref G'.length, G' ++ [.lst vs]) := mpp (o := mEs X es ρ G) h
theorem call_eq {f : Nat} {es : List ME} {vs : List MV} {r : MV × GH} (h : mEs X es ρ G = some (vs, G')) (h2 : X.call f vs G' = some r) : mE X (.call f es) ρ G = some r := bnd (o := mEs X es ρ G) h h2
theorem asgT_eq {is : List Nat} {e : ME} {l : List MV} (h : mE X e ρ G = some (.tup l, G')) (h2 : setAll ρ is l = some ρ') : mS X (.asgT is e) ρ G = some (.next, ρ', G') := bnd (o := mE X e ρ G) h (mpp h2)
theorem asgW_eq {is : List Nat} {e : ME} {l : List MV} (h : mE X e ρ G = some (.tup l, G')) (hl : is.length = l.length) (h2 : setAll ρ is.reverse l.reverse = some ρ') : mS X (.asgW is e) ρ G = some (.next, ρ', G') := bnd (o := mE X e ρ G) h ((if_pos hl).trans (mpp h2))
theorem slc_eq {e lo hi : ME} {v a b x : MV} {G2 G3 : GH} (h : mE X e ρ G = some (v, G')) (h1 : mE X lo ρ G' = some (a, G2)) (h2 : mE X hi ρ G2 = some (b, G3)) (h3 : slcO G3 v a b = some x) : mE X (.slc e lo hi) ρ G = some (x, G3) := bnd (o := mE X e ρ G) h (bnd h1 (bnd h2 (mpp h3)))
theorem rev_eq {e : ME} {v x : MV} (h : mE X e ρ G = some (v, G')) (h3 : revO G' v = some x) : mE X (.rev e) ρ G = some (x, G') := bnd (o := mE X e ρ G) h (mpp h3)
theorem neg_eq {e : ME} {i : Int} (h : mE X e ρ G = some (.int i, G')) : mE X (.neg e) ρ G = some (.int (-i), G') := bnd (o := mE X e ρ G) h rfl
theorem cmp2_eq {o1 o2 : C2} {a b c : ME} {v w x : MV} {t : Bool} {u : Bool} {G2 : GH} (h : mE X a ρ G = some (v, G')) (h2 : mE X b ρ G' = some (w, G2)) (h3 : cmpO G2 o1 v w = some t) (h4 : mE X c ρ G2 = some (x, G2)) (h5 : cmpO G2 o2 w x = some u) : mE X (.cmp2 o1 o2 a b c) ρ G = some (.bool (t && u), G2) :=
  bnd (o := mE X a ρ G) h (bnd h2 (match t, mpp (f := fun b => (MV.bool b, G2)) h3 with
    | false, h3 => onB_f h3
    | true, h3 => (onB_t h3).trans (bnd h4 (mpp h5))))
theorem ite_t {e a b : ME} (h : mE X e ρ G = some (.bool true, G')) : mE X (.ite e a b) ρ G = mE X a ρ G' := onB_t h
theorem ite_f {e a b : ME} (h : mE X e ρ G = some (.bool false, G')) : mE X (.ite e a b) ρ G = mE X b ρ G' := onB_f h
theorem ite_eq {e a b : ME} {t : Bool} {v w : MV} (h : mE X e ρ G = some (.bool t, G')) (h1 : mE X a ρ G' = some (v, G')) (h2 : mE X b ρ G' = some (w, G')) : mE X (.ite e a b) ρ G = some (if t = true then v else w, G') :=
  match t, h with
  | false, h => (ite_f h).trans h2
  | true, h => (ite_t h).trans h1
theorem seq_app {b : List MS} : ∀ {a : List MS} {ρ : Lo} {G : GH}, mSs X a ρ G = some (.next, ρ', G') → mSs X (a ++ b) ρ G = mSs X b ρ' G'
  | [], ρ, G, h => by cases h; rfl
  | x :: r, ρ, G, h => (Option.bind_eq_some_iff.mp h).elim fun o q => bnd (o := mS X x ρ G) q.1 (by
    obtain ⟨fl, ρ2, G2⟩ := o
    cases fl with
    | next => exact seq_app (a := r) q.2
    | _ => cases q.2)
end

theorem dat_int {G : GH} : ∀ (n : Nat) (i : Int), datO G n (.int i) = some (.int i)
  | 0, _ => rfl
  | _ + 1, _ => rfl
theorem dats_int {G : GH} {n : Nat} : ∀ l : List Int, datsW (datO G n) (l.map .int) = some (l.map .int)
  | [] => rfl
  | i :: r => by
    exact bnd (o := datO G n (.int i)) (dat_int n i) (mpp (dats_int r))
theorem dEqs_int : ∀ a b : List Int, dEqs (a.map .int) (b.map .int) = (a == b)
  | [], [] => rfl
  | [], _ :: _ => rfl
  | _ :: _, [] => rfl
  | x :: a, y :: b => by
    rw [List.map_cons, List.map_cons, dEqs, dEqs_int a b, dEq]
    rfl
theorem dat_lst {G : GH} {n : Nat} (l : List Int) : datO G (n + 1) (.lst (l.map .int)) = some (.lst (l.map .int)) :=
  mpp (o := datsW (datO G n) (l.map .int)) (dats_int l)
theorem dat_ref {G : GH} {n i : Nat} {l : List Int} (h : G[i]? = some (.lst (l.map .int))) : datO G (n + 1) (.ref i) = some (.lst (l.map .int)) := by
  show (match hL G i with | some l => (datsW (datO G n) l).map DT.lst | none => atomD (.ref i)) = _
  rw [hL_of h]; exact mpp (dats_int l)
theorem eq_lst {G : GH} (a b : List Int) : eqO G (.lst (a.map .int)) (.lst (b.map .int)) = some (a == b) := by
  exact bnd (dat_lst a) ((mpp (dat_lst b)).trans (congrArg some (dEqs_int a b)))
theorem ne_lst {G : GH} (a b : List Int) : cmpO G .ne (.lst (a.map .int)) (.lst (b.map .int)) = some (!(a == b)) := by
  exact mpp (eq_lst a b)
theorem ceq_lst {G : GH} (a b : List Int) : cmpO G .eq (.lst (a.map .int)) (.lst (b.map .int)) = some (a == b) := eq_lst a b
theorem intsO_map : ∀ l : List Int, intsO (l.map .int) = some l
  | [] => rfl
  | i :: r => mpp (intsO_map r)
theorem in_lst {G : GH} (a : Int) (l : List Int) : cmpO G .isin (.int a) (.lst (l.map .int)) = some (l.contains a) := mpp (intsO_map l)
theorem nin_lst {G : GH} (a : Int) (l : List Int) : cmpO G .nin (.int a) (.lst (l.map .int)) = some (!l.contains a) := mpp (intsO_map l)
theorem in_tup {G : GH} (a : Int) (l : List Int) : cmpO G .isin (.int a) (.tup (l.map .int)) = some (l.contains a) := mpp (intsO_map l)
end Mine.Law
end
section
set_option autoImplicit false
set_option linter.unusedVariables false
set_option linter.unusedSimpArgs false
set_option linter.unusedSectionVars false
namespace Mine.Law
section
variable {X : Ctx} {ρ : Lo} {G : GH} {α β : Type}

theorem loopC_pureG {gd : Gd} {st : MV → GH → List MV → Option (List MV × GH)} {g : α → MV} {out : α → List MV} (hg : gdOk G gd = true) :
    ∀ (items : List Itm) (l : List α) (acc : List MV), Src G gd items (l.map g) → (∀ v ∈ l, ∀ acc : List MV, acc.length + (out v).length ≤ 4000 → st (g v) G acc = some (acc ++ out v, G)) → acc.length + (l.flatMap out).length ≤ 4000 → loopC gd st items G acc = some (acc ++ l.flatMap out, G)
  | [], [], acc, _, _, _ => (if_pos hg).trans (by rw [List.flatMap_nil, List.append_nil])
  | a :: r, v :: t, acc, S, h, hl => by
    rw [List.flatMap_cons, List.length_append] at hl
    rw [List.flatMap_cons, ← List.append_assoc]
    exact (if_pos hg).trans (bnd S.1 (bnd (h v (.head _) acc (by omega)) (loopC_pureG hg r t _ S.2 (fun v hv => h v (.tail _ hv)) (by rw [List.length_append]; omega))))
  | [], _ :: _, _, S, _, _ => S.elim
  | _ :: _, [], _, S, _, _ => S.elim

theorem mC_consG {tgt : List Nat} {one : Bool} {k : SK} {srcs ifs : List ME} {gs : List MG} {emit : Lo → GH → Option (MV × GH)} {vs acc : List MV} {gd : Gd} {items : List Itm} {l : List α} (g : α → MV) (out : α → List MV)
    (h1 : mEs X srcs ρ G = some (vs, G)) (h2 : srcO G k vs = some (gd, items)) (hg : gdOk G gd = true) (S : Src G gd items (l.map g))
    (hs : ∀ v ∈ l, ∃ ρ' b, asgO one tgt (g v) ρ = some ρ' ∧ mAnd X ifs ρ' G = some (.bool b, G) ∧ (b = false → out v = []) ∧ (b = true → ∀ acc : List MV, acc.length + (out v).length ≤ 4000 → mC X gs emit ρ' G acc = some (acc ++ out v, G)))
    (hl : acc.length + (l.flatMap out).length ≤ 4000) : mC X (.mk tgt one k srcs ifs :: gs) emit ρ G acc = some (acc ++ l.flatMap out, G) := by
  refine bnd (o := mEs X srcs ρ G) h1 (bnd h2 (loopC_pureG hg items l acc S (fun v hv acc ha => ?_) hl))
  obtain ⟨ρ', b, e1, e2, e3, e4⟩ := hs v hv
  refine bnd e1 ?_
  cases b with
  | true => exact (onB_t e2).trans (e4 rfl acc ha)
  | false => rw [e3 rfl, List.append_nil]; exact onB_f e2

theorem flat_filter (p : α → Bool) (f : α → MV) : ∀ l : List α, l.flatMap (fun v => if p v then [f v] else []) = (l.filter p).map f
  | [] => rfl
  | a :: r => by
    rw [List.flatMap_cons, flat_filter p f r, List.filter_cons]
    split <;> rfl

theorem comp1G {k : Nat} {elt : ME} {tgt : List Nat} {one : Bool} {sk : SK} {srcs ifs : List ME} {vs : List MV} {l : List α} {gd : Gd} {items : List Itm} (g : α → MV) (p : α → Bool) (f : α → MV)
    (h1 : mEs X srcs (ρ ++ List.replicate k none) G = some (vs, G)) (h2 : srcO G sk vs = some (gd, items)) (hg : gdOk G gd = true) (S : Src G gd items (l.map g))
    (hs : ∀ v ∈ l, ∃ ρ', asgO one tgt (g v) (ρ ++ List.replicate k none) = some ρ' ∧ mAnd X ifs ρ' G = some (.bool (p v), G) ∧ (p v = true → mE X elt ρ' G = some (f v, G)))
    (hl : l.length ≤ 4000) : mE X (.comp false k elt [.mk tgt one sk srcs ifs]) ρ G = some (.lst ((l.filter p).map f), G) := by
  have hlen : ((l.filter p).map f).length ≤ l.length := by rw [List.length_map]; exact List.length_filter_le p l
  refine comp_of ?_ (by omega)
  have := mC_consG (X := X) (ρ := ρ ++ List.replicate k none) (G := G) (tgt := tgt) (one := one) (k := sk) (srcs := srcs) (ifs := ifs) (gs := []) (emit := fun ρ' G' => mE X elt ρ' G') (acc := []) (l := l) g (fun v => if p v then [f v] else []) h1 h2 hg S (fun v hv => by
    obtain ⟨ρ', e1, e2, e3⟩ := hs v hv
    refine ⟨ρ', p v, e1, e2, fun h => by rw [if_neg (by simp [h])], fun h acc ha => ?_⟩
    rw [if_pos h] at ha ⊢
    exact mC_nil (e3 h) (by simp at ha; omega)) (by rw [flat_filter]; simp; exact Nat.le_trans (List.length_filter_le p l) hl)
  rw [flat_filter, List.nil_append] at this
  exact this

theorem comp_lst {k : Nat} {elt src : ME} {tgt : List Nat} {one : Bool} {ifs : List ME} {l : List α} (g : α → MV) (p : α → Bool) (f : α → MV)
    (h1 : mE X src (ρ ++ List.replicate k none) G = some (.lst (l.map g), G))
    (hs : ∀ v ∈ l, ∃ ρ', asgO one tgt (g v) (ρ ++ List.replicate k none) = some ρ' ∧ mAnd X ifs ρ' G = some (.bool (p v), G) ∧ (p v = true → mE X elt ρ' G = some (f v, G)))
    (hl : l.length ≤ 4000) : mE X (.comp false k elt [.mk tgt one .vals [src] ifs]) ρ G = some (.lst ((l.filter p).map f), G) :=
  comp1G g p f (es1 h1) so_lst rfl (src_no _ _) hs hl
theorem comp_ref {k i : Nat} {elt src : ME} {tgt : List Nat} {one : Bool} {ifs : List ME} {l : List α} (g : α → MV) (p : α → Bool) (f : α → MV)
    (h1 : mE X src (ρ ++ List.replicate k none) G = some (.ref i, G)) (hi : G[i]? = some (.lst (l.map g)))
    (hs : ∀ v ∈ l, ∃ ρ', asgO one tgt (g v) (ρ ++ List.replicate k none) = some ρ' ∧ mAnd X ifs ρ' G = some (.bool (p v), G) ∧ (p v = true → mE X elt ρ' G = some (f v, G)))
    (hl : l.length ≤ 4000) : mE X (.comp false k elt [.mk tgt one .vals [src] ifs]) ρ G = some (.lst ((l.filter p).map f), G) :=
  comp1G g p f (es1 h1) (so_ref hi) (gd_ref hi) (src_ref hi) hs hl

theorem sorted_lst {l : List Int} (h : l.length < 64) : bltO G .sorted (.lst (l.map .int)) = some (.lst ((l.mergeSort (· ≤ ·)).map .int), G) := by
  exact bnd (intsO_map l) (if_pos h)
theorem sorted_ref {i : Nat} {l : List Int} (hi : G[i]? = some (.lst (l.map .int))) (h : l.length < 64) : bltO G .sorted (.ref i) = some (.lst ((l.mergeSort (· ≤ ·)).map .int), G) := by
  exact bnd (bnd (o := hL G i) (hL_of hi) (intsO_map l)) (if_pos h)
end
theorem flat_one {α : Type} (f : α → MV) : ∀ l : List α, l.flatMap (fun x => [f x]) = l.map f
  | [] => rfl
  | a :: r => by rw [List.flatMap_cons, flat_one f r]; rfl
theorem and_t' {X : Ctx} {ρ : Lo} {G G' : GH} {e : ME} {b : Bool} (h : mE X e ρ G = some (.bool b, G')) : mAnd X [e] ρ G = some (.bool b, G') := by
  cases b
  · exact and_f h
  · exact (and_t h).trans and_nil
theorem or2_ff {X : Ctx} {ρ : Lo} {G : GH} {a b : ME} (h : mE X a ρ G = some (.bool false, G)) (h2 : mE X b ρ G = some (.bool false, G)) : mE X (.or_ [a, b]) ρ G = some (.bool false, G) := orE ((or_f h).trans ((or_f h2).trans or_nil))
theorem and2_eq {X : Ctx} {ρ : Lo} {G : GH} {a b : ME} {x y : Bool} (h : mE X a ρ G = some (.bool x, G)) (h2 : mE X b ρ G = some (.bool y, G)) : mE X (.and_ [a, b]) ρ G = some (.bool (x && y), G) := by
  cases x
  · exact andE (and_f h)
  · exact andE ((and_t h).trans (and_t' h2))
theorem or_t' {X : Ctx} {ρ : Lo} {G G' : GH} {e : ME} {b : Bool} (h : mE X e ρ G = some (.bool b, G')) : mOr X [e] ρ G = some (.bool b, G') := by
  cases b
  · exact (or_f h).trans or_nil
  · exact or_t h
theorem or2_eq {X : Ctx} {ρ : Lo} {G : GH} {a b : ME} {x y : Bool} (h : mE X a ρ G = some (.bool x, G)) (h2 : mE X b ρ G = some (.bool y, G)) : mE X (.or_ [a, b]) ρ G = some (.bool (x || y), G) := by
  cases x
  · exact orE ((or_f h).trans (or_t' h2))
  · exact orE (or_t h)
theorem comp3 {X : Ctx} {ρ ρ1 ρ2 ρ3 : Lo} {G G0 G1 G2 G3 : GH} {k : Nat} {elt : ME} {tgt : List Nat} {one : Bool} {sk : SK} {srcs : List ME} {vs : List MV} {v1 v2 v3 x1 x2 x3 : MV}
    (h1 : mEs X srcs (ρ ++ List.replicate k none) G = some (vs, G0)) (h2 : srcO G0 sk vs = some (.no, [.val v1, .val v2, .val v3]))
    (a1 : asgO one tgt v1 (ρ ++ List.replicate k none) = some ρ1) (b1 : mE X elt ρ1 G0 = some (x1, G1))
    (a2 : asgO one tgt v2 (ρ ++ List.replicate k none) = some ρ2) (b2 : mE X elt ρ2 G1 = some (x2, G2))
    (a3 : asgO one tgt v3 (ρ ++ List.replicate k none) = some ρ3) (b3 : mE X elt ρ3 G2 = some (x3, G3)) : mE X (.comp false k elt [.mk tgt one sk srcs []]) ρ G = some (.lst [x1, x2, x3], G3) := by
  refine comp_of (bnd (o := mEs X srcs (ρ ++ List.replicate k none) G) h1 (bnd h2 ?_)) (show 3 < 4096 by decide)
  have st : ∀ {v x : MV} {G G' : GH} {acc : List MV} {r : List Itm} {st : MV → GH → List MV → Option (List MV × GH)} {q : Option (List MV × GH)}, st v G acc = some (acc ++ [x], G') → loopC .no st r G' (acc ++ [x]) = q → loopC .no st (.val v :: r) G acc = q := fun {v x G G' acc r st q} h k =>
    (if_pos (show gdOk G .no = true from rfl)).trans (bnd (o := st v G acc) h k)
  exact st (bnd a1 (mC_nil (X := X) b1 (show 0 < 4096 by decide))) (st (bnd a2 (mC_nil (X := X) b2 (show 1 < 4096 by decide))) (st (bnd a3 (mC_nil (X := X) b3 (show 2 < 4096 by decide))) (if_pos rfl)))
theorem for3 {X : Ctx} {ρ ρ1 ρ2 ρ3 ρ1' ρ2' ρ3' : Lo} {G G0 G1 G2 G3 : GH} {tgt : List Nat} {one : Bool} {sk : SK} {srcs : List ME} {b : List MS} {vs : List MV} {v1 v2 v3 : MV}
    (h1 : mEs X srcs ρ G = some (vs, G0)) (h2 : srcO G0 sk vs = some (.no, [.val v1, .val v2, .val v3]))
    (a1 : asgO one tgt v1 ρ = some ρ1) (b1 : mSs X b ρ1 G0 = some (.next, ρ1', G1))
    (a2 : asgO one tgt v2 ρ1' = some ρ2) (b2 : mSs X b ρ2 G1 = some (.next, ρ2', G2))
    (a3 : asgO one tgt v3 ρ2' = some ρ3) (b3 : mSs X b ρ3 G2 = some (.next, ρ3', G3)) : mS X (.forS tgt one sk srcs b) ρ G = some (.next, ρ3', G3) := by
  exact bnd (o := mEs X srcs ρ G) h1 (bnd h2 ((ls_next (fl := .next) (bnd a1 b1) (.inl rfl)).trans ((ls_next (fl := .next) (bnd a2 b2) (.inl rfl)).trans ((ls_next (fl := .next) (bnd a3 b3) (.inl rfl)).trans ls_nil))))
theorem filter_true {α : Type} (l : List α) : l.filter (fun _ => true) = l := List.filter_eq_self.mpr fun _ _ => rfl
end Mine.Law
end
section
set_option autoImplicit false
set_option linter.unusedVariables false
set_option linter.unusedSimpArgs false
namespace Mine.Law

structure Co where
  assigns : List MV
  levels : List MV
  reasons : List MV
  spots : List MV
  phases : List MV
  watches : List MV
  act : List Int
  heap : List Nat
  place : List Int
  trail : List MV
  starts : List MV
  clauses : List MV
  steps : List MV
  droppable : List MV
  activities : List MV
  seen : List Bool
  unit : List MV

noncomputable def iN (n : Nat) : MV := .int (n : Int)
noncomputable def dHeap (b : Nat) : List (Nat × MV) := [(n_limit, .int 1000000000000), (n_step, .int 1024), (n_activity, .ref (b + 10)), (n_heap, .ref (b + 11)), (n_place, .ref (b + 12))]
noncomputable def dCore (b : Nat) : List (Nat × MV) := [(n_hook, .none), (n_assigns, .ref (b + 1)), (n_levels, .ref (b + 2)), (n_reasons, .ref (b + 3)), (n_spots, .ref (b + 4)), (n_phases, .ref (b + 5)), (n_watches, .ref (b + 8)), (n_heap, .obj c_CoreHeap (b + 9)), (n_trail, .ref (b + 13)), (n_starts, .ref (b + 14)),
  (n_head, .int 0), (n_told, .int 0), (n_clauses, .ref (b + 15)), (n_steps, .ref (b + 16)), (n_droppable, .ref (b + 17)), (n_activities, .ref (b + 18)), (n_learnt_count, .int 0), (n_proof, .none), (n_seen, .ref (b + 19)), (n_unit_steps, .ref (b + 20)), (n_rooted, .int 0), (n_is_ok, .bool true), (n_empty_step, .none), (n_failed, .tup []),
  (n_failed_at, .none), (n_conflict_limit, .int 0), (n_conflicts, .int 0), (n_decisions, .int 0)]
noncomputable def blk (b : Nat) (c : Co) : GH := [.sd (dCore b), .lst c.assigns, .lst c.levels, .lst c.reasons, .lst c.spots, .lst c.phases, .lst [], .lst [], .lst c.watches, .sd (dHeap b), .lst (c.act.map .int), .lst (c.heap.map iN), .lst (c.place.map .int),
  .lst c.trail, .lst c.starts, .lst c.clauses, .lst c.steps, .lst c.droppable, .lst c.activities, .lst (c.seen.map .bool), .lst c.unit]
noncomputable def inn (pre post : GH) (c : Co) : GH := pre ++ blk pre.length c ++ post

theorem inn_get (pre post : GH) (c : Co) {k : Nat} (h : k < 21) : (inn pre post c)[pre.length + k]? = (blk pre.length c)[k]? := by
  unfold inn
  rw [List.getElem?_append_left (by rw [List.length_append]; show pre.length + k < pre.length + 21; omega), List.getElem?_append_right (by omega), Nat.add_sub_cancel_left]
theorem inn_set (pre post : GH) (c c' : Co) {k : Nat} (h : k < 21) {x : GO} (e : (blk pre.length c).set k x = blk pre.length c') : (inn pre post c).set (pre.length + k) x = inn pre post c' := by
  unfold inn
  rw [List.set_append_left _ _ (by rw [List.length_append]; show pre.length + k < pre.length + 21; omega), List.set_append_right _ _ (by omega), Nat.add_sub_cancel_left, e]

section
variable (pre post : GH) (c : Co)
theorem g0 : (inn pre post c)[pre.length]? = some (.sd (dCore pre.length)) := inn_get pre post c (k := 0) (by decide)
theorem g1 : (inn pre post c)[pre.length + 1]? = some (.lst c.assigns) := inn_get pre post c (by decide)
theorem g2 : (inn pre post c)[pre.length + 2]? = some (.lst c.levels) := inn_get pre post c (by decide)
theorem g3 : (inn pre post c)[pre.length + 3]? = some (.lst c.reasons) := inn_get pre post c (by decide)
theorem g4 : (inn pre post c)[pre.length + 4]? = some (.lst c.spots) := inn_get pre post c (by decide)
theorem g5 : (inn pre post c)[pre.length + 5]? = some (.lst c.phases) := inn_get pre post c (by decide)
theorem g8 : (inn pre post c)[pre.length + 8]? = some (.lst c.watches) := inn_get pre post c (by decide)
theorem g9 : (inn pre post c)[pre.length + 9]? = some (.sd (dHeap pre.length)) := inn_get pre post c (by decide)
theorem g10 : (inn pre post c)[pre.length + 10]? = some (.lst (c.act.map .int)) := inn_get pre post c (by decide)
theorem g11 : (inn pre post c)[pre.length + 11]? = some (.lst (c.heap.map iN)) := inn_get pre post c (by decide)
theorem g12 : (inn pre post c)[pre.length + 12]? = some (.lst (c.place.map .int)) := inn_get pre post c (by decide)
theorem g13 : (inn pre post c)[pre.length + 13]? = some (.lst c.trail) := inn_get pre post c (by decide)
theorem g14 : (inn pre post c)[pre.length + 14]? = some (.lst c.starts) := inn_get pre post c (by decide)
theorem g15 : (inn pre post c)[pre.length + 15]? = some (.lst c.clauses) := inn_get pre post c (by decide)
theorem g16 : (inn pre post c)[pre.length + 16]? = some (.lst c.steps) := inn_get pre post c (by decide)
theorem g17 : (inn pre post c)[pre.length + 17]? = some (.lst c.droppable) := inn_get pre post c (by decide)
theorem g18 : (inn pre post c)[pre.length + 18]? = some (.lst c.activities) := inn_get pre post c (by decide)
theorem g19 : (inn pre post c)[pre.length + 19]? = some (.lst (c.seen.map .bool)) := inn_get pre post c (by decide)
theorem g20 : (inn pre post c)[pre.length + 20]? = some (.lst c.unit) := inn_get pre post c (by decide)
theorem s1 (l : List MV) : (inn pre post c).set (pre.length + 1) (.lst l) = inn pre post { c with assigns := l } := inn_set pre post c _ (by decide) rfl
theorem s2 (l : List MV) : (inn pre post c).set (pre.length + 2) (.lst l) = inn pre post { c with levels := l } := inn_set pre post c _ (by decide) rfl
theorem s3 (l : List MV) : (inn pre post c).set (pre.length + 3) (.lst l) = inn pre post { c with reasons := l } := inn_set pre post c _ (by decide) rfl
theorem s4 (l : List MV) : (inn pre post c).set (pre.length + 4) (.lst l) = inn pre post { c with spots := l } := inn_set pre post c _ (by decide) rfl
theorem s5 (l : List MV) : (inn pre post c).set (pre.length + 5) (.lst l) = inn pre post { c with phases := l } := inn_set pre post c _ (by decide) rfl
theorem s8 (l : List MV) : (inn pre post c).set (pre.length + 8) (.lst l) = inn pre post { c with watches := l } := inn_set pre post c _ (by decide) rfl
theorem s10 (l : List Int) : (inn pre post c).set (pre.length + 10) (.lst (l.map .int)) = inn pre post { c with act := l } := inn_set pre post c _ (by decide) rfl
theorem s11 (l : List Nat) : (inn pre post c).set (pre.length + 11) (.lst (l.map iN)) = inn pre post { c with heap := l } := inn_set pre post c _ (by decide) rfl
theorem s12 (l : List Int) : (inn pre post c).set (pre.length + 12) (.lst (l.map .int)) = inn pre post { c with place := l } := inn_set pre post c _ (by decide) rfl
theorem s13 (l : List MV) : (inn pre post c).set (pre.length + 13) (.lst l) = inn pre post { c with trail := l } := inn_set pre post c _ (by decide) rfl
theorem s14 (l : List MV) : (inn pre post c).set (pre.length + 14) (.lst l) = inn pre post { c with starts := l } := inn_set pre post c _ (by decide) rfl
theorem s15 (l : List MV) : (inn pre post c).set (pre.length + 15) (.lst l) = inn pre post { c with clauses := l } := inn_set pre post c _ (by decide) rfl
theorem s16 (l : List MV) : (inn pre post c).set (pre.length + 16) (.lst l) = inn pre post { c with steps := l } := inn_set pre post c _ (by decide) rfl
theorem s17 (l : List MV) : (inn pre post c).set (pre.length + 17) (.lst l) = inn pre post { c with droppable := l } := inn_set pre post c _ (by decide) rfl
theorem s18 (l : List MV) : (inn pre post c).set (pre.length + 18) (.lst l) = inn pre post { c with activities := l } := inn_set pre post c _ (by decide) rfl
theorem s19 (l : List Bool) : (inn pre post c).set (pre.length + 19) (.lst (l.map .bool)) = inn pre post { c with seen := l } := inn_set pre post c _ (by decide) rfl
theorem s20 (l : List MV) : (inn pre post c).set (pre.length + 20) (.lst l) = inn pre post { c with unit := l } := inn_set pre post c _ (by decide) rfl
end

section
variable (pre post : GH) (c : Co) (W : Nat) (call : Nat → List MV → GH → Option (MV × GH))
noncomputable abbrev hObj (b : Nat) : MV := .obj c_CoreHeap (b + 9)
noncomputable abbrev cObj (b : Nat) : MV := .obj c_Search b
theorem ah (k : Nat) (v : MV) (h : prog.atr c_CoreHeap k = true) (e : (dHeap pre.length).lookup k = some v) : aGet (ctx prog W call) (inn pre post c) k (.obj c_CoreHeap (pre.length + 9)) = some v :=
  (if_pos h).trans (bnd (hS_of (g9 pre post c)) e)
theorem ac (k : Nat) (v : MV) (h : prog.atr c_Search k = true) (e : (dCore pre.length).lookup k = some v) : aGet (ctx prog W call) (inn pre post c) k (.obj c_Search pre.length) = some v :=
  (if_pos h).trans (bnd (hS_of (g0 pre post c)) e)
theorem ah_limit : aGet (ctx prog W call) (inn pre post c) n_limit (.obj c_CoreHeap (pre.length + 9)) = some (.int 1000000000000) := ah _ _ _ _ _ _ _ (by decide) rfl
theorem ah_step : aGet (ctx prog W call) (inn pre post c) n_step (.obj c_CoreHeap (pre.length + 9)) = some (.int 1024) := ah _ _ _ _ _ _ _ (by decide) rfl
theorem ah_activity : aGet (ctx prog W call) (inn pre post c) n_activity (.obj c_CoreHeap (pre.length + 9)) = some (.ref (pre.length + 10)) := ah _ _ _ _ _ _ _ (by decide) rfl
theorem ah_heap : aGet (ctx prog W call) (inn pre post c) n_heap (.obj c_CoreHeap (pre.length + 9)) = some (.ref (pre.length + 11)) := ah _ _ _ _ _ _ _ (by decide) rfl
theorem ah_place : aGet (ctx prog W call) (inn pre post c) n_place (.obj c_CoreHeap (pre.length + 9)) = some (.ref (pre.length + 12)) := ah _ _ _ _ _ _ _ (by decide) rfl
theorem ac_hook : aGet (ctx prog W call) (inn pre post c) n_hook (.obj c_Search pre.length) = some .none := ac _ _ _ _ _ _ _ (by decide) rfl
theorem ac_assigns : aGet (ctx prog W call) (inn pre post c) n_assigns (.obj c_Search pre.length) = some (.ref (pre.length + 1)) := ac _ _ _ _ _ _ _ (by decide) rfl
theorem ac_levels : aGet (ctx prog W call) (inn pre post c) n_levels (.obj c_Search pre.length) = some (.ref (pre.length + 2)) := ac _ _ _ _ _ _ _ (by decide) rfl
theorem ac_reasons : aGet (ctx prog W call) (inn pre post c) n_reasons (.obj c_Search pre.length) = some (.ref (pre.length + 3)) := ac _ _ _ _ _ _ _ (by decide) rfl
theorem ac_spots : aGet (ctx prog W call) (inn pre post c) n_spots (.obj c_Search pre.length) = some (.ref (pre.length + 4)) := ac _ _ _ _ _ _ _ (by decide) rfl
theorem ac_phases : aGet (ctx prog W call) (inn pre post c) n_phases (.obj c_Search pre.length) = some (.ref (pre.length + 5)) := ac _ _ _ _ _ _ _ (by decide) rfl
theorem ac_watches : aGet (ctx prog W call) (inn pre post c) n_watches (.obj c_Search pre.length) = some (.ref (pre.length + 8)) := ac _ _ _ _ _ _ _ (by decide) rfl
theorem ac_heap : aGet (ctx prog W call) (inn pre post c) n_heap (.obj c_Search pre.length) = some (.obj c_CoreHeap (pre.length + 9)) := ac _ _ _ _ _ _ _ (by decide) rfl
theorem ac_trail : aGet (ctx prog W call) (inn pre post c) n_trail (.obj c_Search pre.length) = some (.ref (pre.length + 13)) := ac _ _ _ _ _ _ _ (by decide) rfl
theorem ac_starts : aGet (ctx prog W call) (inn pre post c) n_starts (.obj c_Search pre.length) = some (.ref (pre.length + 14)) := ac _ _ _ _ _ _ _ (by decide) rfl
theorem ac_clauses : aGet (ctx prog W call) (inn pre post c) n_clauses (.obj c_Search pre.length) = some (.ref (pre.length + 15)) := ac _ _ _ _ _ _ _ (by decide) rfl
theorem ac_steps : aGet (ctx prog W call) (inn pre post c) n_steps (.obj c_Search pre.length) = some (.ref (pre.length + 16)) := ac _ _ _ _ _ _ _ (by decide) rfl
theorem ac_droppable : aGet (ctx prog W call) (inn pre post c) n_droppable (.obj c_Search pre.length) = some (.ref (pre.length + 17)) := ac _ _ _ _ _ _ _ (by decide) rfl
theorem ac_activities : aGet (ctx prog W call) (inn pre post c) n_activities (.obj c_Search pre.length) = some (.ref (pre.length + 18)) := ac _ _ _ _ _ _ _ (by decide) rfl
theorem ac_seen : aGet (ctx prog W call) (inn pre post c) n_seen (.obj c_Search pre.length) = some (.ref (pre.length + 19)) := ac _ _ _ _ _ _ _ (by decide) rfl
theorem ac_unit : aGet (ctx prog W call) (inn pre post c) n_unit_steps (.obj c_Search pre.length) = some (.ref (pre.length + 20)) := ac _ _ _ _ _ _ _ (by decide) rfl
end

section
variable {pre post : GH} {c : Co} {W d : Nat}
theorem ret_of {P : Prog} {W d f : Nat} {mf : MFun} {args : List MV} {ρ ρ' : Lo} {G G' : GH} {v : MV} (h1 : P.fn f = some mf) (h2 : bindO mf args = some ρ) (h : mSs (ctx P W (mcall P W d)) mf.body ρ G = some (.ret v, ρ', G')) : mcall P W (d + 1) f args G = some (v, G') :=
  (mcall_of h1 h2).trans (congrArg outO h)
theorem end_of {P : Prog} {W d f : Nat} {mf : MFun} {args : List MV} {ρ ρ' : Lo} {G G' : GH} (h1 : P.fn f = some mf) (h2 : bindO mf args = some ρ) (h : mSs (ctx P W (mcall P W d)) mf.body ρ G = some (.next, ρ', G')) : mcall P W (d + 1) f args G = some (.none, G') :=
  (mcall_of h1 h2).trans (congrArg outO h)
theorem ret1 {X : Ctx} {ρ : Lo} {G G' : GH} {e : ME} {r : List MS} {v : MV} (h : mE X e ρ G = some (v, G')) : mSs X (.ret e :: r) ρ G = some (.ret v, ρ, G') := seq_stop (ret_eq h) (by intro q; cases q)

theorem sub_seen {n : Nat} {b : Bool} (h : c.seen[n]? = some b) : subO (inn pre post c) (.ref (pre.length + 19)) (.int (n : Int)) = some (.bool b) := sub_lst (g19 pre post c) ((List.getElem?_map ..).trans (mpp h))
theorem sub_lev {n : Nat} {v : MV} (h : c.levels[n]? = some v) : subO (inn pre post c) (.ref (pre.length + 2)) (.int (n : Int)) = some v := sub_lst (g2 pre post c) h
theorem set_seen {n : Nat} {b : Bool} (h : n < c.seen.length) : subSet (inn pre post c) (.ref (pre.length + 19)) (.int (n : Int)) (.bool b) = some (inn pre post { c with seen := c.seen.set n b }) := by
  rw [set_lst (g19 pre post c) (by rw [List.length_map]; exact h), ← List.map_set, s19]
theorem depth_spec : mcall prog W (d + 1) f_Trail_depth [.obj c_Search pre.length] (inn pre post c) = some (.int (c.starts.length : Int), inn pre post c) :=
  ret_of (mf := d_Trail_depth) rfl rfl (ret1 (blt_eq (b := .len) (attr_eq (loc_eq rfl) (ac_starts pre post c W _)) (len_lst (g14 pre post c))))
theorem mc {X : Ctx} {m f : Nat} {es : List ME} {e : ME} {vs : List MV} {ρ : Lo} {G0 G2 : GH} (hm : X.mth c_Search m = some f) (hl : (dCore pre.length).lookup m = none) (he : mE X e ρ G0 = some (.obj c_Search pre.length, inn pre post c)) (hes : mEs X es ρ (inn pre post c) = some (vs, G2)) :
    mE X (.meth e m es) ρ G0 = X.call f (.obj c_Search pre.length :: vs) G2 :=
  bnd (o := mE X e ρ G0) he (bnd (o := iObj (.obj c_Search pre.length)) rfl (bnd (o := mthO X _ m c_Search pre.length) (bnd hm (bnd (hS_of (g0 pre post c)) (if_pos hl))) (bnd hes rfl)))

theorem getD_of {α : Type} {l : List α} {n : Nat} {x y : α} (h : l[n]? = some x) : l.getD n y = x := by
  rw [List.getD_eq_getElem?_getD, h]; rfl

theorem set_l1 {n : Nat} {x : MV} (h : n < c.assigns.length) : subSet (inn pre post c) (.ref (pre.length + 1)) (.int (n : Int)) x = some (inn pre post { c with assigns := c.assigns.set n x }) := by
  rw [set_lst (g1 pre post c) h, s1]
theorem set_l2 {n : Nat} {x : MV} (h : n < c.levels.length) : subSet (inn pre post c) (.ref (pre.length + 2)) (.int (n : Int)) x = some (inn pre post { c with levels := c.levels.set n x }) := by
  rw [set_lst (g2 pre post c) h, s2]
theorem set_l3 {n : Nat} {x : MV} (h : n < c.reasons.length) : subSet (inn pre post c) (.ref (pre.length + 3)) (.int (n : Int)) x = some (inn pre post { c with reasons := c.reasons.set n x }) := by
  rw [set_lst (g3 pre post c) h, s3]
theorem set_l4 {n : Nat} {x : MV} (h : n < c.spots.length) : subSet (inn pre post c) (.ref (pre.length + 4)) (.int (n : Int)) x = some (inn pre post { c with spots := c.spots.set n x }) := by
  rw [set_lst (g4 pre post c) h, s4]

noncomputable abbrev enE (b : Nat) (lit : Int) (num : MV) : Lo := [some (.obj c_Search b), some (.int lit), some num, some (.int (lit.natAbs : Int))]
noncomputable def enq (c : Co) (lit : Int) (num : MV) : Co := { c with assigns := c.assigns.set lit.natAbs (.int (if 0 < lit then 1 else -1)), levels := c.levels.set lit.natAbs (.int (c.starts.length : Int)), reasons := c.reasons.set lit.natAbs num, spots := c.spots.set lit.natAbs (.int (c.trail.length : Int)), trail := c.trail ++ [.int lit] }

theorem enqueue_spec {lit : Int} {num : MV} (h1 : lit.natAbs < c.assigns.length) (h2 : lit.natAbs < c.levels.length) (h3 : lit.natAbs < c.reasons.length) (h4 : lit.natAbs < c.spots.length) (h5 : c.trail.length < 4096) :
    mcall prog W (d + 2) f_Trail_enqueue [.obj c_Search pre.length, .int lit, num] (inn pre post c) = some (.none, inn pre post (enq c lit num)) := by
  rw [mcall_of (mf := d_Trail_enqueue) rfl rfl]
  generalize hX : ctx prog W (mcall prog W (d + 1)) = X
  replace hX := hX.symm
  have hc : X.call = mcall prog W (d + 1) := by rw [hX]; rfl
  have q1 : mS X (.asg 3 (.blt .abs (.loc 1))) [some (.obj c_Search pre.length), some (.int lit), some num, none] (inn pre post c) = some (.next, (enE pre.length lit num), inn pre post c) :=
    asg_eq (blt_eq (r := (.int (lit.natAbs : Int), _)) (loc_eq rfl) rfl) rfl
  have q2 : mS X (.asgS (.attr (.loc 0) n_assigns) (.loc 3) (.ite (.cmp .gt (.loc 1) (.kI 0)) (.gI n_TRUE 1) (.gI n_FALSE (-1)))) (enE pre.length lit num) (inn pre post c) = some (.next, enE pre.length lit num, inn pre post { c with assigns := c.assigns.set lit.natAbs (.int (if 0 < lit then 1 else -1)) }) := by
    refine asgS_eq (ite_eq (t := decide (lit > 0)) (cmp_eq (loc_eq rfl) kI_eq rfl) gI_eq gI_eq) (attr_eq (loc_eq rfl) (by subst hX; exact ac_assigns _ _ _ _ _)) (loc_eq rfl) ?_
    have e : (if decide (lit > 0) = true then MV.int 1 else MV.int (-1)) = MV.int (if 0 < lit then 1 else -1) := by
      simp only [decide_eq_true_eq]
      split <;> rename_i h <;> simp [h]
    rw [e]
    exact set_l1 h1
  have hd : ∀ (c' : Co), mE X (.meth (.loc 0) n_depth []) (enE pre.length lit num) (inn pre post c') = some (.int (c'.starts.length : Int), inn pre post c') := fun c' => by
    have hm : X.mth c_Search n_depth = some f_Trail_depth := by subst hX; exact (by decide +kernel : pMth c_Search n_depth = some f_Trail_depth)
    rw [mc (f := f_Trail_depth) hm rfl (loc_eq rfl) es0, hc]
    exact depth_spec
  have q3 : ∀ (c' : Co), lit.natAbs < c'.levels.length → mS X (.asgS (.attr (.loc 0) n_levels) (.loc 3) (.meth (.loc 0) n_depth [])) (enE pre.length lit num) (inn pre post c') = some (.next, enE pre.length lit num, inn pre post { c' with levels := c'.levels.set lit.natAbs (.int (c'.starts.length : Int)) }) := fun c' h =>
    asgS_eq (hd c') (attr_eq (loc_eq rfl) (by subst hX; exact ac_levels _ _ _ _ _)) (loc_eq rfl) (set_l2 h)
  have q4 : ∀ (c' : Co), lit.natAbs < c'.reasons.length → mS X (.asgS (.attr (.loc 0) n_reasons) (.loc 3) (.loc 2)) (enE pre.length lit num) (inn pre post c') = some (.next, enE pre.length lit num, inn pre post { c' with reasons := c'.reasons.set lit.natAbs num }) := fun c' h =>
    asgS_eq (loc_eq rfl) (attr_eq (loc_eq rfl) (by subst hX; exact ac_reasons _ _ _ _ _)) (loc_eq rfl) (set_l3 h)
  have ht : ∀ (c' : Co), mE X (.attr (.loc 0) n_trail) (enE pre.length lit num) (inn pre post c') = some (.ref (pre.length + 13), inn pre post c') := fun c' => attr_eq (loc_eq rfl) (by subst hX; exact ac_trail _ _ _ _ _)
  have q5 : ∀ (c' : Co), lit.natAbs < c'.spots.length → mS X (.asgS (.attr (.loc 0) n_spots) (.loc 3) (.blt .len (.attr (.loc 0) n_trail))) (enE pre.length lit num) (inn pre post c') = some (.next, enE pre.length lit num, inn pre post { c' with spots := c'.spots.set lit.natAbs (.int (c'.trail.length : Int)) }) := fun c' h =>
    asgS_eq (blt_eq (r := (.int (c'.trail.length : Int), inn pre post c')) (ht c') (len_lst (g13 ..))) (attr_eq (loc_eq rfl) (by subst hX; exact ac_spots _ _ _ _ _)) (loc_eq rfl) (set_l4 h)
  have q6 : ∀ (c' : Co), c'.trail.length < 4096 → mE X (.app (.attr (.loc 0) n_trail) (.loc 1)) (enE pre.length lit num) (inn pre post c') = some (.none, inn pre post { c' with trail := c'.trail ++ [.int lit] }) := fun c' h =>
    app_eq (ht c') (isL (g13 ..)) (loc_eq rfl) (by rw [app_lst (g13 ..) h, s13])
  show outO (mSs X [.asg 3 _, .asgS _ _ _, .asgS _ _ _, .asgS _ _ _, .asgS _ _ _, .expr _] [some (.obj c_Search pre.length), some (.int lit), some num, none] _) = _
  rw [seq_next q1, seq_next q2, seq_next (q3 _ ?_), seq_next (q4 _ ?_), seq_next (q5 _ ?_), seq_next (expr_eq (q6 _ ?_)), seq_nil]
  · rfl
  all_goals first | exact h5 | exact h4 | exact h3 | exact h2

theorem new_level_spec (h : c.starts.length < 4096) : mcall prog W (d + 1) f_Trail_new_level [.obj c_Search pre.length] (inn pre post c) = some (.none, inn pre post { c with starts := c.starts ++ [.int (c.trail.length : Int)] }) := by
  rw [mcall_of (mf := d_Trail_new_level) rfl rfl]
  generalize hX : ctx prog W (mcall prog W d) = X
  replace hX := hX.symm
  have q1 : mE X (.app (.attr (.loc 0) n_starts) (.blt .len (.attr (.loc 0) n_trail))) [some (.obj c_Search pre.length)] (inn pre post c) = some (.none, inn pre post { c with starts := c.starts ++ [.int (c.trail.length : Int)] }) :=
    app_eq (attr_eq (loc_eq rfl) (by subst hX; exact ac_starts _ _ _ _ _)) (isL (g14 ..)) (blt_eq (r := (.int (c.trail.length : Int), inn pre post c)) (attr_eq (loc_eq rfl) (by subst hX; exact ac_trail _ _ _ _ _)) (len_lst (g13 ..))) (by rw [app_lst (g14 ..) h, s14])
  have q2 : ∀ c' : Co, mE X (.cmp .isn (.attr (.loc 0) n_hook) .kN) [some (.obj c_Search pre.length)] (inn pre post c') = some (.bool false, inn pre post c') := fun c' =>
    cmp_eq (attr_eq (loc_eq rfl) (by subst hX; exact ac_hook _ _ _ _ _)) kN_eq rfl
  show outO (mSs X [.expr _, .ifS _ _ []] [some (.obj c_Search pre.length)] _) = _
  rw [seq_next (expr_eq q1), seq_next ((if_f (q2 _)).trans seq_nil), seq_nil]
  rfl
end
noncomputable def sto (c : Co) (l : List MV) (step : MV) : Co := { c with clauses := c.clauses ++ [.lst l], steps := c.steps ++ [step], droppable := c.droppable ++ [.bool false], activities := c.activities ++ [.int 0] }
structure Sz (k : Nat) (c : Co) : Prop where
  za : c.clauses.length = k
  zb : c.steps.length = k
  zc : c.droppable.length = k
  zd : c.activities.length = k

noncomputable abbrev stE (b : Nat) (v : MV) (step : MV) (x : Option MV) : Lo := [some (.obj c_Search b), some v, some step, some (.bool false), x]
section
variable {pre post : GH} {c : Co} {W d : Nat}
theorem store_spec {v : MV} {l : List MV} {step : MV} {k : Nat} (hv : ∀ G, sqO G v = some l) (Z : Sz k c) (hk : k < 4000) (hl : l.length < 4000) :
    mcall prog W (d + 1) f_Trail_store [.obj c_Search pre.length, v, step, .bool false] (inn pre post c) = some (.int (k : Int), inn pre post (sto c l step)) := by
  have z : ∀ {m : List MV}, m.length = k → m.length < 4096 := fun h => h ▸ Nat.lt_trans hk (by decide)
  let X := ctx prog W (mcall prog W d)
  let R := stE pre.length v step (some (.int (c.clauses.length : Int)))
  have q2 : ∀ c' : Co, c'.clauses.length = k → mE X (.app (.attr (.loc 0) n_clauses) (.blt (.list false) (.loc 1))) R (inn pre post c') = some (.none, inn pre post { c' with clauses := c'.clauses ++ [.lst l] }) := fun c' h =>
    app_eq (attr_eq (loc_eq rfl) (ac_clauses ..)) (isL (g15 ..)) (blt_eq (r := (.lst l, inn pre post c')) (loc_eq rfl) (bnd (hv _) (if_pos (Nat.lt_trans hl (by decide))))) (by rw [app_lst (g15 ..) (z h), s15])
  have q3 : ∀ c' : Co, c'.steps.length = k → mE X (.app (.attr (.loc 0) n_steps) (.loc 2)) R (inn pre post c') = some (.none, inn pre post { c' with steps := c'.steps ++ [step] }) := fun c' h =>
    app_eq (attr_eq (loc_eq rfl) (ac_steps ..)) (isL (g16 ..)) (loc_eq rfl) (by rw [app_lst (g16 ..) (z h), s16])
  have q4 : ∀ c' : Co, c'.droppable.length = k → mE X (.app (.attr (.loc 0) n_droppable) (.loc 3)) R (inn pre post c') = some (.none, inn pre post { c' with droppable := c'.droppable ++ [.bool false] }) := fun c' h =>
    app_eq (attr_eq (loc_eq rfl) (ac_droppable ..)) (isL (g17 ..)) (loc_eq rfl) (by rw [app_lst (g17 ..) (z h), s17])
  have q5 : ∀ c' : Co, c'.activities.length = k → mE X (.app (.attr (.loc 0) n_activities) (.kI 0)) R (inn pre post c') = some (.none, inn pre post { c' with activities := c'.activities ++ [.int 0] }) := fun c' h =>
    app_eq (attr_eq (loc_eq rfl) (ac_activities ..)) (isL (g18 ..)) kI_eq (by rw [app_lst (g18 ..) (z h), s18])
  rw [← Z.za]
  exact ret_of (mf := d_Trail_store) (ρ := stE pre.length v step none) rfl rfl ((seq_next (asg_eq (blt_eq (b := .len) (attr_eq (loc_eq rfl) (ac_clauses pre post c W _)) (len_lst (g15 pre post c))) rfl)).trans
    ((seq_next (expr_eq (q2 c Z.za))).trans ((seq_next (expr_eq (q3 _ (by exact Z.zb)))).trans ((seq_next (expr_eq (q4 _ (by exact Z.zc)))).trans ((seq_next (expr_eq (q5 _ (by exact Z.zd)))).trans ((seq_next ((if_f (tr_eq (loc_eq rfl))).trans seq_nil)).trans (ret1 (loc_eq rfl))))))))
end
theorem Sz.sto {k : Nat} {c : Co} {l : List MV} {step : MV} (Z : Sz k c) : Sz (k + 1) (sto c l step) := by
  refine ⟨?_, ?_, ?_, ?_⟩
  · show (c.clauses ++ _).length = _; rw [List.length_append, Z.za]; rfl
  · show (c.steps ++ _).length = _; rw [List.length_append, Z.zb]; rfl
  · show (c.droppable ++ _).length = _; rw [List.length_append, Z.zc]; rfl
  · show (c.activities ++ _).length = _; rw [List.length_append, Z.zd]; rfl

theorem small_of {a : Int} (h1 : -1000000000 ≤ a) (h2 : a ≤ 1000000000) : small a = true := by unfold small; exact decide_eq_true (by omega)
theorem mod_ok {G : GH} {a b : Int} (h : 0 < b) : ∃ r : Int, 0 ≤ r ∧ r < b ∧ binO G .mod (.int a) (.int b) = some (.int r) := by
  refine ⟨a.fmod b, Int.fmod_nonneg_of_pos a h, Int.fmod_lt_of_pos a h, ?_⟩
  exact if_pos (Int.ne_of_gt h)

theorem mul_ok {G : GH} {a b : Int} (h1 : small a = true) (h2 : small b = true) : binO G .mul (.int a) (.int b) = some (.int (a * b)) := bin_mul h1 h2


theorem small_nat {n : Nat} (h : n ≤ 4096) : small (n : Int) = true := by unfold small; exact decide_eq_true (by omega)
noncomputable def rngV (n : Nat) : List MV := (List.range n).map fun (k : Nat) => .int (k : Int)
theorem so_rng {G : GH} {b : Int} {n : Nat} (hb : b = (n : Int)) (h : n < 4096) : srcO G .rng [.int b] = some (.no, (rngV n).map .val) := by
  subst hb
  refine (so_rng1 (by omega)).trans ?_
  congr 2
  unfold rangeO rngV
  rw [if_pos (by decide), List.map_map]
  have : (((n : Int) - 0 + 1 - 1).fdiv 1).toNat = n := by rw [Int.fdiv_one]; omega
  rw [this]
  refine List.map_congr_left fun k _ => ?_
  show Itm.val (.int (0 + 1 * (k : Int))) = .val (.int (k : Int))
  congr 2; omega
theorem rng_len (n : Nat) : (rngV n).length = n := by unfold rngV; rw [List.length_map, List.length_range]
theorem rng_get {n j : Nat} {v : MV} (h : (rngV n)[j]? = some v) : j < n ∧ v = .int (j : Int) := by
  have h1 := (List.getElem?_eq_some_iff.mp h).1
  rw [rng_len] at h1
  unfold rngV at h
  rw [List.getElem?_map, List.getElem?_range h1] at h
  cases h
  exact ⟨h1, rfl⟩
theorem rng_mem {n : Nat} {v : MV} (h : v ∈ rngV n) : ∃ j : Nat, j < n ∧ v = .int (j : Int) := by
  obtain ⟨j, hj⟩ := List.mem_iff_getElem?.mp h
  exact ⟨j, rng_get hj⟩

end Mine.Law
end
section
set_option autoImplicit false
set_option linter.unusedVariables false
set_option linter.unusedSimpArgs false
set_option linter.unusedSectionVars false
set_option maxRecDepth 10000
namespace Mine.Law
noncomputable abbrev XX : Ctx := ctx prog 64 (mcall prog 64 17)
theorem pre_eq {α : Type} [Inhabited α] (pre : List α) {n : Nat} (h : pre.length = n) : pre = (List.range n).map fun i => pre.getD i default :=
  List.ext_getElem (by rw [List.length_map, List.length_range, h]) fun i h1 h2 => by rw [List.getElem_map, List.getElem_range, List.getD_eq_getElem?_getD, List.getElem?_eq_getElem h1]; rfl
noncomputable def hp (k : Nat) : List Nat := (List.range k).map (· + 1)
noncomputable def plc (k : Nat) : List Int := -1 :: (List.range k).map fun (i : Nat) => (i : Int)
structure Vars (k : Nat) (c : Co) : Prop where
  act : c.act = List.replicate (k + 1) 0
  heap : c.heap = hp k
  place : c.place = plc k
  a : c.assigns.length = k + 1
  l : c.levels.length = k + 1
  r : c.reasons.length = k + 1
  s : c.spots.length = k + 1
  p : c.phases.length = k + 1
  w : c.watches.length = 2 * k + 2
  se : c.seen.length = k + 1
  u : c.unit.length = k + 1
noncomputable def gro (k : Nat) (c : Co) : Co := { c with assigns := c.assigns ++ [.int 0], levels := c.levels ++ [.int 0], reasons := c.reasons ++ [.int (-1)], spots := c.spots ++ [.int 0], phases := c.phases ++ [.int (-1)], watches := c.watches ++ [.lst []] ++ [.lst []], act := List.replicate (k + 2) 0, heap := hp (k + 1), place := plc (k + 1), seen := c.seen ++ [false], unit := c.unit ++ [.none] }
noncomputable def NV (k : Nat) : Prop := ∀ (w p : GO) (c : Co), Vars k c → mcall prog 64 17 f_Search_new_var [.obj c_Search 1] (inn [w] [p] c) = some (.int ((k + 1 : Nat) : Int), inn [w] [p] (gro k c))
noncomputable def cF (k : Nat) (a l r s p w u : Nat → MV) (se : Nat → Bool) (c : Co) : Co := { c with assigns := (List.range (k + 1)).map a, levels := (List.range (k + 1)).map l, reasons := (List.range (k + 1)).map r, spots := (List.range (k + 1)).map s, phases := (List.range (k + 1)).map p, watches := (List.range (2 * k + 2)).map w, act := List.replicate (k + 1) 0, heap := hp k, place := plc k, seen := (List.range (k + 1)).map se, unit := (List.range (k + 1)).map u }
theorem cF_eq {k : Nat} {c : Co} (V : Vars k c) : cF k (fun i => c.assigns.getD i default) (fun i => c.levels.getD i default) (fun i => c.reasons.getD i default) (fun i => c.spots.getD i default) (fun i => c.phases.getD i default) (fun i => c.watches.getD i default) (fun i => c.unit.getD i default) (fun i => c.seen.getD i default) c = c := by
  unfold cF
  rw [← pre_eq c.assigns V.a, ← pre_eq c.levels V.l, ← pre_eq c.reasons V.r, ← pre_eq c.spots V.s, ← pre_eq c.phases V.p, ← pre_eq c.watches V.w, ← pre_eq c.unit V.u, ← pre_eq c.seen V.se, ← V.act, ← V.heap, ← V.place]
theorem nv_of {k : Nat} (h : ∀ (x p : GO) (a l r s ph w u : Nat → MV) (se : Nat → Bool) (c : Co), mcall prog 64 17 f_Search_new_var [.obj c_Search 1] (inn [x] [p] (cF k a l r s ph w u se c)) = some (.int ((k + 1 : Nat) : Int), inn [x] [p] (gro k (cF k a l r s ph w u se c)))) : NV k := fun x p c V => by
  have := h x p (fun i => c.assigns.getD i default) (fun i => c.levels.getD i default) (fun i => c.reasons.getD i default) (fun i => c.spots.getD i default) (fun i => c.phases.getD i default) (fun i => c.watches.getD i default) (fun i => c.unit.getD i default) (fun i => c.seen.getD i default) c
  rw [cF_eq V] at this
  exact this
theorem nv0 : NV 0 := nv_of fun x p a l r s ph w u se c => by kernel_rfl
theorem nv1 : NV 1 := nv_of fun x p a l r s ph w u se c => by kernel_rfl
theorem nv2 : NV 2 := nv_of fun x p a l r s ph w u se c => by kernel_rfl
theorem nv3 : NV 3 := nv_of fun x p a l r s ph w u se c => by kernel_rfl
theorem nv4 : NV 4 := nv_of fun x p a l r s ph w u se c => by kernel_rfl
theorem nv5 : NV 5 := nv_of fun x p a l r s ph w u se c => by kernel_rfl
theorem nv6 : NV 6 := nv_of fun x p a l r s ph w u se c => by kernel_rfl
theorem nv7 : NV 7 := nv_of fun x p a l r s ph w u se c => by kernel_rfl
theorem nv_all : ∀ {k : Nat}, k < 8 → NV k
  | 0, _ => nv0
  | 1, _ => nv1
  | 2, _ => nv2
  | 3, _ => nv3
  | 4, _ => nv4
  | 5, _ => nv5
  | 6, _ => nv6
  | 7, _ => nv7
  | n + 8, h => absurd h (by omega)
noncomputable def cNew : Co := ⟨[.int 0], [.int 0], [.int (-1)], [.int 0], [.int (-1)], [.ref 7, .ref 8], [0], [], [-1], [], [], [], [], [], [], [false], [.none]⟩
theorem new_core (x : GO) (y : MV) : mS XX (.asgW [1, 2] (.tup [(.new c_Search [.kN, .kN]), .dct0])) [some y, none, none, none, none, none, none, none] [x] = some (.next, [some y, some (.obj c_Search 1), some (.ref 22), none, none, none, none, none], inn [x] [.nd 0 []] cNew) := by kernel_rfl
theorem vars0 : Vars 0 cNew := ⟨rfl, rfl, rfl, rfl, rfl, rfl, rfl, rfl, rfl, rfl, rfl⟩
theorem Vars.gro {k : Nat} {c : Co} (V : Vars k c) : Vars (k + 1) (gro k c) := by
  have e : ∀ {α : Type} {l : List α} {x : α} {n : Nat}, l.length = n → (l ++ [x]).length = n + 1 := fun h => by rw [List.length_append, h]; rfl
  exact ⟨rfl, rfl, rfl, e V.a, e V.l, e V.r, e V.s, e V.p, e (e V.w), e V.se, e V.u⟩
end Mine.Law
end
section
set_option autoImplicit false
set_option linter.unusedVariables false
set_option linter.unusedSimpArgs false
set_option linter.unusedSectionVars false
set_option maxRecDepth 10000
namespace Mine.Law

noncomputable def fd (cells : List Int) (s : Nat) : GO := .sd [(n_cells, .lst (cells.map .int)), (n_spot, .int (s : Int))]
section
variable {W d : Nat} {tail : GH} {cells : List Int} {s : Nat}
theorem kS_eq {X : Ctx} {k : Nat} {ρ : Lo} {G : GH} : mE X (.kS k) ρ G = some (.str k, G) := rfl
theorem fig_spec {many : Int} (hw : 0 < many) (hs : s ≤ 4000) :
    ∃ r : Int, 0 ≤ r ∧ r < many ∧ mcall prog W (d + 1) f_law_figure [.ref 0, .int many] (fd cells s :: tail) = some (.int r, fd cells (s + 1) :: tail) := by
  have e0 : subO (fd cells s :: tail) (.ref 0) (.str n_spot) = some (.int (s : Int)) := rfl
  have e2 : subO (fd cells (s + 1) :: tail) (.ref 0) (.str n_cells) = some (.lst (cells.map .int)) := rfl
  have e3 : subSet (fd cells s :: tail) (.ref 0) (.str n_spot) (.int ((s : Int) + 1)) = some (fd cells (s + 1) :: tail) := rfl
  have c1 : cmpO (fd cells (s + 1) :: tail) .lt (.int (s : Int)) (.int ((cells.map MV.int).length : Int)) = some (decide (s < cells.length)) := by
    rw [List.length_map]
    exact congrArg some (decide_eq_decide.mpr Int.ofNat_lt)
  have fin : ∀ {a : Int}, mE (ctx prog W (mcall prog W d)) (.ite (.cmp .lt (.loc 2) (.blt .len (.sub (.loc 0) (.kS n_cells)))) (.sub (.sub (.loc 0) (.kS n_cells)) (.loc 2)) (.bin .add (.bin .add (.bin .mul (.bin .mul (.kI 4) (.loc 2)) (.loc 2)) (.bin .mul (.kI 9) (.loc 2))) (.kI 3))) [some (.ref 0), some (.int many), some (.int (s : Int))] (fd cells (s + 1) :: tail) = some (.int a, fd cells (s + 1) :: tail) →
      ∃ r : Int, 0 ≤ r ∧ r < many ∧ mcall prog W (d + 1) f_law_figure [.ref 0, .int many] (fd cells s :: tail) = some (.int r, fd cells (s + 1) :: tail) := fun {a} h => by
    obtain ⟨r, r1, r2, hr⟩ := mod_ok (G := fd cells (s + 1) :: tail) (a := a) hw
    exact ⟨r, r1, r2, ret_of (mf := d_law_figure) rfl rfl ((seq_next (asg_eq (sub_eq (loc_eq rfl) kS_eq e0) rfl)).trans ((seq_next (asgS_eq (bin_eq (o := .add) (loc_eq rfl) kI_eq rfl) (loc_eq rfl) kS_eq e3)).trans (ret1 (bin_eq (o := .mod) h (loc_eq rfl) hr))))⟩
  have cc := cmp_eq (X := ctx prog W (mcall prog W d)) (o := .lt) (a := .loc 2) (b := .blt .len (.sub (.loc 0) (.kS n_cells))) (ρ := [some (.ref 0), some (.int many), some (.int (s : Int))]) (loc_eq rfl) (blt_eq (r := (.int ((cells.map MV.int).length : Int), _)) (sub_eq (loc_eq rfl) kS_eq e2) rfl) c1
  by_cases hl : s < cells.length
  · rw [decide_eq_true hl] at cc
    exact fin ((ite_t cc).trans (sub_eq (sub_eq (loc_eq rfl) kS_eq e2) (loc_eq rfl) (subF_lst ((List.getElem?_map ..).trans (mpp (List.getElem?_eq_getElem hl))))))
  · rw [decide_eq_false hl] at cc
    have m1 : small (s : Int) = true := small_of (by omega) (by omega)
    have m2 : small (4 * (s : Int)) = true := small_of (by omega) (by omega)
    exact fin ((ite_f cc).trans (bin_eq (o := .add) (bin_eq (o := .add) (bin_eq (o := .mul) (bin_eq (o := .mul) kI_eq (loc_eq rfl) (mul_ok (by decide) m1)) (loc_eq rfl) (mul_ok m2 m1)) (bin_eq (o := .mul) kI_eq (loc_eq rfl) (mul_ok (by decide) m1)) rfl) kI_eq rfl))
theorem fig_at {ρ : Lo} {e : ME} {many : Int} (h0 : ρ[0]? = some (some (.ref 0))) (he : mE XX e ρ (fd cells s :: tail) = some (.int many, fd cells s :: tail)) (hw : 0 < many) (hs : s ≤ 4000) :
    ∃ r : Int, 0 ≤ r ∧ r < many ∧ mE XX (.call f_law_figure [(.loc 0), e]) ρ (fd cells s :: tail) = some (.int r, fd cells (s + 1) :: tail) :=
  (fig_spec (W := 64) (d := 16) (tail := tail) (cells := cells) hw hs).elim fun r h => ⟨r, h.1, h.2.1, call_eq (es2 (loc_eq h0) he) h.2.2⟩
end

structure Va where
  lit : Int
  lv : Nat
  os : List Int
  dec : Bool
  st : Int
noncomputable def Va.cl (a : Va) : List Int := a.lit :: a.os
noncomputable def clV (l : List Int) : MV := .lst (l.map .int)
structure DOk (D : List Va) : Prop where
  nat : ∀ (i : Nat) (a : Va), D[i]? = some a → a.lit.natAbs = i + 1
  os : ∀ (i : Nat) (a : Va), D[i]? = some a → a.os.Nodup ∧ ∀ o ∈ a.os, ∃ (j : Nat) (b : Va), j < i ∧ D[j]? = some b ∧ o = -b.lit
theorem snoc_get {α : Type} {l : List α} {x y : α} {i : Nat} (h : (l ++ [x])[i]? = some y) : (l[i]? = some y) ∨ (i = l.length ∧ x = y) := by
  by_cases hi : i < l.length
  · rw [List.getElem?_append_left hi] at h; exact .inl h
  · rw [List.getElem?_append_right (by omega)] at h
    obtain rfl : i = l.length := by
      have := (List.getElem?_eq_some_iff.mp h).1
      rw [List.length_singleton] at this; omega
    rw [Nat.sub_self] at h
    exact .inr ⟨rfl, Option.some.inj h⟩
theorem get_snoc {α : Type} {l : List α} {x y : α} {i : Nat} (h : l[i]? = some y) : (l ++ [x])[i]? = some y := (List.getElem?_append_left (List.getElem?_eq_some_iff.mp h).1).trans h
theorem DOk.add {D : List Va} (h : DOk D) {a : Va} (h1 : a.lit.natAbs = D.length + 1) (h2 : a.os.Nodup) (h3 : ∀ o ∈ a.os, ∃ (j : Nat) (b : Va), D[j]? = some b ∧ o = -b.lit) : DOk (D ++ [a]) := by
  refine ⟨fun i b hb => (snoc_get hb).elim (h.nat i b) fun q => q.1 ▸ q.2 ▸ h1, fun i b hb => (snoc_get hb).elim (fun q => ⟨(h.os i b q).1, fun o ho => ?_⟩) fun q => q.2 ▸ ⟨h2, fun o ho => ?_⟩⟩
  · obtain ⟨j, e, h4, h5, h6⟩ := (h.os i b q).2 o ho
    exact ⟨j, e, h4, get_snoc h5, h6⟩
  · obtain ⟨j, e, h5, h6⟩ := h3 o ho
    exact ⟨j, e, q.1 ▸ (List.getElem?_eq_some_iff.mp h5).1, get_snoc h5, h6⟩

structure Kn (D : List Va) (c : Co) (sd : List (Int × MV)) (kb : Int) : Prop where
  v : Vars D.length c
  lev : c.levels = .int 0 :: D.map fun a => .int (a.lv : Int)
  tr : c.trail = D.map fun a => .int a.lit
  sp : c.spots = .int 0 :: (List.range D.length).map fun (i : Nat) => .int (i : Int)
  rea : ∀ (i : Nat) (a : Va), D[i]? = some a → a.dec = true → c.reasons[i + 1]? = some (.int (-1))
  rea2 : ∀ (i : Nat) (a : Va), D[i]? = some a → a.dec = false → ∃ num : Nat, c.reasons[i + 1]? = some (.int (num : Int)) ∧ c.clauses[num]? = some (clV a.cl) ∧ c.steps[num]? = some (.int a.st) ∧ sd.lookup a.st = some (clV a.cl)
  sdv : ∀ p ∈ sd, p.1 < kb ∧ ∃ a ∈ D, a.dec = false ∧ p.2 = clV a.cl
  sz : ∃ k, k ≤ D.length ∧ Sz k c
  sdl : sd.length ≤ D.length
  see : c.seen = List.replicate (D.length + 1) false
  stl : c.starts.length ≤ D.length

theorem set_end {α : Type} {l : List α} {x y : α} {n : Nat} (h : l.length = n) : (l ++ [x]).set n y = l ++ [y] := by
  subst h
  rw [List.set_append_right _ _ (Nat.le_refl _), Nat.sub_self]; rfl
theorem rep_snoc {α : Type} (n : Nat) (x : α) : List.replicate n x ++ [x] = List.replicate (n + 1) x := List.replicate_succ'.symm
section
variable {D : List Va} {c : Co} {sd : List (Int × MV)} {kb : Int} {lit : Int}
theorem cons_get {α : Type} {l : List α} {x : α} {i : Nat} : (x :: l)[i + 1]? = l[i]? := rfl
theorem Kn.add (K : Kn D c sd kb) (hl : lit.natAbs = D.length + 1) {a : Va} (ha : a.lit = lit) {sd' : List (Int × MV)} {kb' : Int} {num : MV} {c2 : Co} (h2 : c2 = { gro D.length c with clauses := c2.clauses, steps := c2.steps, droppable := c2.droppable, activities := c2.activities, starts := c2.starts }) (hlv : c2.starts.length = a.lv) (hst : c2.starts.length ≤ D.length + 1)
    (old : ∀ (i : Nat) (b : Va), D[i]? = some b → b.dec = false → ∀ num : Nat, c.clauses[num]? = some (clV b.cl) → c.steps[num]? = some (.int b.st) → sd.lookup b.st = some (clV b.cl) → c2.clauses[num]? = some (clV b.cl) ∧ c2.steps[num]? = some (.int b.st) ∧ sd'.lookup b.st = some (clV b.cl))
    (n1 : a.dec = true → num = .int (-1)) (n2 : a.dec = false → ∃ n : Nat, num = .int (n : Int) ∧ c2.clauses[n]? = some (clV a.cl) ∧ c2.steps[n]? = some (.int a.st) ∧ sd'.lookup a.st = some (clV a.cl)) (sdv : ∀ p ∈ sd', p.1 < kb' ∧ ∃ b ∈ D ++ [a], b.dec = false ∧ p.2 = clV b.cl) (sz : ∃ k, k ≤ D.length + 1 ∧ Sz k c2) (sdl : sd'.length ≤ D.length + 1) :
    Kn (D ++ [a]) (enq c2 lit num) sd' kb' := by
  have hD : (D ++ [a]).length = D.length + 1 := by rw [List.length_append]; rfl
  have e : ∀ {α : Type} {l : List α} {x : α} {n : Nat}, l.length = n → (l ++ [x]).length = n + 1 := fun h => by rw [List.length_append, h]; rfl
  have s : ∀ {l : List MV} {x : MV} {n m : Nat}, l.length = n → (l.set m x).length = n := fun h => (List.length_set ..).trans h
  rw [h2]
  refine ⟨?_, ?_, ?_, ?_, ?_, ?_, sdv, ?_, by rw [hD]; exact sdl, ?_, by rw [hD]; exact hst⟩
  · rw [hD]
    exact ⟨rfl, rfl, rfl, s (e K.v.a), s (e K.v.l), s (e K.v.r), s (e K.v.s), e K.v.p, e (e K.v.w), e K.v.se, e K.v.u⟩
  · show (c.levels ++ [MV.int 0]).set lit.natAbs (.int (c2.starts.length : Int)) = _
    rw [hl, set_end K.v.l, K.lev, hlv, List.map_append]
    rfl
  · show c.trail ++ [MV.int lit] = _
    rw [K.tr, List.map_append, ← ha]; rfl
  · show (c.spots ++ [MV.int 0]).set lit.natAbs (.int (c.trail.length : Int)) = _
    rw [hl, set_end K.v.s, K.sp, K.tr, List.length_map, hD, List.range_succ, List.map_append]
    rfl
  · intro i b hb hd
    show ((c.reasons ++ [MV.int (-1)]).set lit.natAbs num)[i + 1]? = _
    rw [hl, set_end K.v.r]
    rcases snoc_get hb with q | ⟨q, rfl⟩
    · exact get_snoc (K.rea i b q hd)
    · rw [q, n1 hd, List.getElem?_append_right (by rw [K.v.r]; exact Nat.le_refl _), K.v.r, Nat.sub_self]; rfl
  · intro i b hb hd
    show ∃ num' : Nat, ((c.reasons ++ [MV.int (-1)]).set lit.natAbs num)[i + 1]? = _ ∧ c2.clauses[num']? = _ ∧ c2.steps[num']? = _ ∧ _
    rw [hl, set_end K.v.r]
    rcases snoc_get hb with q | ⟨q, rfl⟩
    · obtain ⟨n, h3, h4, h5, h6⟩ := K.rea2 i b q hd
      exact ⟨n, get_snoc h3, old i b q hd n h4 h5 h6⟩
    · obtain ⟨n, h3, h4⟩ := n2 hd
      exact ⟨n, by rw [q, h3, List.getElem?_append_right (by rw [K.v.r]; exact Nat.le_refl _), K.v.r, Nat.sub_self]; rfl, h4⟩
  · obtain ⟨k, k1, k2⟩ := sz
    exact ⟨k, by rw [hD]; exact k1, ⟨k2.za, k2.zb, k2.zc, k2.zd⟩⟩
  · show c.seen ++ [false] = _
    rw [K.see, hD, rep_snoc]
theorem Kn.add_dec (K : Kn D c sd kb) (hl : lit.natAbs = D.length + 1) (x : MV) : Kn (D ++ [⟨lit, c.starts.length + 1, [], true, 0⟩]) (enq { gro D.length c with starts := c.starts ++ [x] } lit (.int (-1))) sd kb := by
  have e : (c.starts ++ [x]).length = c.starts.length + 1 := by rw [List.length_append]; rfl
  refine K.add hl rfl rfl e (by rw [e]; exact Nat.succ_le_succ K.stl) (fun i b _ _ n h1 h2 h3 => ⟨h1, h2, h3⟩) (fun _ => rfl) (fun h => nomatch h) (fun p hp => ?_) ?_ (Nat.le_succ_of_le K.sdl)
  · obtain ⟨h1, b, h2, h3⟩ := K.sdv p hp
    exact ⟨h1, b, List.mem_append_left _ h2, h3⟩
  · obtain ⟨k, k1, k2⟩ := K.sz
    exact ⟨k, Nat.le_succ_of_le k1, ⟨k2.za, k2.zb, k2.zc, k2.zd⟩⟩
theorem lookup_snoc {l : List (Int × MV)} {k k' : Int} {x y : MV} (h : l.lookup k = some x) : (l ++ [(k', y)]).lookup k = some x := by rw [List.lookup_append, h]; rfl
theorem lookup_new {l : List (Int × MV)} {k : Int} (h : ∀ p ∈ l, p.1 < k) : l.lookup k = none := by
  rw [List.lookup_eq_none_iff]
  exact fun p hp => beq_eq_false_iff_ne.mpr (Int.ne_of_gt (h p hp)) |> fun q => by simpa using q
theorem lookup_snoc_new {l : List (Int × MV)} {k : Int} {y : MV} (h : ∀ p ∈ l, p.1 < k) : (l ++ [(k, y)]).lookup k = some y := by
  rw [List.lookup_append, lookup_new h, List.lookup_cons, beq_self_eq_true]; rfl
theorem Kn.add_cl (K : Kn D c sd kb) (hl : lit.natAbs = D.length + 1) {os : List Int} {st : Int} {k : Nat} (hz : Sz k c) (hkb : kb ≤ st) :
    Kn (D ++ [⟨lit, c.starts.length, os, false, st⟩]) (enq (sto (gro D.length c) ((lit :: os).map .int) (.int st)) lit (.int (k : Int))) (sd ++ [(st, clV (lit :: os))]) (st + 1) := by
  have hn : ∀ p ∈ sd, p.1 < st := fun p hp => Int.lt_of_lt_of_le (K.sdv p hp).1 hkb
  refine K.add hl rfl rfl rfl (Nat.le_succ_of_le K.stl) (fun i b _ _ n h1 h2 h3 => ⟨get_snoc h1, get_snoc h2, lookup_snoc h3⟩) (fun h => nomatch h) (fun _ => ⟨k, rfl, ?_, ?_, lookup_snoc_new hn⟩) (fun p hp => ?_) ?_ (by rw [List.length_append]; exact Nat.succ_le_succ K.sdl)
  · show (c.clauses ++ [_])[k]? = _
    rw [List.getElem?_append_right (Nat.le_of_eq hz.za), hz.za, Nat.sub_self]; rfl
  · show (c.steps ++ [_])[k]? = _
    rw [List.getElem?_append_right (Nat.le_of_eq hz.zb), hz.zb, Nat.sub_self]; rfl
  · rcases List.mem_append.mp hp with hp | hp
    · obtain ⟨h1, b, h2, h3⟩ := K.sdv p hp
      exact ⟨by omega, b, List.mem_append_left _ h2, h3⟩
    · rw [List.mem_singleton.mp hp]
      exact ⟨by show st < st + 1; omega, _, List.mem_append_right _ (.head _), rfl, rfl⟩
  · obtain ⟨k', k1, k2⟩ := K.sz
    obtain rfl : k' = k := k2.za.symm.trans hz.za
    have z : Sz k' (gro D.length c) := ⟨k2.za, k2.zb, k2.zc, k2.zd⟩
    exact ⟨k' + 1, Nat.succ_le_succ k1, z.sto⟩
end
end Mine.Law
end
section
set_option autoImplicit false
set_option linter.unusedVariables false
set_option linter.unusedSimpArgs false
set_option linter.unusedSectionVars false
set_option maxRecDepth 10000
namespace Mine.Law

noncomputable def HK (cells : List Int) (s ep : Nat) (sd : List (Int × MV)) (c : Co) : GH := inn [fd cells s] [.nd ep sd] c
noncomputable abbrev kE (x3 x4 x5 x6 x7 : Option MV) : Lo := [some (.ref 0), some (.obj c_Search 1), some (.ref 22), x3, x4, x5, x6, x7]
noncomputable def litE : ME := .bin .mul (.meth (.loc 1) n_new_var []) (.bin .sub (.kI 1) (.bin .mul (.kI 2) (.call f_law_figure [(.loc 0), (.kI 2)])))
noncomputable def othB : List MS := [.asg 7 (.neg (.sub (.attr (.loc 1) n_trail) (.call f_law_figure [(.loc 0), (.blt .len (.attr (.loc 1) n_trail))]))), .asg 5 (.bin .add (.loc 5) (.ite (.cmp .nin (.loc 7) (.loc 5)) (.lst false [(.loc 7)]) (.lst false [])))]

section
variable {cells : List Int} {s ep : Nat} {sd : List (Int × MV)} {c : Co} {D : List Va} {kb : Int} {x3 x4 x5 x6 x7 : Option MV}
theorem figK {ρ : Lo} {e : ME} {many : Int} (h0 : ρ[0]? = some (some (.ref 0))) (he : mE XX e ρ (HK cells s ep sd c) = some (.int many, HK cells s ep sd c)) (hw : 0 < many) (hs : s ≤ 4000) :
    ∃ r : Int, 0 ≤ r ∧ r < many ∧ mE XX (.call f_law_figure [(.loc 0), e]) ρ (HK cells s ep sd c) = some (.int r, HK cells (s + 1) ep sd c) := fig_at (tail := blk 1 c ++ [.nd ep sd]) h0 he hw hs
theorem mcK {m f : Nat} {es : List ME} {vs : List MV} {ρ : Lo} {G2 : GH} {e : ME} (hm : prog.mth c_Search m = some f) (hl : (dCore 1).lookup m = none) (he : mE XX e ρ (HK cells s ep sd c) = some (.obj c_Search 1, HK cells s ep sd c)) (hes : mEs XX es ρ (HK cells s ep sd c) = some (vs, G2)) :
    mE XX (.meth e m es) ρ (HK cells s ep sd c) = mcall prog 64 17 f (.obj c_Search 1 :: vs) G2 := mc (X := XX) (pre := [fd cells s]) (post := [.nd ep sd]) (c := c) hm hl he hes
theorem ps1 (K : Vars D.length c) (hk : D.length < 8) (hs : s ≤ 3000) : ∃ lit : Int, lit.natAbs = D.length + 1 ∧ mE XX litE (kE x3 x4 x5 x6 x7) (HK cells s ep sd c) = some (.int lit, HK cells (s + 1) ep sd (gro D.length c)) := by
  have e1 : mE XX (.meth (.loc 1) n_new_var []) (kE x3 x4 x5 x6 x7) (HK cells s ep sd c) = some (.int ((D.length + 1 : Nat) : Int), HK cells s ep sd (gro D.length c)) :=
    (mcK (f := f_Search_new_var) (by decide +kernel) rfl (loc_eq rfl) es0).trans (nv_all hk _ _ c K)
  obtain ⟨r, r0, r2, hr⟩ := figK (cells := cells) (ep := ep) (sd := sd) (c := gro D.length c) (ρ := kE x3 x4 x5 x6 x7) rfl (kI_eq (i := 2)) (by decide) (by omega : s ≤ 4000)
  refine ⟨((D.length + 1 : Nat) : Int) * (1 - 2 * r), ?_, bin_eq (o := .mul) e1 (bin_eq (o := .sub) kI_eq (bin_eq (o := .mul) kI_eq hr (mul_ok (by decide) (small_of (by omega) (by omega)))) rfl) (mul_ok (small_nat (by omega)) (small_of (by omega) (by omega)))⟩
  obtain rfl | rfl : r = 0 ∨ r = 1 := by omega
  · omega
  · omega
theorem setL_new : ∀ {l : List (Int × MV)} {k : Int} {v : MV}, (∀ p ∈ l, p.1 < k) → setL l k v = l ++ [(k, v)]
  | [], _, _, _ => rfl
  | (a, x) :: r, k, v, h => (if_neg (Int.ne_of_lt (h _ (.head _)))).trans (congrArg ((a, x) :: ·) (setL_new fun p hp => h p (.tail _ hp)))
theorem setK {k : Int} {v : MV} (h : ∀ p ∈ sd, p.1 < k) (hl : sd.length < 4096) : ∃ ep', subSet (HK cells s ep sd c) (.ref 22) (.int k) v = some (HK cells s ep' (sd ++ [(k, v)]) c) := by
  have e : subSet (HK cells s ep sd c) (.ref 22) (.int k) v = if sd.length < 4096 then some ((HK cells s ep sd c).set 22 (.nd (if (sd.lookup k).isSome then ep else ep + 1) (setL sd k v))) else none := rfl
  rw [if_pos hl, setL_new h] at e
  exact ⟨_, e⟩
theorem enqK {c2 : Co} {e1 e2 : ME} {ρ : Lo} {lit : Int} {num : MV} {sd2 : List (Int × MV)} {c1 : Co} (ho : mE XX (.loc 1) ρ (HK cells s ep sd c1) = some (.obj c_Search 1, HK cells s ep sd c1)) (hes : mEs XX [e1, e2] ρ (HK cells s ep sd c1) = some ([.int lit, num], HK cells s ep sd c2)) {k : Nat} (hl : lit.natAbs = k + 1) (V : c2.assigns.length = k + 2 ∧ c2.levels.length = k + 2 ∧ c2.reasons.length = k + 2 ∧ c2.spots.length = k + 2) (ht : c2.trail.length < 4096) :
    mE XX (.meth (.loc 1) n_enqueue [e1, e2]) ρ (HK cells s ep sd c1) = some (.none, HK cells s ep sd (enq c2 lit num)) :=
  (mcK (f := f_Trail_enqueue) (by decide +kernel) rfl ho hes).trans (enqueue_spec (pre := [fd cells s]) (post := [.nd ep sd]) (by omega) (by omega) (by omega) (by omega) ht)
theorem Kn.lens (K : Kn D c sd kb) : (gro D.length c).assigns.length = D.length + 2 ∧ (gro D.length c).levels.length = D.length + 2 ∧ (gro D.length c).reasons.length = D.length + 2 ∧ (gro D.length c).spots.length = D.length + 2 := ⟨K.v.gro.a, K.v.gro.l, K.v.gro.r, K.v.gro.s⟩
theorem Kn.trl (K : Kn D c sd kb) : c.trail.length = D.length := by rw [K.tr, List.length_map]
theorem storeK {v : MV} {l : List MV} {e1 e2 e3 : ME} {ρ : Lo} {step : MV} {k : Nat} (ho : mE XX (.loc 1) ρ (HK cells s ep sd c) = some (.obj c_Search 1, HK cells s ep sd c)) (hes : mEs XX [e1, e2, e3] ρ (HK cells s ep sd c) = some ([v, step, .bool false], HK cells s ep sd c)) (hv : ∀ G, sqO G v = some l) (Z : Sz k c) (hk : k < 4000) (hl : l.length < 4000) :
    mE XX (.meth (.loc 1) n_store [e1, e2, e3]) ρ (HK cells s ep sd c) = some (.int (k : Int), HK cells s ep sd (sto c l step)) :=
  (mcK (f := f_Trail_store) (by decide +kernel) rfl ho hes).trans (store_spec (pre := [fd cells s]) (post := [.nd ep sd]) hv Z hk hl)
theorem Sz.gro {k n : Nat} (Z : Sz k c) : Sz k (gro n c) := ⟨Z.za, Z.zb, Z.zc, Z.zd⟩

noncomputable def clE (base : Int) (first : ME) (tup : ME) : List MS := [.asgS (.loc 2) (.bin .add (.kI base) (.loc 3)) first, .expr (.meth (.loc 1) n_enqueue [(.loc 4), (.meth (.loc 1) n_store [tup, (.bin .add (.kI base) (.loc 3)), (.kB false)])])]
theorem cl_step (K : Kn D c sd kb) (hk : D.length < 8) {base : Int} {lap : Nat} {lit : Int} {os : List Int} (hl : lit.natAbs = D.length + 1) (ho : os.length ≤ 8) (hkb : kb ≤ base + lap) {first tup : ME} {v : MV}
    (h1 : mE XX first (kE (some (.int (lap : Int))) (some (.int lit)) x5 x6 x7) (HK cells s ep sd (gro D.length c)) = some (clV (lit :: os), HK cells s ep sd (gro D.length c)))
    (h2 : ∀ ep', mE XX tup (kE (some (.int (lap : Int))) (some (.int lit)) x5 x6 x7) (HK cells s ep' (sd ++ [(base + lap, clV (lit :: os))]) (gro D.length c)) = some (v, HK cells s ep' (sd ++ [(base + lap, clV (lit :: os))]) (gro D.length c))) (hv : ∀ G, sqO G v = some ((lit :: os).map .int)) :
    ∃ ep' c', mSs XX (clE base first tup) (kE (some (.int (lap : Int))) (some (.int lit)) x5 x6 x7) (HK cells s ep sd (gro D.length c)) = some (.next, kE (some (.int (lap : Int))) (some (.int lit)) x5 x6 x7, HK cells s ep' (sd ++ [(base + lap, clV (lit :: os))]) c') ∧
      Kn (D ++ [⟨lit, c.starts.length, os, false, base + lap⟩]) c' (sd ++ [(base + lap, clV (lit :: os))]) (base + lap + 1) ∧ c'.starts = c.starts := by
  obtain ⟨k, k1, Z⟩ := K.sz
  obtain ⟨ep', e1⟩ := setK (cells := cells) (s := s) (ep := ep) (c := gro D.length c) (k := base + lap) (v := clV (lit :: os)) (fun p hp => Int.lt_of_lt_of_le (K.sdv p hp).1 hkb) (Nat.lt_of_le_of_lt K.sdl (Nat.lt_trans hk (by decide)))
  have q : mE XX (.bin .add (.kI base) (.loc 3)) (kE (some (.int (lap : Int))) (some (.int lit)) x5 x6 x7) (HK cells s ep' (sd ++ [(base + lap, clV (lit :: os))]) (gro D.length c)) = some (.int (base + lap), HK cells s ep' (sd ++ [(base + lap, clV (lit :: os))]) (gro D.length c)) := bin_eq (o := .add) kI_eq (loc_eq rfl) rfl
  have st := storeK (loc_eq rfl) (es3 (h2 ep') q kB_eq) hv (Z.gro (n := D.length)) (by omega) (by rw [List.length_map, List.length_cons]; omega)
  have en := enqK (sd2 := sd) (c2 := sto (gro D.length c) ((lit :: os).map .int) (.int (base + lap))) (e1 := .loc 4) (e2 := .meth (.loc 1) n_store [tup, (.bin .add (.kI base) (.loc 3)), (.kB false)]) (num := .int (k : Int)) (loc_eq rfl) (es2 (loc_eq rfl) st) hl K.lens (by show c.trail.length < _; rw [K.trl]; omega)
  exact ⟨ep', _, (seq_next (asgS_eq h1 (loc_eq rfl) (bin_eq (o := .add) kI_eq (loc_eq rfl) rfl) e1)).trans ((seq_next (expr_eq en)).trans seq_nil), K.add_cl hl Z hkb, rfl⟩

theorem dec_step (K : Kn D c sd kb) (hk : D.length < 8) {lap : Nat} {lit : Int} (hl : lit.natAbs = D.length + 1) :
    ∃ c', mSs XX [.expr (.meth (.loc 1) n_new_level []), .expr (.meth (.loc 1) n_enqueue [(.loc 4), (.neg (.kI 1))]), .cont] (kE (some (.int (lap : Int))) (some (.int lit)) x5 x6 x7) (HK cells s ep sd (gro D.length c)) = some (.cont, kE (some (.int (lap : Int))) (some (.int lit)) x5 x6 x7, HK cells s ep sd c') ∧ Kn (D ++ [⟨lit, c.starts.length + 1, [], true, 0⟩]) c' sd kb ∧ c'.starts.length = c.starts.length + 1 := by
  have nl : mE XX (.meth (.loc 1) n_new_level []) (kE (some (.int (lap : Int))) (some (.int lit)) x5 x6 x7) (HK cells s ep sd (gro D.length c)) = some (.none, HK cells s ep sd { gro D.length c with starts := c.starts ++ [.int (c.trail.length : Int)] }) :=
    (mcK (f := f_Trail_new_level) (by decide +kernel) rfl (loc_eq rfl) es0).trans (new_level_spec (pre := [fd cells s]) (post := [.nd ep sd]) (Nat.lt_of_le_of_lt K.stl (Nat.lt_trans hk (by decide))))
  have en := enqK (cells := cells) (s := s) (ep := ep) (sd := sd) (sd2 := sd) (c1 := { gro D.length c with starts := c.starts ++ [.int (c.trail.length : Int)] }) (c2 := { gro D.length c with starts := c.starts ++ [.int (c.trail.length : Int)] }) (e1 := .loc 4) (e2 := .neg (.kI 1)) (ρ := kE (some (.int (lap : Int))) (some (.int lit)) x5 x6 x7) (num := .int (-1)) (loc_eq rfl) (es2 (loc_eq rfl) rfl) hl K.lens (by show c.trail.length < _; rw [K.trl]; omega)
  exact ⟨_, (seq_next (expr_eq nl)).trans ((seq_next (expr_eq en)).trans (seq_stop cont_eq (by intro q; cases q))), K.add_dec hl _, by show (c.starts ++ _).length = _; rw [List.length_append]; rfl⟩

theorem oth_loop {c' : Co} (htr : c'.trail = D.map fun a => .int a.lit) (hD : 0 < D.length) (hk : D.length < 8) (hs : s ≤ 3000) {n : Nat} (hn : n ≤ 3) :
    ∃ (os : List Int) (y6 y7 : Option MV) (s' : Nat), loopS .no (fun v ρ G => (asgO true [6] v ρ).bind fun ρ' => mSs XX othB ρ' G) ((rngV n).map .val) (kE x3 x4 (some (.lst [])) x6 x7) (HK cells s ep sd c') = some (.next, kE x3 x4 (some (.lst (os.map .int))) y6 y7, HK cells s' ep sd c') ∧ os.Nodup ∧ (∀ o ∈ os, ∃ (j : Nat) (b : Va), D[j]? = some b ∧ o = -b.lit) ∧ os.length ≤ n ∧ s' ≤ s + n := by
  refine (loopS_inv (st := fun v ρ G => (asgO true [6] v ρ).bind fun ρ' => mSs XX othB ρ' G) (Q := fun j ρ G => ∃ (os : List Int) (y6 y7 : Option MV) (s' : Nat), ρ = kE x3 x4 (some (.lst (os.map .int))) y6 y7 ∧ G = HK cells s' ep sd c' ∧ os.Nodup ∧ (∀ o ∈ os, ∃ (j : Nat) (b : Va), D[j]? = some b ∧ o = -b.lit) ∧ os.length ≤ j ∧ s' ≤ s + j) (rngV n) 0 (kE x3 x4 (some (.lst [])) x6 x7) (HK cells s ep sd c') (fun j v ρ G _ hv q => ?_) ⟨[], x6, x7, s, rfl, rfl, List.nodup_nil, nofun, Nat.le_refl _, Nat.le_refl _⟩).elim fun ρ' h => h.elim fun G' h => ?_
  rotate_left
  · obtain ⟨e, os, y6, y7, s', rfl, rfl, h1, h2, h3, h4⟩ := h
    rw [rng_len, Nat.zero_add] at h3 h4
    exact ⟨os, y6, y7, s', e, h1, h2, h3, h4⟩
  · obtain ⟨os, y6, y7, s', rfl, rfl, h1, h2, h3, h4⟩ := q
    have hj := (rng_get hv).1
    have tr : ∀ {s' : Nat} {ρ : Lo}, ρ[1]? = some (some (.obj c_Search 1)) → mE XX (.attr (.loc 1) n_trail) ρ (HK cells s' ep sd c') = some (.ref 14, HK cells s' ep sd c') := fun h => attr_eq (loc_eq h) (ac_trail [fd cells _] [.nd ep sd] c' 64 _)
    have g : ∀ {s' : Nat}, (HK cells s' ep sd c')[14]? = some (.lst (D.map fun a => .int a.lit)) := fun {s'} => htr ▸ g13 [fd cells s'] [.nd ep sd] c'
    obtain ⟨r, r0, rl, hr⟩ := figK (cells := cells) (s := s') (ep := ep) (sd := sd) (c := c') (ρ := kE x3 x4 (some (.lst (os.map .int))) (some v) y7) (e := .blt .len (.attr (.loc 1) n_trail)) (many := ((D.map fun a => MV.int a.lit).length : Int)) rfl (blt_eq (tr rfl) (len_lst g)) (by rw [List.length_map]; omega) (by omega)
    rw [List.length_map] at rl
    have hb : D[r.toNat]? = some D[r.toNat] := List.getElem?_eq_getElem (by omega)
    have hsub := sub_lst (G := HK cells (s' + 1) ep sd c') (i := 14) (n := r.toNat) (v := .int D[r.toNat].lit) g ((List.getElem?_map ..).trans (mpp hb))
    rw [Int.toNat_of_nonneg r0] at hsub
    have a7 : mS XX (.asg 7 (.neg (.sub (.attr (.loc 1) n_trail) (.call f_law_figure [(.loc 0), (.blt .len (.attr (.loc 1) n_trail))])))) (kE x3 x4 (some (.lst (os.map .int))) (some v) y7) (HK cells s' ep sd c') = some (.next, kE x3 x4 (some (.lst (os.map .int))) (some v) (some (.int (-D[r.toNat].lit))), HK cells (s' + 1) ep sd c') := asg_eq (neg_eq (sub_eq (tr rfl) hr hsub)) rfl
    have cn := cmp_eq (X := XX) (o := .nin) (a := .loc 7) (b := .loc 5) (ρ := kE x3 x4 (some (.lst (os.map .int))) (some v) (some (.int (-D[r.toNat].lit)))) (G := HK cells (s' + 1) ep sd c') (loc_eq rfl) (loc_eq rfl) (nin_lst (-D[r.toNat].lit) os)
    have fin : ∀ {os' : List Int}, mE XX (.ite (.cmp .nin (.loc 7) (.loc 5)) (.lst false [(.loc 7)]) (.lst false [])) (kE x3 x4 (some (.lst (os.map .int))) (some v) (some (.int (-D[r.toNat].lit)))) (HK cells (s' + 1) ep sd c') = some (.lst (os'.map .int), HK cells (s' + 1) ep sd c') → os'.length ≤ 1 → (os ++ os').Nodup → (∀ o ∈ os', o = -D[r.toNat].lit) →
        ∃ fl ρ' G', (fun v ρ G => (asgO true [6] v ρ).bind fun ρ' => mSs XX othB ρ' G) v (kE x3 x4 (some (.lst (os.map .int))) y6 y7) (HK cells s' ep sd c') = some (fl, ρ', G') ∧ (fl = .next ∨ fl = .cont) ∧ ∃ (os : List Int) (y6 y7 : Option MV) (s' : Nat), ρ' = kE x3 x4 (some (.lst (os.map .int))) y6 y7 ∧ G' = HK cells s' ep sd c' ∧ os.Nodup ∧ (∀ o ∈ os, ∃ (j : Nat) (b : Va), D[j]? = some b ∧ o = -b.lit) ∧ os.length ≤ j + 1 ∧ s' ≤ s + (j + 1) := fun {os'} h hl hn' ho =>
      ⟨.next, _, _, bnd (o := asgO true [6] v _) rfl ((seq_next a7).trans ((seq_next (asg_eq (bin_eq (o := .add) (loc_eq rfl) h ((bin_app (by rw [List.length_map, List.length_map]; omega)).trans (congrArg (fun l => some (MV.lst l)) List.map_append.symm))) rfl)).trans seq_nil)), .inl rfl, os ++ os', _, _, s' + 1, rfl, rfl, hn',
        fun o hm => (List.mem_append.mp hm).elim (h2 o) fun hm => ⟨_, _, hb, ho o hm⟩, by rw [List.length_append]; omega, by omega⟩
    cases hc : os.contains (-D[r.toNat].lit) with
    | true =>
      rw [hc] at cn
      exact fin (os' := []) ((ite_f cn).trans (lstF_eq es0)) (by decide) (by rw [List.append_nil]; exact h1) nofun
    | false =>
      rw [hc] at cn
      refine fin (os' := [-D[r.toNat].lit]) ((ite_t cn).trans (lstF_eq (es1 (loc_eq rfl)))) (by show 1 ≤ 1; omega) ?_ fun o ho => List.mem_singleton.mp ho
      exact List.nodup_append.mpr ⟨h1, List.nodup_cons.mpr ⟨nofun, List.nodup_nil⟩, fun x hx y hy e => by rw [List.mem_singleton.mp hy] at e; rw [e] at hx; rw [List.contains_iff_mem.mpr hx] at hc; cases hc⟩
end
end Mine.Law
end
section
set_option autoImplicit false
set_option linter.unusedVariables false
set_option linter.unusedSimpArgs false
set_option linter.unusedSectionVars false
set_option maxRecDepth 10000
namespace Mine.Law
theorem Kn.mono {D : List Va} {c : Co} {sd : List (Int × MV)} {kb kb' : Int} (K : Kn D c sd kb) (h : kb ≤ kb') : Kn D c sd kb' :=
  { K with sdv := fun p hp => ⟨Int.lt_of_lt_of_le (K.sdv p hp).1 h, (K.sdv p hp).2⟩ }
noncomputable def lap1B : List MS := .asg 4 litE :: clE 50 (.lst false [(.loc 4)]) (.tup [(.loc 4)])
noncomputable def lap2C : List MS := clE 100 (.bin .add (.lst false [(.loc 4)]) (.loc 5)) (.blt .tuple (.sub (.loc 2) (.bin .add (.kI 100) (.loc 3))))
noncomputable def lap2B : List MS := .asg 4 litE :: .ifS (.or_ [(.cmp .eq (.meth (.loc 1) n_depth []) (.kI 0)), (.cmp .eq (.call f_law_figure [(.loc 0), (.kI 3)]) (.kI 0))]) [.expr (.meth (.loc 1) n_new_level []), .expr (.meth (.loc 1) n_enqueue [(.loc 4), (.neg (.kI 1))]), .cont] [] :: .asg 5 (.lst false []) :: .forS [6] true .rng [(.bin .add (.kI 1) (.call f_law_figure [(.loc 0), (.kI 3)]))] othB :: lap2C
section
variable {cells : List Int} {s ep : Nat} {sd : List (Int × MV)} {c : Co} {D : List Va} {kb : Int} {x3 x4 x5 x6 x7 : Option MV}
noncomputable def Lap (cells : List Int) (s m : Nat) (D : List Va) (kb : Int) (x3 : Option MV) (r : Option (Fl × Lo × GH)) : Prop :=
  ∃ (fl : Fl) (y4 y5 y6 y7 : Option MV) (s' ep' : Nat) (sd' : List (Int × MV)) (c' : Co) (a : Va), r = some (fl, kE x3 y4 y5 y6 y7, HK cells s' ep' sd' c') ∧ (fl = .next ∨ fl = .cont) ∧ Kn (D ++ [a]) c' sd' kb ∧ DOk (D ++ [a]) ∧ s' ≤ s + m
theorem lap1 (K : Kn D c sd kb) (O : DOk D) (hk : D.length < 8) (hs : s ≤ 2900) {lap : Nat} (hkb : kb ≤ 50 + (lap : Int)) : Lap cells s 1 D (50 + (lap : Int) + 1) (some (.int (lap : Int))) (mSs XX lap1B (kE (some (.int (lap : Int))) x4 x5 x6 x7) (HK cells s ep sd c)) := by
  obtain ⟨lit, h1, e1⟩ := ps1 (cells := cells) (ep := ep) (sd := sd) (x3 := some (.int (lap : Int))) (x4 := x4) (x5 := x5) (x6 := x6) (x7 := x7) K.v hk (by omega : s ≤ 3000)
  obtain ⟨ep', c', e2, K', _⟩ := cl_step (cells := cells) (s := s + 1) (ep := ep) (x5 := x5) (x6 := x6) (x7 := x7) (os := []) (first := .lst false [(.loc 4)]) (tup := .tup [(.loc 4)]) K hk h1 (by decide) hkb (lstF_eq (es1 (loc_eq rfl))) (fun _ => tup_eq (es1 (loc_eq rfl))) (fun _ => rfl)
  exact ⟨.next, _, _, _, _, _, _, _, _, _, (seq_next (asg_eq e1 rfl)).trans e2, .inl rfl, K', O.add h1 List.nodup_nil nofun, Nat.le_refl _⟩
theorem depK {ρ : Lo} (h : ρ[1]? = some (some (.obj c_Search 1))) : mE XX (.meth (.loc 1) n_depth []) ρ (HK cells s ep sd c) = some (.int (c.starts.length : Int), HK cells s ep sd c) :=
  (mcK (f := f_Trail_depth) (by decide +kernel) rfl (loc_eq h) es0).trans (depth_spec (pre := [fd cells s]) (post := [.nd ep sd]))
theorem subK {k : Int} {v : MV} (h : sd.lookup k = some v) : subO (HK cells s ep sd c) (.ref 22) (.int k) = some v := h
theorem lap2c (K : Kn D c sd kb) (O : DOk D) (hk : D.length < 8) (h0 : 0 < D.length) (hs : s ≤ 2900) {lap : Nat} (hkb : kb ≤ 100 + (lap : Int)) {lit : Int} (h1 : lit.natAbs = D.length + 1) :
    Lap cells s 4 D (100 + (lap : Int) + 1) (some (.int (lap : Int))) (mSs XX (.asg 5 (.lst false []) :: .forS [6] true .rng [(.bin .add (.kI 1) (.call f_law_figure [(.loc 0), (.kI 3)]))] othB :: lap2C) (kE (some (.int (lap : Int))) (some (.int lit)) x5 x6 x7) (HK cells s ep sd (gro D.length c))) := by
  obtain ⟨r, r0, r1, hr⟩ := figK (cells := cells) (s := s) (ep := ep) (sd := sd) (c := gro D.length c) (ρ := kE (some (.int (lap : Int))) (some (.int lit)) (some (.lst [])) x6 x7) rfl (kI_eq (i := 3)) (by decide) (by omega)
  obtain ⟨os, y6, y7, s', e, n1, n2, n3, n4⟩ := oth_loop (cells := cells) (s := s + 1) (ep := ep) (sd := sd) (x3 := some (.int (lap : Int))) (x4 := some (.int lit)) (x6 := x6) (x7 := x7) (c' := gro D.length c) K.tr h0 hk (by omega) (n := (1 + r).toNat) (by omega)
  have e3 : mS XX (.forS [6] true .rng [(.bin .add (.kI 1) (.call f_law_figure [(.loc 0), (.kI 3)]))] othB) (kE (some (.int (lap : Int))) (some (.int lit)) (some (.lst [])) x6 x7) (HK cells s ep sd (gro D.length c)) = _ :=
    bnd (es1 (bin_eq (o := .add) kI_eq hr rfl)) (bnd (so_rng (n := (1 + r).toNat) (by omega) (by omega)) e)
  obtain ⟨ep', c', e2, K', _⟩ := cl_step (cells := cells) (s := s') (ep := ep) (x5 := some (.lst (os.map .int))) (x6 := y6) (x7 := y7) (os := os) (first := .bin .add (.lst false [(.loc 4)]) (.loc 5)) (tup := .blt .tuple (.sub (.loc 2) (.bin .add (.kI 100) (.loc 3)))) (v := .tup ((lit :: os).map .int)) K hk h1 (by omega) hkb
    (bin_eq (o := .add) (lstF_eq (es1 (loc_eq rfl))) (loc_eq rfl) (bin_app (by rw [List.length_map]; show 1 + _ < _; omega)))
    (fun _ => blt_eq (sub_eq (loc_eq rfl) (bin_eq (o := .add) kI_eq (loc_eq rfl) rfl) (subK (lookup_snoc_new fun p hp => Int.lt_of_lt_of_le (K.sdv p hp).1 hkb))) (if_pos (by rw [List.length_map]; show os.length + 1 < _; omega))) (fun _ => rfl)
  exact ⟨.next, _, _, _, _, _, _, _, _, _, (seq_next (asg_eq (lstF_eq es0) rfl)).trans ((seq_next e3).trans e2), .inl rfl, K', O.add h1 n1 n2, by omega⟩
theorem lap2 (K : Kn D c sd kb) (O : DOk D) (hk : D.length < 8) (hs : s ≤ 2800) {lap : Nat} (hkb : kb ≤ 100 + (lap : Int)) : Lap cells s 6 D (100 + (lap : Int) + 1) (some (.int (lap : Int))) (mSs XX lap2B (kE (some (.int (lap : Int))) x4 x5 x6 x7) (HK cells s ep sd c)) := by
  obtain ⟨lit, h1, e1⟩ := ps1 (cells := cells) (ep := ep) (sd := sd) (x3 := some (.int (lap : Int))) (x4 := x4) (x5 := x5) (x6 := x6) (x7 := x7) K.v hk (by omega : s ≤ 3000)
  have dp := cmp_eq (o := .eq) (depK (cells := cells) (s := s + 1) (ep := ep) (sd := sd) (c := gro D.length c) (ρ := kE (some (.int (lap : Int))) (some (.int lit)) x5 x6 x7) rfl) (kI_eq (i := 0)) eq_int
  have dec : ∀ {s' : Nat}, s' ≤ s + 2 → mE XX (.or_ [(.cmp .eq (.meth (.loc 1) n_depth []) (.kI 0)), (.cmp .eq (.call f_law_figure [(.loc 0), (.kI 3)]) (.kI 0))]) (kE (some (.int (lap : Int))) (some (.int lit)) x5 x6 x7) (HK cells (s + 1) ep sd (gro D.length c)) = some (.bool true, HK cells s' ep sd (gro D.length c)) → Lap cells s 6 D (100 + (lap : Int) + 1) (some (.int (lap : Int))) (mSs XX lap2B (kE (some (.int (lap : Int))) x4 x5 x6 x7) (HK cells s ep sd c)) := fun {s'} hs' h => by
    obtain ⟨c', e2, K', _⟩ := dec_step (cells := cells) (s := s') (ep := ep) (x5 := x5) (x6 := x6) (x7 := x7) (lap := lap) K hk h1
    exact ⟨.cont, _, _, _, _, _, _, _, _, _, (seq_next (asg_eq e1 rfl)).trans (seq_stop ((if_t h).trans e2) (by intro q; cases q)), .inr rfl, K'.mono (by omega), O.add h1 List.nodup_nil nofun, by omega⟩
  by_cases hd : c.starts.length = 0
  · have hd' : (gro D.length c).starts.length = 0 := hd
    rw [hd'] at dp
    exact dec (by omega) (orE (or_t dp))
  · have hd' : (((gro D.length c).starts.length : Int) == 0) = false := beq_eq_false_iff_ne.mpr (by intro q; exact hd (by exact_mod_cast q))
    rw [hd'] at dp
    obtain ⟨r, r0, r1, hr⟩ := figK (cells := cells) (s := s + 1) (ep := ep) (sd := sd) (c := gro D.length c) (ρ := kE (some (.int (lap : Int))) (some (.int lit)) x5 x6 x7) rfl (kI_eq (i := 3)) (by decide) (by omega)
    have fc := cmp_eq (o := .eq) hr (kI_eq (i := 0)) eq_int
    cases hb : (r == 0) with
    | true =>
      rw [hb] at fc
      exact dec (by omega) (orE ((or_f dp).trans (or_t fc)))
    | false =>
      rw [hb] at fc
      obtain ⟨fl, y4, y5, y6, y7, s', ep', sd', c', a, e2, h2, h3, h4, h5⟩ := lap2c (cells := cells) (s := s + 1 + 1) (ep := ep) (x5 := x5) (x6 := x6) (x7 := x7) K O hk (by have := K.stl; omega) (by omega) hkb h1
      exact ⟨fl, y4, y5, y6, y7, s', ep', sd', c', a, (seq_next (asg_eq e1 rfl)).trans ((seq_next ((if_f (orE ((or_f dp).trans ((or_f fc).trans or_nil)))).trans seq_nil)).trans e2), h2, h3, h4, by omega⟩

theorem kn0 : Kn [] cNew [] 0 := ⟨vars0, rfl, rfl, rfl, fun _ _ h => (nomatch h), fun _ _ h => (nomatch h), nofun, ⟨0, Nat.le_refl _, ⟨rfl, rfl, rfl, rfl⟩⟩, Nat.le_refl _, rfl, Nat.le_refl _⟩
noncomputable def KL (cells : List Int) (k t : Nat) (kb : Int) (ρ : Lo) (G : GH) : Prop :=
  ∃ (x3 x4 x5 x6 x7 : Option MV) (s ep : Nat) (sd : List (Int × MV)) (c : Co) (D : List Va), ρ = kE x3 x4 x5 x6 x7 ∧ G = HK cells s ep sd c ∧ Kn D c sd kb ∧ DOk D ∧ D.length = k ∧ s ≤ t
theorem kl_loop {B : List MS} {base : Int} {n k t m : Nat} (hn : k + n ≤ 8) (ht : t + m * n ≤ 2800) (hm : m ≤ 6)
    (hB : ∀ {s ep : Nat} {sd : List (Int × MV)} {c : Co} {D : List Va} {kb : Int} {x4 x5 x6 x7 : Option MV} {lap : Nat}, Kn D c sd kb → DOk D → D.length < 8 → s ≤ 2800 → kb ≤ base + (lap : Int) → Lap cells s m D (base + (lap : Int) + 1) (some (.int (lap : Int))) (mSs XX B (kE (some (.int (lap : Int))) x4 x5 x6 x7) (HK cells s ep sd c)))
    {ρ : Lo} {G : GH} (q : KL cells k t base ρ G) {e : ME} {b : Int} {G1 : GH} (he : mE XX e ρ G = some (.int b, G1)) (hb : b = (n : Int)) (q1 : KL cells k t base ρ G1) : ∃ ρ' G', mS XX (.forS [3] true .rng [e] B) ρ G = some (.next, ρ', G') ∧ KL cells (k + n) (t + m * n) (base + n) ρ' G' := by
  have := for_inv (X := XX) (ρ := ρ) (G := G) (tgt := [3]) (one := true) (sk := .rng) (srcs := [e]) (b := B) (l := rngV n) (fun j ρ G => KL cells (k + j) (t + m * j) (base + j) ρ G) (es1 he) (so_rng hb (by omega)) (by simpa using q1) (fun j v ρ G hv q => by
    obtain ⟨x3, x4, x5, x6, x7, s, ep, sd, c, D, rfl, rfl, K, O, hk, hs⟩ := q
    obtain ⟨hj, rfl⟩ := rng_get hv
    have hmj : m * j ≤ m * n := Nat.mul_le_mul_left _ (Nat.le_of_lt hj)
    obtain ⟨fl, y4, y5, y6, y7, s', ep', sd', c', a, e1, h2, h3, h4, h5⟩ := hB (x4 := x4) (x5 := x5) (x6 := x6) (x7 := x7) (ep := ep) (lap := j) K O (by omega) (by omega : s ≤ 2800) (Int.le_refl _)
    refine ⟨_, fl, _, _, rfl, e1, h2, _, _, _, _, _, s', ep', sd', c', _, rfl, rfl, h3.mono (by omega), h4, by rw [List.length_append, hk]; rfl, by rw [Nat.mul_succ]; omega⟩)
  obtain ⟨ρ', G', e1, q'⟩ := this
  rw [rng_len] at q'
  exact ⟨ρ', G', e1, q'⟩
theorem known_spec {cells : List Int} : ∃ (s ep : Nat) (sd : List (Int × MV)) (c : Co) (D : List Va) (kb : Int), mcall prog 64 18 f_law_known [.ref 0] [fd cells 0] = some (.tup [.obj c_Search 1, .ref 22], HK cells s ep sd c) ∧ Kn D c sd kb ∧ DOk D ∧ D.length ≤ 8 ∧ s ≤ 100 := by
  obtain ⟨r, r0, r1, hr⟩ := figK (cells := cells) (s := 0) (ep := 0) (sd := []) (c := cNew) (ρ := kE none none none none none) rfl (kI_eq (i := 3)) (by decide) (by omega)
  obtain ⟨n, hn⟩ : ∃ n : Nat, r = (n : Int) := ⟨r.toNat, by omega⟩
  obtain ⟨ρ1, G1, e1, q1⟩ := kl_loop (cells := cells) (B := lap1B) (base := 50) (n := n) (k := 0) (t := 1) (m := 1) (by omega) (by omega) (by omega) (fun K O hk hs hkb => lap1 K O hk (by omega) hkb)
    (ρ := kE none none none none none) (G := HK cells 0 0 [] cNew) ⟨_, _, _, _, _, 0, 0, [], cNew, [], rfl, rfl, kn0.mono (by decide), ⟨fun _ _ h => (nomatch h), fun _ _ h => (nomatch h)⟩, rfl, by decide⟩ hr hn ⟨_, _, _, _, _, 1, 0, [], cNew, [], rfl, rfl, kn0.mono (by decide), ⟨fun _ _ h => (nomatch h), fun _ _ h => (nomatch h)⟩, rfl, by decide⟩
  obtain ⟨x3, x4, x5, x6, x7, s, ep, sd, c, D, rfl, rfl, K, O, hk, hs⟩ := q1
  obtain ⟨r', r0', r1', hr'⟩ := figK (cells := cells) (s := s) (ep := ep) (sd := sd) (c := c) (ρ := kE x3 x4 x5 x6 x7) rfl (kI_eq (i := 3)) (by decide) (by omega)
  obtain ⟨n', hn'⟩ : ∃ n' : Nat, r' = (n' : Int) := ⟨r'.toNat, by omega⟩
  have K2 : Kn D c sd 100 := K.mono (by omega)
  obtain ⟨ρ2, G2, e2, q2⟩ := kl_loop (cells := cells) (B := lap2B) (base := 100) (n := 4 + n') (k := n) (t := 1 + n + 1) (m := 6) (by omega) (by omega) (by omega) (fun K O hk hs hkb => lap2 K O hk hs hkb)
    (ρ := kE x3 x4 x5 x6 x7) (G := HK cells s ep sd c) ⟨_, _, _, _, _, s, ep, sd, c, D, rfl, rfl, K2, O, by omega, by omega⟩ (e := .bin .add (.kI 4) (.call f_law_figure [(.loc 0), (.kI 3)])) (bin_eq (o := .add) kI_eq hr' rfl) (by omega) ⟨_, _, _, _, _, s + 1, ep, sd, c, D, rfl, rfl, K2, O, by omega, by omega⟩
  obtain ⟨x3', x4', x5', x6', x7', s', ep', sd', c', D', rfl, rfl, K', O', hk', hs'⟩ := q2
  exact ⟨s', ep', sd', c', D', _, ret_of (mf := d_law_known) rfl rfl ((seq_next (new_core _ _)).trans ((seq_next e1).trans ((seq_next e2).trans (ret1 (tup_eq (es2 (loc_eq rfl) (loc_eq rfl))))))), K', O', by omega, by omega⟩
end
end Mine.Law
end
section
set_option autoImplicit false
set_option linter.unusedVariables false
set_option linter.unusedSimpArgs false
set_option linter.unusedSectionVars false
set_option maxRecDepth 10000
namespace Mine.Law
structure Pl where
  n : Nat
  lt : Nat → Int
  lv : Nat → Nat
  os : Nat → List Nat
  dec : Nat → Bool
  st : Nat → Int
noncomputable def Pl.nl (P : Pl) (j : Nat) : Int := -P.lt j
noncomputable def Pl.cl (P : Pl) (i : Nat) : List Int := P.lt i :: (P.os i).map P.nl
noncomputable def vr (i : Nat) : Int := ((i + 1 : Nat) : Int)
noncomputable def Bel (n : Nat) (l : List Nat) : Prop := ∀ i ∈ l, i < n
structure Fx (P : Pl) (c : Co) (sd : List (Int × MV)) : Prop where
  n8 : P.n ≤ 8
  nat : ∀ i, i < P.n → (P.lt i).natAbs = i + 1
  osn : ∀ i, i < P.n → (P.os i).Nodup
  osl : ∀ i, i < P.n → ∀ j ∈ P.os i, j < i
  tr : c.trail = (List.range P.n).map fun i => .int (P.lt i)
  lev : ∀ i, i < P.n → c.levels[i + 1]? = some (.int (P.lv i : Int))
  sp : ∀ i, i < P.n → c.spots[i + 1]? = some (.int (i : Int))
  rea : ∀ i, i < P.n → P.dec i = true → c.reasons[i + 1]? = some (.int (-1))
  rea2 : ∀ i, i < P.n → P.dec i = false → ∃ num : Nat, c.reasons[i + 1]? = some (.int (num : Int)) ∧ c.clauses[num]? = some (clV (P.cl i)) ∧ c.steps[num]? = some (.int (P.st i)) ∧ sd.lookup (P.st i) = some (clV (P.cl i))
  sdv : ∀ p ∈ sd, ∃ i, i < P.n ∧ P.dec i = false ∧ p.2 = clV (P.cl i)
  sdl : sd.length ≤ P.n
  al : c.assigns.length = P.n + 1
structure Sn (n : Nat) (S : List Bool) (M : List Nat) : Prop where
  len : S.length = n + 1
  at' : ∀ i, i < n → S[i + 1]? = some (M.contains i)
noncomputable def plOf (D : List Va) : Pl where
  n := D.length
  lt i := (D[i]?.map Va.lit).getD 0
  lv i := (D[i]?.map Va.lv).getD 0
  os i := ((D[i]?.map Va.os).getD []).map fun o => o.natAbs - 1
  dec i := (D[i]?.map Va.dec).getD true
  st i := (D[i]?.map Va.st).getD 0
section
variable {D : List Va} {c : Co} {sd : List (Int × MV)} {kb : Int} {i : Nat} {a : Va}
theorem pl_lt (h : D[i]? = some a) : (plOf D).lt i = a.lit := by show (D[i]?.map Va.lit).getD 0 = _; rw [h]; rfl
theorem pl_lv (h : D[i]? = some a) : (plOf D).lv i = a.lv := by show (D[i]?.map Va.lv).getD 0 = _; rw [h]; rfl
theorem pl_os (h : D[i]? = some a) : (plOf D).os i = a.os.map fun o => o.natAbs - 1 := by show ((D[i]?.map Va.os).getD []).map _ = _; rw [h]; rfl
theorem pl_dec (h : D[i]? = some a) : (plOf D).dec i = a.dec := by show (D[i]?.map Va.dec).getD true = _; rw [h]; rfl
theorem pl_st (h : D[i]? = some a) : (plOf D).st i = a.st := by show (D[i]?.map Va.st).getD 0 = _; rw [h]; rfl
theorem pl_ix (O : DOk D) (h : D[i]? = some a) : ∀ o ∈ a.os, o.natAbs - 1 < i ∧ (plOf D).nl (o.natAbs - 1) = o := fun o ho => by
  obtain ⟨j, b, hj, hb, rfl⟩ := (O.os i a h).2 o ho
  have e : (-b.lit).natAbs - 1 = j := by rw [Int.natAbs_neg, O.nat j b hb]; rfl
  exact ⟨e ▸ hj, by rw [e]; exact congrArg (- ·) (pl_lt hb)⟩
theorem pl_cl (O : DOk D) (h : D[i]? = some a) : (plOf D).cl i = a.cl := by
  show _ :: _ = _ :: _
  rw [pl_lt h, pl_os h, List.map_map]
  exact congrArg _ ((List.map_congr_left fun o ho => (pl_ix O h o ho).2).trans (List.map_id' _))
theorem nodup_on {α β : Type} {f : α → β} {g : β → α} : ∀ {l : List α}, (∀ x ∈ l, g (f x) = x) → l.Nodup → (l.map f).Nodup
  | [], _, _ => List.nodup_nil
  | x :: r, h, n => List.nodup_cons.mpr ⟨fun q => by
      obtain ⟨y, hy, e⟩ := List.mem_map.mp q
      exact (List.nodup_cons.mp n).1 (by rw [← h x (.head _), ← e, h y (.tail _ hy)]; exact hy), nodup_on (fun y hy => h y (.tail _ hy)) (List.nodup_cons.mp n).2⟩
theorem fx_of (K : Kn D c sd kb) (O : DOk D) (h8 : D.length ≤ 8) : Fx (plOf D) c sd := by
  have g : ∀ i, i < D.length → ∃ a, D[i]? = some a := fun i h => ⟨_, List.getElem?_eq_getElem h⟩
  have gm : ∀ {f : Va → MV} {i : Nat} {a : Va}, D[i]? = some a → (D.map f)[i]? = some (f a) := fun h => (List.getElem?_map ..).trans (mpp h)
  refine ⟨h8, fun i h => ?_, fun i h => ?_, fun i h => ?_, ?_, fun i h => ?_, fun i h => ?_, fun i h d => ?_, fun i h d => ?_, fun p hp => ?_, K.sdl, K.v.a⟩
  · obtain ⟨a, ha⟩ := g i h
    rw [pl_lt ha]; exact O.nat i a ha
  · obtain ⟨a, ha⟩ := g i h
    rw [pl_os ha]; exact nodup_on (g := (plOf D).nl) (fun o ho => (pl_ix O ha o ho).2) (O.os i a ha).1
  · obtain ⟨a, ha⟩ := g i h
    rw [pl_os ha]
    intro j hj
    obtain ⟨o, ho, rfl⟩ := List.mem_map.mp hj
    exact (pl_ix O ha o ho).1
  · rw [K.tr]
    refine List.ext_getElem? fun i => ?_
    rw [List.getElem?_map, List.getElem?_map]
    by_cases h : i < D.length
    · obtain ⟨a, ha⟩ := g i h
      rw [ha, show (List.range (plOf D).n)[i]? = some i from List.getElem?_range h]
      exact congrArg some (congrArg MV.int (pl_lt ha).symm)
    · rw [List.getElem?_eq_none (by omega), List.getElem?_eq_none (by rw [List.length_range]; exact Nat.le_of_not_lt h)]
      rfl
  · obtain ⟨a, ha⟩ := g i h
    rw [K.lev, pl_lv ha]; exact gm ha
  · rw [K.sp]
    exact (List.getElem?_map ..).trans (mpp (List.getElem?_range h))
  · obtain ⟨a, ha⟩ := g i h
    exact K.rea i a ha ((pl_dec ha).symm.trans d)
  · obtain ⟨a, ha⟩ := g i h
    obtain ⟨num, h1⟩ := K.rea2 i a ha ((pl_dec ha).symm.trans d)
    rw [pl_cl O ha, pl_st ha]
    exact ⟨num, h1⟩
  · obtain ⟨_, a, h2, h3, h4⟩ := K.sdv p hp
    obtain ⟨i, hi⟩ := List.mem_iff_getElem?.mp h2
    exact ⟨i, (List.getElem?_eq_some_iff.mp hi).1, (pl_dec hi).trans h3, by rw [pl_cl O hi]; exact h4⟩
theorem sn_of (K : Kn D c sd kb) : Sn D.length c.seen [] := ⟨K.v.se, fun i h => by rw [K.see, List.getElem?_replicate, if_pos (by omega)]; rfl⟩
end

section
variable {X : Ctx} {ρ : Lo} {G : GH}
theorem loopS_at {st : MV → Lo → GH → Option (Fl × Lo × GH)} {Q : Nat → Lo → GH → Prop} {i : Nat} {l : List MV} (hG : ∀ j ρ G, Q j ρ G → G[i]? = some (.lst l))
    (hs : ∀ (j : Nat) (v : MV) (ρ : Lo) (G : GH), l[j]? = some v → Q j ρ G → ∃ fl ρ' G', st v ρ G = some (fl, ρ', G') ∧ (fl = .next ∨ fl = .cont) ∧ Q (j + 1) ρ' G') :
    ∀ (m k : Nat) (ρ : Lo) (G : GH), k + m = l.length → Q k ρ G → ∃ ρ' G', loopS (.lst i l.length) st ((List.range' k m).map .at) ρ G = some (.next, ρ', G') ∧ Q l.length ρ' G'
  | 0, k, ρ, G, e, q => ⟨ρ, G, if_pos (gd_ref (hG k ρ G q)), by rw [← e]; exact q⟩
  | m + 1, k, ρ, G, e, q => by
    have hv : l[k]? = some l[k] := List.getElem?_eq_getElem (by omega)
    obtain ⟨fl, ρ1, G1, e1, hf, q1⟩ := hs k _ ρ G hv q
    obtain ⟨ρ2, G2, e2, q2⟩ := loopS_at hG hs m (k + 1) ρ1 G1 (by omega) q1
    refine ⟨ρ2, G2, (if_pos (gd_ref (hG k ρ G q))).trans (bnd (bnd (hL_of (hG k ρ G q)) hv) (bnd (o := st _ ρ G) e1 ?_)), q2⟩
    rcases hf with rfl | rfl
    · exact e2
    · exact e2
theorem for_ref {tgt : List Nat} {one : Bool} {src : ME} {b : List MS} {l : List MV} {i : Nat} (Q : Nat → Lo → GH → Prop) (h1 : mE X src ρ G = some (.ref i, G)) (hG : ∀ j ρ G, Q j ρ G → G[i]? = some (.lst l)) (q : Q 0 ρ G)
    (hs : ∀ (j : Nat) (v : MV) (ρ : Lo) (G : GH), l[j]? = some v → Q j ρ G → ∃ ρ' fl ρ'' G', asgO one tgt v ρ = some ρ' ∧ mSs X b ρ' G = some (fl, ρ'', G') ∧ (fl = .next ∨ fl = .cont) ∧ Q (j + 1) ρ'' G') :
    ∃ ρ' G', mS X (.forS tgt one .vals [src] b) ρ G = some (.next, ρ', G') ∧ Q l.length ρ' G' := by
  obtain ⟨ρ', G', e, q'⟩ := loopS_at (st := fun v ρ G => (asgO one tgt v ρ).bind fun ρ' => mSs X b ρ' G) hG (fun j v ρ G hv q => by
    obtain ⟨ρ', fl, ρ'', G', a1, a2, a3, a4⟩ := hs j v ρ G hv q
    exact ⟨fl, ρ'', G', bnd a1 a2, a3, a4⟩) l.length 0 ρ G (Nat.zero_add _) q
  refine ⟨ρ', G', bnd (o := mEs X [src] ρ G) (es1 h1) (bnd (so_ref (hG _ _ _ q)) ?_), q'⟩
  rw [List.range_eq_range']; exact e
theorem mC_sel {elt : ME} {tgt : List Nat} {one : Bool} {sk : SK} {srcs ifs : List ME} {vs l : List MV} {G1 : GH} (Q : Nat → GH → List MV → Prop)
    (h1 : mEs X srcs ρ G = some (vs, G1)) (h2 : srcO G1 sk vs = some (.no, l.map .val)) (q : Q 0 G1 [])
    (hs : ∀ (j : Nat) (v : MV) (G : GH) (acc : List MV), l[j]? = some v → Q j G acc → ∃ ρ' b G2, asgO one tgt v ρ = some ρ' ∧ mAnd X ifs ρ' G = some (.bool b, G2) ∧ (b = false → Q (j + 1) G2 acc) ∧ (b = true → ∃ x G3, mE X elt ρ' G2 = some (x, G3) ∧ Q (j + 1) G3 (acc ++ [x])))
    (hQ : ∀ j G acc, Q j G acc → acc.length ≤ j) (hl : l.length ≤ 4000) : ∃ acc G', mC X [.mk tgt one sk srcs ifs] (fun ρ' G' => mE X elt ρ' G') ρ G [] = some (acc, G') ∧ Q l.length G' acc := by
  obtain ⟨acc, G', e, q'⟩ := loopC_inv (st := fun v G acc => (asgO one tgt v ρ).bind fun ρ' =>
      onB (mAnd X ifs ρ' G) (fun G2 => mC X [] (fun ρ' G' => mE X elt ρ' G') ρ' G2 acc) fun G2 => some (acc, G2)) (Q := Q) l 0 G1 [] (fun j v G acc _ hv q => by
    rw [Nat.sub_zero] at hv
    have hj := (List.getElem?_eq_some_iff.mp hv).1
    obtain ⟨ρ', b, G2, a1, a2, a3, a4⟩ := hs j v G acc hv q
    cases b with
    | false => exact ⟨acc, G2, bnd a1 (onB_f a2), a3 rfl⟩
    | true =>
      obtain ⟨x, G3, a5, a6⟩ := a4 rfl
      have := hQ _ _ _ q
      exact ⟨acc ++ [x], G3, bnd a1 ((onB_t a2).trans (mC_nil (X := X) a5 (by omega))), a6⟩) q
  rw [Nat.zero_add] at q'
  exact ⟨acc, G', bnd (o := mEs X srcs ρ G) h1 (bnd h2 e), q'⟩
theorem comp_eff {α : Type} {k : Nat} {elt src : ME} {tgt : List Nat} {one : Bool} {ifs : List ME} {l : List α} (I : GH → Prop) (g : α → MV) (p : α → Bool) (f : α → MV)
    (h1 : mE X src (ρ ++ List.replicate k none) G = some (.lst (l.map g), G)) (q : I G)
    (hs : ∀ v ∈ l, ∀ G, I G → ∃ ρ' G2, asgO one tgt (g v) (ρ ++ List.replicate k none) = some ρ' ∧ mAnd X ifs ρ' G = some (.bool (p v), G2) ∧ I G2 ∧ (p v = true → ∃ G3, mE X elt ρ' G2 = some (f v, G3) ∧ I G3))
    (hl : l.length ≤ 4000) : ∃ G', mE X (.comp false k elt [.mk tgt one .vals [src] ifs]) ρ G = some (.lst ((l.filter p).map f), G') ∧ I G' := by
  obtain ⟨acc, G', e, rfl, q', _⟩ := mC_sel (X := X) (ρ := ρ ++ List.replicate k none) (elt := elt) (tgt := tgt) (one := one) (ifs := ifs) (l := l.map g) (fun j G acc => acc = ((l.take j).filter p).map f ∧ I G ∧ acc.length ≤ j) (es1 h1) so_lst ⟨rfl, q, Nat.le_refl _⟩ (fun j v G acc hv q => by
    rw [List.getElem?_map] at hv
    obtain ⟨x, hx, rfl⟩ := Option.map_eq_some_iff.mp hv
    obtain ⟨rfl, hI, hle⟩ := q
    obtain ⟨ρ', G2, a1, a2, a3, a4⟩ := hs x (List.mem_of_getElem? hx) G hI
    have e : l.take (j + 1) = l.take j ++ [x] := by rw [List.take_add_one, hx]; rfl
    refine ⟨ρ', p x, G2, a1, a2, fun hp => ⟨?_, a3, by omega⟩, fun hp => ?_⟩
    · rw [e, List.filter_append, List.filter_cons_of_neg (by rw [hp]; exact Bool.false_ne_true)]; simp
    · obtain ⟨G3, a5, a6⟩ := a4 hp
      exact ⟨_, G3, a5, by rw [e, List.filter_append, List.filter_cons_of_pos hp, List.map_append]; rfl, a6, by rw [List.length_append]; exact Nat.succ_le_succ hle⟩) (fun _ _ _ q => q.2.2) (by rw [List.length_map]; exact hl)
  rw [List.length_map, List.take_length] at e
  refine ⟨G', comp_of e (by rw [List.length_map]; have := List.length_filter_le p l; omega), q'⟩
end
end Mine.Law
end
section
set_option autoImplicit false
set_option linter.unusedVariables false
set_option linter.unusedSimpArgs false
set_option linter.unusedSectionVars false
set_option maxRecDepth 10000
namespace Mine.Law
noncomputable abbrev XD (d : Nat) : Ctx := ctx prog 64 (mcall prog 64 d)
noncomputable abbrev S1 : MV := .obj c_Search 1
noncomputable def Pl.free (P : Pl) (M : List Nat) (j : Nat) : Bool := P.lv j == 0 || M.contains j
noncomputable def Pl.imp (P : Pl) (M : List Nat) (i : Nat) : Bool := !P.dec i && (P.os i).all (P.free M)
theorem and3_eq {X : Ctx} {ρ : Lo} {G : GH} {a b e : ME} {x y z : Bool} (h : mE X a ρ G = some (.bool x, G)) (h2 : mE X b ρ G = some (.bool y, G)) (h3 : mE X e ρ G = some (.bool z, G)) : mE X (.and_ [a, b, e]) ρ G = some (.bool (x && (y && z)), G) := by
  cases x
  · exact andE (and_f h)
  · exact andE ((and_t h).trans (and2_eq (x := y) (y := z) h2 h3))
theorem if_b {X : Ctx} {ρ : Lo} {G : GH} {e : ME} {v : MV} {b : Bool} (h : mE X e ρ G = some (.bool b, G)) : mS X (.ifS e [.ret (.kB false)] []) ρ G = some (if b = true then .ret (.bool false) else .next, ρ, G) := by
  cases b
  · exact (if_f h).trans seq_nil
  · exact (if_t h).trans (ret1 kB_eq)
section
variable {P : Pl} {c : Co} {sd : List (Int × MV)} {f : GO} {post : GH} {d : Nat} {M : List Nat} {ρ : Lo} {e ce : ME} {x : Int} {i j : Nat}
theorem at_trail (h : mE (XD d) ce ρ (inn [f] post c) = some (S1, inn [f] post c)) : mE (XD d) (.attr ce n_trail) ρ (inn [f] post c) = some (.ref 14, inn [f] post c) := attr_eq h (ac_trail [f] post c 64 _)
theorem at_lev (F : Fx P c sd) (hj : j < P.n) (h : mE (XD d) ce ρ (inn [f] post c) = some (S1, inn [f] post c)) (he : mE (XD d) e ρ (inn [f] post c) = some (.int ((j + 1 : Nat) : Int), inn [f] post c)) : mE (XD d) (.sub (.attr ce n_levels) e) ρ (inn [f] post c) = some (.int (P.lv j : Int), inn [f] post c) :=
  sub_eq (attr_eq h (ac_levels [f] post c 64 _)) he (sub_lev (pre := [f]) (F.lev j hj))
theorem abs_at (hx : x.natAbs = j + 1) {X : Ctx} {G : GH} (he : mE X e ρ G = some (.int x, G)) : mE X (.blt .abs e) ρ G = some (.int ((j + 1 : Nat) : Int), G) := blt_eq (r := (.int ((j + 1 : Nat) : Int), G)) he (congrArg (fun k : Nat => some (MV.int (k : Int), G)) hx)
theorem at_seen (S : Sn P.n c.seen M) (hj : j < P.n) (h : mE (XD d) ce ρ (inn [f] post c) = some (S1, inn [f] post c)) (he : mE (XD d) e ρ (inn [f] post c) = some (.int ((j + 1 : Nat) : Int), inn [f] post c)) : mE (XD d) (.sub (.attr ce n_seen) e) ρ (inn [f] post c) = some (.bool (M.contains j), inn [f] post c) :=
  sub_eq (attr_eq h (ac_seen [f] post c 64 _)) he (sub_seen (pre := [f]) (S.at' j hj))
theorem at_clause {num : Nat} {v : MV} (hv : c.clauses[num]? = some v) (h : mE (XD d) ce ρ (inn [f] post c) = some (S1, inn [f] post c)) (he : mE (XD d) e ρ (inn [f] post c) = some (.int (num : Int), inn [f] post c)) : mE (XD d) (.sub (.attr ce n_clauses) e) ρ (inn [f] post c) = some (v, inn [f] post c) :=
  sub_eq (attr_eq h (ac_clauses [f] post c 64 _)) he (sub_lst (g15 [f] post c) hv)
theorem at_reason {v : MV} (hv : c.reasons[j + 1]? = some v) (h : mE (XD d) ce ρ (inn [f] post c) = some (S1, inn [f] post c)) (he : mE (XD d) e ρ (inn [f] post c) = some (.int ((j + 1 : Nat) : Int), inn [f] post c)) : mE (XD d) (.sub (.attr ce n_reasons) e) ρ (inn [f] post c) = some (v, inn [f] post c) :=
  sub_eq (attr_eq h (ac_reasons [f] post c 64 _)) he (sub_lst (g3 [f] post c) hv)

noncomputable abbrev iiE (x : Int) (v : MV) (y3 y4 : Option MV) : Lo := [some S1, some (.int x), some v, y3, y4]
noncomputable def iiB : List MS := [.asg 4 (.blt .abs (.loc 3)), .ifS (.and_ [(.cmp .ne (.loc 4) (.blt .abs (.loc 1))), (.cmp .gt (.sub (.attr (.loc 0) n_levels) (.loc 4)) (.kI 0)), (.no (.truth (.sub (.attr (.loc 0) n_seen) (.loc 4))))]) [.ret (.kB false)] []]
theorem gt_nat {G : GH} {n : Nat} : cmpO G .gt (.int (n : Int)) (.int 0) = some (!(n == 0)) := congrArg some (by
  rcases Nat.eq_zero_or_pos n with h | h
  · subst h; rfl
  · rw [beq_eq_false_iff_ne.mpr (Nat.ne_of_gt h)]; exact decide_eq_true (by omega))
theorem ne_nat {G : GH} {m n : Nat} : cmpO G .ne (.int (m : Int)) (.int (n : Int)) = some (!(m == n)) := ne_int.trans (congrArg (fun b => some (!b)) (by
  by_cases h : m = n
  · subst h; rw [beq_self_eq_true, beq_self_eq_true]
  · rw [beq_eq_false_iff_ne.mpr h]; exact beq_eq_false_iff_ne.mpr (by omega)))
theorem ls_all {α : Type} {G : GH} {st : MV → Lo → GH → Option (Fl × Lo × GH)} {g : α → MV} {p : α → Bool} {E : Lo → Prop} : ∀ (l : List α) (ρ : Lo), (∀ x ∈ l, ∀ ρ, E ρ → ∃ ρ', st (g x) ρ G = some (if p x = true then .ret (.bool false) else .next, ρ', G) ∧ E ρ') → E ρ →
    ∃ ρ', loopS .no st ((l.map g).map .val) ρ G = some (if l.all (fun x => !p x) = true then .next else .ret (.bool false), ρ', G) ∧ E ρ'
  | [], ρ, _, h => ⟨ρ, ls_nil, h⟩
  | x :: r, ρ, h, q => by
    obtain ⟨ρ1, e1, q1⟩ := h x (.head _) ρ q
    rw [List.all_cons]
    cases hp : p x with
    | true =>
      rw [hp] at e1
      exact ⟨ρ1, ls_ret e1, q1⟩
    | false =>
      rw [hp] at e1
      obtain ⟨ρ2, e2, q2⟩ := ls_all r ρ1 (fun y hy => h y (.tail _ hy)) q1
      exact ⟨ρ2, (ls_next (fl := .next) e1 (.inl rfl)).trans e2, q2⟩
noncomputable def Pl.ok (P : Pl) (M : List Nat) (i : Nat) (x : Int) : Bool := (!(x.natAbs == i + 1) && (!(P.lv (x.natAbs - 1) == 0) && !M.contains (x.natAbs - 1)))
theorem cl_nat (F : Fx P c sd) (hi : i < P.n) : ∀ y ∈ P.cl i, ∃ j, j < P.n ∧ y.natAbs = j + 1 := fun y hy => by
  rcases List.mem_cons.mp hy with rfl | hy
  · exact ⟨i, hi, F.nat i hi⟩
  · obtain ⟨j, hj, rfl⟩ := List.mem_map.mp hy
    have := F.osl i hi j hj
    exact ⟨j, by omega, (Int.natAbs_neg _).trans (F.nat j (by omega))⟩
theorem cl_all (F : Fx P c sd) (hi : i < P.n) : (P.cl i).all (fun y => !P.ok M i y) = (P.os i).all (P.free M) := by
  rw [Bool.eq_iff_iff, List.all_eq_true, List.all_eq_true]
  have e : ∀ j ∈ P.os i, (!P.ok M i (P.nl j)) = P.free M j := fun j hj => by
    have h1 := F.osl i hi j hj
    have h2 : (P.nl j).natAbs = j + 1 := (Int.natAbs_neg _).trans (F.nat j (by omega))
    unfold Pl.ok Pl.free
    rw [h2, Nat.add_sub_cancel, beq_eq_false_iff_ne.mpr (by omega : j + 1 ≠ i + 1)]
    cases P.lv j == 0 <;> cases M.contains j <;> rfl
  refine ⟨fun h j hj => (e j hj).symm.trans (h _ (.tail _ (List.mem_map.mpr ⟨j, hj, rfl⟩))), fun h y hy => ?_⟩
  rcases List.mem_cons.mp hy with rfl | hy
  · unfold Pl.ok
    rw [F.nat i hi, beq_self_eq_true]; rfl
  · obtain ⟨j, hj, rfl⟩ := List.mem_map.mp hy
    exact (e j hj).trans (h j hj)
theorem ii_spec (F : Fx P c sd) (S : Sn P.n c.seen M) (hi : i < P.n) : mcall prog 64 (d + 1) f_Search_is_implied [S1, .int (P.nl i)] (inn [f] post c) = some (.bool (P.imp M i), inn [f] post c) := by
  have hx : (P.nl i).natAbs = i + 1 := (Int.natAbs_neg _).trans (F.nat i hi)
  have a2 : ∀ {v : MV}, c.reasons[i + 1]? = some v → mS (XD d) (.asg 2 (.sub (.attr (.loc 0) n_reasons) (.blt .abs (.loc 1)))) [some S1, some (.int (P.nl i)), none, none, none] (inn [f] post c) = some (.next, iiE (P.nl i) v none none, inn [f] post c) := fun h => asg_eq (at_reason h (loc_eq rfl) (abs_at hx (loc_eq rfl))) rfl
  unfold Pl.imp
  cases hd : P.dec i with
  | true =>
    exact ret_of (mf := d_Search_is_implied) rfl rfl ((seq_next (a2 (F.rea i hi hd))).trans (seq_stop ((if_t (cmp_eq (loc_eq rfl) gI_eq eq_int)).trans (ret1 kB_eq)) (by intro q; cases q)))
  | false =>
    obtain ⟨num, r1, r2, _⟩ := F.rea2 i hi hd
    have nn : ((num : Int) == -1) = false := beq_eq_false_iff_ne.mpr (by omega)
    have b : mS (XD d) (.ifS (.cmp .eq (.loc 2) (.gI n_NO_CLAUSE (-1))) [.ret (.kB false)] []) (iiE (P.nl i) (.int (num : Int)) none none) (inn [f] post c) = some (.next, iiE (P.nl i) (.int (num : Int)) none none, inn [f] post c) := (if_f (cmp_eq (loc_eq rfl) gI_eq (eq_int.trans (congrArg some nn)))).trans seq_nil
    obtain ⟨ρ', e, _⟩ := ls_all (G := inn [f] post c) (st := fun v ρ G => (asgO true [3] v ρ).bind fun ρ' => mSs (XD d) iiB ρ' G) (g := .int) (p := P.ok M i) (E := fun ρ => ∃ y3 y4, ρ = iiE (P.nl i) (.int (num : Int)) y3 y4) (P.cl i) (iiE (P.nl i) (.int (num : Int)) none none) (fun y hy ρ hE => by
      obtain ⟨y3, y4, rfl⟩ := hE
      obtain ⟨j, hj, hy'⟩ := cl_nat F hi y hy
      refine ⟨iiE (P.nl i) (.int (num : Int)) (some (.int y)) (some (.int ((j + 1 : Nat) : Int))), bnd (o := asgO true [3] (.int y) _) rfl ?_, _, _, rfl⟩
      have t := and3_eq (X := XD d) (ρ := iiE (P.nl i) (.int (num : Int)) (some (.int y)) (some (.int ((j + 1 : Nat) : Int)))) (G := inn [f] post c) (cmp_eq (o := .ne) (a := .loc 4) (b := .blt .abs (.loc 1)) (loc_eq rfl) (abs_at hx (loc_eq rfl)) ne_nat) (cmp_eq (o := .gt) (at_lev (ce := .loc 0) (e := .loc 4) F hj (loc_eq rfl) (loc_eq rfl)) (kI_eq (i := 0)) gt_nat) (no_eq (tr_eq (at_seen (ce := .loc 0) (e := .loc 4) S hj (loc_eq rfl) (loc_eq rfl))))
      have ek : P.ok M i y = (!(j + 1 == i + 1) && (!(P.lv j == 0) && !M.contains j)) := by unfold Pl.ok; rw [hy', Nat.add_sub_cancel]
      rw [← ek] at t
      refine (seq_next (asg_eq (abs_at hy' (loc_eq rfl)) rfl)).trans ?_
      cases hk : P.ok M i y with
      | true =>
        rw [hk] at t
        exact seq_stop ((if_t t).trans (ret1 kB_eq)) (by intro q; cases q)
      | false =>
        rw [hk] at t
        exact (seq_next ((if_f t).trans seq_nil)).trans seq_nil) ⟨_, _, rfl⟩
    rw [cl_all F hi] at e
    have lp : mS (XD d) (.forS [3] true .vals [(.sub (.attr (.loc 0) n_clauses) (.loc 2))] iiB) (iiE (P.nl i) (.int (num : Int)) none none) (inn [f] post c) = _ := bnd (es1 (at_clause r2 (loc_eq rfl) (loc_eq rfl))) (bnd so_lst e)
    cases ha : (P.os i).all (P.free M) with
    | true =>
      rw [ha] at lp
      exact ret_of (mf := d_Search_is_implied) rfl rfl ((seq_next (a2 r1)).trans ((seq_next b).trans ((seq_next lp).trans (ret1 kB_eq))))
    | false =>
      rw [ha] at lp
      exact ret_of (mf := d_Search_is_implied) rfl rfl ((seq_next (a2 r1)).trans ((seq_next b).trans (seq_stop lp (by intro q; cases q))))
end
end Mine.Law
end
section
set_option autoImplicit false
set_option linter.unusedVariables false
set_option linter.unusedSimpArgs false
set_option linter.unusedSectionVars false
set_option maxRecDepth 10000
namespace Mine.Law
theorem inn_snoc {pre post : GH} {c : Co} {x : GO} : inn pre post c ++ [x] = inn pre (post ++ [x]) c := List.append_assoc ..
theorem get_end {B : GH} {x : GO} : (B ++ [x])[B.length]? = some x := by rw [List.getElem?_append_right (Nat.le_refl _), Nat.sub_self]; rfl
theorem set_last {B : GH} {x y : GO} : (B ++ [x]).set B.length y = B ++ [y] := set_end rfl
theorem rN_end {B : GH} {ep : Nat} {l : List (Int × MV)} : rN (B ++ [GO.nd ep l]) (.ref B.length) = some (B.length, ep, l) :=
  congrArg (Option.map (fun p : Nat × List (Int × MV) => (B.length, p))) (hN_of (e := ep) (l := l) get_end)
theorem nd_sub {B : GH} {ep : Nat} {l : List (Int × MV)} {k : Int} {v : MV} (h : l.lookup k = some v) : subO (B ++ [GO.nd ep l]) (.ref B.length) (.int k) = some v := by
  show (match rN (B ++ [GO.nd ep l]) (.ref B.length) with | some p => p.2.2.lookup k | none => (lsO (B ++ [GO.nd ep l]) (.ref B.length)).bind fun l => if 0 ≤ k then l[k.toNat]? else none) = _
  rw [rN_end]
  exact h
theorem nd_set {B : GH} {ep : Nat} {l : List (Int × MV)} {k : Int} {v : MV} (h : l.length < 4096) : ∃ ep', subSet (B ++ [GO.nd ep l]) (.ref B.length) (.int k) v = some (B ++ [GO.nd ep' (setL l k v)]) := by
  refine ⟨if (l.lookup k).isSome then ep else ep + 1, ?_⟩
  unfold subSet
  simp only [iInt_int]
  rw [rN_end]
  exact (if_pos h).trans (congrArg some set_last)
theorem lookup_setI {k : Int} {v : MV} : ∀ {l : List (Int × MV)}, (setL l k v).lookup k = some v
  | [] => by show ([(k, v)] : List (Int × MV)).lookup k = _; rw [List.lookup_cons, beq_self_eq_true]
  | (a, x) :: r => by
    show (if a = k then (a, v) :: r else (a, x) :: setL r k v).lookup k = _
    by_cases h : a = k
    · rw [if_pos h, h, List.lookup_cons, beq_self_eq_true]
    · rw [if_neg h, List.lookup_cons, beq_eq_false_iff_ne.mpr (Ne.symm h)]; exact lookup_setI
theorem lookup_setU {k k' : Int} {v : MV} (hk : k' ≠ k) : ∀ {l : List (Int × MV)}, (setL l k v).lookup k' = l.lookup k'
  | [] => by show ([(k, v)] : List (Int × MV)).lookup k' = _; rw [List.lookup_cons, beq_eq_false_iff_ne.mpr hk]
  | (a, x) :: r => by
    show (if a = k then (a, v) :: r else (a, x) :: setL r k v).lookup k' = _
    by_cases h : a = k
    · rw [if_pos h, h, List.lookup_cons, List.lookup_cons, beq_eq_false_iff_ne.mpr hk]
    · rw [if_neg h, List.lookup_cons, List.lookup_cons, lookup_setU hk]
theorem setL_le {k : Int} {v : MV} : ∀ {l : List (Int × MV)}, (setL l k v).length ≤ l.length + 1
  | [] => Nat.le_refl _
  | (a, x) :: r => by
    show (if a = k then (a, v) :: r else (a, x) :: setL r k v).length ≤ _
    by_cases h : a = k
    · rw [if_pos h]; exact Nat.le_succ _
    · rw [if_neg h]; exact Nat.succ_le_succ setL_le
theorem nil_all {α β : Type} [BEq β] [LawfulBEq β] {p : α → Bool} {f : α → β} : ∀ l : List α, ((l.filter p).map f == []) = l.all fun x => !p x
  | [] => rfl
  | x :: r => by
    rw [List.filter_cons, List.all_cons]
    cases p x
    · exact nil_all r
    · rfl
theorem bel_len {l : List Nat} {m : Nat} (h : l.Nodup) (b : Bel m l) : l.length ≤ m := by
  have := h.length_le_of_subset (l₂ := List.range m) fun x hx => List.mem_range.mpr (b x hx)
  rwa [List.length_range] at this
theorem vr_in {M : List Nat} {k : Nat} : (M.map vr).contains ((k + 1 : Nat) : Int) = M.contains k := by
  rw [Bool.eq_iff_iff, List.contains_iff_mem, List.contains_iff_mem, List.mem_map]
  refine ⟨fun ⟨j, hj, e⟩ => ?_, fun h => ⟨k, h, rfl⟩⟩
  have : j = k := by unfold vr at e; omega
  exact this ▸ hj
section
variable {P : Pl} {c : Co} {sd : List (Int × MV)} {f : GO} {post : GH} {d : Nat} {M : List Nat} {i j : Nat}
noncomputable def Pl.oth (P : Pl) (i : Nat) : MV := if P.dec i = true then .none else .lst ((P.os i).map fun k => .int (P.nl k))
theorem lt_ne (F : Fx P c sd) (hi : i < P.n) (hj : j < P.n) (h : i ≠ j) : P.lt i ≠ P.lt j := fun q => h (by have := F.nat i hi; rw [q, F.nat j hj] at this; omega)
theorem nl_ne (F : Fx P c sd) (hi : i < P.n) (hj : j < P.n) (h : i ≠ j) : P.nl i ≠ P.lt j := fun q => h (by have := (Int.natAbs_neg (P.lt i)).symm.trans (congrArg Int.natAbs q); rw [F.nat i hi, F.nat j hj] at this; omega)
theorem cl_oth (F : Fx P c sd) (hi : i < P.n) : ((P.cl i).filter fun y => !(y == P.lt i)).map MV.int = (P.os i).map fun k => .int (P.nl k) := by
  unfold Pl.cl
  rw [List.filter_cons_of_neg (by rw [beq_self_eq_true]; exact Bool.false_ne_true), List.filter_eq_self.mpr, List.map_map]
  · rfl
  · intro y hy
    obtain ⟨j, hj, rfl⟩ := List.mem_map.mp hy
    have := F.osl i hi j hj
    rw [beq_eq_false_iff_ne.mpr (nl_ne F (by omega) hi (by omega))]; rfl
noncomputable abbrev rsE (m : Nat) (y2 y3 : Option MV) : Lo := [some S1, some (.ref m), y2, y3]
theorem tr_get (F : Fx P c sd) {v : MV} (h : c.trail[j]? = some v) : j < P.n ∧ v = .int (P.lt j) := by
  rw [F.tr, List.getElem?_map] at h
  obtain ⟨x, hx, rfl⟩ := Option.map_eq_some_iff.mp h
  have h1 := (List.getElem?_eq_some_iff.mp hx).1
  rw [List.length_range] at h1
  rw [List.getElem?_range h1] at hx
  cases hx
  exact ⟨h1, rfl⟩
theorem tr_len (F : Fx P c sd) : c.trail.length = P.n := by rw [F.tr, List.length_map, List.length_range]
theorem rs_spec (F : Fx P c sd) : ∃ (ep : Nat) (l : List (Int × MV)), mcall prog 64 (d + 1) f_law_reasons [S1] (inn [f] post c) = some (.ref (inn [f] post c).length, inn [f] post c ++ [.nd ep l]) ∧ ∀ i, i < P.n → l.lookup (P.lt i) = some (P.oth i) := by
  have hn := F.n8
  generalize hB : inn [f] post c = B
  have cv : ∀ x : GO, B ++ [x] = inn [f] (post ++ [x]) c := fun x => hB ▸ inn_snoc
  have n1 : mS (XD d) (.asg 1 .dct0) [some S1, none, none, none] B = some (.next, rsE B.length none none, B ++ [.nd 0 []]) := asg_eq rfl rfl
  obtain ⟨ρ', G', e, ⟨y2, y3, ep, l, rfl, rfl, _, hl⟩⟩ := for_ref (X := XD d) (ρ := rsE B.length none none) (G := B ++ [.nd 0 []]) (tgt := [2]) (one := true) (src := .attr (.loc 0) n_trail) (i := 14) (l := c.trail)
    (b := [.asg 3 (.sub (.attr (.loc 0) n_reasons) (.blt .abs (.loc 2))), .asgS (.loc 1) (.loc 2) (.ite (.cmp .eq (.loc 3) (.neg (.kI 1))) .kN (.comp false 1 (.loc 4) [.mk [4] true .vals [(.sub (.attr (.loc 0) n_clauses) (.loc 3))] [(.cmp .ne (.loc 4) (.loc 2))]]))])
    (fun j ρ G => ∃ (y2 y3 : Option MV) (ep : Nat) (l : List (Int × MV)), ρ = rsE B.length y2 y3 ∧ G = B ++ [.nd ep l] ∧ l.length ≤ j ∧ ∀ i, i < j → l.lookup (P.lt i) = some (P.oth i))
    (by rw [cv]; exact at_trail (loc_eq rfl)) (fun j ρ G q => by
      obtain ⟨y2, y3, ep, l, rfl, rfl, _⟩ := q
      rw [cv]; exact g13 [f] _ c) ⟨none, none, 0, [], rfl, rfl, Nat.le_refl _, fun i h => absurd h (Nat.not_lt_zero _)⟩ (fun j v ρ G hv q => by
      obtain ⟨y2, y3, ep, l, rfl, rfl, h1, h2⟩ := q
      obtain ⟨hj, rfl⟩ := tr_get F hv
      have fin : ∀ {w : MV}, c.reasons[j + 1]? = some w → mE (XD d) (.ite (.cmp .eq (.loc 3) (.neg (.kI 1))) .kN (.comp false 1 (.loc 4) [.mk [4] true .vals [(.sub (.attr (.loc 0) n_clauses) (.loc 3))] [(.cmp .ne (.loc 4) (.loc 2))]])) (rsE B.length (some (.int (P.lt j))) (some w)) (B ++ [.nd ep l]) = some (P.oth j, B ++ [.nd ep l]) →
          ∃ ρ' fl ρ'' G', asgO true [2] (.int (P.lt j)) (rsE B.length y2 y3) = some ρ' ∧ mSs (XD d) [.asg 3 (.sub (.attr (.loc 0) n_reasons) (.blt .abs (.loc 2))), .asgS (.loc 1) (.loc 2) (.ite (.cmp .eq (.loc 3) (.neg (.kI 1))) .kN (.comp false 1 (.loc 4) [.mk [4] true .vals [(.sub (.attr (.loc 0) n_clauses) (.loc 3))] [(.cmp .ne (.loc 4) (.loc 2))]]))] ρ' (B ++ [.nd ep l]) = some (fl, ρ'', G') ∧ (fl = .next ∨ fl = .cont) ∧
            ∃ (y2 y3 : Option MV) (ep : Nat) (l : List (Int × MV)), ρ'' = rsE B.length y2 y3 ∧ G' = B ++ [.nd ep l] ∧ l.length ≤ j + 1 ∧ ∀ i, i < j + 1 → l.lookup (P.lt i) = some (P.oth i) := fun {w} hw hE => by
        obtain ⟨ep', e4⟩ := nd_set (B := B) (ep := ep) (l := l) (k := P.lt j) (v := P.oth j) (by omega)
        have e3 : mS (XD d) (.asg 3 (.sub (.attr (.loc 0) n_reasons) (.blt .abs (.loc 2)))) (rsE B.length (some (.int (P.lt j))) y3) (B ++ [.nd ep l]) = some (.next, rsE B.length (some (.int (P.lt j))) (some w), B ++ [.nd ep l]) := by
          rw [cv]; exact asg_eq (at_reason hw (loc_eq rfl) (abs_at (F.nat j hj) (loc_eq rfl))) rfl
        refine ⟨_, .next, _, _, rfl, (seq_next e3).trans ((seq_next (asgS_eq hE (loc_eq rfl) (loc_eq rfl) e4)).trans seq_nil), .inl rfl, _, _, ep', _, rfl, rfl, Nat.le_trans setL_le (Nat.succ_le_succ h1), fun i hi => ?_⟩
        by_cases hij : i = j
        · subst hij; exact lookup_setI
        · rw [lookup_setU (lt_ne F (by omega) hj hij)]; exact h2 i (by omega)
      cases hd : P.dec j with
      | true => exact fin (F.rea j hj hd) ((ite_t (cmp_eq (loc_eq rfl) (neg_eq kI_eq) eq_int)).trans (by unfold Pl.oth; rw [if_pos hd]; rfl))
      | false =>
        obtain ⟨num, r1, r2, _⟩ := F.rea2 j hj hd
        have nn : ((num : Int) == -1) = false := beq_eq_false_iff_ne.mpr (by omega)
        refine fin r1 ((ite_f (cmp_eq (loc_eq rfl) (neg_eq kI_eq) (eq_int.trans (congrArg some nn)))).trans ?_)
        unfold Pl.oth
        rw [if_neg (by rw [hd]; exact Bool.false_ne_true), ← cl_oth F hj]
        have hlen : (P.cl j).length ≤ 4000 := by
          have := bel_len (F.osn j hj) (F.osl j hj)
          unfold Pl.cl; rw [List.length_cons, List.length_map]; omega
        refine comp_lst (l := P.cl j) .int (fun y => !(y == P.lt j)) .int ?_ (fun y hy => ⟨_, rfl, and_t' (cmp_eq (loc_eq rfl) (loc_eq rfl) ne_int), fun _ => loc_eq rfl⟩) hlen
        rw [cv]; exact at_clause r2 (loc_eq rfl) (loc_eq rfl))
  rw [tr_len F] at hl
  exact ⟨ep, l, ret_of (mf := d_law_reasons) rfl rfl ((seq_next n1).trans ((seq_next e).trans (ret1 (loc_eq rfl)))), hl⟩
theorem os_len (F : Fx P c sd) (hi : i < P.n) : (P.os i).length ≤ 4000 := by
  have := bel_len (F.osn i hi) (F.osl i hi)
  have := F.n8
  omega
theorem lii_spec (F : Fx P c sd) (hi : i < P.n) : ∃ x : GO, mcall prog 64 (d + 2) f_law_is_implied [S1, .int (P.nl i), .lst ((M.map vr).map .int)] (inn [f] post c) = some (.bool (P.imp M i), inn [f] (post ++ [x]) c) := by
  obtain ⟨ep, l, e, hl⟩ := rs_spec (d := d) (f := f) (post := post) F
  refine ⟨.nd ep l, ?_⟩
  have nn : P.lt i = -P.nl i := (Int.neg_neg _).symm
  have hs := nd_sub (B := inn [f] post c) (ep := ep) (nn ▸ hl i hi)
  rw [inn_snoc] at hs e
  have e3 : mS (XD (d + 1)) (.asg 3 (.sub (.call f_law_reasons [(.loc 0)]) (.neg (.loc 1)))) [some S1, some (.int (P.nl i)), some (.lst ((M.map vr).map .int)), none] (inn [f] post c) = some (.next, [some S1, some (.int (P.nl i)), some (.lst ((M.map vr).map .int)), some (P.oth i)], inn [f] (post ++ [.nd ep l]) c) :=
    asg_eq (sub_eq (call_eq (es1 (loc_eq rfl)) e) (neg_eq (loc_eq rfl)) hs) rfl
  unfold Pl.imp
  unfold Pl.oth at e3
  cases hd : P.dec i with
  | true =>
    rw [hd, if_pos rfl] at e3
    exact ret_of (mf := d_law_is_implied) rfl rfl ((seq_next e3).trans (seq_stop ((if_t (cmp_eq (loc_eq rfl) kN_eq rfl)).trans (ret1 kB_eq)) (by intro q; cases q)))
  | false =>
    rw [hd, if_neg Bool.false_ne_true] at e3
    have cm := comp_lst (X := XD (d + 1)) (ρ := [some S1, some (.int (P.nl i)), some (.lst ((M.map vr).map .int)), some (.lst ((P.os i).map fun k => .int (P.nl k)))]) (G := inn [f] (post ++ [.nd ep l]) c) (k := 1) (elt := .loc 4) (src := .loc 3) (tgt := [4]) (one := true)
      (ifs := [(.and_ [(.cmp .gt (.sub (.attr (.loc 0) n_levels) (.blt .abs (.loc 4))) (.kI 0)), (.cmp .nin (.blt .abs (.loc 4)) (.loc 2))])]) (l := P.os i) (fun k => .int (P.nl k)) (fun k => !(P.lv k == 0) && !M.contains k) (fun k => .int (P.nl k)) (loc_eq rfl) (fun k hk => by
        have hk' := F.osl i hi k hk
        have hx : (P.nl k).natAbs = k + 1 := (Int.natAbs_neg _).trans (F.nat k (by omega))
        exact ⟨_, rfl, and_t' (and2_eq (cmp_eq (at_lev F (by omega : k < P.n) (loc_eq rfl) (abs_at hx (loc_eq rfl))) (kI_eq (i := 0)) gt_nat) (cmp_eq (abs_at hx (loc_eq rfl)) (loc_eq rfl) ((nin_lst _ _).trans (congrArg (fun b => some (!b)) vr_in)))), fun _ => loc_eq rfl⟩) (os_len F hi)
    have q := cmp_eq (o := .eq) cm (lstF_eq (G' := inn [f] (post ++ [.nd ep l]) c) es0) ((congrArg (fun v => cmpO _ .eq (.lst v) (.lst [])) (List.map_map (f := P.nl) (g := MV.int)).symm).trans (ceq_lst _ []))
    rw [nil_all] at q
    rw [show ((P.os i).all fun x => !(!(P.lv x == 0) && !M.contains x)) = (P.os i).all (P.free M) from congrArg _ (funext fun k => by unfold Pl.free; cases P.lv k == 0 <;> cases M.contains k <;> rfl)] at q
    exact ret_of (mf := d_law_is_implied) rfl rfl ((seq_next e3).trans ((seq_next ((if_f (cmp_eq (loc_eq rfl) kN_eq rfl)).trans seq_nil)).trans (ret1 q)))
end
end Mine.Law
end
section
set_option autoImplicit false
set_option linter.unusedVariables false
set_option linter.unusedSimpArgs false
set_option linter.unusedSectionVars false
set_option maxRecDepth 10000
namespace Mine.Law
noncomputable def down (n : Nat) (l : List Nat) : List Nat := ((List.range n).filter fun i => l.contains i).reverse
theorem mem_down {n : Nat} {l : List Nat} (b : Bel n l) {i : Nat} : i ∈ down n l ↔ i ∈ l := by
  unfold down
  rw [List.mem_reverse, List.mem_filter, List.contains_iff_mem, List.mem_range]
  exact ⟨fun h => h.2, fun h => ⟨b i h, h⟩⟩
theorem down_pw {n : Nat} {l : List Nat} : (down n l).Pairwise fun a b => b < a := List.pairwise_reverse.mpr (List.pairwise_lt_range.filter _)
theorem nodup_gt {l : List Nat} (h : l.Pairwise fun a b => b < a) : l.Nodup := h.imp fun h => Nat.ne_of_gt h
theorem sort_down {n : Nat} {l : List Nat} (nd : l.Nodup) (b : Bel n l) : l.mergeSort (fun a b => decide (b ≤ a)) = down n l := by
  refine List.Perm.eq_of_pairwise (le := fun a b => decide (b ≤ a) = true) (fun a b _ _ h1 h2 => Nat.le_antisymm (of_decide_eq_true h2) (of_decide_eq_true h1)) ?_ (down_pw.imp fun h => decide_eq_true (Nat.le_of_lt h)) ?_
  · exact List.pairwise_mergeSort (le := fun a b : Nat => decide (b ≤ a)) (fun a b c h1 h2 => decide_eq_true (Nat.le_trans (of_decide_eq_true h2) (of_decide_eq_true h1))) (fun a b => by simp only [Bool.or_eq_true, decide_eq_true_eq]; exact Nat.le_total b a) l
  · exact (List.mergeSort_perm l _).trans ((List.perm_ext_iff_of_nodup nd (nodup_gt down_pw)).mpr fun a => (mem_down b).symm)
theorem sort_keys {n : Nat} {l : List Nat} (nd : l.Nodup) (b : Bel n l) : (((l.map fun i : Nat => (i : Int)).zip (l.map vr)).mergeSort (fun p q => decide (q.1 ≤ p.1))).map (fun p => MV.int p.2) = ((down n l).map vr).map .int := by
  rw [List.zip_map', ← List.map_mergeSort (r := fun a b => decide (b ≤ a)) (fun a _ b _ => decide_eq_decide.mpr Int.ofNat_le.symm), sort_down nd b, List.map_map, List.map_map]
  rfl
section
variable {P : Pl} {c : Co} {sd : List (Int × MV)} {f : GO} {post : GH} {d : Nat} {M l : List Nat} {i j : Nat}
theorem so_spec (F : Fx P c sd) (hi : i < P.n) : mcall prog 64 (d + 1) f_Trail_spot_of [S1, .int (vr i)] (inn [f] post c) = some (.int (i : Int), inn [f] post c) :=
  ret_of (mf := d_Trail_spot_of) rfl rfl (ret1 (sub_eq (attr_eq (loc_eq rfl) (ac_spots [f] post c 64 _)) (loc_eq rfl) (sub_lst (g4 [f] post c) (F.sp i hi))))
theorem keys_all (F : Fx P c sd) : ∀ {l : List Nat}, Bel P.n l → keysO (fun v G => mcall prog 64 (d + 1) f_Trail_spot_of [S1, v] G) ((l.map vr).map .int) (inn [f] post c) = some (l.map fun i : Nat => (i : Int), inn [f] post c)
  | [], _ => rfl
  | i :: r, b => bnd (o := mcall prog 64 (d + 1) f_Trail_spot_of [S1, .int (vr i)] (inn [f] post c)) (so_spec F (b i (.head _))) (bnd (o := iInt (.int (i : Int))) rfl (mpp (keys_all F fun j hj => b j (.tail _ hj))))
theorem bs_spec (F : Fx P c sd) (nd : l.Nodup) (b : Bel P.n l) : mcall prog 64 (d + 2) f_Trail_by_spots [S1, .lst ((l.map vr).map .int)] (inn [f] post c) = some (.lst (((down P.n l).map vr).map .int), inn [f] post c) := by
  have h8 := F.n8
  have hl := bel_len nd b
  have nk : (l.map fun i : Nat => (i : Int)).Nodup := nodup_on (g := Int.toNat) (fun x _ => rfl) nd
  have e : mE (XD (d + 1)) (.srtK (.loc 1) (.loc 0) n_spot_of) [some S1, some (.lst ((l.map vr).map .int))] (inn [f] post c) = some (.lst ((((l.map fun i : Nat => (i : Int)).zip (l.map vr)).mergeSort (fun p q => decide (q.1 ≤ p.1))).map (fun p => MV.int p.2)), inn [f] post c) := by
    refine bnd (o := mE (XD (d + 1)) (.loc 1) _ _) (loc_eq rfl) (bnd (o := mE (XD (d + 1)) (.loc 0) _ _) (loc_eq rfl) (bnd (o := iObj S1) rfl (bnd (o := mthO (XD (d + 1)) _ n_spot_of c_Search 1) (a := f_Trail_spot_of) (bnd (by decide +kernel : pMth c_Search n_spot_of = some f_Trail_spot_of) (bnd (hS_of (g0 [f] post c)) (if_pos rfl))) (bnd (o := (lsO _ (.lst ((l.map vr).map .int))).bind intsO) (intsO_map _) ?_))))
    rw [if_pos (by rw [List.length_map]; omega)]
    exact bnd (keys_all F b) (if_pos nk)
  rw [sort_keys nd b] at e
  exact ret_of (mf := d_Trail_by_spots) rfl rfl (ret1 e)
end
end Mine.Law
end
section
set_option autoImplicit false
set_option linter.unusedVariables false
set_option linter.unusedSimpArgs false
set_option linter.unusedSectionVars false
set_option maxRecDepth 10000
namespace Mine.Law
noncomputable def Pl.add (P : Pl) (M R : List Nat) (j : Nat) : List Nat := if (P.lv j == 0 && !(M ++ R).contains j) = true then R ++ [j] else R
noncomputable def Pl.adds (P : Pl) (M R : List Nat) (i : Nat) : List Nat := (P.os i).foldl (P.add M) R
structure RI (P : Pl) (M R : List Nat) : Prop where
  nd : R.Nodup
  bel : Bel P.n R
  lv : ∀ j ∈ R, P.lv j = 0
  out : ∀ j ∈ R, j ∉ M
theorem not_mem_of {l : List Nat} {j : Nat} (h : (!l.contains j) = true) : j ∉ l := fun q => by rw [List.contains_iff_mem.mpr q] at h; cases h
theorem RI.nil {P : Pl} {M : List Nat} : RI P M [] := ⟨List.nodup_nil, nofun, nofun, nofun⟩
theorem RI.add {P : Pl} {M R : List Nat} {j : Nat} (I : RI P M R) (hj : j < P.n) : RI P M (P.add M R j) := by
  unfold Pl.add
  by_cases h : (P.lv j == 0 && !(M ++ R).contains j) = true
  · rw [if_pos h]
    obtain ⟨h1, h2⟩ := Bool.and_eq_true_iff.mp h
    have h3 := not_mem_of h2
    have on : ∀ {Q : Nat → Prop}, (∀ x ∈ R, Q x) → Q j → ∀ x ∈ R ++ [j], Q x := fun a b x hx => (List.mem_append.mp hx).elim (a x) fun q => List.mem_singleton.mp q ▸ b
    refine ⟨List.nodup_append.mpr ⟨I.nd, List.nodup_cons.mpr ⟨nofun, List.nodup_nil⟩, fun a ha b hb e => h3 (List.mem_append_right _ ?_)⟩, on I.bel hj, on I.lv (eq_of_beq h1), on I.out fun q => h3 (List.mem_append_left _ q)⟩
    rw [← List.mem_singleton.mp hb, ← e]; exact ha
  · rw [if_neg h]; exact I
theorem RI.fold {P : Pl} {M : List Nat} : ∀ {l R : List Nat}, RI P M R → Bel P.n l → RI P M (l.foldl (P.add M) R)
  | [], _, I, _ => I
  | x :: r, _, I, b => RI.fold (l := r) (I.add (b x (.head _))) fun y hy => b y (.tail _ hy)
theorem RI.adds {P : Pl} {M R : List Nat} {i : Nat} {c : Co} {sd : List (Int × MV)} (I : RI P M R) (F : Fx P c sd) (hi : i < P.n) : RI P M (P.adds M R i) := I.fold fun j hj => Nat.lt_trans (F.osl i hi j hj) hi
theorem RI.all {P : Pl} {M : List Nat} {c : Co} {sd : List (Int × MV)} (F : Fx P c sd) : ∀ {l R : List Nat}, RI P M R → Bel P.n l → RI P M (l.foldl (P.adds M) R)
  | [], _, I, _ => I
  | x :: r, _, I, b => RI.all (l := r) F (I.adds F (b x (.head _))) fun y hy => b y (.tail _ hy)
theorem fold_take {α β : Type} {g : β → α → β} {a : β} {l : List α} {j : Nat} {x : α} (h : l[j]? = some x) : (l.take (j + 1)).foldl g a = g ((l.take j).foldl g a) x := by
  rw [List.take_add_one, h, List.foldl_append]; rfl
theorem Sn.add {n : Nat} {S : List Bool} {M : List Nat} {j : Nat} (h : Sn n S M) (hj : j < n) : Sn n (S.set (j + 1) true) (M ++ [j]) := by
  refine ⟨(List.length_set ..).trans h.len, fun i hi => ?_⟩
  rw [List.getElem?_set, h.at' i hi]
  by_cases e : j = i
  · subst e
    rw [if_pos rfl, if_pos (by rw [h.len]; omega), List.contains_iff_mem.mpr (List.mem_append_right M (.head _))]
  · rw [if_neg (by omega)]
    congr 1
    rw [Bool.eq_iff_iff, List.contains_iff_mem, List.contains_iff_mem, List.mem_append, List.mem_singleton]
    exact ⟨.inl, fun q => q.elim id fun q => absurd q.symm e⟩
section
variable {P : Pl} {c : Co} {sd : List (Int × MV)} {f g0 : GO} {junk : GH} {d : Nat} {M : List Nat} {i j : Nat} {r0 pr : List MV}
theorem Fx.seen (F : Fx P c sd) (S : List Bool) : Fx P { c with seen := S } sd := ⟨F.n8, F.nat, F.osn, F.osl, F.tr, F.lev, F.sp, F.rea, F.rea2, F.sdv, F.sdl, F.al⟩
noncomputable abbrev HS (f g0 : GO) (junk : GH) (c : Co) (r p : List MV) (S : List Bool) : GH := inn [f] (g0 :: .lst r :: .lst p :: junk) { c with seen := S }
noncomputable abbrev shE (v v4 v5 : MV) (y6 y7 y8 : Option MV) : Lo := [some S1, some v, some (.ref 23), some (.ref 24), some v4, some v5, y6, y7, y8]
noncomputable def shI : List MS := [.ifS (.and_ [(.cmp .eq (.sub (.attr (.loc 0) n_levels) (.blt .abs (.loc 8))) (.kI 0)), (.no (.truth (.sub (.attr (.loc 0) n_seen) (.blt .abs (.loc 8)))))]) [.asgS (.attr (.loc 0) n_seen) (.blt .abs (.loc 8)) (.kB true), .expr (.app (.loc 2) (.blt .abs (.loc 8)))] []]
theorem eq_nat0 {G : GH} {n : Nat} : cmpO G .eq (.int (n : Int)) (.int 0) = some (n == 0) := eq_int.trans (congrArg some (by
  rcases Nat.eq_zero_or_pos n with h | h
  · subst h; rfl
  · rw [beq_eq_false_iff_ne.mpr (Nat.ne_of_gt h)]; exact beq_eq_false_iff_ne.mpr (by omega)))
noncomputable def noted (r0 : List MV) (R : List Nat) : List MV := r0 ++ (R.map vr).map .int
theorem sh_in (F : Fx P c sd) (h0 : r0.length ≤ 1000) {v v4 v5 : MV} {y6 y7 y8 : Option MV} {S : List Bool} {R : List Nat} (N : Sn P.n S (M ++ R)) (I : RI P M R) (hj : j < P.n) {y : Int} (hy : y.natAbs = j + 1) :
    ∃ S', mSs (XD d) shI (shE v v4 v5 y6 y7 (some (.int y))) (HS f g0 junk c (noted r0 R) pr S) = some (.next, shE v v4 v5 y6 y7 (some (.int y)), HS f g0 junk c (noted r0 (P.add M R j)) pr S') ∧ Sn P.n S' (M ++ P.add M R j) := by
  have h8 := F.n8
  have ay : ∀ G : GH, mE (XD d) (.blt .abs (.loc 8)) (shE v v4 v5 y6 y7 (some (.int y))) G = some (.int ((j + 1 : Nat) : Int), G) := fun G => abs_at hy (loc_eq rfl)
  have t := and2_eq (cmp_eq (o := .eq) (at_lev (d := d) (ce := .loc 0) (f := f) (post := g0 :: .lst (noted r0 R) :: .lst pr :: junk) (ρ := shE v v4 v5 y6 y7 (some (.int y))) (F.seen S) hj (loc_eq rfl) (ay _)) (kI_eq (i := 0)) eq_nat0) (no_eq (tr_eq (at_seen (ce := .loc 0) N hj (loc_eq rfl) (ay _))))
  unfold Pl.add
  by_cases h : (P.lv j == 0 && !(M ++ R).contains j) = true
  · rw [h] at t
    rw [if_pos h]
    have hl : (noted r0 R).length < 4096 := by
      have := bel_len I.nd I.bel
      unfold noted; rw [List.length_append, List.length_map, List.length_map]; omega
    have a1 : mS (XD d) (.asgS (.attr (.loc 0) n_seen) (.blt .abs (.loc 8)) (.kB true)) (shE v v4 v5 y6 y7 (some (.int y))) (HS f g0 junk c (noted r0 R) pr S) = some (.next, shE v v4 v5 y6 y7 (some (.int y)), HS f g0 junk c (noted r0 R) pr (S.set (j + 1) true)) :=
      asgS_eq kB_eq (attr_eq (loc_eq rfl) (ac_seen [f] _ _ 64 _)) (ay _) (set_seen (pre := [f]) (c := { c with seen := S }) (by show j + 1 < S.length; rw [N.len]; omega))
    have a2 : mE (XD d) (.app (.loc 2) (.blt .abs (.loc 8))) (shE v v4 v5 y6 y7 (some (.int y))) (HS f g0 junk c (noted r0 R) pr (S.set (j + 1) true)) = some (.none, HS f g0 junk c (noted r0 (R ++ [j])) pr (S.set (j + 1) true)) :=
      app_eq (loc_eq rfl) rfl (ay _) (by
        refine (app_lst (l := noted r0 R) rfl hl).trans (congrArg some ?_)
        unfold noted
        rw [List.map_append, List.map_append, ← List.append_assoc]
        rfl)
    exact ⟨S.set (j + 1) true, (seq_next ((if_t t).trans ((seq_next a1).trans ((seq_next (expr_eq a2)).trans seq_nil)))).trans seq_nil, by rw [← List.append_assoc]; exact N.add hj⟩
  · rw [Bool.eq_false_iff.mpr h] at t
    rw [if_neg h]
    exact ⟨S, (seq_next ((if_f t).trans seq_nil)).trans seq_nil, N⟩
theorem sh_clause (F : Fx P c sd) (h0 : r0.length ≤ 1000) {v v4 v5 : MV} {y6 y7 y8 : Option MV} {S : List Bool} {R : List Nat} (N : Sn P.n S (M ++ R)) (I : RI P M R) (hi : i < P.n) (hv : P.lv i ≠ 0) {src : ME} (hs : mE (XD d) src (shE v v4 v5 y6 y7 y8) (HS f g0 junk c (noted r0 R) pr S) = some (clV (P.cl i), HS f g0 junk c (noted r0 R) pr S)) :
    ∃ (y8' : Option MV) (S' : List Bool), mS (XD d) (.forS [8] true .vals [src] shI) (shE v v4 v5 y6 y7 y8) (HS f g0 junk c (noted r0 R) pr S) = some (.next, shE v v4 v5 y6 y7 y8', HS f g0 junk c (noted r0 (P.adds M R i)) pr S') ∧ Sn P.n S' (M ++ P.adds M R i) := by
  obtain ⟨ρ', G', e, y8', S', rfl, rfl, q, _⟩ := for_inv (X := XD d) (ρ := shE v v4 v5 y6 y7 y8) (tgt := [8]) (one := true) (b := shI) (l := (P.cl i).map .int) (fun k ρ G => ∃ (y8' : Option MV) (S' : List Bool), ρ = shE v v4 v5 y6 y7 y8' ∧ G = HS f g0 junk c (noted r0 (((P.cl i).take k).foldl (fun R y => P.add M R (y.natAbs - 1)) R)) pr S' ∧ Sn P.n S' (M ++ ((P.cl i).take k).foldl (fun R y => P.add M R (y.natAbs - 1)) R) ∧ RI P M (((P.cl i).take k).foldl (fun R y => P.add M R (y.natAbs - 1)) R)) (es1 hs) so_lst ⟨y8, S, rfl, rfl, N, I⟩ (fun k w ρ G hw q => by
    obtain ⟨y8', S', rfl, rfl, N', I'⟩ := q
    rw [List.getElem?_map] at hw
    obtain ⟨y, hy, rfl⟩ := Option.map_eq_some_iff.mp hw
    obtain ⟨j, hj, hyj⟩ := cl_nat F hi y (List.mem_of_getElem? hy)
    rw [fold_take hy, show y.natAbs - 1 = j by omega]
    obtain ⟨S'', e, N''⟩ := sh_in (d := d) (f := f) (g0 := g0) (junk := junk) (pr := pr) (v := v) (v4 := v4) (v5 := v5) (y6 := y6) (y7 := y7) (y8 := y8') F h0 N' I' hj hyj
    exact ⟨_, .next, _, _, rfl, e, .inl rfl, _, S'', rfl, rfl, N'', I'.add hj⟩)
  have ef : ((P.cl i).take ((P.cl i).map MV.int).length).foldl (fun R y => P.add M R (y.natAbs - 1)) R = P.adds M R i := by
    rw [List.length_map, List.take_length]
    unfold Pl.cl Pl.adds
    rw [List.foldl_cons, List.foldl_map, show P.add M R ((P.lt i).natAbs - 1) = R by unfold Pl.add; rw [F.nat i hi, Nat.add_sub_cancel, beq_eq_false_iff_ne.mpr hv]; rfl]
    have hc : ∀ (l R : List Nat), Bel P.n l → l.foldl (fun R j => P.add M R ((P.nl j).natAbs - 1)) R = l.foldl (P.add M) R := fun l => by
      induction l with
      | nil => exact fun _ _ => rfl
      | cons x r ih =>
        intro R b
        rw [List.foldl_cons, List.foldl_cons, ih _ fun y hy => b y (.tail _ hy), show (P.nl x).natAbs - 1 = x by rw [show (P.nl x).natAbs = x + 1 from (Int.natAbs_neg _).trans (F.nat x (b x (.head _)))]; rfl]
    exact hc _ _ fun j hj => Nat.lt_trans (F.osl i hi j hj) hi
  rw [ef] at e q
  exact ⟨y8', S', e, q⟩
noncomputable def prV (P : Pl) (i : Nat) : MV := .tup [.int (vr i), .int (P.st i)]
theorem sh_spec (F : Fx P c sd) (N : Sn P.n c.seen M) (h0 : r0.length ≤ 1000) {lot : List Nat} (nd : lot.Nodup) (b : Bel P.n lot) (hv : ∀ i ∈ lot, P.lv i ≠ 0) :
    ∃ S', mcall prog 64 (d + 3) f_Search_shortened [S1, .lst (lot.map fun i => .int (P.nl i)), .ref 23, .ref 24] (HS f g0 junk c r0 [] c.seen) = some (.lst ((lot.filter fun i => !P.imp M i).map fun i => .int (P.nl i)), HS f g0 junk c (noted r0 ((down P.n (lot.filter (P.imp M))).foldl (P.adds M) [])) ((down P.n (lot.filter (P.imp M))).map (prV P)) S') ∧ Sn P.n S' (M ++ (down P.n (lot.filter (P.imp M))).foldl (P.adds M) []) := by
  have h8 := F.n8
  have hll := bel_len nd b
  have ii : ∀ {ρ : Lo} {i : Nat}, i < P.n → ρ[0]? = some (some S1) → ρ[9]? = some (some (.int (P.nl i))) → mE (XD (d + 2)) (.truth (.meth (.loc 0) n_is_implied [(.loc 9)])) ρ (HS f g0 junk c r0 [] c.seen) = some (.bool (P.imp M i), HS f g0 junk c r0 [] c.seen) := fun {ρ i} hi h1 h2 =>
    tr_eq ((mc (X := XD (d + 2)) (pre := [f]) (m := n_is_implied) (f := f_Search_is_implied) (by decide +kernel : pMth c_Search n_is_implied = some f_Search_is_implied) rfl (loc_eq h1) (es1 (loc_eq h2))).trans (ii_spec (d := d + 1) F N hi))
  have e4 := comp_lst (X := XD (d + 2)) (ρ := [some S1, some (.lst (lot.map fun i => .int (P.nl i))), some (.ref 23), some (.ref 24), none, none, none, none, none]) (G := HS f g0 junk c r0 [] c.seen) (k := 1) (elt := .loc 9) (src := .loc 1) (tgt := [9]) (one := true) (ifs := [(.no (.truth (.meth (.loc 0) n_is_implied [(.loc 9)])))]) (l := lot) (fun i => .int (P.nl i)) (fun i => !P.imp M i) (fun i => .int (P.nl i)) (loc_eq rfl) (fun i hi => ⟨_, rfl, and_t' (no_eq (ii (b i hi) rfl rfl)), fun _ => loc_eq rfl⟩) (by omega)
  have e5 := comp_lst (X := XD (d + 2)) (ρ := [some S1, some (.lst (lot.map fun i => .int (P.nl i))), some (.ref 23), some (.ref 24), some (.lst ((lot.filter fun i => !P.imp M i).map fun i => .int (P.nl i))), none, none, none, none]) (G := HS f g0 junk c r0 [] c.seen) (k := 1) (elt := .blt .abs (.loc 9)) (src := .loc 1) (tgt := [9]) (one := true) (ifs := [(.truth (.meth (.loc 0) n_is_implied [(.loc 9)]))]) (l := lot) (fun i => .int (P.nl i)) (P.imp M) (fun i => .int (vr i)) (loc_eq rfl) (fun i hi => ⟨_, rfl, and_t' (ii (b i hi) rfl rfl), fun _ => abs_at ((Int.natAbs_neg _).trans (F.nat i (b i hi))) (loc_eq rfl)⟩) (by omega)
  generalize hgn : lot.filter (P.imp M) = gn at e5
  generalize hk : MV.lst ((lot.filter fun i => !P.imp M i).map fun i => .int (P.nl i)) = kept at e4 e5
  rw [show (gn.map fun i => MV.int (vr i)) = (gn.map vr).map .int from (List.map_map ..).symm] at e5
  have gnd : gn.Nodup := hgn ▸ nd.sublist List.filter_sublist
  have gb : Bel P.n gn := fun i hi => b i (by rw [← hgn] at hi; exact (List.mem_filter.mp hi).1)
  have gm : ∀ i ∈ down P.n gn, i < P.n ∧ P.lv i ≠ 0 ∧ P.dec i = false := fun i hi => by
    have hi := (mem_down gb).mp hi
    rw [← hgn] at hi
    obtain ⟨h1, h2⟩ := List.mem_filter.mp hi
    exact ⟨b i h1, hv i h1, by unfold Pl.imp at h2; cases hd : P.dec i with | false => rfl | true => rw [hd] at h2; cases h2⟩
  generalize hrest : MV.lst (lot.map fun i => .int (P.nl i)) = rest at e4 e5
  have es : mE (XD (d + 2)) (.meth (.loc 0) n_by_spots [(.loc 5)]) (shE rest kept (.lst ((gn.map vr).map .int)) none none none) (HS f g0 junk c r0 [] c.seen) = some (.lst ((down P.n gn).map fun i => .int (vr i)), HS f g0 junk c r0 [] c.seen) :=
    ((mc (X := XD (d + 2)) (pre := [f]) (m := n_by_spots) (f := f_Trail_by_spots) (by decide +kernel : pMth c_Search n_by_spots = some f_Trail_by_spots) rfl (loc_eq rfl) (es1 (loc_eq rfl))).trans (bs_spec (d := d) F gnd gb)).trans (by rw [List.map_map]; rfl)
  have hdl : (down P.n gn).length ≤ 8 := Nat.le_trans (bel_len (nodup_gt down_pw) fun i hi => (gm i hi).1) h8
  generalize down P.n gn = dn at es gm hdl ⊢
  obtain ⟨ρ', G', e, y6, y7, y8, S', rfl, rfl, q, _⟩ := for_inv (X := XD (d + 2)) (ρ := shE rest kept (.lst ((gn.map vr).map .int)) none none none) (tgt := [6]) (one := true) (l := dn.map fun i => .int (vr i))
    (b := [.asg 7 (.sub (.attr (.loc 0) n_reasons) (.loc 6)), .expr (.app (.loc 3) (.tup [(.loc 6), (.sub (.attr (.loc 0) n_steps) (.loc 7))])), .forS [8] true .vals [(.sub (.attr (.loc 0) n_clauses) (.loc 7))] shI])
    (fun k ρ G => ∃ (y6 y7 y8 : Option MV) (S' : List Bool), ρ = shE rest kept (.lst ((gn.map vr).map .int)) y6 y7 y8 ∧ G = HS f g0 junk c (noted r0 ((dn.take k).foldl (P.adds M) [])) ((dn.take k).map (prV P)) S' ∧ Sn P.n S' (M ++ (dn.take k).foldl (P.adds M) []) ∧ RI P M ((dn.take k).foldl (P.adds M) [])) (es1 es) so_lst ⟨none, none, none, c.seen, rfl, by unfold noted; simp, by simpa using N, RI.nil⟩ (fun k w ρ G hw q => by
    obtain ⟨y6, y7, y8, S', rfl, rfl, N', I'⟩ := q
    rw [List.getElem?_map] at hw
    obtain ⟨i, hi, rfl⟩ := Option.map_eq_some_iff.mp hw
    obtain ⟨hin, hlv, hdc⟩ := gm i (List.mem_of_getElem? hi)
    obtain ⟨num, r1, r2, r3, _⟩ := F.rea2 i hin hdc
    have hk : k < dn.length := (List.getElem?_eq_some_iff.mp hi).1
    rw [fold_take hi, List.take_add_one, hi]
    have a7 : mS (XD (d + 2)) (.asg 7 (.sub (.attr (.loc 0) n_reasons) (.loc 6))) (shE rest kept (.lst ((gn.map vr).map .int)) (some (.int (vr i))) y7 y8) (HS f g0 junk c (noted r0 ((dn.take k).foldl (P.adds M) [])) ((dn.take k).map (prV P)) S') = some (.next, shE rest kept (.lst ((gn.map vr).map .int)) (some (.int (vr i))) (some (.int (num : Int))) y8, HS f g0 junk c (noted r0 ((dn.take k).foldl (P.adds M) [])) ((dn.take k).map (prV P)) S') :=
      asg_eq (at_reason (c := { c with seen := S' }) r1 (loc_eq rfl) (loc_eq rfl)) rfl
    have ap : mE (XD (d + 2)) (.app (.loc 3) (.tup [(.loc 6), (.sub (.attr (.loc 0) n_steps) (.loc 7))])) (shE rest kept (.lst ((gn.map vr).map .int)) (some (.int (vr i))) (some (.int (num : Int))) y8) (HS f g0 junk c (noted r0 ((dn.take k).foldl (P.adds M) [])) ((dn.take k).map (prV P)) S') = some (.none, HS f g0 junk c (noted r0 ((dn.take k).foldl (P.adds M) [])) ((dn.take k).map (prV P) ++ [prV P i]) S') :=
      app_eq (loc_eq rfl) rfl (tup_eq (es2 (loc_eq rfl) (sub_eq (attr_eq (loc_eq rfl) (ac_steps [f] _ _ 64 _)) (loc_eq rfl) (sub_lst (g16 [f] _ _) r3)))) ((app_lst (l := (dn.take k).map (prV P)) rfl (by rw [List.length_map, List.length_take]; omega)).trans rfl)
    obtain ⟨y8', S'', e, N''⟩ := sh_clause (d := d + 2) (f := f) (g0 := g0) (junk := junk) (pr := (dn.take k).map (prV P) ++ [prV P i]) (v := rest) (v4 := kept) (v5 := .lst ((gn.map vr).map .int)) (y6 := some (.int (vr i))) (y7 := some (.int (num : Int))) (y8 := y8) (src := .sub (.attr (.loc 0) n_clauses) (.loc 7)) F h0 N' I' hin hlv (at_clause (c := { c with seen := S' }) r2 (loc_eq rfl) (loc_eq rfl))
    refine ⟨_, .next, _, _, rfl, (seq_next a7).trans ((seq_next (expr_eq ap)).trans ((seq_next e).trans seq_nil)), .inl rfl, _, _, y8', S'', rfl, ?_, N'', I'.adds F hin⟩
    rw [List.map_append]; rfl)
  rw [List.length_map, List.take_length] at e q
  subst hrest hk
  exact ⟨S', ret_of (mf := d_Search_shortened) rfl rfl ((seq_next (asg_eq e4 rfl)).trans ((seq_next (asg_eq e5 rfl)).trans ((seq_next e).trans (ret1 (loc_eq rfl))))), q⟩
end
end Mine.Law
end
section
set_option autoImplicit false
set_option linter.unusedVariables false
set_option linter.unusedSimpArgs false
set_option linter.unusedSectionVars false
set_option maxRecDepth 10000
namespace Mine.Law
noncomputable def Pl.res (P : Pl) (here : List Nat) (i : Nat) : List Nat := (here.filter fun k => !(k == i)) ++ (P.os i).filter fun k => !(here.filter fun k => !(k == i)).contains k
structure RZ (P : Pl) (M start done here : List Nat) : Prop where
  nd : here.Nodup
  bel : Bel P.n here
  up : here.filter (fun j => !(P.lv j == 0)) = start.filter fun j => !done.contains j
  lo : here.filter (fun j => P.lv j == 0 && !M.contains j) = done.foldl (P.adds M) []
theorem add_all {P : Pl} {M : List Nat} : ∀ {l R : List Nat}, l.Nodup → l.foldl (P.add M) R = R ++ l.filter fun j => P.lv j == 0 && !(M ++ R).contains j
  | [], R, _ => (List.append_nil R).symm
  | x :: r, R, nd => by
    obtain ⟨h1, h2⟩ := List.nodup_cons.mp nd
    rw [List.foldl_cons, add_all h2, List.filter_cons]
    unfold Pl.add
    by_cases h : (P.lv x == 0 && !(M ++ R).contains x) = true
    · rw [if_pos h, if_pos h, List.append_assoc]
      refine congrArg (fun l => R ++ ([x] ++ l)) (List.filter_congr fun j hj => ?_)
      have : (M ++ (R ++ [x])).contains j = (M ++ R).contains j := by
        rw [Bool.eq_iff_iff, List.contains_iff_mem, List.contains_iff_mem, ← List.append_assoc, List.mem_append, List.mem_singleton]
        exact ⟨fun q => q.elim id fun e => absurd (e ▸ hj) h1, .inl⟩
      rw [this]
    · rw [if_neg h, if_neg h]
theorem con_or {α : Type} [BEq α] [LawfulBEq α] {l r : List α} {x : α} : (l ++ r).contains x = (l.contains x || r.contains x) := by
  rw [Bool.eq_iff_iff, Bool.or_eq_true, List.contains_iff_mem, List.contains_iff_mem, List.contains_iff_mem, List.mem_append]
theorem mem_con {l : List Nat} {x : Nat} (h : x ∈ l) : l.contains x = true := List.contains_iff_mem.mpr h
theorem not_con {l : List Nat} {x : Nat} (h : x ∉ l) : l.contains x = false := Bool.eq_false_iff.mpr fun q => h (List.contains_iff_mem.mp q)
section
variable {P : Pl} {c : Co} {sd : List (Int × MV)} {M start done here : List Nat} {i : Nat}
theorem RZ.mem (Z : RZ P M start done here) (hi : i ∈ start) (hd : i ∉ done) : i ∈ here ∧ P.lv i ≠ 0 := by
  have : i ∈ here.filter fun j => !(P.lv j == 0) := by
    rw [Z.up]; exact List.mem_filter.mpr ⟨hi, by rw [not_con hd]; rfl⟩
  obtain ⟨h1, h2⟩ := List.mem_filter.mp this
  exact ⟨h1, fun q => by rw [q] at h2; cases h2⟩
theorem RZ.step (Z : RZ P M start done here) (F : Fx P c sd) (hM : ∀ j ∈ M, P.lv j ≠ 0 → j ∈ start) (hi : i ∈ start) (hin : i < P.n) (hd : ∀ x ∈ done, i < x) (hf : (P.os i).all (P.free M) = true) : RZ P M start (done ++ [i]) (P.res here i) := by
  have hid : i ∉ done := fun q => Nat.lt_irrefl _ (hd i q)
  obtain ⟨_, hlv⟩ := Z.mem hi hid
  have m1 : ∀ {j : Nat}, j ∈ here.filter (fun k => !(k == i)) ↔ j ∈ here ∧ j ≠ i := fun {j} => by
    rw [List.mem_filter, Bool.not_eq_true', beq_eq_false_iff_ne]
  have n1 : (here.filter fun k => !(k == i)).Nodup := Z.nd.sublist List.filter_sublist
  unfold Pl.res
  generalize hh : here.filter (fun k => !(k == i)) = h1 at m1 n1
  refine ⟨List.nodup_append.mpr ⟨n1, (F.osn i hin).sublist List.filter_sublist, fun a ha b hb e => ?_⟩, fun j hj => ?_, ?_, ?_⟩
  · subst e
    exact not_mem_of (List.mem_filter.mp hb).2 ha
  · rcases List.mem_append.mp hj with q | q
    · exact Z.bel j (m1.mp q).1
    · exact Nat.lt_trans (F.osl i hin j (List.mem_filter.mp q).1) hin
  · have e2 : ((P.os i).filter fun k => !h1.contains k).filter (fun j => !(P.lv j == 0)) = [] := List.filter_eq_nil_iff.mpr fun j hj q => by
      obtain ⟨h3, h4⟩ := List.mem_filter.mp hj
      have h5 : P.lv j ≠ 0 := fun e => by rw [e] at q; cases q
      have h6 := List.all_eq_true.mp hf j h3
      unfold Pl.free at h6
      rw [beq_eq_false_iff_ne.mpr h5, Bool.false_or] at h6
      have h7 := F.osl i hin j h3
      exact not_mem_of h4 (m1.mpr ⟨(Z.mem (hM j (List.contains_iff_mem.mp h6) h5) fun q => by have := hd j q; omega).1, by omega⟩)
    have e3 : (here.filter fun k => !(k == i)).filter (fun j => !(P.lv j == 0)) = (here.filter fun j => !(P.lv j == 0)).filter fun k => !(k == i) := by
      rw [List.filter_filter, List.filter_filter]
      exact List.filter_congr fun x _ => Bool.and_comm _ _
    rw [List.filter_append, e2, List.append_nil, ← hh, e3, Z.up, List.filter_filter]
    refine List.filter_congr fun j _ => ?_
    rw [con_or, Bool.not_or, Bool.and_comm]
    congr 2
    rw [List.contains_cons]; cases j == i <;> rfl
  · rw [List.filter_append, List.foldl_append]
    show _ = P.adds M (done.foldl (P.adds M) []) i
    unfold Pl.adds
    rw [add_all (F.osn i hin), List.filter_filter]
    have ne : ∀ {j : Nat}, P.lv j = 0 → j ≠ i := fun h e => hlv (e ▸ h)
    refine congr (congrArg _ ?_) ?_
    · refine Eq.trans ?_ Z.lo
      rw [← hh, List.filter_filter]
      refine List.filter_congr fun j _ => ?_
      by_cases h : P.lv j = 0
      · rw [beq_eq_false_iff_ne.mpr (ne h)]; exact Bool.and_true _
      · rw [beq_eq_false_iff_ne.mpr h]; rfl
    · refine List.filter_congr fun j _ => ?_
      by_cases h : P.lv j = 0
      · rw [h, con_or]
        cases hm : M.contains j with
        | true => rfl
        | false =>
          have : h1.contains j = (done.foldl (P.adds M) []).contains j := by
            rw [Bool.eq_iff_iff, List.contains_iff_mem, List.contains_iff_mem, m1]
            have : j ∈ here.filter (fun j => P.lv j == 0 && !M.contains j) ↔ j ∈ done.foldl (P.adds M) [] := by rw [Z.lo]
            rw [← this, List.mem_filter, h, hm]
            exact ⟨fun q => ⟨q.1, rfl⟩, fun q => ⟨q.1, ne h⟩⟩
          rw [this]; rfl
      · rw [beq_eq_false_iff_ne.mpr h]; rfl
end
end Mine.Law
end
section
set_option autoImplicit false
set_option linter.unusedVariables false
set_option linter.unusedSimpArgs false
set_option linter.unusedSectionVars false
set_option maxRecDepth 10000
namespace Mine.Law
theorem one_of {i : Nat} : ∀ {l : List Nat}, l.Nodup → i ∈ l → l.filter (fun k => k == i) = [i]
  | x :: r, nd, h => by
    obtain ⟨h1, h2⟩ := List.nodup_cons.mp nd
    rw [List.filter_cons]
    rcases List.mem_cons.mp h with rfl | h
    · rw [beq_self_eq_true, if_pos rfl, List.filter_eq_nil_iff.mpr fun (y : Nat) hy (q : (y == i) = true) => h1 ((eq_of_beq q : y = i) ▸ hy)]
    · rw [beq_eq_false_iff_ne.mpr fun (e : x = i) => h1 (e ▸ h)]; exact one_of h2 h
theorem get_eq {X : Ctx} {ρ : Lo} {G : GH} {e a b : ME} {v w x : MV} {k : Int} (h : mE X e ρ G = some (v, G)) (hn : isNd G v = true) (h2 : mE X a ρ G = some (.int k, G)) (h3 : mE X b ρ G = some (w, G)) (h4 : getO G v (.int k) w = some x) : mE X (.get e a b) ρ G = some (x, G) :=
  bnd (o := mE X e ρ G) h ((if_pos hn).trans (bnd h2 (bnd h3 (mpp h4))))
section
variable {P : Pl} {c : Co} {sd : List (Int × MV)} {f : GO} {junk : GH} {ep d : Nat} {M start done here dn L : List Nat} {i j k : Nat} {r : List MV}
theorem nl_nat (F : Fx P c sd) (hk : k < P.n) : (P.nl k).natAbs = k + 1 := (Int.natAbs_neg _).trans (F.nat k hk)
theorem nl_inj (F : Fx P c sd) (hk : k < P.n) (hi : i < P.n) (h : P.nl k = P.nl i) : k = i := by
  have := nl_nat F hk
  rw [h, nl_nat F hi] at this
  omega
theorem nl_beq (F : Fx P c sd) (hk : k < P.n) (hi : i < P.n) : (P.nl k == P.nl i) = (k == i) := by
  by_cases h : k = i
  · subst h; rw [beq_self_eq_true, beq_self_eq_true]
  · rw [beq_eq_false_iff_ne.mpr h]; exact beq_eq_false_iff_ne.mpr fun q => h (nl_inj F hk hi q)
theorem vr_beq : (((k + 1 : Nat) : Int) == vr i) = (k == i) := by
  unfold vr
  by_cases h : k = i
  · subst h; rw [beq_self_eq_true, beq_self_eq_true]
  · rw [beq_eq_false_iff_ne.mpr h]; exact beq_eq_false_iff_ne.mpr (by omega)
theorem nl_con (F : Fx P c sd) (b : Bel P.n L) (hk : k < P.n) : (L.map P.nl).contains (P.nl k) = L.contains k := by
  rw [Bool.eq_iff_iff, List.contains_iff_mem, List.contains_iff_mem, List.mem_map]
  exact ⟨fun ⟨j, hj, e⟩ => nl_inj F (b j hj) hk e ▸ hj, fun h => ⟨k, h, rfl⟩⟩
theorem nlm : (L.map P.nl).map MV.int = L.map fun i => .int (P.nl i) := List.map_map ..
theorem cl_new (F : Fx P c sd) (hi : i < P.n) (b : Bel P.n L) : ((P.cl i).filter fun y => !(y == P.lt i) && !(L.map P.nl).contains y).map MV.int = ((P.os i).filter fun k => !L.contains k).map fun i => .int (P.nl i) := by
  unfold Pl.cl
  rw [List.filter_cons_of_neg (by rw [beq_self_eq_true]; exact Bool.false_ne_true), List.filter_map, ← nlm]
  refine congrArg (fun l => (List.map P.nl l).map MV.int) (List.filter_congr fun j hj => ?_)
  have := F.osl i hi j hj
  show (!(P.nl j == P.lt i) && !(L.map P.nl).contains (P.nl j)) = _
  rw [beq_eq_false_iff_ne.mpr (nl_ne F (by omega) hi (by omega)), nl_con F b (by omega)]; rfl
theorem cl_len (F : Fx P c sd) (hi : i < P.n) : (P.cl i).length ≤ 4000 := by
  have := bel_len (F.osn i hi) (F.osl i hi)
  have := F.n8
  unfold Pl.cl; rw [List.length_cons, List.length_map]; omega
noncomputable abbrev GR (f : GO) (junk : GH) (ep : Nat) (sd : List (Int × MV)) (r p : List MV) (c : Co) : GH := inn [f] (.nd ep sd :: .lst r :: .lst p :: junk) c
noncomputable abbrev rzE (v0 v3 : MV) (v4 v5 v6 : Option MV) : Lo := [some v0, some (.ref 24), some (.ref 22), some v3, v4, v5, v6]
noncomputable def nlL (P : Pl) (l : List Nat) : MV := .lst (l.map fun i => .int (P.nl i))
theorem neg_nl : -P.nl i = P.lt i := Int.neg_neg _
theorem rz_step {v0 : MV} {v6 : Option MV} {p : List MV} (F : Fx P c sd) (nd : here.Nodup) (b : Bel P.n here) (hi : i < P.n) (hh : i ∈ here) (hd : P.dec i = false) : mSs (XD d) [.asg 6 (.comp false 1 (.loc 7) [.mk [7] true .vals [(.loc 3)] [(.cmp .eq (.blt .abs (.loc 7)) (.loc 4))]]), .ifS (.or_ [(.cmp .ne (.blt .len (.loc 6)) (.kI 1)), (.cmp .nin (.neg (.sub (.loc 6) (.kI 0))) (.get (.loc 2) (.loc 5) (.lst false [])))]) [.ret .kN] [], .asg 3 (.comp false 1 (.loc 7) [.mk [7] true .vals [(.loc 3)] [(.cmp .ne (.loc 7) (.sub (.loc 6) (.kI 0)))]]), .asg 3 (.bin .add (.loc 3) (.comp false 1 (.loc 7) [.mk [7] true .vals [(.sub (.loc 2) (.loc 5))] [(.and_ [(.cmp .ne (.loc 7) (.neg (.sub (.loc 6) (.kI 0)))), (.cmp .nin (.loc 7) (.loc 3))])]]))]
    (rzE v0 (nlL P here) (some (.int (vr i))) (some (.int (P.st i))) v6) (GR f junk ep sd r p c) = some (.next, rzE v0 (nlL P (P.res here i)) (some (.int (vr i))) (some (.int (P.st i))) (some (nlL P [i])), GR f junk ep sd r p c) := by
  have h8 := F.n8
  have hl := bel_len nd b
  obtain ⟨num, _, _, _, lk⟩ := F.rea2 i hi hd
  have b1 : Bel P.n (here.filter fun k => !(k == i)) := fun k hk => b k (List.mem_filter.mp hk).1
  have c6 := comp_lst (X := XD d) (ρ := rzE v0 (nlL P here) (some (.int (vr i))) (some (.int (P.st i))) v6) (G := GR f junk ep sd r p c) (k := 1) (elt := .loc 7) (src := .loc 3) (tgt := [7]) (one := true) (ifs := [(.cmp .eq (.blt .abs (.loc 7)) (.loc 4))]) (l := here) (fun i => .int (P.nl i)) (fun k => k == i) (fun i => .int (P.nl i)) (loc_eq rfl) (fun k hk => ⟨_, rfl, and_t' (cmp_eq (abs_at (nl_nat F (b k hk)) (loc_eq rfl)) (loc_eq rfl) (eq_int.trans (congrArg some vr_beq))), fun _ => loc_eq rfl⟩) (by omega)
  rw [one_of nd hh] at c6
  have g0 : ∀ {v3 : MV}, mE (XD d) (.sub (.loc 6) (.kI 0)) (rzE v0 v3 (some (.int (vr i))) (some (.int (P.st i))) (some (nlL P [i]))) (GR f junk ep sd r p c) = some (.int (P.nl i), GR f junk ep sd r p c) := sub_eq (loc_eq rfl) kI_eq rfl
  have g0' : ∀ {v3 x : MV}, mE (XD d) (.sub (.loc 6) (.kI 0)) (rzE v0 v3 (some (.int (vr i))) (some (.int (P.st i))) (some (nlL P [i])) ++ [some x]) (GR f junk ep sd r p c) = some (.int (P.nl i), GR f junk ep sd r p c) := sub_eq (loc_eq rfl) kI_eq rfl
  have t1 := cmp_eq (X := XD d) (o := .ne) (a := .blt .len (.loc 6)) (b := .kI 1) (ρ := rzE v0 (nlL P here) (some (.int (vr i))) (some (.int (P.st i))) (some (nlL P [i]))) (G := GR f junk ep sd r p c) (x := false) (blt_eq (r := (.int 1, GR f junk ep sd r p c)) (loc_eq rfl) rfl) kI_eq rfl
  have gt := get_eq (X := XD d) (e := .loc 2) (a := .loc 5) (b := .lst false []) (ρ := rzE v0 (nlL P here) (some (.int (vr i))) (some (.int (P.st i))) (some (nlL P [i]))) (G := GR f junk ep sd r p c) (v := .ref 22) (w := .lst []) (x := clV (P.cl i)) (k := P.st i) (loc_eq rfl) rfl (loc_eq rfl) (lstF_eq es0) (congrArg (fun o => some (Option.getD o (MV.lst []))) lk)
  have t2 := cmp_eq (o := .nin) (neg_eq g0) gt (nin_lst (-P.nl i) (P.cl i))
  rw [neg_nl, List.contains_iff_mem.mpr (show P.lt i ∈ P.cl i from .head _)] at t2
  have c3 := comp_lst (X := XD d) (ρ := rzE v0 (nlL P here) (some (.int (vr i))) (some (.int (P.st i))) (some (nlL P [i]))) (G := GR f junk ep sd r p c) (k := 1) (elt := .loc 7) (src := .loc 3) (tgt := [7]) (one := true) (ifs := [(.cmp .ne (.loc 7) (.sub (.loc 6) (.kI 0)))]) (l := here) (fun i => .int (P.nl i)) (fun k => !(k == i)) (fun i => .int (P.nl i)) (loc_eq rfl) (fun k hk => ⟨_, rfl, and_t' (cmp_eq (loc_eq rfl) g0' (ne_int.trans (congrArg (fun b => some (!b)) (nl_beq F (b k hk) hi)))), fun _ => loc_eq rfl⟩) (by omega)
  unfold Pl.res
  generalize hh1 : here.filter (fun k => !(k == i)) = h1 at c3 b1
  have hl1 : h1.length ≤ here.length := hh1 ▸ List.length_filter_le _ _
  have c4 := comp_lst (X := XD d) (ρ := rzE v0 (nlL P h1) (some (.int (vr i))) (some (.int (P.st i))) (some (nlL P [i]))) (G := GR f junk ep sd r p c) (k := 1) (elt := .loc 7) (src := .sub (.loc 2) (.loc 5)) (tgt := [7]) (one := true) (ifs := [(.and_ [(.cmp .ne (.loc 7) (.neg (.sub (.loc 6) (.kI 0)))), (.cmp .nin (.loc 7) (.loc 3))])]) (l := P.cl i) .int (fun y => !(y == P.lt i) && !(h1.map P.nl).contains y) .int (sub_eq (v := .ref 22) (w := .int (P.st i)) (loc_eq rfl) (loc_eq rfl) lk)
    (fun y _ => ⟨_, rfl, and_t' (and2_eq (cmp_eq (loc_eq rfl) (neg_eq g0') (ne_int.trans (congrArg (fun z => some (!(y == z))) neg_nl))) (cmp_eq (loc_eq rfl) (loc_eq (v := nlL P h1) rfl) ((congrArg (fun l => cmpO _ .nin (.int y) (.lst l)) nlm.symm).trans (nin_lst y _)))), fun _ => loc_eq rfl⟩) (cl_len F hi)
  rw [cl_new F hi b1] at c4
  have a3 : mE (XD d) (.bin .add (.loc 3) (.comp false 1 (.loc 7) [.mk [7] true .vals [(.sub (.loc 2) (.loc 5))] [(.and_ [(.cmp .ne (.loc 7) (.neg (.sub (.loc 6) (.kI 0)))), (.cmp .nin (.loc 7) (.loc 3))])]])) (rzE v0 (nlL P h1) (some (.int (vr i))) (some (.int (P.st i))) (some (nlL P [i]))) (GR f junk ep sd r p c) = some (nlL P (h1 ++ (P.os i).filter fun k => !h1.contains k), GR f junk ep sd r p c) := by
    have := List.length_filter_le (fun k => !h1.contains k) (P.os i)
    have := bel_len (F.osn i hi) (F.osl i hi)
    refine bin_eq (o := .add) (loc_eq rfl) c4 ((bin_app (by rw [List.length_map, List.length_map]; omega)).trans ?_)
    unfold nlL
    rw [List.map_append]
  exact (seq_next (asg_eq c6 rfl)).trans ((seq_next ((if_f (or2_ff t1 t2)).trans seq_nil)).trans ((seq_next (asg_eq c3 rfl)).trans ((seq_next (asg_eq a3 rfl)).trans seq_nil)))
theorem rz_spec (F : Fx P c sd) (nd : start.Nodup) (b : Bel P.n start) (hs : ∀ j ∈ start, P.lv j ≠ 0) (hM : ∀ j ∈ M, P.lv j ≠ 0 → j ∈ start) (pw : dn.Pairwise fun a b => b < a) (hdn : ∀ i ∈ dn, i ∈ start ∧ P.imp M i = true) :
    ∃ here, mcall prog 64 (d + 1) f_law_resolved [nlL P start, .ref 24, .ref 22] (GR f junk ep sd r (dn.map (prV P)) c) = some (nlL P here, GR f junk ep sd r (dn.map (prV P)) c) ∧ RZ P M start dn here := by
  have h8 := F.n8
  have hl := bel_len nd b
  have a3 : mS (XD d) (.asg 3 (.blt (.list false) (.loc 0))) [some (nlL P start), some (.ref 24), some (.ref 22), none, none, none, none] (GR f junk ep sd r (dn.map (prV P)) c) = some (.next, rzE (nlL P start) (nlL P start) none none none, GR f junk ep sd r (dn.map (prV P)) c) :=
    asg_eq (blt_eq (r := (nlL P start, _)) (loc_eq rfl) (if_pos (by rw [List.length_map]; omega))) rfl
  obtain ⟨ρ', G', e, here, v4, v5, v6, rfl, rfl, Z⟩ := for_ref (X := XD d) (ρ := rzE (nlL P start) (nlL P start) none none none) (G := GR f junk ep sd r (dn.map (prV P)) c) (tgt := [4, 5]) (one := false) (src := .loc 1) (i := 24) (l := dn.map (prV P))
    (b := [.asg 6 (.comp false 1 (.loc 7) [.mk [7] true .vals [(.loc 3)] [(.cmp .eq (.blt .abs (.loc 7)) (.loc 4))]]), .ifS (.or_ [(.cmp .ne (.blt .len (.loc 6)) (.kI 1)), (.cmp .nin (.neg (.sub (.loc 6) (.kI 0))) (.get (.loc 2) (.loc 5) (.lst false [])))]) [.ret .kN] [], .asg 3 (.comp false 1 (.loc 7) [.mk [7] true .vals [(.loc 3)] [(.cmp .ne (.loc 7) (.sub (.loc 6) (.kI 0)))]]), .asg 3 (.bin .add (.loc 3) (.comp false 1 (.loc 7) [.mk [7] true .vals [(.sub (.loc 2) (.loc 5))] [(.and_ [(.cmp .ne (.loc 7) (.neg (.sub (.loc 6) (.kI 0)))), (.cmp .nin (.loc 7) (.loc 3))])]]))])
    (fun k ρ G => ∃ (here : List Nat) (v4 v5 v6 : Option MV), ρ = rzE (nlL P start) (nlL P here) v4 v5 v6 ∧ G = GR f junk ep sd r (dn.map (prV P)) c ∧ RZ P M start (dn.take k) here) (loc_eq rfl) (fun k ρ G q => by
      obtain ⟨_, _, _, _, _, rfl, _⟩ := q; rfl)
    ⟨start, none, none, none, rfl, rfl, ⟨nd, b, by
      rw [List.filter_eq_self.mpr fun j hj => by rw [beq_eq_false_iff_ne.mpr (hs j hj)]; rfl]
      exact (List.filter_eq_self.mpr fun j _ => rfl).symm, List.filter_eq_nil_iff.mpr fun j hj => by rw [beq_eq_false_iff_ne.mpr (hs j hj)]; exact Bool.false_ne_true⟩⟩ (fun k w ρ G hw q => by
      obtain ⟨here, v4, v5, v6, rfl, rfl, Z⟩ := q
      rw [List.getElem?_map] at hw
      obtain ⟨i, hi, rfl⟩ := Option.map_eq_some_iff.mp hw
      obtain ⟨his, himp⟩ := hdn i (List.mem_of_getElem? hi)
      have hin := b i his
      obtain ⟨hd, hf⟩ := Bool.and_eq_true_iff.mp himp
      have hb : ∀ x ∈ dn.take k, i < x := fun x hx => by
        have e := pw
        rw [← List.take_append_drop k dn] at e
        obtain ⟨hk, hi'⟩ := List.getElem?_eq_some_iff.mp hi
        rw [List.drop_eq_getElem_cons hk, hi'] at e
        exact (List.pairwise_append.mp e).2.2 x hx i (.head _)
      have hh := (Z.mem his fun q => Nat.lt_irrefl _ (hb i q)).1
      refine ⟨_, .next, _, _, rfl, rz_step F Z.nd Z.bel hin hh (by simpa using hd), .inl rfl, P.res here i, _, _, _, rfl, rfl, ?_⟩
      rw [List.take_add_one, hi]
      exact Z.step F hM his hin hb hf)
  rw [List.length_map, List.take_length] at Z
  exact ⟨here, ret_of (mf := d_law_resolved) rfl rfl ((seq_next a3).trans ((seq_next e).trans (ret1 (loc_eq rfl)))), Z⟩
end
end Mine.Law
end
section
set_option autoImplicit false
set_option linter.unusedVariables false
set_option linter.unusedSimpArgs false
set_option linter.unusedSectionVars false
set_option maxRecDepth 10000
namespace Mine.Law
theorem nin_ref {G : GH} {i : Nat} {l : List Int} (h : G[i]? = some (.lst (l.map .int))) (a : Int) : cmpO G .nin (.int a) (.ref i) = some (!l.contains a) := mpp (o := (sqO G (.ref i)).bind intsO) (bnd (o := hL G i) (hL_of h) (intsO_map l))
section
variable {P : Pl} {c : Co} {sd : List (Int × MV)} {B : GH} {d : Nat} {K K1 cls L : List Nat} {i j k : Nat}
theorem nl_lt (F : Fx P c sd) (hk : k < P.n) (hj : j < P.n) : P.nl k ≠ P.lt j := fun q => by
  by_cases h : k = j
  · subst h
    have := F.nat k hk
    unfold Pl.nl at q
    omega
  · exact nl_ne F hk hj h q
theorem lt_con (F : Fx P c sd) (b : Bel P.n L) (hk : k < P.n) : (L.map P.lt).contains (P.lt k) = L.contains k := by
  rw [Bool.eq_iff_iff, List.contains_iff_mem, List.contains_iff_mem, List.mem_map]
  refine ⟨fun ⟨j, hj, e⟩ => ?_, fun h => ⟨k, h, rfl⟩⟩
  by_cases h : j = k
  · exact h ▸ hj
  · exact absurd e (lt_ne F (b j hj) hk h)
theorem nl_out (F : Fx P c sd) (b : Bel P.n L) (hk : k < P.n) : (L.map P.lt).contains (P.nl k) = false := Bool.eq_false_iff.mpr fun q => by
  obtain ⟨j, hj, e⟩ := List.mem_map.mp (List.contains_iff_mem.mp q)
  exact nl_lt F hk (b j hj) e.symm
noncomputable def ltL (P : Pl) (l : List Nat) : MV := .lst ((l.map P.lt).map .int)
noncomputable abbrev GK (P : Pl) (B : GH) (K : List Nat) : GH := B ++ [.lst ((K.map P.lt).map .int)]
noncomputable abbrev kcE (v0 v1 : MV) (m : Nat) (b : Bool) (v4 v5 : Option MV) : Lo := [some v0, some v1, some (.ref m), some (.bool b), v4, v5]
noncomputable def kcB : List MS := [.asg 5 (.comp false 1 (.loc 6) [.mk [6] true .vals [(.loc 4)] [(.cmp .nin (.neg (.loc 6)) (.loc 2))]]), .ifS (.and_ [(.cmp .eq (.blt .len (.loc 5)) (.kI 1)), (.cmp .nin (.sub (.loc 5) (.kI 0)) (.loc 2))]) [.expr (.app (.loc 2) (.sub (.loc 5) (.kI 0))), .asg 3 (.kB true)] []]
theorem kc_step {v0 v1 : MV} {b : Bool} {v5 : Option MV} (F : Fx P c sd) (nd : K.Nodup) (bl : Bel P.n K) (hi : i < P.n) :
    ∃ v5', mSs (XD d) kcB (kcE v0 v1 B.length b (some (clV (P.cl i))) v5) (GK P B K) = some (.next, kcE v0 v1 B.length (((P.os i).all K.contains && !K.contains i) || b) (some (clV (P.cl i))) v5', GK P B (if ((P.os i).all K.contains && !K.contains i) = true then K ++ [i] else K)) := by
  have h8 := F.n8
  have hl := bel_len nd bl
  have gK : (GK P B K)[B.length]? = some (.lst ((K.map P.lt).map .int)) := get_end
  have c5 := comp_lst (X := XD d) (ρ := kcE v0 v1 B.length b (some (clV (P.cl i))) v5) (G := GK P B K) (k := 1) (elt := .loc 6) (src := .loc 4) (tgt := [6]) (one := true) (ifs := [(.cmp .nin (.neg (.loc 6)) (.loc 2))]) (l := P.cl i) .int (fun y => !(K.map P.lt).contains (-y)) .int (loc_eq rfl) (fun y _ => ⟨_, rfl, and_t' (cmp_eq (neg_eq (loc_eq rfl)) (loc_eq rfl) (nin_ref gK _)), fun _ => loc_eq rfl⟩) (cl_len F hi)
  have el : (P.cl i).filter (fun y => !(K.map P.lt).contains (-y)) = P.lt i :: ((P.os i).filter fun k => !K.contains k).map P.nl := by
    unfold Pl.cl
    rw [List.filter_cons_of_pos (by rw [show -P.lt i = P.nl i from rfl, nl_out F bl hi]; rfl), List.filter_map]
    refine congrArg (fun l => P.lt i :: List.map P.nl l) (List.filter_congr fun j hj => ?_)
    have := F.osl i hi j hj
    show (!(K.map P.lt).contains (-P.nl j)) = _
    rw [neg_nl, lt_con F bl (by omega)]
  rw [el] at c5
  have ea : ((((P.lt i :: ((P.os i).filter fun k => !K.contains k).map P.nl).map MV.int).length : Int) == 1) = (P.os i).all K.contains := by
    rw [List.length_map, List.length_cons, List.length_map, Bool.eq_iff_iff, beq_iff_eq, List.all_eq_true]
    have : ((((P.os i).filter fun k => !K.contains k).length + 1 : Nat) : Int) = 1 ↔ (P.os i).filter (fun k => !K.contains k) = [] := by
      rw [← List.length_eq_zero_iff]; omega
    rw [this, List.filter_eq_nil_iff]
    exact forall_congr' fun x => forall_congr' fun _ => by cases K.contains x <;> simp
  have s0 : ∀ {b : Bool}, mE (XD d) (.sub (.loc 5) (.kI 0)) (kcE v0 v1 B.length b (some (clV (P.cl i))) (some (.lst ((P.lt i :: ((P.os i).filter fun k => !K.contains k).map P.nl).map .int)))) (GK P B K) = some (.int (P.lt i), GK P B K) := sub_eq (loc_eq rfl) kI_eq rfl
  have t := and2_eq (X := XD d) (ρ := kcE v0 v1 B.length b (some (clV (P.cl i))) (some (.lst ((P.lt i :: ((P.os i).filter fun k => !K.contains k).map P.nl).map .int)))) (G := GK P B K) (cmp_eq (o := .eq) (a := .blt .len (.loc 5)) (b := .kI 1) (blt_eq (r := (.int (((P.lt i :: ((P.os i).filter fun k => !K.contains k).map P.nl).map MV.int).length : Int), GK P B K)) (loc_eq rfl) rfl) kI_eq (eq_int.trans (congrArg some ea))) (cmp_eq (o := .nin) (a := .sub (.loc 5) (.kI 0)) (b := .loc 2) s0 (loc_eq rfl) ((nin_ref gK _).trans (congrArg (fun b => some (!b)) (lt_con F bl hi))))
  refine ⟨some (.lst ((P.lt i :: ((P.os i).filter fun k => !K.contains k).map P.nl).map .int)), (seq_next (asg_eq c5 rfl)).trans ?_⟩
  cases h : ((P.os i).all K.contains && !K.contains i) with
  | true =>
    rw [h] at t
    rw [if_pos rfl]
    have ap : mE (XD d) (.app (.loc 2) (.sub (.loc 5) (.kI 0))) (kcE v0 v1 B.length b (some (clV (P.cl i))) (some (.lst ((P.lt i :: ((P.os i).filter fun k => !K.contains k).map P.nl).map .int)))) (GK P B K) = some (.none, GK P B (K ++ [i])) :=
      app_eq (loc_eq rfl) (isL gK) s0 (by rw [app_lst gK (by rw [List.length_map, List.length_map]; omega), set_last]; unfold GK; rw [List.map_append, List.map_append]; rfl)
    exact (seq_next ((if_t t).trans ((seq_next (expr_eq ap)).trans ((seq_next (asg_eq kB_eq rfl)).trans seq_nil)))).trans seq_nil
  | false =>
    rw [h] at t
    rw [if_neg Bool.false_ne_true]
    exact (seq_next ((if_f t).trans seq_nil)).trans seq_nil
structure KP (P : Pl) (K1 seen K : List Nat) (b : Bool) : Prop where
  nd : K.Nodup
  bel : Bel P.n K
  sub : ∀ i ∈ K1, i ∈ K
  more : b = true → K1.length < K.length
  same : b = false → K = K1 ∧ ∀ i ∈ seen, (P.os i).all K1.contains = true → i ∈ K1
theorem KP.step {seen : List Nat} {b : Bool} (h : KP P K1 seen K b) (hi : i < P.n) (hle : K1.length ≤ K.length) : KP P K1 (seen ++ [i]) (if ((P.os i).all K.contains && !K.contains i) = true then K ++ [i] else K) (((P.os i).all K.contains && !K.contains i) || b) := by
  cases hc : ((P.os i).all K.contains && !K.contains i) with
  | true =>
    rw [if_pos rfl]
    have h3 := not_mem_of (Bool.and_eq_true_iff.mp hc).2
    refine ⟨List.nodup_append.mpr ⟨h.nd, List.nodup_cons.mpr ⟨nofun, List.nodup_nil⟩, fun a ha x hx e => h3 (by rw [← List.mem_singleton.mp hx, ← e]; exact ha)⟩, fun x hx => (List.mem_append.mp hx).elim (h.bel x) fun q => List.mem_singleton.mp q ▸ hi, fun x hx => List.mem_append_left _ (h.sub x hx), fun _ => by rw [List.length_append]; exact Nat.lt_succ_of_le hle, fun q => nomatch q⟩
  | false =>
    rw [if_neg Bool.false_ne_true]
    refine ⟨h.nd, h.bel, h.sub, h.more, fun q => ⟨(h.same q).1, fun x hx ha => ?_⟩⟩
    obtain ⟨e, hs⟩ := h.same q
    rcases List.mem_append.mp hx with hx | hx
    · exact hs x hx ha
    · rw [List.mem_singleton.mp hx] at ha ⊢
      rw [e, ha] at hc
      cases hm : K1.contains i with
      | true => exact List.contains_iff_mem.mp hm
      | false => rw [hm] at hc; cases hc
theorem KP.le {seen : List Nat} {b : Bool} (h : KP P K1 seen K b) : K1.length ≤ K.length := by
  cases b with
  | true => exact Nat.le_of_lt (h.more rfl)
  | false => rw [(h.same rfl).1]; exact Nat.le_refl _
theorem kc_pass {v0 : MV} {v4 v5 : Option MV} {b : Bool} (F : Fx P c sd) (nd : K1.Nodup) (bl : Bel P.n K1) (bc : Bel P.n cls) : ∃ (K : List Nat) (b' : Bool) (v4' v5' : Option MV), mSs (XD d) [.asg 3 (.kB false), .forS [4] true .vals [(.loc 1)] kcB] (kcE v0 (.lst (cls.map fun i => clV (P.cl i))) B.length b v4 v5) (GK P B K1) = some (.next, kcE v0 (.lst (cls.map fun i => clV (P.cl i))) B.length b' v4' v5', GK P B K) ∧ KP P K1 cls K b' := by
  obtain ⟨ρ', G', e, K, b', v4', v5', rfl, rfl, h⟩ := for_inv (X := XD d) (ρ := kcE v0 (.lst (cls.map fun i => clV (P.cl i))) B.length false v4 v5) (G := GK P B K1) (tgt := [4]) (one := true) (sk := .vals) (srcs := [.loc 1]) (b := kcB) (l := cls.map fun i => clV (P.cl i))
    (fun k ρ G => ∃ (K : List Nat) (b' : Bool) (v4' v5' : Option MV), ρ = kcE v0 (.lst (cls.map fun i => clV (P.cl i))) B.length b' v4' v5' ∧ G = GK P B K ∧ KP P K1 (cls.take k) K b') (es1 (loc_eq rfl)) so_lst ⟨K1, false, v4, v5, rfl, rfl, nd, bl, fun _ h => h, fun h => (nomatch h), fun _ => ⟨rfl, nofun⟩⟩ (fun k w ρ G hw q => by
      obtain ⟨K, b', v4', v5', rfl, rfl, h⟩ := q
      rw [List.getElem?_map] at hw
      obtain ⟨i, hi, rfl⟩ := Option.map_eq_some_iff.mp hw
      have hin := bc i (List.mem_of_getElem? hi)
      obtain ⟨v5'', e⟩ := kc_step (d := d) (B := B) (v0 := v0) (v1 := .lst (cls.map fun i => clV (P.cl i))) (b := b') (v5 := v5') F h.nd h.bel hin
      refine ⟨_, .next, _, _, rfl, e, .inl rfl, _, _, _, v5'', rfl, rfl, ?_⟩
      rw [List.take_add_one, hi]
      exact h.step hin h.le)
  rw [List.length_map, List.take_length] at h
  exact ⟨K, b', v4', v5', (seq_next (asg_eq kB_eq rfl)).trans ((seq_next e).trans seq_nil), h⟩
theorem kc_while {v0 : MV} (F : Fx P c sd) (bc : Bel P.n cls) : ∀ (m : Nat) (K1 : List Nat) (v4 v5 : Option MV), K1.Nodup → Bel P.n K1 → P.n + 2 ≤ m + K1.length → ∃ (K : List Nat) (v4' v5' : Option MV), loopW (fun ρ G => mE (XD d) (.truth (.loc 3)) ρ G) (fun ρ G => mSs (XD d) [.asg 3 (.kB false), .forS [4] true .vals [(.loc 1)] kcB] ρ G) m (kcE v0 (.lst (cls.map fun i => clV (P.cl i))) B.length true v4 v5) (GK P B K1) = some (.next, kcE v0 (.lst (cls.map fun i => clV (P.cl i))) B.length false v4' v5', GK P B K) ∧ Bel P.n K ∧ (∀ i ∈ K1, i ∈ K) ∧ ∀ i ∈ cls, (P.os i).all K.contains = true → i ∈ K
  | 0, K1, _, _, nd, bl, hm => absurd (bel_len nd bl) (by omega)
  | m + 1, K1, v4, v5, nd, bl, hm => by
    have hl := bel_len nd bl
    obtain ⟨K, b', v4', v5', e, h⟩ := kc_pass (d := d) (B := B) (v0 := v0) (v4 := v4) (v5 := v5) (b := true) F nd bl bc
    cases b' with
    | false =>
      obtain ⟨e1, hs⟩ := h.same rfl
      subst e1
      obtain ⟨m, rfl⟩ : ∃ m', m = m' + 1 := ⟨m - 1, by omega⟩
      exact ⟨K, v4', v5', (while_t (tr_eq (loc_eq rfl)) e).trans (while_f (tr_eq (loc_eq rfl))), bl, fun _ h => h, hs⟩
    | true =>
      have := h.more rfl
      obtain ⟨K', v4'', v5'', e', b2, s2, c2⟩ := kc_while F bc m K v4' v5' h.nd h.bel (by omega)
      exact ⟨K', v4'', v5'', (while_t (tr_eq (loc_eq rfl)) e).trans e', b2, fun i hi => s2 i (h.sub i hi), c2⟩
theorem kc_spec (F : Fx P c sd) (nd : K1.Nodup) (bl : Bel P.n K1) (bc : Bel P.n cls) : ∃ K, mcall prog 64 (d + 1) f_law_closed [ltL P K1, .lst (cls.map fun i => clV (P.cl i))] B = some (.ref B.length, GK P B K) ∧ Bel P.n K ∧ (∀ i ∈ K1, i ∈ K) ∧ ∀ i ∈ cls, (P.os i).all K.contains = true → i ∈ K := by
  have h8 := F.n8
  have hl := bel_len nd bl
  obtain ⟨K, v4, v5, e, q⟩ := kc_while (d := d) (B := B) (v0 := ltL P K1) F bc 64 K1 none none nd bl (by omega)
  have a2 : mS (XD d) (.asgT [2, 3] (.tup [(.blt (.list true) (.loc 0)), (.kB true)])) [some (ltL P K1), some (.lst (cls.map fun i => clV (P.cl i))), none, none, none, none] B = some (.next, kcE (ltL P K1) (.lst (cls.map fun i => clV (P.cl i))) B.length true none none, GK P B K1) :=
    asgT_eq (tup_eq (es2 (blt_eq (r := (.ref B.length, GK P B K1)) (loc_eq rfl) (if_pos (by rw [List.length_map, List.length_map]; omega))) kB_eq)) rfl
  exact ⟨K, ret_of (mf := d_law_closed) rfl rfl ((seq_next a2).trans ((seq_next (show mS (XD d) (.whileS (.truth (.loc 3)) [.asg 3 (.kB false), .forS [4] true .vals [(.loc 1)] kcB]) _ _ = _ from e)).trans (ret1 (loc_eq rfl)))), q⟩
end
end Mine.Law
end
section
set_option autoImplicit false
set_option linter.unusedVariables false
set_option linter.unusedSimpArgs false
set_option linter.unusedSectionVars false
set_option maxRecDepth 10000
namespace Mine.Law
noncomputable def Pl.ab (P : Pl) : List Nat := (List.range P.n).filter fun i => !(P.lv i == 0)
noncomputable def ltV (P : Pl) (i : Nat) : MV := .int (P.lt i)
noncomputable def nlV (P : Pl) (i : Nat) : MV := .int (P.nl i)
noncomputable def vrV (i : Nat) : MV := .int (vr i)
theorem mem_ab {P : Pl} {i : Nat} : i ∈ P.ab ↔ i < P.n ∧ P.lv i ≠ 0 := by
  unfold Pl.ab
  rw [List.mem_filter, List.mem_range, Bool.not_eq_true', beq_eq_false_iff_ne]
theorem ab_nd {P : Pl} : P.ab.Nodup := List.nodup_range.sublist List.filter_sublist
section
variable {X : Ctx} {ρ r : Lo} {G : GH} {v : MV} {k : Nat}
theorem as21 (hρ : ρ.length = 21) : asgO true [21] v (ρ ++ List.replicate 1 none) = some (ρ ++ [some v]) := by
  show (if 21 < (ρ ++ [none]).length then some ((ρ ++ [none]).set 21 (some v)) else none) = _
  rw [if_pos (by rw [List.length_append, hρ]; decide), set_end hρ]
theorem lo21 (hρ : ρ.length = 21) : mE X (.loc 21) (ρ ++ [some v]) G = some (v, G) := loc_eq (by rw [List.getElem?_append_right (by omega), hρ]; rfl)
theorem lo (h : ρ[k]? = some (some v)) : mE X (.loc k) (ρ ++ r) G = some (v, G) := loc_eq ((List.getElem?_append_left (List.getElem?_eq_some_iff.mp h).1).trans h)
theorem compL {α : Type} {elt src : ME} {ifs : List ME} {l : List α} (g : α → MV) (p : α → Bool) (f : α → MV) (hρ : ρ.length = 21) (h1 : mE X src (ρ ++ [none]) G = some (.lst (l.map g), G))
    (hs : ∀ v ∈ l, mAnd X ifs (ρ ++ [some (g v)]) G = some (.bool (p v), G) ∧ (p v = true → mE X elt (ρ ++ [some (g v)]) G = some (f v, G))) (hl : l.length ≤ 4000) : mE X (.comp false 1 elt [.mk [21] true .vals [src] ifs]) ρ G = some (.lst ((l.filter p).map f), G) :=
  comp_lst g p f h1 (fun v hv => ⟨_, as21 hρ, hs v hv⟩) hl
theorem compLR {α : Type} {elt src : ME} {ifs : List ME} {l : List α} {i : Nat} (g : α → MV) (p : α → Bool) (f : α → MV) (hρ : ρ.length = 21) (h1 : mE X src (ρ ++ [none]) G = some (.ref i, G)) (hi : G[i]? = some (.lst (l.map g)))
    (hs : ∀ v ∈ l, mAnd X ifs (ρ ++ [some (g v)]) G = some (.bool (p v), G) ∧ (p v = true → mE X elt (ρ ++ [some (g v)]) G = some (f v, G))) (hl : l.length ≤ 4000) : mE X (.comp false 1 elt [.mk [21] true .vals [src] ifs]) ρ G = some (.lst ((l.filter p).map f), G) :=
  comp_ref g p f h1 hi (fun v hv => ⟨_, as21 hρ, hs v hv⟩) hl
theorem mC_sub {elt src : ME} {ifs : List ME} {l : List Nat} {G1 : GH} (g f : Nat → MV) (R : Nat → Prop) (I : Nat → GH → Prop) (hρ : ρ.length = 21) (h1 : mE X src (ρ ++ [none]) G = some (.lst (l.map g), G1)) (q : I 0 G1)
    (hs : ∀ i ∈ l, ∀ (j : Nat) (G : GH), j < l.length → I j G → ∃ (b : Bool) (G2 : GH), mAnd X ifs (ρ ++ [some (g i)]) G = some (.bool b, G2) ∧ I (j + 1) G2 ∧ (b = true → R i) ∧ mE X elt (ρ ++ [some (g i)]) G2 = some (f i, G2)) (hl : l.length ≤ 4000) :
    ∃ (L : List Nat) (G' : GH), mC X [.mk [21] true .vals [src] ifs] (fun ρ' G' => mE X elt ρ' G') (ρ ++ List.replicate 1 none) G [] = some (L.map f, G') ∧ I l.length G' ∧ L.Sublist l ∧ ∀ i ∈ L, R i := by
  obtain ⟨acc, G', e, L, rfl, h2, h3, h4⟩ := mC_sel (X := X) (ρ := ρ ++ List.replicate 1 none) (elt := elt) (tgt := [21]) (one := true) (ifs := ifs) (l := l.map g) (fun j G acc => ∃ L : List Nat, acc = L.map f ∧ I j G ∧ L.Sublist (l.take j) ∧ ∀ i ∈ L, R i) (es1 h1) so_lst ⟨[], rfl, q, List.nil_sublist _, nofun⟩ (fun j v G acc hv q => by
    rw [List.getElem?_map] at hv
    obtain ⟨i, hi, rfl⟩ := Option.map_eq_some_iff.mp hv
    obtain ⟨L, rfl, h2, h3, h4⟩ := q
    obtain ⟨b, G2, a1, a2, a3, a4⟩ := hs i (List.mem_of_getElem? hi) j G (List.getElem?_eq_some_iff.mp hi).1 h2
    refine ⟨_, b, G2, as21 hρ, a1, fun _ => ⟨L, rfl, a2, ?_, h4⟩, fun hb => ⟨_, G2, a4, L ++ [i], by rw [List.map_append]; rfl, a2, ?_, fun x hx => (List.mem_append.mp hx).elim (h4 x) fun q => List.mem_singleton.mp q ▸ a3 hb⟩⟩
    · rw [List.take_add_one]; exact h3.trans (List.sublist_append_left _ _)
    · rw [List.take_add_one, hi]; exact h3.append (List.Sublist.refl _)) (fun j G acc q => by
    obtain ⟨L, rfl, _, h3, _⟩ := q
    rw [List.length_map]
    exact Nat.le_trans h3.length_le (by rw [List.length_take]; exact Nat.min_le_left _ _)) (by rw [List.length_map]; exact hl)
  rw [List.length_map] at h2 h3
  rw [List.take_length] at h3
  exact ⟨L, G', e, h2, h3, h4⟩
end
section
variable {P : Pl} {c : Co} {sd : List (Int × MV)} {f : GO} {post : GH} {cells : List Int} {s d i : Nat} {ρ : Lo} {x : Int} {L : List Nat}
theorem fg {many : Int} (h1 : ρ[1]? = some (some (.ref 0))) (hw : 0 < many) (hs : s ≤ 4000) : ∃ r : Int, 0 ≤ r ∧ r < many ∧ mE (XD 18) (.call f_law_figure [(.loc 1), (.kI many)]) ρ (inn [fd cells s] post c) = some (.int r, inn [fd cells (s + 1)] post c) :=
  (fig_spec (W := 64) (d := 17) (tail := blk 1 c ++ post) (cells := cells) hw hs).elim fun r h => ⟨r, h.1, h.2.1, call_eq (es2 (loc_eq h1) kI_eq) h.2.2⟩
theorem fgc {many k : Int} {o : C2} {op : Int → Bool} (ho : ∀ (G : GH) (r : Int), cmpO G o (.int r) (.int k) = some (op r)) (h1 : ρ[1]? = some (some (.ref 0))) (hw : 0 < many) (hs : s ≤ 4000) : ∃ b : Bool, mE (XD 18) (.cmp o (.call f_law_figure [(.loc 1), (.kI many)]) (.kI k)) ρ (inn [fd cells s] post c) = some (.bool b, inn [fd cells (s + 1)] post c) :=
  (fg h1 hw hs).elim fun r h => ⟨_, cmp_eq h.2.2 kI_eq (ho _ r)⟩
theorem lvL (F : Fx P c sd) (hρ : ρ.length = 21) (h2 : ρ[2]? = some (some S1)) (hi : i < P.n) (hx : x.natAbs = i + 1) : mE (XD d) (.sub (.attr (.loc 2) n_levels) (.blt .abs (.loc 21))) (ρ ++ [some (.int x)]) (inn [f] post c) = some (.int (P.lv i : Int), inn [f] post c) := at_lev F hi (lo h2) (abs_at hx (lo21 hρ))
theorem lvG (F : Fx P c sd) (hρ : ρ.length = 21) (h2 : ρ[2]? = some (some S1)) (hi : i < P.n) (hx : x.natAbs = i + 1) : mE (XD d) (.cmp .gt (.sub (.attr (.loc 2) n_levels) (.blt .abs (.loc 21))) (.kI 0)) (ρ ++ [some (.int x)]) (inn [f] post c) = some (.bool (!(P.lv i == 0)), inn [f] post c) := cmp_eq (lvL F hρ h2 hi hx) kI_eq gt_nat
theorem lv0 (F : Fx P c sd) (hρ : ρ.length = 21) (h2 : ρ[2]? = some (some S1)) (hi : i < P.n) (hx : x.natAbs = i + 1) : mE (XD d) (.cmp .eq (.sub (.attr (.loc 2) n_levels) (.blt .abs (.loc 21))) (.kI 0)) (ρ ++ [some (.int x)]) (inn [f] post c) = some (.bool (P.lv i == 0), inn [f] post c) := cmp_eq (lvL F hρ h2 hi hx) kI_eq eq_nat0
theorem tr_at (F : Fx P c sd) : (inn [f] post c)[14]? = some (.lst ((List.range P.n).map (ltV P))) := F.tr ▸ g13 [f] post c
theorem rg_len (F : Fx P c sd) : (List.range P.n).length ≤ 4000 := by rw [List.length_range]; exact Nat.le_trans F.n8 (by decide)
theorem ab_len (F : Fx P c sd) : P.ab.length ≤ 8 := Nat.le_trans (List.length_filter_le _ _) (by rw [List.length_range]; exact F.n8)
theorem w_above (F : Fx P c sd) (hρ : ρ.length = 21) (h2 : ρ[2]? = some (some S1)) : mE (XD d) (.comp false 1 (.loc 21) [.mk [21] true .vals [(.attr (.loc 2) n_trail)] [(.cmp .gt (.sub (.attr (.loc 2) n_levels) (.blt .abs (.loc 21))) (.kI 0))]]) ρ (inn [f] post c) = some (.lst (P.ab.map (ltV P)), inn [f] post c) :=
  compLR (ltV P) (fun i => !(P.lv i == 0)) (ltV P) hρ (at_trail (lo h2)) (tr_at F) (fun i hi => ⟨and_t' (lvG F hρ h2 (List.mem_range.mp hi) (F.nat i (List.mem_range.mp hi))), fun _ => lo21 hρ⟩) (rg_len F)
theorem w_lot (F : Fx P c sd) (hρ : ρ.length = 21) (h1 : ρ[1]? = some (some (.ref 0))) (h4 : ρ[4]? = some (some (.lst (P.ab.map (ltV P))))) (hs : s ≤ 1000) : ∃ (lot : List Nat) (s' : Nat), mE (XD 18) (.comp false 1 (.neg (.loc 21)) [.mk [21] true .vals [(.loc 4)] [(.cmp .lt (.call f_law_figure [(.loc 1), (.kI 3)]) (.kI 2))]]) ρ (inn [fd cells s] post c) = some (.lst (lot.map (nlV P)), inn [fd cells s'] post c) ∧ lot.Sublist P.ab ∧ s' ≤ s + 8 := by
  have h8 := ab_len F
  obtain ⟨lot, G', e, hI, sub, _⟩ := mC_sub (X := XD 18) (elt := .neg (.loc 21)) (src := .loc 4) (ifs := [(.cmp .lt (.call f_law_figure [(.loc 1), (.kI 3)]) (.kI 2))]) (ltV P) (nlV P) (fun _ => True) (fun j G => G = inn [fd cells (s + j)] post c) hρ (G := inn [fd cells s] post c) (lo h4) rfl (fun i hi j G hj q => by
    subst q
    obtain ⟨b, hb⟩ := fgc (o := .lt) (k := 2) (cells := cells) (s := s + j) (post := post) (c := c) (many := 3) (ρ := ρ ++ [some (ltV P i)]) (fun _ _ => rfl) (get_snoc h1) (by decide) (by omega)
    exact ⟨b, _, and_t' hb, rfl, fun _ => trivial, neg_eq (lo21 hρ)⟩) (by omega)
  subst hI
  exact ⟨lot, _, comp_of e (by have := sub.length_le; rw [List.length_map]; omega), sub, by omega⟩
structure LP (P : Pl) (L : List Nat) : Prop where
  nd : L.Nodup
  ab : ∀ i ∈ L, i ∈ P.ab
theorem LP.of {P : Pl} {L : List Nat} (h : L.Sublist P.ab) : LP P L := ⟨ab_nd.sublist h, fun i hi => h.subset hi⟩
theorem LP.rev {P : Pl} {L : List Nat} (h : LP P L) : LP P L.reverse := ⟨(List.reverse_perm L).nodup_iff.mpr h.nd, fun i hi => h.ab i (List.mem_reverse.mp hi)⟩
theorem LP.bel {P : Pl} {L : List Nat} (h : LP P L) : Bel P.n L := fun i hi => (mem_ab.mp (h.ab i hi)).1
theorem LP.lv {P : Pl} {L : List Nat} (h : LP P L) : ∀ i ∈ L, P.lv i ≠ 0 := fun i hi => (mem_ab.mp (h.ab i hi)).2
theorem LP.len {P : Pl} {L : List Nat} (h : LP P L) (F : Fx P c sd) : L.length ≤ 8 := Nat.le_trans (bel_len h.nd h.bel) F.n8
theorem w_beside (F : Fx P c sd) (hL : LP P L) (hρ : ρ.length = 21) (h4 : ρ[4]? = some (some (.lst (P.ab.map (ltV P))))) (h5 : ρ[5]? = some (some (.lst (L.map (nlV P))))) {G : GH} : mE (XD d) (.comp false 1 (.neg (.loc 21)) [.mk [21] true .vals [(.loc 4)] [(.cmp .nin (.neg (.loc 21)) (.loc 5))]]) ρ G = some (.lst ((P.ab.filter fun i => !L.contains i).map (nlV P)), G) :=
  compL (ltV P) (fun i => !L.contains i) (nlV P) hρ (lo h4) (fun i hi => ⟨and_t' (cmp_eq (neg_eq (lo21 hρ)) (lo h5) ((congrArg (fun l => cmpO G .nin (.int (P.nl i)) (.lst l)) nlm.symm).trans ((nin_lst _ _).trans (congrArg (fun b => some (!b)) (nl_con F hL.bel (mem_ab.mp hi).1))))), fun _ => neg_eq (lo21 hρ)⟩) (Nat.le_trans (ab_len F) (by decide))
theorem w_roots (F : Fx P c sd) (hρ : ρ.length = 21) (h1 : ρ[1]? = some (some (.ref 0))) (h2 : ρ[2]? = some (some S1)) (hs : s ≤ 1000) : ∃ (rt : List Nat) (s' : Nat), mE (XD 18) (.comp true 1 (.blt .abs (.loc 21)) [.mk [21] true .vals [(.slc (.attr (.loc 2) n_trail) .kN (.kI 1))] [(.and_ [(.cmp .eq (.sub (.attr (.loc 2) n_levels) (.blt .abs (.loc 21))) (.kI 0)), (.cmp .eq (.call f_law_figure [(.loc 1), (.kI 2)]) (.kI 1))])]]) ρ (inn [fd cells s] post c) = some (.ref (inn [fd cells s'] post c).length, inn [fd cells s'] (post ++ [.lst (rt.map vrV)]) c) ∧ rt.Nodup ∧ Bel P.n rt ∧ ∀ i ∈ rt, P.lv i = 0 := by
  have hn := rg_len F
  have hsl : slcO (inn [fd cells s] post c) (.ref 14) .none (.int 1) = some (.lst (((List.range P.n).take 1).map (ltV P))) := by
    refine bnd (hL_of (tr_at F)) ?_
    show some (MV.lst ((((List.range P.n).map (ltV P)).take 1).drop 0)) = _
    rw [← List.map_take]; rfl
  have ht : ∀ i ∈ (List.range P.n).take 1, i < P.n := fun i hi => List.mem_range.mp (List.mem_of_mem_take hi)
  obtain ⟨rt, G', e, ⟨s', hs', rfl⟩, sub, hR⟩ := mC_sub (X := XD 18) (elt := .blt .abs (.loc 21)) (src := .slc (.attr (.loc 2) n_trail) .kN (.kI 1)) (ifs := [(.and_ [(.cmp .eq (.sub (.attr (.loc 2) n_levels) (.blt .abs (.loc 21))) (.kI 0)), (.cmp .eq (.call f_law_figure [(.loc 1), (.kI 2)]) (.kI 1))])]) (ltV P) vrV (fun i => P.lv i = 0) (fun j G => ∃ s', s' ≤ s + j ∧ G = inn [fd cells s'] post c) hρ (G := inn [fd cells s] post c) (slc_eq (at_trail (lo h2)) kN_eq kI_eq hsl) ⟨s, Nat.le_refl _, rfl⟩ (fun i hi j G hj q => by
    obtain ⟨s', hs', rfl⟩ := q
    have hj1 : j < 1 := Nat.lt_of_lt_of_le hj (by rw [List.length_take]; exact Nat.min_le_left _ _)
    have hin := ht i hi
    have l0 : ∀ {s' : Nat}, mE (XD 18) _ _ (inn [fd cells s'] post c) = _ := fun {s'} => lv0 (d := 18) (f := fd cells s') (post := post) (ρ := ρ) F hρ h2 hin (F.nat i hin)
    have ea : ∀ {s' : Nat}, mE (XD 18) (.blt .abs (.loc 21)) (ρ ++ [some (ltV P i)]) (inn [fd cells s'] post c) = some (vrV i, inn [fd cells s'] post c) := abs_at (F.nat i hin) (lo21 hρ)
    cases hl : P.lv i == 0 with
    | false =>
      refine ⟨false, inn [fd cells s'] post c, and_t' (andE (and_f ?_)), ⟨s', by omega, rfl⟩, fun h => (nomatch h), ea⟩
      rw [← hl]; exact l0
    | true =>
      obtain ⟨b, hb⟩ := fgc (o := .eq) (k := 1) (cells := cells) (s := s') (post := post) (c := c) (many := 2) (ρ := ρ ++ [some (ltV P i)]) (fun _ _ => eq_int) (get_snoc h1) (by decide) (by omega)
      refine ⟨b, inn [fd cells (s' + 1)] post c, and_t' (andE ((and_t ?_).trans (and_t' hb))), ⟨s' + 1, by omega, rfl⟩, fun _ => eq_of_beq hl, ea⟩
      rw [← hl]; exact l0) (Nat.le_trans (List.length_take_le _ _) (by decide))
  refine ⟨rt, s', ?_, (List.nodup_range.sublist (List.take_sublist _ _)).sublist sub, fun i hi => ht i (sub.subset hi), hR⟩
  rw [← inn_snoc]
  exact bnd (o := mC (XD 18) _ _ _ _ _) e (if_pos (by rw [List.length_map]; have := sub.length_le; rw [List.length_take] at this; omega))
end
end Mine.Law
end
section
set_option autoImplicit false
set_option linter.unusedVariables false
set_option linter.unusedSimpArgs false
set_option linter.unusedSectionVars false
set_option maxRecDepth 10000
namespace Mine.Law
section
variable {P : Pl} {c : Co} {sd : List (Int × MV)} {f : GO} {post : GH} {d i : Nat} {ρ : Lo} {L M : List Nat}
noncomputable def mkL' (M : List Nat) : MV := .lst ((M.map vr).map .int)
theorem w_mark (F : Fx P c sd) (N : Sn P.n c.seen []) (bM : Bel P.n M) {E : Option MV → Lo} (h2 : ∀ y, (E y)[2]? = some (some S1)) (h8 : ∀ y, (E y)[8]? = some (some (mkL' M))) (h9 : ∀ v, (E (some v))[9]? = some (some v)) (hs : ∀ y v, set1 (E y) 9 v = some (E (some v))) (y : Option MV) :
    ∃ y' S, mS (XD d) (.forS [9] true .vals [(.loc 8)] [.asgS (.attr (.loc 2) n_seen) (.loc 9) (.kB true)]) (E y) (inn [f] post c) = some (.next, E y', inn [f] post { c with seen := S }) ∧ Sn P.n S M := by
  obtain ⟨ρ', G', e, y', S, rfl, rfl, N'⟩ := for_inv (X := XD d) (ρ := E y) (G := inn [f] post c) (tgt := [9]) (one := true) (sk := .vals) (srcs := [.loc 8]) (b := [.asgS (.attr (.loc 2) n_seen) (.loc 9) (.kB true)]) (l := (M.map vr).map .int)
    (fun k ρ G => ∃ y' S, ρ = E y' ∧ G = inn [f] post { c with seen := S } ∧ Sn P.n S (M.take k)) (es1 (loc_eq (h8 y))) so_lst ⟨y, c.seen, rfl, rfl, N⟩ (fun k v ρ G hv q => by
    obtain ⟨y', S, rfl, rfl, N'⟩ := q
    rw [List.map_map, List.getElem?_map] at hv
    obtain ⟨i, hi, rfl⟩ := Option.map_eq_some_iff.mp hv
    have hin := bM i (List.mem_of_getElem? hi)
    refine ⟨_, .next, _, _, hs y' (.int (vr i)), (seq_next (asgS_eq kB_eq (attr_eq (loc_eq (h2 _)) (ac_seen [f] _ _ 64 _)) (loc_eq (h9 _)) (set_seen (pre := [f]) (c := { c with seen := S }) (by show i + 1 < S.length; rw [N'.len]; omega)))).trans seq_nil, .inl rfl, _, S.set (i + 1) true, rfl, rfl, ?_⟩
    rw [List.take_add_one, hi]
    exact N'.add hin)
  rw [List.length_map, List.length_map, List.take_length] at N'
  exact ⟨y', S, e, N'⟩
theorem w_ii (F : Fx P c sd) (N : Sn P.n c.seen M) (hρ : ρ.length = 21) (h2 : ρ[2]? = some (some S1)) (h11 : ρ[11]? = some (some (.lst ((List.range P.n).map (ltV P))))) : mE (XD (d + 1)) (.comp false 1 (.meth (.loc 2) n_is_implied [(.neg (.loc 21))]) [.mk [21] true .vals [(.loc 11)] []]) ρ (inn [f] post c) = some (.lst ((List.range P.n).map fun i => .bool (P.imp M i)), inn [f] post c) :=
  (compL (ltV P) (fun _ => true) (fun i => .bool (P.imp M i)) hρ (lo h11) (fun i hi => ⟨and_nil, fun _ => (mc (X := XD (d + 1)) (pre := [f]) (m := n_is_implied) (f := f_Search_is_implied) (by decide +kernel : pMth c_Search n_is_implied = some f_Search_is_implied) rfl (lo h2) (es1 (neg_eq (lo21 hρ)))).trans (ii_spec (d := d) F N (List.mem_range.mp hi))⟩) (rg_len F)).trans (by rw [filter_true])
noncomputable def Beh (f : GO) (post : GH) (c : Co) (G : GH) : Prop := ∃ junk, G = inn [f] (post ++ junk) c
theorem beh_lii (F : Fx P c sd) {G : GH} (q : Beh f post c G) (hi : i < P.n) {e1 e2 e3 : ME} (h1 : ∀ G, mE (XD (d + 2)) e1 ρ G = some (S1, G)) (h2 : ∀ G, mE (XD (d + 2)) e2 ρ G = some (nlV P i, G)) (h3 : ∀ G, mE (XD (d + 2)) e3 ρ G = some (mkL' M, G)) : ∃ G', mE (XD (d + 2)) (.call f_law_is_implied [e1, e2, e3]) ρ G = some (.bool (P.imp M i), G') ∧ Beh f post c G' := by
  obtain ⟨junk, rfl⟩ := q
  obtain ⟨x, e⟩ := lii_spec (d := d) (f := f) (post := post ++ junk) (M := M) F hi
  exact ⟨_, call_eq (es3 (h1 _) (h2 _) (h3 _)) e, junk ++ [x], by rw [List.append_assoc]⟩
theorem w_lii (F : Fx P c sd) (hρ : ρ.length = 21) (h2 : ρ[2]? = some (some S1)) (h8 : ρ[8]? = some (some (mkL' M))) (h11 : ρ[11]? = some (some (.lst ((List.range P.n).map (ltV P))))) {G : GH} (q : Beh f post c G) : ∃ G', mE (XD (d + 2)) (.comp false 1 (.call f_law_is_implied [(.loc 2), (.neg (.loc 21)), (.loc 8)]) [.mk [21] true .vals [(.loc 11)] []]) ρ G = some (.lst ((List.range P.n).map fun i => .bool (P.imp M i)), G') ∧ Beh f post c G' := by
  obtain ⟨G', e, q'⟩ := comp_eff (X := XD (d + 2)) (elt := .call f_law_is_implied [(.loc 2), (.neg (.loc 21)), (.loc 8)]) (tgt := [21]) (one := true) (ifs := []) (Beh f post c) (ltV P) (fun _ => true) (fun i => .bool (P.imp M i)) (lo (r := List.replicate 1 none) h11) q (fun i hi G q => ⟨_, G, as21 hρ, and_nil, q, fun _ => beh_lii F q (List.mem_range.mp hi) (fun _ => lo h2) (fun _ => neg_eq (lo21 hρ)) (fun _ => lo h8)⟩) (rg_len F)
  rw [filter_true] at e
  exact ⟨G', e, q'⟩
theorem w_due (F : Fx P c sd) (hL : LP P L) (hρ : ρ.length = 21) (h2 : ρ[2]? = some (some S1)) (h8 : ρ[8]? = some (some (mkL' M))) (h5 : ρ[5]? = some (some (.lst (L.map (nlV P))))) {G : GH} (q : Beh f post c G) : ∃ G', mE (XD (d + 2)) (.comp false 1 (.loc 21) [.mk [21] true .vals [(.loc 5)] [(.no (.truth (.call f_law_is_implied [(.loc 2), (.loc 21), (.loc 8)])))]]) ρ G = some (.lst ((L.filter fun i => !P.imp M i).map (nlV P)), G') ∧ Beh f post c G' :=
  comp_eff (X := XD (d + 2)) (elt := .loc 21) (tgt := [21]) (one := true) (ifs := [(.no (.truth (.call f_law_is_implied [(.loc 2), (.loc 21), (.loc 8)])))]) (Beh f post c) (nlV P) (fun i => !P.imp M i) (nlV P) (lo (r := List.replicate 1 none) h5) q (fun i hi G q => by
    obtain ⟨G2, e, q2⟩ := beh_lii (d := d) (ρ := ρ ++ [some (nlV P i)]) (e1 := .loc 2) (e2 := .loc 21) (e3 := .loc 8) F q (hL.bel i hi) (fun _ => lo h2) (fun _ => lo21 hρ) (fun _ => lo h8)
    exact ⟨_, G2, as21 hρ, and_t' (no_eq (tr_eq e)), q2, fun _ => ⟨G2, lo21 hρ, q2⟩⟩) (Nat.le_trans (hL.len F) (by decide))
theorem nin_nl (F : Fx P c sd) (b : Bel P.n L) (hi : i < P.n) {G : GH} : cmpO G .nin (nlV P i) (.lst (L.map (nlV P))) = some (!L.contains i) := (congrArg (fun l => cmpO G .nin (.int (P.nl i)) (.lst l)) nlm.symm).trans ((nin_lst _ _).trans (congrArg (fun b => some (!b)) (nl_con F b hi)))
theorem w_gone (F : Fx P c sd) (hL : LP P L) (hρ : ρ.length = 21) (h5 : ρ[5]? = some (some (.lst (L.map (nlV P))))) (h14 : ρ[14]? = some (some (.lst ((L.filter fun i => !P.imp M i).map (nlV P))))) {G : GH} : mE (XD d) (.comp false 1 (.loc 21) [.mk [21] true .vals [(.loc 5)] [(.cmp .nin (.loc 21) (.loc 14))]]) ρ G = some (.lst ((L.filter (P.imp M)).map (nlV P)), G) :=
  compL (nlV P) (P.imp M) (nlV P) hρ (lo h5) (fun i hi => ⟨and_t' (cmp_eq (lo21 hρ) (lo h14) ((nin_nl F (fun j hj => hL.bel j (List.mem_filter.mp hj).1) (hL.bel i hi)).trans (congrArg some (by
    cases h : P.imp M i with
    | true => rw [not_con fun q => by have := (List.mem_filter.mp q).2; rw [h] at this; cases this]; rfl
    | false => rw [mem_con (List.mem_filter.mpr ⟨hi, by rw [h]; rfl⟩)]; rfl)))), fun _ => lo21 hρ⟩) (Nat.le_trans (hL.len F) (by decide))
theorem dats_bool {G : GH} {n : Nat} : ∀ l : List Bool, datsW (datO G (n + 1)) (l.map .bool) = some (l.map .bool)
  | [] => rfl
  | b :: r => bnd (o := datO G (n + 1) (.bool b)) rfl (mpp (dats_bool r))
theorem dEqs_bool : ∀ l : List Bool, dEqs (l.map .bool) (l.map .bool) = true
  | [] => by rw [List.map_nil, dEqs]; rfl
  | b :: r => by
    rw [List.map_cons, dEqs, dEqs_bool r, Bool.and_true, dEq]
    cases b <;> rfl
theorem ne_bool {G : GH} (l : List Bool) : cmpO G .ne (.lst (l.map .bool)) (.lst (l.map .bool)) = some false :=
  mpp (o := eqO G _ _) (f := (!·)) (a := true) (bnd (o := datO G 8 (.lst (l.map .bool))) (mpp (o := datsW (datO G 7) (l.map .bool)) (dats_bool l)) ((mpp (mpp (o := datsW (datO G 7) (l.map .bool)) (dats_bool l))).trans (congrArg some ((show dEq (.lst (l.map .bool)) (.lst (l.map .bool)) = dEqs (l.map .bool) (l.map .bool) by rw [dEq]; rfl).trans (dEqs_bool l)))))
theorem ne_same {G : GH} (l : List Int) : cmpO G .ne (.lst (l.map .int)) (.lst (l.map .int)) = some false := (ne_lst l l).trans (by rw [beq_self_eq_true]; rfl)
theorem ne_nl {G : GH} : cmpO G .ne (.lst (L.map (nlV P))) (.lst (L.map (nlV P))) = some false := by
  rw [show L.map (nlV P) = (L.map P.nl).map .int from nlm.symm]; exact ne_same _
theorem ne_vr {G : GH} : cmpO G .ne (.lst (L.map vrV)) (.lst (L.map vrV)) = some false := by
  rw [show L.map vrV = (L.map vr).map .int from (List.map_map ..).symm]; exact ne_same _
theorem ne_tr {G : GH} {k : Nat} (h : G[k]? = some (.lst (L.map (ltV P)))) : cmpO G .ne (.ref k) (.lst (L.map (ltV P))) = some false := by
  rw [show L.map (ltV P) = (L.map P.lt).map .int from (List.map_map ..).symm] at h ⊢
  exact mpp (o := eqO G _ _) (f := (!·)) (a := true) (bnd (dat_ref h) ((mpp (dat_lst _)).trans (congrArg some ((dEqs_int (L.map P.lt) (L.map P.lt)).trans (beq_self_eq_true _)))))
end
end Mine.Law
end
section
set_option autoImplicit false
set_option linter.unusedVariables false
set_option linter.unusedSimpArgs false
set_option linter.unusedSectionVars false
set_option maxRecDepth 10000
namespace Mine.Law
theorem ltm {P : Pl} {L : List Nat} : (L.map P.lt).map MV.int = L.map (ltV P) := List.map_map ..
theorem vrm {L : List Nat} : (L.map vr).map MV.int = L.map vrV := List.map_map ..
theorem sort_up {n : Nat} {L : List Nat} {l : List Int} (nd : L.Nodup) (b : Bel n L) (h : l.Perm (L.map vr)) : l.mergeSort (· ≤ ·) = ((List.range n).filter fun i => L.contains i).map vr := by
  refine List.Perm.eq_of_pairwise (le := fun a b => decide (a ≤ b) = true) (fun a b _ _ h1 h2 => Int.le_antisymm (of_decide_eq_true h1) (of_decide_eq_true h2)) ?_ ?_ ((List.mergeSort_perm l _).trans (h.trans (List.Perm.map _ ?_)))
  · exact List.pairwise_mergeSort (le := fun a b : Int => decide (a ≤ b)) (fun a b c h1 h2 => decide_eq_true (Int.le_trans (of_decide_eq_true h1) (of_decide_eq_true h2))) (fun a b => by simp only [Bool.or_eq_true, decide_eq_true_eq]; exact Int.le_total a b) l
  · exact List.Pairwise.map (R := fun a b : Nat => a < b) vr (fun a b h => decide_eq_true (by unfold vr; omega)) (List.pairwise_lt_range.filter _)
  · refine (List.perm_ext_iff_of_nodup nd (List.nodup_range.sublist List.filter_sublist)).mpr fun a => ?_
    rw [List.mem_filter, List.mem_range, List.contains_iff_mem]
    exact ⟨fun q => ⟨b a q, q⟩, fun q => q.2⟩
section
variable {P : Pl} {c : Co} {sd : List (Int × MV)} {f : GO} {post : GH} {d i ep : Nat} {ρ : Lo} {L M gn bs rt R : List Nat} {X : Ctx} {G : GH} {r p : List MV} {junk : GH}
theorem as22 {a b : MV} (hρ : ρ.length = 21) : asgO false [21, 22] (.tup [a, b]) (ρ ++ List.replicate 2 none) = some (ρ ++ [some a, some b]) := by
  have h1 : set1 (ρ ++ [none, none]) 21 a = some (ρ ++ [some a, none]) := by
    unfold set1
    rw [if_pos (by rw [List.length_append, hρ]; decide), List.set_append_right _ _ (Nat.le_of_eq hρ), hρ]; rfl
  have h2 : set1 (ρ ++ [some a, none]) 22 b = some (ρ ++ [some a, some b]) := by
    unfold set1
    rw [if_pos (by rw [List.length_append, hρ]; show 22 < 21 + 2; decide), List.set_append_right _ _ (by rw [hρ]; decide), hρ]; rfl
  show (set1 (ρ ++ [none, none]) 21 a).bind (fun ρ' => (set1 ρ' 22 b).bind fun ρ'' => some ρ'') = _
  exact bnd h1 (bnd h2 rfl)
theorem w_pairs (hρ : ρ.length = 21) (h13 : ρ[13]? = some (some (.ref 24))) (hG : G[24]? = some (.lst (L.map (prV P)))) (hl : L.length ≤ 4000) : mE X (.comp false 2 (.loc 21) [.mk [21, 22] false .vals [(.loc 13)] []]) ρ G = some (.lst (L.map vrV), G) :=
  (comp_ref (prV P) (fun _ => true) vrV (lo h13) hG (fun i _ => ⟨_, as22 hρ, and_nil, fun _ => loc_eq (by rw [List.getElem?_append_right (by omega), hρ]; rfl)⟩) hl).trans (by rw [filter_true])
theorem w_back (F : Fx P c sd) (hρ : ρ.length = 21) (b : Bel P.n gn) (h11 : ρ[11]? = some (some (.lst ((List.range P.n).map (ltV P))))) (h15 : ρ[15]? = some (some (.lst (gn.map (nlV P))))) : mE X (.comp false 1 (.blt .abs (.loc 21)) [.mk [21] true .vals [(.rev (.loc 11))] [(.cmp .isin (.neg (.loc 21)) (.loc 15))]]) ρ G = some (.lst ((down P.n gn).map vrV), G) := by
  have e := compL (X := X) (ρ := ρ) (G := G) (elt := .blt .abs (.loc 21)) (src := .rev (.loc 11)) (ifs := [(.cmp .isin (.neg (.loc 21)) (.loc 15))]) (l := (List.range P.n).reverse) (ltV P) (fun i => gn.contains i) vrV hρ (rev_eq (lo h11) (congrArg (fun l => some (MV.lst l)) List.map_reverse.symm)) (fun i hi => by
    have hin : i < P.n := List.mem_range.mp (List.mem_reverse.mp hi)
    exact ⟨and_t' (cmp_eq (neg_eq (lo21 hρ)) (lo h15) ((congrArg (fun l => cmpO G .isin (.int (P.nl i)) (.lst l)) nlm.symm).trans ((in_lst _ _).trans (congrArg some (nl_con F b hin))))), fun _ => abs_at (F.nat i hin) (lo21 hρ)⟩) (by rw [List.length_reverse]; exact rg_len F)
  rw [List.filter_reverse] at e
  exact e
theorem w_stays (F : Fx P c sd) (hL : LP P (L ++ bs)) (hρ : ρ.length = 21) (h2 : ρ[2]? = some (some S1)) (h16 : ρ[16]? = some (some (.lst (L.map (nlV P))))) (h6 : ρ[6]? = some (some (.lst (bs.map (nlV P))))) (h11 : ρ[11]? = some (some (.lst ((List.range P.n).map (ltV P))))) :
    mE (XD d) (.bin .add (.comp false 1 (.neg (.loc 21)) [.mk [21] true .vals [(.bin .add (.loc 16) (.loc 6))] []]) (.comp false 1 (.loc 21) [.mk [21] true .vals [(.loc 11)] [(.cmp .eq (.sub (.attr (.loc 2) n_levels) (.blt .abs (.loc 21))) (.kI 0))]])) ρ (inn [f] post c) = some (ltL P (L ++ bs ++ (List.range P.n).filter fun i => P.lv i == 0), inn [f] post c) := by
  have hn := F.n8
  have hl := hL.len F
  have hll := List.length_append (as := L) (bs := bs)
  have a1 := compL (X := XD d) (ρ := ρ) (G := inn [f] post c) (elt := .neg (.loc 21)) (src := .bin .add (.loc 16) (.loc 6)) (ifs := []) (l := L ++ bs) (nlV P) (fun _ => true) (ltV P) hρ (bin_eq (o := .add) (lo h16) (lo h6) ((bin_app (by rw [List.length_map, List.length_map]; omega)).trans (by rw [List.map_append]))) (fun i _ => ⟨and_nil, fun _ => (neg_eq (lo21 hρ)).trans (congrArg (fun z => some (MV.int z, _)) neg_nl)⟩) (by omega)
  have a2 := compL (X := XD d) (ρ := ρ) (G := inn [f] post c) (elt := .loc 21) (src := .loc 11) (ifs := [(.cmp .eq (.sub (.attr (.loc 2) n_levels) (.blt .abs (.loc 21))) (.kI 0))]) (l := List.range P.n) (ltV P) (fun i => P.lv i == 0) (ltV P) hρ (lo h11) (fun i hi => ⟨and_t' (lv0 F hρ h2 (List.mem_range.mp hi) (F.nat i (List.mem_range.mp hi))), fun _ => lo21 hρ⟩) (rg_len F)
  rw [filter_true] at a1
  have h3 := List.length_filter_le (fun i => P.lv i == 0) (List.range P.n)
  rw [List.length_range] at h3
  refine bin_eq (o := .add) a1 a2 ((bin_app (by rw [List.length_map, List.length_map]; omega)).trans ?_)
  unfold ltL
  rw [ltm, ← List.map_append]
theorem src_dct {g : Gd} : ∀ l : List (Int × MV), Src G g (l.map fun q => .val (.int q.1)) (l.map fun q => .int q.1)
  | [] => trivial
  | _ :: r => ⟨rfl, src_dct r⟩
theorem lookup_some {k : Int} : ∀ {l : List (Int × MV)} {v : MV}, l.lookup k = some v → (k, v) ∈ l
  | (a, x) :: r, v, h => by
    rw [List.lookup_cons] at h
    cases e : k == a with
    | true =>
      rw [e] at h
      cases h
      rw [eq_of_beq e]; exact .head _
    | false => rw [e] at h; exact .tail _ (lookup_some h)
theorem lookup_is {k : Int} {v : MV} : ∀ {l : List (Int × MV)}, (k, v) ∈ l → ∃ w, l.lookup k = some w
  | (a, x) :: r, h => by
    rw [List.lookup_cons]
    cases e : k == a with
    | true => exact ⟨x, rfl⟩
    | false => exact lookup_is ((List.mem_cons.mp h).resolve_left fun q => by cases q; rw [beq_self_eq_true] at e; cases e)
theorem w_clauses (F : Fx P c sd) (hρ : ρ.length = 21) (h3 : ρ[3]? = some (some (.ref 22))) : ∃ cls : List Nat, mE X (.comp false 1 (.sub (.loc 3) (.loc 21)) [.mk [21] true .vals [(.loc 3)] []]) ρ (inn [f] (.nd ep sd :: post) c) = some (.lst (cls.map fun i => clV (P.cl i)), inn [f] (.nd ep sd :: post) c) ∧ Bel P.n cls ∧ ∀ i, i < P.n → P.dec i = false → i ∈ cls := by
  have hx : ∀ q : Int × MV, ∃ i : Nat, q ∈ sd → i < P.n ∧ sd.lookup q.1 = some (clV (P.cl i)) := fun q => by
    by_cases h : q ∈ sd
    · obtain ⟨w, hw⟩ := lookup_is (k := q.1) (v := q.2) h
      obtain ⟨i, h1, _, h2⟩ := F.sdv _ (lookup_some hw)
      exact ⟨i, fun _ => ⟨h1, by rw [hw]; exact congrArg some h2⟩⟩
    · exact ⟨0, fun q => absurd q h⟩
  obtain ⟨ix, hix⟩ := Classical.axiomOfChoice hx
  refine ⟨sd.map ix, ?_, fun i hi => ?_, fun i hi hd => ?_⟩
  · have hl := F.sdl
    have hn := F.n8
    have := comp1G (X := X) (ρ := ρ) (G := inn [f] (.nd ep sd :: post) c) (k := 1) (elt := .sub (.loc 3) (.loc 21)) (tgt := [21]) (one := true) (sk := .vals) (ifs := []) (gd := .dct 22 ep (sd.map (·.1))) (l := sd) (fun q => .int q.1) (fun _ => true) (fun q => clV (P.cl (ix q))) (es1 (lo h3)) rfl (decide_eq_true ⟨rfl, rfl⟩) (src_dct sd) (fun q hq => ⟨_, as21 hρ, and_nil, fun _ => sub_eq (lo h3) (lo21 hρ) (hix q hq).2⟩) (by omega)
    rw [filter_true] at this
    exact this.trans (by rw [List.map_map]; rfl)
  · obtain ⟨q, hq, rfl⟩ := List.mem_map.mp hi
    exact (hix q hq).1
  · obtain ⟨_, _, _, _, h⟩ := F.rea2 i hi hd
    have hm := lookup_some h
    refine List.mem_map.mpr ⟨_, hm, ?_⟩
    obtain ⟨h1, h2⟩ := hix _ hm
    have h3 := MV.lst.inj (Option.some.inj (h2.symm.trans h))
    have h4 := MV.int.inj (List.cons.inj h3).1
    exact Classical.byContradiction fun q => lt_ne F h1 hi q h4
theorem all_known (F : Fx P c sd) {K cls : List Nat} (hM : ∀ j ∈ M, P.lv j ≠ 0 → j ∈ L ∨ j ∈ bs) (bL : Bel P.n L) (hk : ∀ j, j ∈ L → P.imp M j = false → j ∈ K) (hb : ∀ j ∈ bs, j ∈ K) (hz : ∀ j, j < P.n → P.lv j = 0 → j ∈ K) (hc : ∀ i, i < P.n → P.dec i = false → i ∈ cls) (hK : ∀ i ∈ cls, (P.os i).all K.contains = true → i ∈ K) : ∀ (m i : Nat), i < m → i ∈ L → i ∈ K
  | 0, _, h, _ => absurd h (Nat.not_lt_zero _)
  | m + 1, i, hm, hi => by
    cases h : P.imp M i with
    | false => exact hk i hi h
    | true =>
      obtain ⟨hd, hf⟩ := Bool.and_eq_true_iff.mp h
      have hin := bL i hi
      refine hK i (hc i hin (by simpa using hd)) (List.all_eq_true.mpr fun j hj => List.contains_iff_mem.mpr ?_)
      have h1 := F.osl i hin j hj
      by_cases h2 : P.lv j = 0
      · exact hz j (by omega) h2
      · have h3 := List.all_eq_true.mp hf j hj
        unfold Pl.free at h3
        rw [beq_eq_false_iff_ne.mpr h2, Bool.false_or] at h3
        rcases hM j (List.contains_iff_mem.mp h3) h2 with h4 | h4
        · exact all_known F hM bL hk hb hz hc hK m j (by omega) h4
        · exact hb j h4
theorem w_sure (F : Fx P c sd) {K : List Nat} {B : GH} (hρ : ρ.length = 21) (hl : gn.length ≤ 4000) (bg : Bel P.n gn) (bK : Bel P.n K) (hg : ∀ i ∈ gn, i ∈ K) (h15 : ρ[15]? = some (some (.lst (gn.map (nlV P))))) (h18 : ρ[18]? = some (some (.ref B.length))) : mE X (.cmp .ne (.comp false 1 (.loc 21) [.mk [21] true .vals [(.loc 15)] [(.cmp .nin (.neg (.loc 21)) (.loc 18))]]) (.lst false [])) ρ (GK P B K) = some (.bool false, GK P B K) := by
  have a := compL (X := X) (ρ := ρ) (G := GK P B K) (elt := .loc 21) (src := .loc 15) (ifs := [(.cmp .nin (.neg (.loc 21)) (.loc 18))]) (l := gn) (nlV P) (fun i => !K.contains i) (nlV P) hρ (lo h15) (fun i hi => ⟨and_t' (cmp_eq (neg_eq (lo21 hρ)) (lo h18) ((nin_ref get_end _).trans (congrArg (fun b => some (!b)) ((congrArg (fun z => (K.map P.lt).contains z) neg_nl).trans (lt_con F bK (bg i hi)))))), fun _ => lo21 hρ⟩) hl
  rw [List.filter_eq_nil_iff.mpr fun i hi => by rw [mem_con (hg i hi)]; exact Bool.false_ne_true] at a
  exact cmp_eq a (lstF_eq es0) (ne_same [])
theorem ne_sort {e1 e2 : ME} {l : List Int} {vs ws : List MV} (h1 : mE X e1 ρ G = some (.lst vs, G)) (hv : vs = l.map .int) (h2 : mE X e2 ρ G = some (.lst ws, G)) (hw : ws = l.map .int) (hl : l.length < 64) : mE X (.cmp .ne (.blt .sorted e1) (.blt .sorted e2)) ρ G = some (.bool false, G) := by
  subst hv hw
  exact cmp_eq (blt_eq h1 (sorted_lst hl)) (blt_eq h2 (sorted_lst hl)) (ne_same _)
theorem w_high (F : Fx P c sd) {here : List Nat} (hρ : ρ.length = 21) (h2 : ρ[2]? = some (some S1)) (nd : here.Nodup) (b : Bel P.n here) (hu : here.filter (fun j => !(P.lv j == 0)) = L ++ bs) (h19 : ρ[19]? = some (some (nlL P here))) (h16 : ρ[16]? = some (some (.lst (L.map (nlV P))))) (h6 : ρ[6]? = some (some (.lst (bs.map (nlV P))))) :
    mE (XD d) (.or_ [(.cmp .is (.loc 19) .kN), (.cmp .ne (.blt .sorted (.comp false 1 (.loc 21) [.mk [21] true .vals [(.loc 19)] [(.cmp .gt (.sub (.attr (.loc 2) n_levels) (.blt .abs (.loc 21))) (.kI 0))]])) (.blt .sorted (.bin .add (.loc 16) (.loc 6))))]) ρ (inn [f] post c) = some (.bool false, inn [f] post c) := by
  have hn := F.n8
  have hl := bel_len nd b
  have a := compL (X := XD d) (ρ := ρ) (G := inn [f] post c) (elt := .loc 21) (src := .loc 19) (ifs := [(.cmp .gt (.sub (.attr (.loc 2) n_levels) (.blt .abs (.loc 21))) (.kI 0))]) (l := here) (nlV P) (fun i => !(P.lv i == 0)) (nlV P) hρ (lo h19) (fun i hi => ⟨and_t' (lvG F hρ h2 (b i hi) (nl_nat F (b i hi))), fun _ => lo21 hρ⟩) (by omega)
  have hl2 := List.length_filter_le (fun j => !(P.lv j == 0)) here
  rw [hu, List.length_append] at hl2
  rw [hu] at a
  exact or2_ff (cmp_eq (loc_eq h19) kN_eq rfl) (ne_sort (l := (L ++ bs).map P.nl) a nlm.symm (bin_eq (o := .add) (loc_eq h16) (loc_eq h6) (bin_app (by rw [List.length_map, List.length_map]; omega))) (by rw [← List.map_append]; exact nlm.symm) (by rw [List.length_map, List.length_append]; omega))
theorem w_low (F : Fx P c sd) {here : List Nat} (hρ : ρ.length = 21) (h2 : ρ[2]? = some (some S1)) (nd : here.Nodup) (b : Bel P.n here) (hu : here.filter (fun j => P.lv j == 0 && !rt.contains j) = R) (h19 : ρ[19]? = some (some (nlL P here))) (h10 : ρ[10]? = some (some (.lst (rt.map vrV)))) :
    mE (XD d) (.blt .sorted (.comp false 1 (.blt .abs (.loc 21)) [.mk [21] true .vals [(.loc 19)] [(.and_ [(.cmp .eq (.sub (.attr (.loc 2) n_levels) (.blt .abs (.loc 21))) (.kI 0)), (.cmp .nin (.blt .abs (.loc 21)) (.loc 10))])]])) ρ (inn [f] post c) = some (.lst (((R.map vr).mergeSort (· ≤ ·)).map .int), inn [f] post c) := by
  have hn := F.n8
  have hl := bel_len nd b
  have a := compL (X := XD d) (ρ := ρ) (G := inn [f] post c) (elt := .blt .abs (.loc 21)) (src := .loc 19) (ifs := [(.and_ [(.cmp .eq (.sub (.attr (.loc 2) n_levels) (.blt .abs (.loc 21))) (.kI 0)), (.cmp .nin (.blt .abs (.loc 21)) (.loc 10))])]) (l := here) (nlV P) (fun i => P.lv i == 0 && !rt.contains i) vrV hρ (lo h19) (fun i hi => by
    have ea : ∀ G : GH, mE (XD d) (.blt .abs (.loc 21)) (ρ ++ [some (nlV P i)]) G = some (vrV i, G) := fun G => abs_at (nl_nat F (b i hi)) (lo21 hρ)
    exact ⟨and_t' (and2_eq (lv0 F hρ h2 (b i hi) (nl_nat F (b i hi))) (cmp_eq (ea _) (lo h10) ((congrArg (fun l => cmpO _ .nin (vrV i) (.lst l)) vrm.symm).trans ((nin_lst _ _).trans (congrArg (fun b => some (!b)) vr_in))))), fun _ => ea _⟩) (by omega)
  have hl2 := List.length_filter_le (fun j => P.lv j == 0 && !rt.contains j) here
  rw [hu] at a hl2
  rw [← vrm] at a
  exact blt_eq a (sorted_lst (by rw [List.length_map]; omega))
theorem slcR_hi {l : List MV} {k n : Nat} (h : G[k]? = some (.lst l)) : slcO G (.ref k) .none (.int (n : Int)) = some (.lst (l.take n)) := bnd (hL_of h) (slc_hi (G := G))
theorem slcR_lo {l : List MV} {k n : Nat} (h : G[k]? = some (.lst l)) : slcO G (.ref k) (.int (n : Int)) .none = some (.lst (l.drop n)) := bnd (hL_of h) (slc_lo (G := G))
theorem w_roots2 (hr : R.length ≤ 8) (h7 : ρ[7]? = some (some (.ref 23))) (h10 : ρ[10]? = some (some (.lst (rt.map vrV)))) (h20 : ρ[20]? = some (some (.lst (((R.map vr).mergeSort (· ≤ ·)).map .int)))) (hG : G[23]? = some (.lst (noted (rt.map vrV) R))) :
    mE X (.or_ [(.cmp .ne (.slc (.loc 7) .kN (.blt .len (.loc 10))) (.loc 10)), (.cmp .ne (.blt .sorted (.slc (.loc 7) (.blt .len (.loc 10)) .kN)) (.loc 20))]) ρ G = some (.bool false, G) := by
  have ln : mE X (.blt .len (.loc 10)) ρ G = some (.int ((rt.map vrV).length : Int), G) := blt_eq (r := (.int ((rt.map vrV).length : Int), G)) (loc_eq h10) rfl
  have t1 := slcR_hi (n := (rt.map vrV).length) hG
  have t2 := slcR_lo (n := (rt.map vrV).length) hG
  unfold noted at t1 t2
  rw [List.take_left] at t1
  rw [List.drop_left] at t2
  exact or2_ff (cmp_eq (slc_eq (loc_eq h7) kN_eq ln t1) (loc_eq h10) ne_vr) (cmp_eq (blt_eq (slc_eq (loc_eq h7) ln kN_eq t2) (sorted_lst (by rw [List.length_map]; omega))) (loc_eq h20) (ne_same _))
theorem vc_spec (hn : c.assigns.length = P.n + 1) : mcall prog 64 (d + 1) f_Trail_var_count [S1] (inn [f] post c) = some (.int (P.n : Int), inn [f] post c) :=
  ret_of (mf := d_Trail_var_count) rfl rfl (ret1 (bin_eq (o := .sub) (blt_eq (b := .len) (attr_eq (loc_eq rfl) (ac_assigns [f] post c 64 _)) (len_lst (g1 [f] post c))) kI_eq (congrArg (fun z => some (MV.int z)) (show (c.assigns.length : Int) - 1 = P.n by rw [hn]; omega))))
theorem so_two {a b : Int} : srcO G .rng [.int a, .int b] = rng2 (.int a) (.int b) := if_neg (t := l1 [.int a, .int b] rng1) (by decide : ¬ (2 = 1))
theorem rng2_ok {a b : Int} (h : 0 ≤ a ∧ a < 4096 ∧ 0 ≤ b ∧ b < 4096) : rng2 (.int a) (.int b) = some (.no, rangeO a b 1) := (if_pos h : (if 0 ≤ a ∧ a < 4096 ∧ 0 ≤ b ∧ b < 4096 then some (Gd.no, rangeO a b 1) else none) = _)
theorem so_rng2 {n : Nat} (hn : n ≤ 4000) : srcO G .rng [.int 1, .int ((n : Int) + 1)] = some (.no, ((List.range n).map vrV).map .val) := by
  rw [so_two, rng2_ok ⟨by decide, by decide, by omega, by omega⟩]
  unfold rangeO
  rw [if_pos (by decide), List.map_map, show (((n : Int) + 1 - 1 + 1 - 1).fdiv 1).toNat = n by rw [Int.fdiv_one]; omega]
  refine congrArg (fun l => some (Gd.no, l)) (List.map_congr_left fun k _ => ?_)
  show Itm.val (.int (1 + 1 * (k : Int))) = .val (.int ((k + 1 : Nat) : Int))
  congr 2; omega
theorem w_final (F : Fx P c sd) (hρ : ρ.length = 21) (N : Sn P.n c.seen (M ++ R)) (nd : (M ++ R).Nodup) (b : Bel P.n (M ++ R)) (h2 : ρ[2]? = some (some S1)) (h8 : ρ[8]? = some (some (mkL' M))) (h20 : ρ[20]? = some (some (.lst (((R.map vr).mergeSort (· ≤ ·)).map .int)))) :
    mE (XD (d + 1)) (.cmp .eq (.comp false 1 (.loc 21) [.mk [21] true .rng [(.kI 1), (.bin .add (.meth (.loc 2) n_var_count []) (.kI 1))] [(.truth (.sub (.attr (.loc 2) n_seen) (.loc 21)))]]) (.blt .sorted (.bin .add (.loc 8) (.loc 20)))) ρ (inn [f] post c) = some (.bool true, inn [f] post c) := by
  have hn := F.n8
  have hl := bel_len nd b
  have hp : ((M.map vr) ++ (R.map vr).mergeSort (· ≤ ·)).Perm ((M ++ R).map vr) := by rw [List.map_append]; exact List.Perm.append_left _ (List.mergeSort_perm _ _)
  have hp2 := hp.length_eq
  have hp3 := (List.mergeSort_perm (R.map vr) (fun a b => decide (a ≤ b))).length_eq
  rw [List.length_map] at hp2 hp3
  rw [List.length_append] at hl hp2
  have vc : mE (XD (d + 1)) (.meth (.loc 2) n_var_count []) (ρ ++ [none]) (inn [f] post c) = some (.int (P.n : Int), inn [f] post c) := (mc (X := XD (d + 1)) (pre := [f]) (m := n_var_count) (f := f_Trail_var_count) (by decide +kernel : pMth c_Search n_var_count = some f_Trail_var_count) rfl (lo h2) es0).trans (vc_spec (d := d) F.al)
  have a := comp1G (X := XD (d + 1)) (ρ := ρ) (G := inn [f] post c) (k := 1) (elt := .loc 21) (tgt := [21]) (one := true) (sk := .rng) (ifs := [(.truth (.sub (.attr (.loc 2) n_seen) (.loc 21)))]) (gd := .no) (l := List.range P.n) vrV (fun i => (M ++ R).contains i) vrV (es2 kI_eq (bin_eq (o := .add) vc kI_eq rfl)) (so_rng2 (by omega)) rfl (src_no _ _) (fun i hi => ⟨_, as21 hρ, and_t' (tr_eq (at_seen N (List.mem_range.mp hi) (lo h2) (lo21 hρ))), fun _ => lo21 hρ⟩) (rg_len F)
  have s := sorted_lst (G := inn [f] post c) (l := (M.map vr) ++ (R.map vr).mergeSort (· ≤ ·)) (by rw [List.length_append, List.length_map]; omega)
  rw [sort_up nd b hp] at s
  refine cmp_eq a (blt_eq (bin_eq (o := .add) (loc_eq h8) (loc_eq h20) (bin_app (by rw [List.length_map, List.length_map, List.length_map]; omega))) (by rw [← List.map_append]; exact s)) ?_
  rw [← vrm]
  exact (ceq_lst _ _).trans (by rw [beq_self_eq_true])
end
end Mine.Law
end
section
set_option autoImplicit false
set_option linter.unusedVariables false
set_option linter.unusedSimpArgs false
set_option linter.unusedSectionVars false
set_option maxRecDepth 10000
namespace Mine.Law
noncomputable abbrev lwE (v0 : MV) (v4 v5 v6 v7 v8 v9 v10 v11 v12 v13 v14 v15 v16 v17 v18 v19 v20 : Option MV) : Lo := [some v0, some (.ref 0), some S1, some (.ref 22), v4, v5, v6, v7, v8, v9, v10, v11, v12, v13, v14, v15, v16, v17, v18, v19, v20]
noncomputable abbrev lwB (P : Pl) (v0 : MV) (v5 v6 v7 v8 v9 v10 v11 v12 v13 : Option MV) : Lo := lwE v0 (some (.lst (P.ab.map (ltV P)))) v5 v6 v7 v8 v9 v10 v11 v12 v13 none none none none none none none
noncomputable abbrev lwF (P : Pl) (v0 : MV) (L bs rt M : List Nat) (y9 v14 v15 v16 v17 v18 v19 v20 : Option MV) : Lo := lwE v0 (some (.lst (P.ab.map (ltV P)))) (some (.lst (L.map (nlV P)))) (some (.lst (bs.map (nlV P)))) (some (.ref 23)) (some (mkL' M)) y9 (some (.lst (rt.map vrV))) (some (.lst ((List.range P.n).map (ltV P)))) (some (.lst (L.map (nlV P)))) (some (.ref 24)) v14 v15 v16 v17 v18 v19 v20
section
variable {G : GH} {k : Nat} {l a b : List MV}
theorem bin_appR (h : G[k]? = some (.lst b)) (hl : a.length + b.length < 4096) : binO G .add (.lst a) (.ref k) = some (.lst (a ++ b)) := bnd (o := hL G k) (hL_of h) (if_pos hl)
theorem listR (h : G[k]? = some (.lst l)) (hl : l.length < 4096) : bltO G (.list false) (.ref k) = some (.lst l, G) := bnd (o := hL G k) (hL_of h) (if_pos hl)
theorem listF (hl : l.length < 4096) : bltO G (.list false) (.lst l) = some (.lst l, G) := if_pos hl
end
section
variable {P : Pl} {c : Co} {sd : List (Int × MV)} {cells : List Int} {s ep : Nat} {L : List Nat} {v0 : MV} {post : GH}
theorem b_rev (F : Fx P c sd) (hL : LP P L) (hs : s ≤ 1000) : ∃ (L' : List Nat) (s' : Nat), mS (XD 18) (.ifS (.cmp .eq (.call f_law_figure [(.loc 1), (.kI 2)]) (.kI 1)) [.asg 5 (.rev (.loc 5))] []) (lwB P v0 (some (.lst (L.map (nlV P)))) none none none none none none none none) (inn [fd cells s] post c) = some (.next, lwB P v0 (some (.lst (L'.map (nlV P)))) none none none none none none none none, inn [fd cells s'] post c) ∧ LP P L' ∧ s' ≤ s + 1 := by
  obtain ⟨b, hb⟩ := fgc (o := .eq) (k := 1) (cells := cells) (s := s) (post := post) (c := c) (many := 2) (ρ := lwB P v0 (some (.lst (L.map (nlV P)))) none none none none none none none none) (fun _ _ => eq_int) rfl (by decide) (by omega)
  cases b with
  | false => exact ⟨L, s + 1, (if_f hb).trans seq_nil, hL, Nat.le_refl _⟩
  | true => exact ⟨L.reverse, s + 1, (if_t hb).trans ((seq_next (asg_eq (rev_eq (v := .lst (L.map (nlV P))) (x := .lst (L.reverse.map (nlV P))) (loc_eq rfl) (congrArg (fun l => some (MV.lst l)) List.map_reverse.symm)) rfl)).trans seq_nil), hL.rev, Nat.le_refl _⟩
theorem b_bes (F : Fx P c sd) {b0 : List Nat} {v5 : Option MV} (hs : s ≤ 1000) : ∃ (bs : List Nat) (s' : Nat), mE (XD 18) (.ite (.cmp .eq (.call f_law_figure [(.loc 1), (.kI 2)]) (.kI 1)) (.slc (.loc 6) .kN (.kI 1)) (.lst false [])) (lwB P v0 v5 (some (.lst (b0.map (nlV P)))) none none none none none none none) (inn [fd cells s] post c) = some (.lst (bs.map (nlV P)), inn [fd cells s'] post c) ∧ bs.Sublist b0 ∧ s' ≤ s + 1 := by
  obtain ⟨b, hb⟩ := fgc (o := .eq) (k := 1) (cells := cells) (s := s) (post := post) (c := c) (many := 2) (ρ := lwB P v0 v5 (some (.lst (b0.map (nlV P)))) none none none none none none none) (fun _ _ => eq_int) rfl (by decide) (by omega)
  cases b with
  | false => exact ⟨[], s + 1, (ite_f hb).trans (lstF_eq es0), List.nil_sublist _, Nat.le_refl _⟩
  | true => exact ⟨b0.take 1, s + 1, (ite_t hb).trans (slc_eq (loc_eq rfl) kN_eq kI_eq ((slc_hi (n := 1)).trans (by rw [List.map_take]))), List.take_sublist _ _, Nat.le_refl _⟩
theorem LP.join {L bs : List Nat} (h : LP P L) (hb : bs.Sublist (P.ab.filter fun i => !L.contains i)) : LP P (L ++ bs) := by
  have hm : ∀ i ∈ bs, i ∈ P.ab ∧ (!L.contains i) = true := fun i hi => List.mem_filter.mp (hb.subset hi)
  refine ⟨List.nodup_append.mpr ⟨h.nd, (ab_nd.sublist List.filter_sublist).sublist hb, fun a ha x hx e => not_mem_of (hm x hx).2 (e ▸ ha)⟩, fun i hi => (List.mem_append.mp hi).elim (h.ab i) fun q => (hm i q).1⟩
theorem law_B (F : Fx P c sd) (N : Sn P.n c.seen []) (hs : s ≤ 500) : ∃ (L bs rt : List Nat) (s' : Nat) (S : List Bool) (y9 : Option MV), mSs (XD 18) (b_law.drop 2) (lwE v0 none none none none none none none none none none none none none none none none none) (inn [fd cells s] [.nd ep sd] c) = mSs (XD 18) (b_law.drop 11) (lwF P v0 L bs rt (L ++ bs ++ rt) y9 none none none none none none none) (inn [fd cells s'] [.nd ep sd, .lst (rt.map vrV), .lst []] { c with seen := S }) ∧
    LP P (L ++ bs) ∧ rt.Nodup ∧ Bel P.n rt ∧ (∀ i ∈ rt, P.lv i = 0) ∧ Sn P.n S (L ++ bs ++ rt) := by
  have hn := F.n8
  obtain ⟨L0, s1, e4, sub, hs1⟩ := w_lot (ρ := lwB P v0 none none none none none none none none none) (cells := cells) (s := s) (post := [.nd ep sd]) F rfl rfl rfl (by omega)
  obtain ⟨L, s2, e5, hL, hs2⟩ := b_rev (v0 := v0) (cells := cells) (s := s1) (post := [.nd ep sd]) F (LP.of sub) (by omega)
  obtain ⟨bs, s3, e7, hb, hs3⟩ := b_bes (v0 := v0) (v5 := some (.lst (L.map (nlV P)))) (cells := cells) (s := s2) (post := [.nd ep sd]) (b0 := P.ab.filter fun i => !L.contains i) F (by omega)
  obtain ⟨rt, s4, e8, rn, rb, rl⟩ := w_roots (ρ := lwB P v0 (some (.lst (L.map (nlV P)))) (some (.lst (bs.map (nlV P)))) none none none none none none none) (cells := cells) (s := s3) (post := [.nd ep sd]) F rfl rfl rfl (by omega)
  have hJ := hL.join hb
  have hj := hJ.len F
  have hlj := List.length_append (as := L) (bs := bs)
  have hr := bel_len rn rb
  have bM : Bel P.n (L ++ bs ++ rt) := fun i hi => (List.mem_append.mp hi).elim (hJ.bel i) (rb i)
  have e9 : mE (XD 18) (.bin .add (.comp false 1 (.blt .abs (.loc 21)) [.mk [21] true .vals [(.bin .add (.loc 5) (.loc 6))] []]) (.loc 7)) (lwB P v0 (some (.lst (L.map (nlV P)))) (some (.lst (bs.map (nlV P)))) (some (.ref 23)) none none none none none none) (inn [fd cells s4] [.nd ep sd, .lst (rt.map vrV)] c) = some (mkL' (L ++ bs ++ rt), inn [fd cells s4] [.nd ep sd, .lst (rt.map vrV)] c) := by
    have a := compL (X := XD 18) (ρ := lwB P v0 (some (.lst (L.map (nlV P)))) (some (.lst (bs.map (nlV P)))) (some (.ref 23)) none none none none none none) (G := inn [fd cells s4] [.nd ep sd, .lst (rt.map vrV)] c) (elt := .blt .abs (.loc 21)) (src := .bin .add (.loc 5) (.loc 6)) (ifs := []) (l := L ++ bs) (nlV P) (fun _ => true) vrV rfl (bin_eq (o := .add) (loc_eq rfl) (loc_eq rfl) ((bin_app (by rw [List.length_map, List.length_map]; omega)).trans (by rw [List.map_append]))) (fun i hi => ⟨and_nil, fun _ => abs_at (nl_nat F (hJ.bel i hi)) (lo21 rfl)⟩) (by omega)
    rw [filter_true] at a
    refine bin_eq (o := .add) a (loc_eq rfl) ((bin_appR (b := rt.map vrV) rfl (by rw [List.length_map, List.length_map]; omega)).trans ?_)
    unfold mkL'
    rw [← List.map_append, vrm]
  obtain ⟨y9, S, e10, hN⟩ := w_mark (d := 18) (f := fd cells s4) (post := [.nd ep sd, .lst (rt.map vrV)]) (M := L ++ bs ++ rt) F N bM (E := fun y => lwB P v0 (some (.lst (L.map (nlV P)))) (some (.lst (bs.map (nlV P)))) (some (.ref 23)) (some (mkL' (L ++ bs ++ rt))) y none none none none) (fun _ => rfl) (fun _ => rfl) (fun _ => rfl) (fun _ _ => rfl) none
  refine ⟨L, bs, rt, s4, S, y9, ?_, hJ, rn, rb, rl, hN⟩
  have e11 : mS (XD 18) (.asgT [10, 11, 12, 13] (.tup [(.blt (.list false) (.loc 7)), (.blt (.list false) (.attr (.loc 2) n_trail)), (.blt (.list false) (.loc 5)), (.lst true [])])) (lwB P v0 (some (.lst (L.map (nlV P)))) (some (.lst (bs.map (nlV P)))) (some (.ref 23)) (some (mkL' (L ++ bs ++ rt))) y9 none none none none) (inn [fd cells s4] [.nd ep sd, .lst (rt.map vrV)] { c with seen := S }) = some (.next, lwF P v0 L bs rt (L ++ bs ++ rt) y9 none none none none none none none, inn [fd cells s4] [.nd ep sd, .lst (rt.map vrV), .lst []] { c with seen := S }) :=
    asgT_eq (tup_eq (es4 (blt_eq (loc_eq rfl) (listR (l := rt.map vrV) rfl (by rw [List.length_map]; omega))) (blt_eq (at_trail (loc_eq rfl)) (listR (tr_at (F.seen S)) (by rw [List.length_map, List.length_range]; omega))) (blt_eq (loc_eq rfl) (listF (by rw [List.length_map]; omega))) (lstT_eq es0))) rfl
  exact (seq_next (asg_eq (w_above F rfl rfl) rfl)).trans ((seq_next (asg_eq e4 rfl)).trans ((seq_next e5).trans ((seq_next (asg_eq (w_beside F hL rfl rfl rfl) rfl)).trans ((seq_next (asg_eq e7 rfl)).trans ((seq_next (asg_eq e8 rfl)).trans ((seq_next (asg_eq e9 rfl)).trans ((seq_next e10).trans (seq_next e11))))))))
end
end Mine.Law
end
section
set_option autoImplicit false
set_option linter.unusedVariables false
set_option linter.unusedSimpArgs false
set_option linter.unusedSectionVars false
set_option maxRecDepth 10000
namespace Mine.Law
section
variable {P : Pl} {c : Co} {sd : List (Int × MV)} {f : GO} {ep : Nat} {L bs rt M : List Nat} {v0 : MV} {y9 : Option MV} {junk : GH}
noncomputable def Pl.dn (P : Pl) (M L : List Nat) : List Nat := down P.n (L.filter (P.imp M))
noncomputable def Pl.nt (P : Pl) (M L : List Nat) : List Nat := (P.dn M L).foldl (P.adds M) []
theorem law_C (F : Fx P c sd) (N : Sn P.n c.seen M) (hL : LP P L) (rn : rt.length ≤ 1000) : ∃ (S : List Bool) (junk : GH), mSs (XD 18) (b_law.drop 11) (lwF P v0 L bs rt M y9 none none none none none none none) (inn [f] [.nd ep sd, .lst (rt.map vrV), .lst []] c) = mSs (XD 18) (b_law.drop 16) (lwF P v0 L bs rt M y9 (some (.lst ((L.filter fun i => !P.imp M i).map (nlV P)))) (some (.lst ((L.filter (P.imp M)).map (nlV P)))) (some (.lst ((L.filter fun i => !P.imp M i).map (nlV P)))) none none none none) (inn [f] (.nd ep sd :: .lst (noted (rt.map vrV) (P.nt M L)) :: .lst ((P.dn M L).map (prV P)) :: junk) { c with seen := S }) ∧ Sn P.n S (M ++ P.nt M L) := by
  have h12 := w_ii (d := 17) (f := f) (post := [.nd ep sd, .lst (rt.map vrV), .lst []]) (ρ := lwF P v0 L bs rt M y9 none none none none none none none) F N rfl rfl rfl
  obtain ⟨G1, e12, q1⟩ := w_lii (d := 16) (f := f) (post := [.nd ep sd, .lst (rt.map vrV), .lst []]) (ρ := lwF P v0 L bs rt M y9 none none none none none none none) F rfl rfl rfl rfl ⟨[], rfl⟩
  have nb : ∀ G : GH, cmpO G .ne (.lst ((List.range P.n).map fun i => .bool (P.imp M i))) (.lst ((List.range P.n).map fun i => .bool (P.imp M i))) = some false := fun G => by
    rw [show ((List.range P.n).map fun i => MV.bool (P.imp M i)) = ((List.range P.n).map (P.imp M)).map .bool from (List.map_map ..).symm]
    exact ne_bool _
  obtain ⟨G2, e13, q2⟩ := w_due (d := 16) (f := f) (post := [.nd ep sd, .lst (rt.map vrV), .lst []]) (ρ := lwF P v0 L bs rt M y9 none none none none none none none) F hL rfl rfl rfl rfl q1
  obtain ⟨junk, rfl⟩ := q2
  obtain ⟨S, e15, hS⟩ := sh_spec (d := 15) (f := f) (g0 := .nd ep sd) (junk := junk) (r0 := rt.map vrV) F N (by rw [List.length_map]; exact rn) hL.nd hL.bel hL.lv
  refine ⟨S, junk, ?_, hS⟩
  have hgb : Bel P.n (L.filter (P.imp M)) := fun i hi => hL.bel i (List.mem_filter.mp hi).1
  have hdl : (P.dn M L).length ≤ 8 := Nat.le_trans (bel_len (nodup_gt down_pw) fun i hi => hgb i ((mem_down hgb).mp hi)) F.n8
  have e16 : mE (XD 18) (.or_ [(.cmp .ne (.loc 16) (.loc 14)), (.cmp .ne (.loc 5) (.loc 12)), (.cmp .ne (.attr (.loc 2) n_trail) (.loc 11)), (.cmp .ne (.comp false 2 (.loc 21) [.mk [21, 22] false .vals [(.loc 13)] []]) (.comp false 1 (.blt .abs (.loc 21)) [.mk [21] true .vals [(.rev (.loc 11))] [(.cmp .isin (.neg (.loc 21)) (.loc 15))]]))])
      (lwF P v0 L bs rt M y9 (some (.lst ((L.filter fun i => !P.imp M i).map (nlV P)))) (some (.lst ((L.filter (P.imp M)).map (nlV P)))) (some (.lst ((L.filter fun i => !P.imp M i).map (nlV P)))) none none none none) (inn [f] (.nd ep sd :: .lst (noted (rt.map vrV) (P.nt M L)) :: .lst ((P.dn M L).map (prV P)) :: junk) { c with seen := S }) = some (.bool false, inn [f] (.nd ep sd :: .lst (noted (rt.map vrV) (P.nt M L)) :: .lst ((P.dn M L).map (prV P)) :: junk) { c with seen := S }) :=
    orE ((or_f (cmp_eq (loc_eq rfl) (loc_eq rfl) ne_nl)).trans ((or_f (cmp_eq (loc_eq rfl) (loc_eq rfl) ne_nl)).trans ((or_f (cmp_eq (at_trail (loc_eq rfl)) (loc_eq rfl) (ne_tr (tr_at (F.seen S))))).trans ((or_f (cmp_eq (w_pairs (L := P.dn M L) rfl rfl rfl (by omega)) (w_back F rfl hgb rfl rfl) ne_vr)).trans or_nil))))
  have e15' : mE (XD 18) (.meth (.loc 2) n_shortened [(.loc 5), (.loc 7), (.loc 13)]) (lwF P v0 L bs rt M y9 (some (.lst ((L.filter fun i => !P.imp M i).map (nlV P)))) (some (.lst ((L.filter (P.imp M)).map (nlV P)))) none none none none none) (inn [f] ([.nd ep sd, .lst (rt.map vrV), .lst []] ++ junk) c) = _ := (mc (X := XD 18) (pre := [f]) (m := n_shortened) (f := f_Search_shortened) (by decide +kernel : pMth c_Search n_shortened = some f_Search_shortened) rfl (loc_eq rfl) (es3 (loc_eq rfl) (loc_eq rfl) (loc_eq rfl))).trans e15
  exact (seq_next ((if_f (cmp_eq h12 e12 (nb G1))).trans seq_nil)).trans ((seq_next (asg_eq e13 rfl)).trans ((seq_next (asg_eq (w_gone F hL rfl rfl rfl) rfl)).trans ((seq_next (asg_eq e15' rfl)).trans (seq_next ((if_f e16).trans seq_nil)))))
structure MK (P : Pl) (L bs rt : List Nat) : Prop where
  j : LP P (L ++ bs)
  rn : rt.Nodup
  rb : Bel P.n rt
  rl : ∀ i ∈ rt, P.lv i = 0
theorem MK.left (m : MK P L bs rt) : LP P L := ⟨(List.nodup_append.mp m.j.nd).1, fun i hi => m.j.ab i (List.mem_append_left _ hi)⟩
theorem MK.hi (m : MK P L bs rt) : ∀ j ∈ L ++ bs ++ rt, P.lv j ≠ 0 → j ∈ L ++ bs := fun j hj h => (List.mem_append.mp hj).resolve_right fun q => h (m.rl j q)
theorem MK.bel (m : MK P L bs rt) : Bel P.n (L ++ bs ++ rt) := fun i hi => (List.mem_append.mp hi).elim (m.j.bel i) (m.rb i)
theorem MK.nd (m : MK P L bs rt) : (L ++ bs ++ rt).Nodup := List.nodup_append.mpr ⟨m.j.nd, m.rn, fun a ha x hx e => m.j.lv a ha (e ▸ m.rl x hx)⟩
theorem law_D (F : Fx P c sd) (m : MK P L bs rt) (hM : M = L ++ bs ++ rt) {r p : List MV} {kp gn : List Nat} (hkp : kp = L.filter fun i => !P.imp M i) (hgn : gn = L.filter (P.imp M)) : ∃ (v17 v18 : MV) (x : GO), mSs (XD 18) (b_law.drop 16) (lwF P v0 L bs rt M y9 (some (.lst (kp.map (nlV P)))) (some (.lst (gn.map (nlV P)))) (some (.lst (kp.map (nlV P)))) none none none none) (inn [f] (.nd ep sd :: .lst r :: .lst p :: junk) c) = mSs (XD 18) (b_law.drop 19) (lwF P v0 L bs rt M y9 (some (.lst (kp.map (nlV P)))) (some (.lst (gn.map (nlV P)))) (some (.lst (kp.map (nlV P)))) (some v17) (some v18) none none) (inn [f] (.nd ep sd :: .lst r :: .lst p :: (junk ++ [x])) c) := by
  have sk : kp.Sublist L := hkp ▸ List.filter_sublist
  have sg : gn.Sublist L := hgn ▸ List.filter_sublist
  have hj : LP P (kp ++ bs) := ⟨m.j.nd.sublist (sk.append (List.Sublist.refl _)), fun i hi => m.j.ab i ((sk.append (List.Sublist.refl _)).subset hi)⟩
  have e17 := w_stays (d := 18) (f := f) (post := .nd ep sd :: .lst r :: .lst p :: junk) (ρ := lwF P v0 L bs rt M y9 (some (.lst (kp.map (nlV P)))) (some (.lst (gn.map (nlV P)))) (some (.lst (kp.map (nlV P)))) none none none none) F hj rfl rfl rfl rfl rfl
  have nz : (kp ++ bs ++ (List.range P.n).filter fun i => P.lv i == 0).Nodup := List.nodup_append.mpr ⟨hj.nd, List.nodup_range.sublist List.filter_sublist, fun a ha x hx e => hj.lv a ha (e ▸ eq_of_beq (List.mem_filter.mp hx).2)⟩
  have bz : Bel P.n (kp ++ bs ++ (List.range P.n).filter fun i => P.lv i == 0) := fun i hi => (List.mem_append.mp hi).elim (hj.bel i) fun q => List.mem_range.mp (List.mem_filter.mp q).1
  obtain ⟨cls, e18, bc, hc⟩ := w_clauses (X := XD 18) (f := f) (ep := ep) (post := .lst r :: .lst p :: junk) (ρ := lwF P v0 L bs rt M y9 (some (.lst (kp.map (nlV P)))) (some (.lst (gn.map (nlV P)))) (some (.lst (kp.map (nlV P)))) (some (ltL P (kp ++ bs ++ (List.range P.n).filter fun i => P.lv i == 0))) none none none) F rfl rfl
  obtain ⟨K, e18', bK, sK, cK⟩ := kc_spec (d := 17) (B := inn [f] (.nd ep sd :: .lst r :: .lst p :: junk) c) F nz bz bc
  have hk := all_known F (M := M) (L := L) (bs := bs) (K := K) (cls := cls) (fun j hj h => List.mem_append.mp (m.hi j (hM ▸ hj) h)) m.left.bel (fun j h1 h2 => sK j (List.mem_append_left _ (List.mem_append_left _ (hkp ▸ List.mem_filter.mpr ⟨h1, by rw [h2]; rfl⟩)))) (fun j h => sK j (List.mem_append_left _ (List.mem_append_right _ h))) (fun j h1 h2 => sK j (List.mem_append_right _ (List.mem_filter.mpr ⟨List.mem_range.mpr h1, by rw [h2]; rfl⟩))) hc cK
  have gl : gn.length ≤ 4000 := Nat.le_trans sg.length_le (Nat.le_trans (m.left.len F) (by decide))
  have e19 := w_sure (X := XD 18) (gn := gn) (K := K) (B := inn [f] (.nd ep sd :: .lst r :: .lst p :: junk) c) (ρ := lwF P v0 L bs rt M y9 (some (.lst (kp.map (nlV P)))) (some (.lst (gn.map (nlV P)))) (some (.lst (kp.map (nlV P)))) (some (ltL P (kp ++ bs ++ (List.range P.n).filter fun i => P.lv i == 0))) (some (.ref (inn [f] (.nd ep sd :: .lst r :: .lst p :: junk) c).length)) none none) F rfl gl (fun i hi => m.left.bel i (sg.subset hi)) bK (fun i hi => hk (i + 1) i (Nat.lt_succ_self i) (sg.subset hi)) rfl rfl
  have e18'' : mE (XD 18) (.call f_law_closed [(.loc 17), (.comp false 1 (.sub (.loc 3) (.loc 21)) [.mk [21] true .vals [(.loc 3)] []])]) (lwF P v0 L bs rt M y9 (some (.lst (kp.map (nlV P)))) (some (.lst (gn.map (nlV P)))) (some (.lst (kp.map (nlV P)))) (some (ltL P (kp ++ bs ++ (List.range P.n).filter fun i => P.lv i == 0))) none none none) (inn [f] (.nd ep sd :: .lst r :: .lst p :: junk) c) = _ := call_eq (es2 (loc_eq rfl) e18) e18'
  refine ⟨ltL P (kp ++ bs ++ (List.range P.n).filter fun i => P.lv i == 0), .ref (inn [f] (.nd ep sd :: .lst r :: .lst p :: junk) c).length, .lst ((K.map P.lt).map .int), (seq_next (asg_eq e17 rfl)).trans ((seq_next (asg_eq e18'' rfl)).trans ((seq_next ((if_f e19).trans seq_nil)).trans ?_))⟩
  show mSs _ _ _ (inn [f] (.nd ep sd :: .lst r :: .lst p :: junk) c ++ [_]) = _
  rw [inn_snoc]; rfl
theorem kept_eq (m : MK P L bs rt) : (L ++ bs).filter (fun j => !(P.dn M L).contains j) = (L.filter fun i => !P.imp M i) ++ bs := by
  have hgb : Bel P.n (L.filter (P.imp M)) := fun i hi => m.left.bel i (List.mem_filter.mp hi).1
  have hm : ∀ i, i ∈ P.dn M L ↔ i ∈ L ∧ P.imp M i = true := fun i => (mem_down hgb).trans List.mem_filter
  rw [List.filter_append]
  refine congr (congrArg _ (List.filter_congr fun i hi => ?_)) (List.filter_eq_self.mpr fun i hi => ?_)
  · refine congrArg (!·) ?_
    rw [Bool.eq_iff_iff, List.contains_iff_mem, hm]
    exact ⟨fun q => q.2, fun q => ⟨hi, q⟩⟩
  · rw [not_con fun q => (List.nodup_append.mp m.j.nd).2.2 i ((hm i).mp q).1 i hi rfl]; rfl
theorem law_E (F : Fx P c sd) (m : MK P L bs rt) (hM : M = L ++ bs ++ rt) (N : Sn P.n c.seen (M ++ P.nt M L)) {v14 v15 v17 v18 : Option MV} : ∃ ρ' G', mSs (XD 18) (b_law.drop 19) (lwF P v0 L bs rt M y9 v14 v15 (some (.lst ((L.filter fun i => !P.imp M i).map (nlV P)))) v17 v18 none none) (inn [f] (.nd ep sd :: .lst (noted (rt.map vrV) (P.nt M L)) :: .lst ((P.dn M L).map (prV P)) :: junk) c) = some (.ret (.bool true), ρ', G') := by
  have hgb : Bel P.n (L.filter (P.imp M)) := fun i hi => m.left.bel i (List.mem_filter.mp hi).1
  have hdm : ∀ i ∈ P.dn M L, i ∈ L ∧ P.imp M i = true := fun i hi => List.mem_filter.mp ((mem_down hgb).mp hi)
  have hI : RI P M (P.nt M L) := RI.all F RI.nil fun i hi => m.left.bel i (hdm i hi).1
  have hR := Nat.le_trans (bel_len hI.nd hI.bel) F.n8
  have hj := m.j.len F
  have hlj := List.length_append (as := L) (bs := bs)
  obtain ⟨here, e20, Z⟩ := rz_spec (d := 17) (f := f) (junk := junk) (ep := ep) (M := M) (r := noted (rt.map vrV) (P.nt M L)) (dn := P.dn M L) F m.j.nd m.j.bel m.j.lv (fun j hj h => m.hi j (hM ▸ hj) h) down_pw (fun i hi => ⟨List.mem_append_left _ (hdm i hi).1, (hdm i hi).2⟩)
  have hu : here.filter (fun j => !(P.lv j == 0)) = (L.filter fun i => !P.imp M i) ++ bs := Z.up.trans (kept_eq m)
  have hl : here.filter (fun j => P.lv j == 0 && !rt.contains j) = P.nt M L := by
    refine Eq.trans (List.filter_congr fun j _ => ?_) Z.lo
    by_cases h : P.lv j = 0
    · have : M.contains j = rt.contains j := by
        rw [hM, con_or, not_con fun q => m.j.lv j q h]; rfl
      rw [this]
    · rw [beq_eq_false_iff_ne.mpr h]; rfl
  have e20' : mE (XD 18) (.call f_law_resolved [(.bin .add (.loc 5) (.loc 6)), (.loc 13), (.loc 3)]) (lwF P v0 L bs rt M y9 v14 v15 (some (.lst ((L.filter fun i => !P.imp M i).map (nlV P)))) v17 v18 none none) (inn [f] (.nd ep sd :: .lst (noted (rt.map vrV) (P.nt M L)) :: .lst ((P.dn M L).map (prV P)) :: junk) c) = _ :=
    call_eq (es3 (bin_eq (o := .add) (x := nlL P (L ++ bs)) (loc_eq rfl) (loc_eq rfl) ((bin_app (by rw [List.length_map, List.length_map]; omega)).trans (by rw [← List.map_append]; rfl))) (loc_eq rfl) (loc_eq rfl)) e20
  have nd2 : (M ++ P.nt M L).Nodup := List.nodup_append.mpr ⟨hM ▸ m.nd, hI.nd, fun a ha x hx e => hI.out x hx (e ▸ ha)⟩
  have bd2 : Bel P.n (M ++ P.nt M L) := fun i hi => (List.mem_append.mp hi).elim (fun q => m.bel i (hM ▸ q)) (hI.bel i)
  exact ⟨_, _, (seq_next (asg_eq e20' rfl)).trans ((seq_next ((if_f (w_high F rfl rfl Z.nd Z.bel hu rfl rfl rfl)).trans seq_nil)).trans ((seq_next (asg_eq (w_low F rfl rfl Z.nd Z.bel hl rfl rfl) rfl)).trans ((seq_next ((if_f (w_roots2 hR rfl rfl rfl rfl)).trans seq_nil)).trans (ret1 (w_final (d := 17) F rfl N nd2 bd2 rfl rfl rfl)))))⟩
end
end Mine.Law
end
section
set_option autoImplicit false
set_option linter.unusedVariables false
set_option linter.unusedSimpArgs false
set_option linter.unusedSectionVars false
set_option maxRecDepth 10000
namespace Mine.Law
theorem xd_call {d f : Nat} {vs : List MV} {G : GH} {r : Option (MV × GH)} (h : mcall prog 64 d f vs G = r) : (XD d).call f vs G = r := h
theorem plain1 (ns : List Int) (hns : ns.length ≤ 63) : ∃ W d G', d ≤ 100 ∧ mcall prog W d f_law [.lst (ns.map .int)] [] = some (.bool true, G') := by
  obtain ⟨sc, hsc⟩ : ∃ sc : MV, sc = .lst (ns.map .int) := ⟨_, rfl⟩
  have a := comp_lst (X := XD 18) (ρ := [some sc, none, none, none, none, none, none, none, none, none, none, none, none, none, none, none, none, none, none, none, none]) (G := []) (k := 1) (elt := .bin .mod (.blt .abs (.loc 21)) (.kI 1000003)) (src := .slc (.loc 0) .kN (.kI 60)) (tgt := [21]) (one := true) (ifs := []) (l := ns.take 60) .int (fun _ => true) (fun x => .int (((x.natAbs : Int)).fmod 1000003)) (slc_eq (loc_eq rfl) kN_eq kI_eq (by
    subst hsc
    exact (slc_hi (n := 60)).trans (by rw [List.map_take]))) (fun x hx => ⟨_, as21 rfl, and_nil, fun _ => bin_eq (blt_eq (r := (.int (x.natAbs : Int), [])) (lo21 rfl) rfl) kI_eq rfl⟩) (by rw [List.length_take]; omega)
  rw [filter_true, show (ns.take 60).map (fun x : Int => MV.int (((x.natAbs : Int)).fmod 1000003)) = ((ns.take 60).map fun x : Int => ((x.natAbs : Int)).fmod 1000003).map .int from (List.map_map ..).symm] at a
  generalize (ns.take 60).map (fun x : Int => ((x.natAbs : Int)).fmod 1000003) = cells at a
  have t1 : mS (XD 18) (.asg 1 (.dct [n_cells, n_spot] [(.comp false 1 (.bin .mod (.blt .abs (.loc 21)) (.kI 1000003)) [.mk [21] true .vals [(.slc (.loc 0) .kN (.kI 60))] []]), (.kI 0)])) [some sc, none, none, none, none, none, none, none, none, none, none, none, none, none, none, none, none, none, none, none, none] [] = some (.next, [some sc, some (.ref 0), none, none, none, none, none, none, none, none, none, none, none, none, none, none, none, none, none, none, none], [fd cells 0]) :=
    asg_eq (bnd (o := mEs (XD 18) _ _ _) (es2 a kI_eq) (if_pos rfl)) rfl
  obtain ⟨s, ep, sd, c, D, kb, e2, K, O, h8, hs⟩ := known_spec (cells := cells)
  have F := fx_of K O h8
  have t2 : mS (XD 18) (.asgT [2, 3] (.call f_law_known [(.loc 1)])) [some sc, some (.ref 0), none, none, none, none, none, none, none, none, none, none, none, none, none, none, none, none, none, none, none] [fd cells 0] = some (.next, lwE sc none none none none none none none none none none none none none none none none none, inn [fd cells s] [.nd ep sd] c) :=
    asgT_eq (call_eq (es1 (loc_eq rfl)) (xd_call e2)) rfl
  obtain ⟨L, bs, rt, s', S, y9, eB, hj, rn, rb, rl, N⟩ := law_B (v0 := sc) (cells := cells) (s := s) (ep := ep) F (sn_of K) (by omega)
  have m : MK (plOf D) L bs rt := ⟨hj, rn, rb, rl⟩
  obtain ⟨S2, junk, eC, N2⟩ := law_C (v0 := sc) (bs := bs) (rt := rt) (M := L ++ bs ++ rt) (y9 := y9) (f := fd cells s') (ep := ep) (F.seen S) N m.left (Nat.le_trans (bel_len rn rb) (Nat.le_trans h8 (by decide)))
  obtain ⟨v17, v18, x, eD⟩ := law_D (v0 := sc) (y9 := y9) (f := fd cells s') (ep := ep) (junk := junk) (c := { c with seen := S2 }) (F.seen S2) m rfl rfl rfl (r := noted (rt.map vrV) ((plOf D).nt (L ++ bs ++ rt) L)) (p := ((plOf D).dn (L ++ bs ++ rt) L).map (prV (plOf D)))
  obtain ⟨ρ', G', eE⟩ := law_E (v0 := sc) (y9 := y9) (f := fd cells s') (ep := ep) (junk := junk ++ [x]) (c := { c with seen := S2 }) (F.seen S2) m rfl N2 (v14 := some (.lst ((L.filter fun i => !(plOf D).imp (L ++ bs ++ rt) i).map (nlV (plOf D))))) (v15 := some (.lst ((L.filter ((plOf D).imp (L ++ bs ++ rt))).map (nlV (plOf D))))) (v17 := some v17) (v18 := some v18)
  refine ⟨64, 19, G', by decide, ?_⟩
  rw [← hsc]
  exact ret_of (mf := d_law) rfl rfl ((seq_next t1).trans ((seq_next t2).trans (eB.trans (eC.trans (eD.trans eE)))))
end Mine.Law
end
theorem PySem.Challenge.cw_qz0032_01_holds : PySem.Challenge.rw_qz0032_01.Holds :=
  Mine.law1 Mine.Law.plain1
