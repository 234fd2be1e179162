import PyProof.Rows.All
import Wide.All
import OpenK.AllK
import Wide.FinOn
import Lean
import PySem.Challenge.RW_qz0032_02
set_option Elab.async false
section
namespace Mine

inductive MV where
  | none
  | bool (b : Bool)
  | int (i : Int)
  | str (k : Nat)
  | tup (l : List MV)
  | lst (l : List MV)
  | ref (i : Nat)
  | obj (c i : Nat)
deriving Inhabited

inductive GO where
  | lst (l : List MV)
  | sd (l : List (Nat × MV))
  | nd (ep : Nat) (l : List (Int × MV))
deriving Inhabited

noncomputable abbrev GH := List GO
noncomputable abbrev Lo := List (Option MV)

inductive B2 | add | sub | mul | mod | fdiv | shr | band
deriving DecidableEq
inductive C2 | eq | ne | lt | le | gt | ge | isin | nin | is | isn
deriving DecidableEq
inductive Bl | len | abs | int | list (m : Bool) | tuple | sorted
deriving DecidableEq
inductive Lm | append | pop
deriving DecidableEq
inductive SK | vals | rng | enum | zip
deriving DecidableEq

mutual
inductive ME where
  | kN | kB (b : Bool) | kI (i : Int) | kS (k : Nat)
  | loc (i : Nat)
  | gI (k : Nat) (i : Int)
  | attr (e : ME) (k : Nat)
  | sub (e i : ME)
  | slc (e lo hi : ME)
  | rev (e : ME)
  | bin (o : B2) (a b : ME)
  | neg (a : ME)
  | no (a : ME)
  | and_ (es : List ME)
  | or_ (es : List ME)
  | truth (a : ME)
  | cmp (o : C2) (a b : ME)
  | cmp2 (o1 o2 : C2) (a b c : ME)
  | ite (c a b : ME)
  | tup (es : List ME)
  | lst (m : Bool) (es : List ME)
  | dct (ks : List Nat) (es : List ME)
  | dct0
  | comp (m : Bool) (k : Nat) (elt : ME) (gs : List MG)
  | call (f : Nat) (es : List ME)
  | new (c : Nat) (es : List ME)
  | meth (e : ME) (m : Nat) (es : List ME)
  | blt (b : Bl) (a : ME)
  | app (e a : ME)
  | pop (e : ME)
  | get (e a b : ME)
  | srtK (a e : ME) (m : Nat)
  | sup (f C : Nat) (es : List ME)
inductive MG where
  | mk (tgt : List Nat) (one : Bool) (k : SK) (srcs : List ME) (ifs : List ME)
end

inductive MS where
  | expr (e : ME)
  | asg (i : Nat) (e : ME)
  | asgT (is : List Nat) (e : ME)
  | asgW (is : List Nat) (e : ME)
  | asgA (o : ME) (k : Nat) (e : ME)
  | asgS (o i : ME) (e : ME)
  | ifS (c : ME) (a b : List MS)
  | whileS (c : ME) (b : List MS)
  | forS (tgt : List Nat) (one : Bool) (k : SK) (srcs : List ME) (b : List MS)
  | ret (e : ME)
  | cont
  | brk
  | pass

inductive Fl where
  | next | brk | cont | ret (v : MV)
deriving Inhabited

structure Ctx where
  call : Nat → List MV → GH → Option (MV × GH)
  init : Nat → Option Nat
  mth : Nat → Nat → Option Nat
  atr : Nat → Nat → Bool
  W : Nat

theorem noS {α : Type} {a : α} {P : Prop} (h : none = some a) : P := nomatch h
theorem noF {P : Prop} (h : false = true) : P := nomatch h
section
variable {P : MV → Prop} {v : MV}
noncomputable def iInt (v : MV) : Option Int := match v with | .int i => some i | _ => none
noncomputable def iStr (v : MV) : Option Nat := match v with | .str i => some i | _ => none
noncomputable def iRef (v : MV) : Option Nat := match v with | .ref i => some i | _ => none
noncomputable def iLst (v : MV) : Option (List MV) := match v with | .lst l => some l | _ => none
noncomputable def iTup (v : MV) : Option (List MV) := match v with | .tup l => some l | _ => none
noncomputable def iObj (v : MV) : Option (Nat × Nat) := match v with | .obj c i => some (c, i) | _ => none
noncomputable def isN (v : MV) : Bool := match v with | .none => true | _ => false
noncomputable def truthO (v : MV) : Option Bool := match v with | .bool b => some b | _ => none
@[simp] theorem iInt_int {i : Int} : iInt (.int i) = some i := rfl
@[simp] theorem iInt_str {i : Nat} : iInt (.str i) = none := rfl
@[simp] theorem iInt_lst {l : List MV} : iInt (.lst l) = none := rfl
@[simp] theorem iStr_str {i : Nat} : iStr (.str i) = some i := rfl
@[simp] theorem iRef_ref {i : Nat} : iRef (.ref i) = some i := rfl
@[simp] theorem iRef_lst {l : List MV} : iRef (.lst l) = none := rfl
@[simp] theorem iRef_tup {l : List MV} : iRef (.tup l) = none := rfl
@[simp] theorem iLst_lst {l : List MV} : iLst (.lst l) = some l := rfl
@[simp] theorem iTup_tup {l : List MV} : iTup (.tup l) = some l := rfl
@[simp] theorem iTup_lst {l : List MV} : iTup (.lst l) = none := rfl
@[simp] theorem iTup_ref {i : Nat} : iTup (.ref i) = none := rfl
@[simp] theorem iTup_int {i : Int} : iTup (.int i) = none := rfl
@[simp] theorem iObj_obj {c i : Nat} : iObj (.obj c i) = some (c, i) := rfl
@[simp] theorem isN_none : isN .none = true := rfl
@[simp] theorem truthO_bool {b : Bool} : truthO (.bool b) = some b := rfl
theorem iInt_k {i : Int} (h : iInt v = some i) (g : P (.int i)) : P v := by cases v <;> first | exact noS h | exact Option.some.inj h ▸ g
theorem iStr_k {i : Nat} (h : iStr v = some i) (g : P (.str i)) : P v := by cases v <;> first | exact noS h | exact Option.some.inj h ▸ g
theorem iRef_k {i : Nat} (h : iRef v = some i) (g : P (.ref i)) : P v := by cases v <;> first | exact noS h | exact Option.some.inj h ▸ g
theorem iLst_k {i : List MV} (h : iLst v = some i) (g : P (.lst i)) : P v := by cases v <;> first | exact noS h | exact Option.some.inj h ▸ g
theorem iTup_k {i : List MV} (h : iTup v = some i) (g : P (.tup i)) : P v := by cases v <;> first | exact noS h | exact Option.some.inj h ▸ g
theorem iObj_k {p : Nat × Nat} (h : iObj v = some p) (g : P (.obj p.1 p.2)) : P v := by cases v <;> first | exact noS h | (have h := Option.some.inj h; subst h; exact g)
theorem isN_k (h : isN v = true) (g : P .none) : P v := by cases v <;> first | exact noF h | exact g
theorem truthO_k {b : Bool} (h : truthO v = some b) (g : P (.bool b)) : P v := by cases v <;> first | exact noS h | exact Option.some.inj h ▸ g
end
noncomputable def goL (g : GO) : Option (List MV) := match g with | .lst l => some l | _ => none
noncomputable def goS (g : GO) : Option (List (Nat × MV)) := match g with | .sd l => some l | _ => none
noncomputable def goN (g : GO) : Option (Nat × List (Int × MV)) := match g with | .nd e l => some (e, l) | _ => none
@[simp] theorem goL_lst {l : List MV} : goL (.lst l) = some l := rfl
@[simp] theorem goS_sd {l : List (Nat × MV)} : goS (.sd l) = some l := rfl
@[simp] theorem goN_nd {e : Nat} {l : List (Int × MV)} : goN (.nd e l) = some (e, l) := rfl
@[simp] theorem goN_lst {l : List MV} : goN (.lst l) = none := rfl
section
variable {P : GO → Prop} {g : GO}
theorem goL_k {l : List MV} (h : goL g = some l) (k : P (.lst l)) : P g := by cases g <;> first | exact noS h | exact Option.some.inj h ▸ k
theorem goS_k {l : List (Nat × MV)} (h : goS g = some l) (k : P (.sd l)) : P g := by cases g <;> first | exact noS h | exact Option.some.inj h ▸ k
theorem goN_k {p : Nat × List (Int × MV)} (h : goN g = some p) (k : P (.nd p.1 p.2)) : P g := by cases g <;> first | exact noS h | (have h := Option.some.inj h; subst h; exact k)
end
noncomputable def hL (G : GH) (i : Nat) : Option (List MV) := G[i]?.bind goL
noncomputable def hS (G : GH) (i : Nat) : Option (List (Nat × MV)) := G[i]?.bind goS
noncomputable def hN (G : GH) (i : Nat) : Option (Nat × List (Int × MV)) := G[i]?.bind goN
theorem hL_of {G : GH} {i : Nat} {l : List MV} (h : G[i]? = some (.lst l)) : hL G i = some l := by unfold hL; rw [h]; rfl
theorem hS_of {G : GH} {i : Nat} {l : List (Nat × MV)} (h : G[i]? = some (.sd l)) : hS G i = some l := by unfold hS; rw [h]; rfl
theorem hN_of {G : GH} {i e : Nat} {l : List (Int × MV)} (h : G[i]? = some (.nd e l)) : hN G i = some (e, l) := by unfold hN; rw [h]; rfl
theorem hN_lst {G : GH} {i : Nat} {l : List MV} (h : G[i]? = some (.lst l)) : hN G i = none := by unfold hN; rw [h]; rfl
theorem hL_at {G : GH} {i : Nat} {l : List MV} (h : hL G i = some l) : G[i]? = some (.lst l) := (Option.bind_eq_some_iff.mp h).elim fun g q => goL_k (P := fun g => G[i]? = some g → G[i]? = some (.lst l)) q.2 id q.1
theorem hS_at {G : GH} {i : Nat} {l : List (Nat × MV)} (h : hS G i = some l) : G[i]? = some (.sd l) := (Option.bind_eq_some_iff.mp h).elim fun g q => goS_k (P := fun g => G[i]? = some g → G[i]? = some (.sd l)) q.2 id q.1
theorem hN_at {G : GH} {i : Nat} {p : Nat × List (Int × MV)} (h : hN G i = some p) : G[i]? = some (.nd p.1 p.2) := (Option.bind_eq_some_iff.mp h).elim fun g q => goN_k (P := fun g => G[i]? = some g → G[i]? = some (.nd p.1 p.2)) q.2 id q.1

noncomputable def lsO (G : GH) : MV → Option (List MV)
  | .lst l => some l
  | .ref i => hL G i
  | _ => none

noncomputable def sqO (G : GH) : MV → Option (List MV)
  | .tup l => some l
  | v => lsO G v

noncomputable def intsO : List MV → Option (List Int)
  | [] => some []
  | v :: r => (iInt v).bind fun i => (intsO r).map (i :: ·)

noncomputable def i2 {β : Type} (v w : MV) (k : Int → Int → Option β) : Option β := (iInt v).bind fun a => (iInt w).bind fun b => k a b
theorem i2_k {β : Type} {v w : MV} {k : Int → Int → Option β} {r : β} {P : MV → MV → Prop} (h : i2 v w k = some r) (g : ∀ a b, k a b = some r → P (.int a) (.int b)) : P v w :=
  (Option.bind_eq_some_iff.mp h).elim fun a q => (Option.bind_eq_some_iff.mp q.2).elim fun b q2 => iInt_k (P := fun v => P v w) q.1 (iInt_k (P := fun w => P (.int a) w) q2.1 (g a b q2.2))
noncomputable def rL {β : Type} (G : GH) (v : MV) (k : Nat → List MV → Option β) : Option β := (iRef v).bind fun i => (hL G i).bind fun l => k i l
noncomputable def rS {β : Type} (G : GH) (v : MV) (k : Nat → List (Nat × MV) → Option β) : Option β := (iRef v).bind fun i => (hS G i).bind fun l => k i l
noncomputable def rN (G : GH) (v : MV) : Option (Nat × Nat × List (Int × MV)) := (iRef v).bind fun i => (hN G i).map fun p => (i, p)
theorem rL_k {β : Type} {G : GH} {v : MV} {k : Nat → List MV → Option β} {r : β} {P : MV → Prop} (h : rL G v k = some r) (z : ∀ i l, G[i]? = some (.lst l) → k i l = some r → P (.ref i)) : P v :=
  (Option.bind_eq_some_iff.mp h).elim fun i q => (Option.bind_eq_some_iff.mp q.2).elim fun l q2 => iRef_k q.1 (z i l (hL_at q2.1) q2.2)
theorem rS_k {β : Type} {G : GH} {v : MV} {k : Nat → List (Nat × MV) → Option β} {r : β} {P : MV → Prop} (h : rS G v k = some r) (g : ∀ i l, G[i]? = some (.sd l) → k i l = some r → P (.ref i)) : P v :=
  (Option.bind_eq_some_iff.mp h).elim fun i q => (Option.bind_eq_some_iff.mp q.2).elim fun l q2 => iRef_k q.1 (g i l (hS_at q2.1) q2.2)
theorem rN_k {G : GH} {v : MV} {p : Nat × Nat × List (Int × MV)} {P : MV → Prop} (h : rN G v = some p) (g : G[p.1]? = some (.nd p.2.1 p.2.2) → P (.ref p.1)) : P v := by
  obtain ⟨i, h1, h2⟩ := Option.bind_eq_some_iff.mp h
  obtain ⟨q, h3, rfl⟩ := Option.map_eq_some_iff.mp h2
  exact iRef_k h1 (g (hN_at h3))

inductive DT where
  | none
  | bool (b : Bool)
  | int (i : Int)
  | tup (l : List DT)
  | lst (l : List DT)
deriving Inhabited

noncomputable def datsW (f : MV → Option DT) : List MV → Option (List DT)
  | [] => some []
  | v :: r => (f v).bind fun d => (datsW f r).map (d :: ·)
noncomputable def atomD (v : MV) : Option DT := match v with
  | .none => some .none
  | .bool b => some (.bool b)
  | .int i => some (.int i)
  | _ => none
noncomputable def datO (G : GH) : Nat → MV → Option DT
  | 0, v => atomD v
  | n + 1, v => match iTup v with
    | some l => (datsW (datO G n) l).map .tup
    | none => match lsO G v with
      | some l => (datsW (datO G n) l).map .lst
      | none => atomD v
noncomputable def datsO (G : GH) (n : Nat) (l : List MV) : Option (List DT) := datsW (datO G n) l

noncomputable def numD (d : DT) : Option Int := match d with
  | .bool b => some (if b then 1 else 0)
  | .int i => some i
  | _ => none
noncomputable def lstD (d : DT) : Option (List DT) := match d with | .lst l => some l | _ => none
noncomputable def tupD (d : DT) : Option (List DT) := match d with | .tup l => some l | _ => none
noncomputable def isND (d : DT) : Bool := match d with | .none => true | _ => false
noncomputable def numEq (i : Int) (d : DT) : Bool := match numD d with
  | some j => i == j
  | none => false
mutual
noncomputable def dEq : DT → DT → Bool
  | .none, e => isND e
  | .bool a, e => numEq (if a then 1 else 0) e
  | .int i, e => numEq i e
  | .lst a, e => match lstD e with
    | some b => dEqs a b
    | none => false
  | .tup a, e => match tupD e with
    | some b => dEqs a b
    | none => false
noncomputable def dEqs : List DT → List DT → Bool
  | [], b => b.isEmpty
  | x :: a, b => match b with
    | [] => false
    | y :: b => dEq x y && dEqs a b
end

noncomputable def eqO (G : GH) (a b : MV) : Option Bool := (datO G 8 a).bind fun d => (datO G 8 b).map fun e => dEq d e

noncomputable def small (a : Int) : Bool := decide (-18446744073709551616 < a ∧ a < 18446744073709551616)

noncomputable def binO (G : GH) (o : B2) (v w : MV) : Option MV := match o with
  | .add => (match iInt v with
    | some a => (iInt w).map fun b => .int (a + b)
    | none => (lsO G v).bind fun a => (lsO G w).bind fun b => if a.length + b.length < 4096 then some (.lst (a ++ b)) else none)
  | .sub => i2 v w fun a b => some (.int (a - b))
  | .mul => i2 v w fun a b => if small a && small b then some (.int (a * b)) else none
  | .mod => i2 v w fun a b => if ¬ b = 0 then some (.int (a.fmod b)) else none
  | .fdiv => i2 v w fun a b => if b ≠ 0 ∧ small a = true ∧ small b = true then some (.int (a.fdiv b)) else none
  | .shr => i2 v w fun a b => if 0 ≤ b then some (.int (a.fdiv (2 ^ b.toNat))) else none
  | .band => i2 v w fun a b => if b = 1 ∧ 0 ≤ a then some (.int (a % 2)) else none

noncomputable def isO (v : MV) : Option Bool := match v with
  | .none => some true
  | .int _ => some false
  | .lst _ => some false
  | _ => none
noncomputable def cmpO (G : GH) (o : C2) (v w : MV) : Option Bool := match o with
  | .eq => eqO G v w
  | .ne => (eqO G v w).map (!·)
  | .lt => i2 v w fun a b => some (decide (a < b))
  | .le => i2 v w fun a b => some (decide (a ≤ b))
  | .gt => i2 v w fun a b => some (decide (a > b))
  | .ge => i2 v w fun a b => some (decide (a ≥ b))
  | .isin => (iInt v).bind fun a => ((sqO G w).bind intsO).map (fun l => l.contains a)
  | .nin => (iInt v).bind fun a => ((sqO G w).bind intsO).map (fun l => !l.contains a)
  | .is => if isN w then isO v else none
  | .isn => if isN w then (isO v).map (!·) else none

noncomputable def subO (G : GH) (v w : MV) : Option MV := match iInt w with
  | some a => (match rN G v with
    | some p => p.2.2.lookup a
    | none => (lsO G v).bind fun l => if 0 ≤ a then l[a.toNat]? else none)
  | none => (iStr w).bind fun k => rS G v fun _ l => l.lookup k

noncomputable def setL {κ : Type} [DecidableEq κ] (l : List (κ × MV)) (k : κ) (v : MV) : List (κ × MV) :=
  match l with
  | [] => [(k, v)]
  | (a, x) :: r => if a = k then (a, v) :: r else (a, x) :: setL r k v

noncomputable def subSet (G : GH) (v w x : MV) : Option GH := match iInt w with
  | some a => (match rN G v with
    | some p => if p.2.2.length < 4096 then some (G.set p.1 (.nd (if (p.2.2.lookup a).isSome then p.2.1 else p.2.1 + 1) (setL p.2.2 a x))) else none
    | none => rL G v fun i l => if 0 ≤ a ∧ a < l.length then some (G.set i (.lst (l.set a.toNat x))) else none)
  | none => (iStr w).bind fun k => rS G v fun i l => if l.length < 4096 then some (G.set i (.sd (setL l k x))) else none

noncomputable def boundO (n : Nat) (v : MV) : Option Nat := match iInt v with
  | some a => if 0 ≤ a then some a.toNat else none
  | none => if isN v then some n else none

noncomputable def slcO (G : GH) (v lo hi : MV) : Option MV := (lsO G v).bind fun l => (boundO 0 lo).bind fun a => (boundO l.length hi).map fun b => .lst ((l.take b).drop a)

noncomputable def revO (G : GH) (v : MV) : Option MV := (lsO G v).map fun l => .lst l.reverse

noncomputable def negO (v : MV) : Option MV := (iInt v).map fun a => .int (-a)

noncomputable def aGet (X : Ctx) (G : GH) (k : Nat) (v : MV) : Option MV := (iObj v).bind fun p => if X.atr p.1 k = true then (hS G p.2).bind fun l => l.lookup k else none

noncomputable def aSet (X : Ctx) (G : GH) (k : Nat) (x : MV) (v : MV) : Option GH := (iObj v).bind fun p => if X.atr p.1 k = true then (hS G p.2).bind fun l => if l.length < 4096 then some (G.set p.2 (.sd (setL l k x))) else none else none

noncomputable def mkL (m : Bool) (l : List MV) (G : GH) : MV × GH := if m then (.ref G.length, G ++ [.lst l]) else (.lst l, G)

noncomputable def bltO (G : GH) (b : Bl) (v : MV) : Option (MV × GH) := match b with
  | .len => (lsO G v).map fun l => (.int l.length, G)
  | .abs => (iInt v).map fun a => (.int a.natAbs, G)
  | .int => (iInt v).map fun a => (.int a, G)
  | .list m => (sqO G v).bind fun l => if l.length < 4096 then some (mkL m l G) else none
  | .tuple => (lsO G v).bind fun l => if l.length < 4096 then some (.tup l, G) else none
  | .sorted => ((lsO G v).bind intsO).bind fun l => if l.length < 64 then some (.lst ((l.mergeSort (· ≤ ·)).map .int), G) else none

noncomputable def appO (G : GH) (v x : MV) : Option GH := rL G v fun i l => if l.length < 4096 then some (G.set i (.lst (l ++ [x]))) else none

noncomputable def popO (G : GH) (v : MV) : Option (MV × GH) := rL G v fun i l => l.getLast?.map fun x => (x, G.set i (.lst l.dropLast))

noncomputable def getO (G : GH) (v k d : MV) : Option MV := (iInt k).bind fun a => (rN G v).map fun p => (p.2.2.lookup a).getD d

noncomputable def isNd (G : GH) (v : MV) : Bool := (rN G v).isSome

inductive Gd where
  | no
  | lst (id n : Nat)
  | dct (id ep : Nat) (ks : List Int)
deriving Inhabited

inductive Itm where
  | val (v : MV)
  | at (k : Nat)
deriving Inhabited

noncomputable def gdOk (G : GH) (g : Gd) : Bool := match g with
  | .no => true
  | .lst id n => (match hL G id with | some l => decide (l.length = n) | none => false)
  | .dct id ep ks => (match hN G id with | some p => decide (p.1 = ep ∧ p.2.map (·.1) = ks) | none => false)

noncomputable def fetch (G : GH) (gd : Gd) (x : Itm) : Option MV := match x with
  | .val v => some v
  | .at k => match gd with
    | .lst id _ => (hL G id).bind fun l => l[k]?
    | .no => none
    | .dct _ _ _ => none

noncomputable def rangeO (a b c : Int) : List Itm :=
  if 0 < c then (List.range (((b - a + c - 1).fdiv c).toNat)).map fun (k : Nat) => .val (.int (a + c * (k : Int)))
  else []

noncomputable def zipT : List MV → List MV → List Itm
  | [], _ => []
  | a :: r, l => match l with
    | [] => []
    | b :: t => .val (.tup [a, b]) :: zipT r t

noncomputable def enumT (n : Nat) : List MV → List Itm
  | [] => []
  | a :: r => .val (.tup [.int n, a]) :: enumT (n + 1) r

noncomputable def l1 {β : Type} (vs : List MV) (k : MV → Option β) : Option β := match vs with
  | [] => none
  | v :: r => if r.isEmpty then k v else none
noncomputable def l2 {β : Type} (vs : List MV) (k : MV → MV → Option β) : Option β := match vs with
  | [] => none
  | v :: r => l1 r fun w => k v w
theorem l1_k {β : Type} {vs : List MV} {k : MV → Option β} {r : β} {P : List MV → Prop} (h : l1 vs k = some r) (g : ∀ v, k v = some r → P [v]) : P vs := match vs, h with
  | v :: [], h => g v h
theorem l2_k {β : Type} {vs : List MV} {k : MV → MV → Option β} {r : β} {P : List MV → Prop} (h : l2 vs k = some r) (g : ∀ v w, k v w = some r → P [v, w]) : P vs := match vs, h with
  | v :: [w], h => g v w h

noncomputable def valsO (G : GH) (v : MV) : Option (Gd × List Itm) := match iRef v with
  | none => (sqO G v).map fun l => (.no, l.map .val)
  | some i => match hN G i with
    | some p => some (.dct i p.1 (p.2.map (·.1)), p.2.map fun q => .val (.int q.1))
    | none => (hL G i).map fun l => (.lst i l.length, (List.range l.length).map .at)
noncomputable def rng1 (v : MV) : Option (Gd × List Itm) := (iInt v).bind fun b => if 0 ≤ b ∧ b < 4096 then some (.no, rangeO 0 b 1) else none
noncomputable def rng2 (v w : MV) : Option (Gd × List Itm) := i2 v w fun a b => if 0 ≤ a ∧ a < 4096 ∧ 0 ≤ b ∧ b < 4096 then some (.no, rangeO a b 1) else none
noncomputable def srcO (G : GH) (k : SK) (vs : List MV) : Option (Gd × List Itm) := match k with
  | .vals => l1 vs fun v => valsO G v
  | .rng => if vs.length = 1 then l1 vs rng1 else l2 vs rng2
  | .enum => l1 vs fun v => (iLst v).map fun l => (.no, enumT 0 l)
  | .zip => l2 vs fun v w => (iLst v).bind fun a => (iLst w).map fun b => (.no, zipT a b)

noncomputable def set1 (ρ : Lo) (i : Nat) (v : MV) : Option Lo := if i < ρ.length then some (ρ.set i (some v)) else none

noncomputable def setAll : Lo → List Nat → List MV → Option Lo
  | ρ, [], vs => if vs.isEmpty then some ρ else none
  | ρ, i :: r, vs => match vs with
    | [] => none
    | v :: t => (set1 ρ i v).bind fun ρ' => setAll ρ' r t

noncomputable def asgO (one : Bool) (tgt : List Nat) (v : MV) (ρ : Lo) : Option Lo := match one with
  | true => (match tgt with
    | [] => none
    | i :: r => if r.isEmpty then set1 ρ i v else none)
  | false => (iTup v).bind fun l => setAll ρ tgt l

noncomputable def loopC (gd : Gd) (step : MV → GH → List MV → Option (List MV × GH)) : List Itm → GH → List MV → Option (List MV × GH)
  | [], G, acc => if gdOk G gd = true then some (acc, G) else none
  | x :: r, G, acc => if gdOk G gd = true then (fetch G gd x).bind fun v => (step v G acc).bind fun p => loopC gd step r p.2 p.1 else none

noncomputable def flO (o : Fl × Lo × GH) (k : Lo → GH → Option (Fl × Lo × GH)) : Option (Fl × Lo × GH) := match o.1 with
  | .next => k o.2.1 o.2.2
  | .cont => k o.2.1 o.2.2
  | .brk => some (.next, o.2)
  | .ret _ => some o

noncomputable def loopS (gd : Gd) (step : MV → Lo → GH → Option (Fl × Lo × GH)) : List Itm → Lo → GH → Option (Fl × Lo × GH)
  | [], ρ, G => if gdOk G gd = true then some (.next, ρ, G) else none
  | x :: r, ρ, G => if gdOk G gd = true then (fetch G gd x).bind fun v => (step v ρ G).bind fun o => flO o fun ρ' G' => loopS gd step r ρ' G' else none

noncomputable def onB {β : Type} (o : Option (MV × GH)) (t f : GH → Option β) : Option β := o.bind fun p => (truthO p.1).bind fun b => match b with
  | true => t p.2
  | false => f p.2
theorem onB_t {β : Type} {o : Option (MV × GH)} {t f : GH → Option β} {G : GH} (h : o = some (.bool true, G)) : onB o t f = t G := by rw [h]; rfl
theorem onB_f {β : Type} {o : Option (MV × GH)} {t f : GH → Option β} {G : GH} (h : o = some (.bool false, G)) : onB o t f = f G := by rw [h]; rfl

noncomputable def loopW (test : Lo → GH → Option (MV × GH)) (step : Lo → GH → Option (Fl × Lo × GH)) : Nat → Lo → GH → Option (Fl × Lo × GH)
  | 0, _, _ => none
  | n + 1, ρ, G => onB (test ρ G) (fun G1 => (step ρ G1).bind fun o => flO o fun ρ' G' => loopW test step n ρ' G') fun G1 => some (.next, ρ, G1)

noncomputable def keysO (f : MV → GH → Option (MV × GH)) : List MV → GH → Option (List Int × GH)
  | [], G => some ([], G)
  | v :: r, G => (f v G).bind fun p => (iInt p.1).bind fun k => (keysO f r p.2).map fun q => (k :: q.1, q.2)

noncomputable def mthO (X : Ctx) (G : GH) (m c i : Nat) : Option Nat := (X.mth c m).bind fun f => (hS G i).bind fun l => if l.lookup m = none then some f else none

mutual
noncomputable def mE (X : Ctx) : ME → Lo → GH → Option (MV × GH)
  | .kN, _, G => some (.none, G)
  | .kB b, _, G => some (.bool b, G)
  | .kI i, _, G => some (.int i, G)
  | .kS k, _, G => some (.str k, G)
  | .loc i, ρ, G => ρ[i]?.bind fun v => v.map (·, G)
  | .gI _ i, _, G => some (.int i, G)
  | .attr e k, ρ, G => (mE X e ρ G).bind fun p => (aGet X p.2 k p.1).map (·, p.2)
  | .sub e i, ρ, G => (mE X e ρ G).bind fun p => (mE X i ρ p.2).bind fun q => (subO q.2 p.1 q.1).map (·, q.2)
  | .slc e lo hi, ρ, G => (mE X e ρ G).bind fun p => (mE X lo ρ p.2).bind fun q => (mE X hi ρ q.2).bind fun r => (slcO r.2 p.1 q.1 r.1).map (·, r.2)
  | .rev e, ρ, G => (mE X e ρ G).bind fun p => (revO p.2 p.1).map (·, p.2)
  | .bin o a b, ρ, G => (mE X a ρ G).bind fun p => (mE X b ρ p.2).bind fun q => (binO q.2 o p.1 q.1).map (·, q.2)
  | .neg a, ρ, G => (mE X a ρ G).bind fun p => (negO p.1).map (·, p.2)
  | .no a, ρ, G => (mE X a ρ G).bind fun p => (truthO p.1).map fun b => (.bool (!b), p.2)
  | .and_ es, ρ, G => mAnd X es ρ G
  | .or_ es, ρ, G => mOr X es ρ G
  | .truth a, ρ, G => (mE X a ρ G).bind fun p => (truthO p.1).map fun b => (.bool b, p.2)
  | .cmp o a b, ρ, G => (mE X a ρ G).bind fun p => (mE X b ρ p.2).bind fun q => (cmpO q.2 o p.1 q.1).map fun b => (.bool b, q.2)
  | .cmp2 o1 o2 a b c, ρ, G => (mE X a ρ G).bind fun p => (mE X b ρ p.2).bind fun q => onB ((cmpO q.2 o1 p.1 q.1).map fun b => (MV.bool b, q.2))
      (fun G2 => (mE X c ρ G2).bind fun r => (cmpO r.2 o2 q.1 r.1).map fun b => (.bool b, r.2)) fun G2 => some (.bool false, G2)
  | .ite c a b, ρ, G => onB (mE X c ρ G) (fun G1 => mE X a ρ G1) fun G1 => mE X b ρ G1
  | .tup es, ρ, G => (mEs X es ρ G).map fun p => (.tup p.1, p.2)
  | .lst m es, ρ, G => (mEs X es ρ G).map fun p => mkL m p.1 p.2
  | .dct ks es, ρ, G => (mEs X es ρ G).bind fun p => if ks.length = p.1.length then some (.ref p.2.length, p.2 ++ [.sd (ks.zip p.1)]) else none
  | .dct0, _, G => some (.ref G.length, G ++ [.nd 0 []])
  | .comp m k elt gs, ρ, G => (mC X gs (fun ρ' G' => mE X elt ρ' G') (ρ ++ List.replicate k none) G []).bind fun p => if p.1.length < 4096 then some (mkL m p.1 p.2) else none
  | .call f es, ρ, G => (mEs X es ρ G).bind fun p => X.call f p.1 p.2
  | .new c es, ρ, G => (mEs X es ρ G).bind fun p => (X.init c).bind fun f => (X.call f (.obj c p.2.length :: p.1) (p.2 ++ [.sd []])).bind fun q => if isN q.1 = true then some (.obj c p.2.length, q.2) else none
  | .meth e m es, ρ, G => (mE X e ρ G).bind fun p => (iObj p.1).bind fun o => (mthO X p.2 m o.1 o.2).bind fun f => (mEs X es ρ p.2).bind fun q => X.call f (.obj o.1 o.2 :: q.1) q.2
  | .blt b a, ρ, G => (mE X a ρ G).bind fun p => bltO p.2 b p.1
  | .app e a, ρ, G => (mE X e ρ G).bind fun p => if (lsO p.2 p.1).isSome = true then (mE X a ρ p.2).bind fun q => (appO q.2 p.1 q.1).map fun G3 => (.none, G3) else none
  | .pop e, ρ, G => (mE X e ρ G).bind fun p => popO p.2 p.1
  | .get e a b, ρ, G => (mE X e ρ G).bind fun p => if isNd p.2 p.1 = true then (mE X a ρ p.2).bind fun q => (mE X b ρ q.2).bind fun r => (getO r.2 p.1 q.1 r.1).map (·, r.2) else none
  | .srtK a e m, ρ, G => (mE X a ρ G).bind fun p => (mE X e ρ p.2).bind fun q => (iObj q.1).bind fun o => (mthO X q.2 m o.1 o.2).bind fun f => ((lsO q.2 p.1).bind intsO).bind fun xs =>
      if xs.length < 64 then (keysO (fun v G => X.call f [.obj o.1 o.2, v] G) (xs.map .int) q.2).bind fun r => if r.1.Nodup then some (.lst (((r.1.zip xs).mergeSort (fun p q => decide (q.1 ≤ p.1))).map fun p => .int p.2), r.2) else none else none
  | .sup f C es, ρ, G => (mEs X es ρ G).bind fun p => ρ[0]?.bind fun v => v.bind fun v => (iObj v).bind fun o => if o.1 = C then X.call f (.obj o.1 o.2 :: p.1) p.2 else none
noncomputable def mEs (X : Ctx) : List ME → Lo → GH → Option (List MV × GH)
  | [], _, G => some ([], G)
  | e :: r, ρ, G => (mE X e ρ G).bind fun p => (mEs X r ρ p.2).map fun q => (p.1 :: q.1, q.2)
noncomputable def mAnd (X : Ctx) : List ME → Lo → GH → Option (MV × GH)
  | [], _, G => some (.bool true, G)
  | e :: r, ρ, G => onB (mE X e ρ G) (fun G1 => mAnd X r ρ G1) fun G1 => some (.bool false, G1)
noncomputable def mOr (X : Ctx) : List ME → Lo → GH → Option (MV × GH)
  | [], _, G => some (.bool false, G)
  | e :: r, ρ, G => onB (mE X e ρ G) (fun G1 => some (.bool true, G1)) fun G1 => mOr X r ρ G1
noncomputable def mC (X : Ctx) : List MG → (Lo → GH → Option (MV × GH)) → Lo → GH → List MV → Option (List MV × GH)
  | [], emit, ρ, G, acc => (emit ρ G).bind fun p => if acc.length < 4096 then some (acc ++ [p.1], p.2) else none
  | .mk tgt one k srcs ifs :: gs, emit, ρ, G, acc => (mEs X srcs ρ G).bind fun p => (srcO p.2 k p.1).bind fun t => loopC t.1 (fun v G acc => (asgO one tgt v ρ).bind fun ρ' =>
      onB (mAnd X ifs ρ' G) (fun G2 => mC X gs emit ρ' G2 acc) fun G2 => some (acc, G2)) t.2 p.2 acc
end

mutual
noncomputable def mS (X : Ctx) : MS → Lo → GH → Option (Fl × Lo × GH)
  | .expr e, ρ, G => (mE X e ρ G).map fun p => (.next, ρ, p.2)
  | .asg i e, ρ, G => (mE X e ρ G).bind fun p => (set1 ρ i p.1).map fun ρ' => (.next, ρ', p.2)
  | .asgT is e, ρ, G => (mE X e ρ G).bind fun p => (iTup p.1).bind fun l => (setAll ρ is l).map fun ρ' => (.next, ρ', p.2)
  | .asgW is e, ρ, G => (mE X e ρ G).bind fun p => (iTup p.1).bind fun l => if is.length = l.length then (setAll ρ is.reverse l.reverse).map fun ρ' => (.next, ρ', p.2) else none
  | .asgA o k e, ρ, G => (mE X e ρ G).bind fun p => (mE X o ρ p.2).bind fun q => (aSet X q.2 k p.1 q.1).map fun G3 => (.next, ρ, G3)
  | .asgS o i e, ρ, G => (mE X e ρ G).bind fun p => (mE X o ρ p.2).bind fun q => (mE X i ρ q.2).bind fun r => (subSet r.2 q.1 r.1 p.1).map fun G4 => (.next, ρ, G4)
  | .ifS c a b, ρ, G => onB (mE X c ρ G) (fun G1 => mSs X a ρ G1) fun G1 => mSs X b ρ G1
  | .whileS c b, ρ, G => loopW (fun ρ G => mE X c ρ G) (fun ρ G => mSs X b ρ G) X.W ρ G
  | .forS tgt one k srcs b, ρ, G => (mEs X srcs ρ G).bind fun p => (srcO p.2 k p.1).bind fun t => loopS t.1 (fun v ρ G => (asgO one tgt v ρ).bind fun ρ' => mSs X b ρ' G) t.2 ρ p.2
  | .ret e, ρ, G => (mE X e ρ G).map fun p => (.ret p.1, ρ, p.2)
  | .cont, ρ, G => some (.cont, ρ, G)
  | .brk, ρ, G => some (.brk, ρ, G)
  | .pass, ρ, G => some (.next, ρ, G)
noncomputable def mSs (X : Ctx) : List MS → Lo → GH → Option (Fl × Lo × GH)
  | [], ρ, G => some (.next, ρ, G)
  | x :: r, ρ, G => (mS X x ρ G).bind fun o => match o.1 with
    | .next => mSs X r o.2.1 o.2.2
    | .brk => some o
    | .cont => some o
    | .ret _ => some o
end

structure MFun where
  n : Nat
  k : Nat
  dfl : List MV
  body : List MS
deriving Inhabited

noncomputable def bindO (f : MFun) (args : List MV) : Option Lo :=
  if args.length + f.dfl.length = f.n then some ((args ++ f.dfl).map some ++ List.replicate f.k none) else none

structure Prog where
  fn : Nat → Option MFun
  init : Nat → Option Nat
  mth : Nat → Nat → Option Nat
  atr : Nat → Nat → Bool

noncomputable def ctx (P : Prog) (W : Nat) (call : Nat → List MV → GH → Option (MV × GH)) : Ctx :=
  { call := call, init := P.init, mth := P.mth, atr := P.atr, W := W }

noncomputable def outF (o : Fl × Lo × GH) : Option (MV × GH) := match o.1 with
  | .ret v => some (v, o.2.2)
  | .next => some (.none, o.2.2)
  | .brk => none
  | .cont => none
noncomputable def outO (o : Option (Fl × Lo × GH)) : Option (MV × GH) := o.bind outF

noncomputable def mcall (P : Prog) (W : Nat) : Nat → Nat → List MV → GH → Option (MV × GH)
  | 0, _, _, _ => none
  | d + 1, f, args, G => (P.fn f).bind fun mf => (bindO mf args).bind fun ρ => outO (mSs (ctx P W (mcall P W d)) mf.body ρ G)

end Mine
end
section
namespace Mine
open PySem

noncomputable abbrev Sp := List (Str × NameKind)
noncomputable abbrev Nm := List (Option Str)

structure Sta where
  tab : List Str
  globs : List (Str × Nat)
  gints : List (Str × Int)
  blts : List Str
  sups : List Nat
  skey : Bool

noncomputable def locK (sc : Sp) (x : Str) : Bool := sc.lookup x == some .local || sc.lookup x == some .cell || sc.lookup x == some .free
noncomputable def gloK (sc : Sp) (x : Str) : Bool := sc.lookup x == some .globalImplicit && !(x == ("__debug__" : Str))
noncomputable def bltK (S : Sta) (sc : Sp) (x : Str) : Bool := gloK sc x && S.blts.contains x
theorem dq {c : Prop} [d : Decidable c] {k : c → Bool} (h : (if q : c then k q else false) = true) : ∃ q : c, k q = true :=
  match d, h with
  | .isTrue q, h => ⟨q, h⟩
noncomputable def qECon (x : PySem.Expr) (k : Const → Nat → Pos → Bool) : Bool := if q : x.ctorIdx = 19 then PySem.Expr.Constant.elim x q k else false
theorem kECon {x : PySem.Expr} {k : Const → Nat → Pos → Bool} {P : PySem.Expr → Prop} (h : qECon x k = true) (g : ∀ a b c, k a b c = true → P (.Constant a b c)) : P x :=
  (dq h).elim fun q h => PySem.Expr.Constant.elim (motive_1 := fun x => ∀ q : x.ctorIdx = 19, (PySem.Expr.Constant.elim x q k : Bool) = true → (∀ a b c, k a b c = true → P (.Constant a b c)) → P x) x q (fun _ _ _ _ h g => g _ _ _ h) q h g
noncomputable def qENam (x : PySem.Expr) (k : Str → Pos → Bool) : Bool := if q : x.ctorIdx = 23 then PySem.Expr.Name.elim x q k else false
theorem kENam {x : PySem.Expr} {k : Str → Pos → Bool} {P : PySem.Expr → Prop} (h : qENam x k = true) (g : ∀ a b, k a b = true → P (.Name a b)) : P x :=
  (dq h).elim fun q h => PySem.Expr.Name.elim (motive_1 := fun x => ∀ q : x.ctorIdx = 23, (PySem.Expr.Name.elim x q k : Bool) = true → (∀ a b, k a b = true → P (.Name a b)) → P x) x q (fun _ _ _ h g => g _ _ h) q h g
noncomputable def qEAtt (x : PySem.Expr) (k : Expr → Str → Pos → Bool) : Bool := if q : x.ctorIdx = 20 then PySem.Expr.Attribute.elim x q k else false
theorem kEAtt {x : PySem.Expr} {k : Expr → Str → Pos → Bool} {P : PySem.Expr → Prop} (h : qEAtt x k = true) (g : ∀ a b c, k a b c = true → P (.Attribute a b c)) : P x :=
  (dq h).elim fun q h => PySem.Expr.Attribute.elim (motive_1 := fun x => ∀ q : x.ctorIdx = 20, (PySem.Expr.Attribute.elim x q k : Bool) = true → (∀ a b c, k a b c = true → P (.Attribute a b c)) → P x) x q (fun _ _ _ _ h g => g _ _ _ h) q h g
noncomputable def qESub (x : PySem.Expr) (k : Expr → Expr → Pos → Bool) : Bool := if q : x.ctorIdx = 21 then PySem.Expr.Subscript.elim x q k else false
theorem kESub {x : PySem.Expr} {k : Expr → Expr → Pos → Bool} {P : PySem.Expr → Prop} (h : qESub x k = true) (g : ∀ a b c, k a b c = true → P (.Subscript a b c)) : P x :=
  (dq h).elim fun q h => PySem.Expr.Subscript.elim (motive_1 := fun x => ∀ q : x.ctorIdx = 21, (PySem.Expr.Subscript.elim x q k : Bool) = true → (∀ a b c, k a b c = true → P (.Subscript a b c)) → P x) x q (fun _ _ _ _ h g => g _ _ _ h) q h g
noncomputable def qESlc (x : PySem.Expr) (k : Option Expr → Option Expr → Option Expr → Pos → Bool) : Bool := if q : x.ctorIdx = 26 then PySem.Expr.Slice.elim x q k else false
theorem kESlc {x : PySem.Expr} {k : Option Expr → Option Expr → Option Expr → Pos → Bool} {P : PySem.Expr → Prop} (h : qESlc x k = true) (g : ∀ a b c d, k a b c d = true → P (.Slice a b c d)) : P x :=
  (dq h).elim fun q h => PySem.Expr.Slice.elim (motive_1 := fun x => ∀ q : x.ctorIdx = 26, (PySem.Expr.Slice.elim x q k : Bool) = true → (∀ a b c d, k a b c d = true → P (.Slice a b c d)) → P x) x q (fun _ _ _ _ _ h g => g _ _ _ _ h) q h g
noncomputable def qEUna (x : PySem.Expr) (k : UnaryOp → Expr → Pos → Bool) : Bool := if q : x.ctorIdx = 3 then PySem.Expr.UnaryOp.elim x q k else false
theorem kEUna {x : PySem.Expr} {k : UnaryOp → Expr → Pos → Bool} {P : PySem.Expr → Prop} (h : qEUna x k = true) (g : ∀ a b c, k a b c = true → P (.UnaryOp a b c)) : P x :=
  (dq h).elim fun q h => PySem.Expr.UnaryOp.elim (motive_1 := fun x => ∀ q : x.ctorIdx = 3, (PySem.Expr.UnaryOp.elim x q k : Bool) = true → (∀ a b c, k a b c = true → P (.UnaryOp a b c)) → P x) x q (fun _ _ _ _ h g => g _ _ _ h) q h g
noncomputable def qEBin (x : PySem.Expr) (k : Expr → Operator → Expr → Pos → Bool) : Bool := if q : x.ctorIdx = 2 then PySem.Expr.BinOp.elim x q k else false
theorem kEBin {x : PySem.Expr} {k : Expr → Operator → Expr → Pos → Bool} {P : PySem.Expr → Prop} (h : qEBin x k = true) (g : ∀ a b c d, k a b c d = true → P (.BinOp a b c d)) : P x :=
  (dq h).elim fun q h => PySem.Expr.BinOp.elim (motive_1 := fun x => ∀ q : x.ctorIdx = 2, (PySem.Expr.BinOp.elim x q k : Bool) = true → (∀ a b c d, k a b c d = true → P (.BinOp a b c d)) → P x) x q (fun _ _ _ _ _ h g => g _ _ _ _ h) q h g
noncomputable def qECmp (x : PySem.Expr) (k : Expr → List CmpOp → List Expr → Pos → Bool) : Bool := if q : x.ctorIdx = 15 then PySem.Expr.Compare.elim x q k else false
theorem kECmp {x : PySem.Expr} {k : Expr → List CmpOp → List Expr → Pos → Bool} {P : PySem.Expr → Prop} (h : qECmp x k = true) (g : ∀ a b c d, k a b c d = true → P (.Compare a b c d)) : P x :=
  (dq h).elim fun q h => PySem.Expr.Compare.elim (motive_1 := fun x => ∀ q : x.ctorIdx = 15, (PySem.Expr.Compare.elim x q k : Bool) = true → (∀ a b c d, k a b c d = true → P (.Compare a b c d)) → P x) x q (fun _ _ _ _ _ h g => g _ _ _ _ h) q h g
noncomputable def qEIte (x : PySem.Expr) (k : Expr → Expr → Expr → Pos → Bool) : Bool := if q : x.ctorIdx = 5 then PySem.Expr.IfExp.elim x q k else false
theorem kEIte {x : PySem.Expr} {k : Expr → Expr → Expr → Pos → Bool} {P : PySem.Expr → Prop} (h : qEIte x k = true) (g : ∀ a b c d, k a b c d = true → P (.IfExp a b c d)) : P x :=
  (dq h).elim fun q h => PySem.Expr.IfExp.elim (motive_1 := fun x => ∀ q : x.ctorIdx = 5, (PySem.Expr.IfExp.elim x q k : Bool) = true → (∀ a b c d, k a b c d = true → P (.IfExp a b c d)) → P x) x q (fun _ _ _ _ _ h g => g _ _ _ _ h) q h g
noncomputable def qETup (x : PySem.Expr) (k : List Expr → Nat → Pos → Bool) : Bool := if q : x.ctorIdx = 25 then PySem.Expr.Tuple.elim x q k else false
theorem kETup {x : PySem.Expr} {k : List Expr → Nat → Pos → Bool} {P : PySem.Expr → Prop} (h : qETup x k = true) (g : ∀ a b c, k a b c = true → P (.Tuple a b c)) : P x :=
  (dq h).elim fun q h => PySem.Expr.Tuple.elim (motive_1 := fun x => ∀ q : x.ctorIdx = 25, (PySem.Expr.Tuple.elim x q k : Bool) = true → (∀ a b c, k a b c = true → P (.Tuple a b c)) → P x) x q (fun _ _ _ _ h g => g _ _ _ h) q h g
noncomputable def qELst (x : PySem.Expr) (k : List Expr → Pos → Bool) : Bool := if q : x.ctorIdx = 24 then PySem.Expr.List.elim x q k else false
theorem kELst {x : PySem.Expr} {k : List Expr → Pos → Bool} {P : PySem.Expr → Prop} (h : qELst x k = true) (g : ∀ a b, k a b = true → P (.List a b)) : P x :=
  (dq h).elim fun q h => PySem.Expr.List.elim (motive_1 := fun x => ∀ q : x.ctorIdx = 24, (PySem.Expr.List.elim x q k : Bool) = true → (∀ a b, k a b = true → P (.List a b)) → P x) x q (fun _ _ _ h g => g _ _ h) q h g
noncomputable def qEDic (x : PySem.Expr) (k : List (Option Expr) → List Expr → Pos → Bool) : Bool := if q : x.ctorIdx = 6 then PySem.Expr.Dict.elim x q k else false
theorem kEDic {x : PySem.Expr} {k : List (Option Expr) → List Expr → Pos → Bool} {P : PySem.Expr → Prop} (h : qEDic x k = true) (g : ∀ a b c, k a b c = true → P (.Dict a b c)) : P x :=
  (dq h).elim fun q h => PySem.Expr.Dict.elim (motive_1 := fun x => ∀ q : x.ctorIdx = 6, (PySem.Expr.Dict.elim x q k : Bool) = true → (∀ a b c, k a b c = true → P (.Dict a b c)) → P x) x q (fun _ _ _ _ h g => g _ _ _ h) q h g
noncomputable def qELcm (x : PySem.Expr) (k : Expr → List Comprehension → Scope → Pos → Bool) : Bool := if q : x.ctorIdx = 8 then PySem.Expr.ListComp.elim x q k else false
theorem kELcm {x : PySem.Expr} {k : Expr → List Comprehension → Scope → Pos → Bool} {P : PySem.Expr → Prop} (h : qELcm x k = true) (g : ∀ a b c d, k a b c d = true → P (.ListComp a b c d)) : P x :=
  (dq h).elim fun q h => PySem.Expr.ListComp.elim (motive_1 := fun x => ∀ q : x.ctorIdx = 8, (PySem.Expr.ListComp.elim x q k : Bool) = true → (∀ a b c d, k a b c d = true → P (.ListComp a b c d)) → P x) x q (fun _ _ _ _ _ h g => g _ _ _ _ h) q h g
noncomputable def qECal (x : PySem.Expr) (k : Expr → List Expr → List Keyword → Pos → Bool) : Bool := if q : x.ctorIdx = 16 then PySem.Expr.Call.elim x q k else false
theorem kECal {x : PySem.Expr} {k : Expr → List Expr → List Keyword → Pos → Bool} {P : PySem.Expr → Prop} (h : qECal x k = true) (g : ∀ a b c d, k a b c d = true → P (.Call a b c d)) : P x :=
  (dq h).elim fun q h => PySem.Expr.Call.elim (motive_1 := fun x => ∀ q : x.ctorIdx = 16, (PySem.Expr.Call.elim x q k : Bool) = true → (∀ a b c d, k a b c d = true → P (.Call a b c d)) → P x) x q (fun _ _ _ _ _ h g => g _ _ _ _ h) q h g
noncomputable def qEBoo (x : PySem.Expr) (k : BoolOp → List Expr → Pos → Bool) : Bool := if q : x.ctorIdx = 0 then PySem.Expr.BoolOp.elim x q k else false
theorem kEBoo {x : PySem.Expr} {k : BoolOp → List Expr → Pos → Bool} {P : PySem.Expr → Prop} (h : qEBoo x k = true) (g : ∀ a b c, k a b c = true → P (.BoolOp a b c)) : P x :=
  (dq h).elim fun q h => PySem.Expr.BoolOp.elim (motive_1 := fun x => ∀ q : x.ctorIdx = 0, (PySem.Expr.BoolOp.elim x q k : Bool) = true → (∀ a b c, k a b c = true → P (.BoolOp a b c)) → P x) x q (fun _ _ _ _ h g => g _ _ _ h) q h g
noncomputable def qSRet (x : PySem.Stmt) (k : Option Expr → Pos → Bool) : Bool := if q : x.ctorIdx = 3 then PySem.Stmt.Return.elim x q k else false
theorem kSRet {x : PySem.Stmt} {k : Option Expr → Pos → Bool} {P : PySem.Stmt → Prop} (h : qSRet x k = true) (g : ∀ a b, k a b = true → P (.Return a b)) : P x :=
  (dq h).elim fun q h => PySem.Stmt.Return.elim (motive_2 := fun x => ∀ q : x.ctorIdx = 3, (PySem.Stmt.Return.elim x q k : Bool) = true → (∀ a b, k a b = true → P (.Return a b)) → P x) x q (fun _ _ _ h g => g _ _ h) q h g
noncomputable def qSAsg (x : PySem.Stmt) (k : List Expr → Expr → Pos → Bool) : Bool := if q : x.ctorIdx = 5 then PySem.Stmt.Assign.elim x q k else false
theorem kSAsg {x : PySem.Stmt} {k : List Expr → Expr → Pos → Bool} {P : PySem.Stmt → Prop} (h : qSAsg x k = true) (g : ∀ a b c, k a b c = true → P (.Assign a b c)) : P x :=
  (dq h).elim fun q h => PySem.Stmt.Assign.elim (motive_2 := fun x => ∀ q : x.ctorIdx = 5, (PySem.Stmt.Assign.elim x q k : Bool) = true → (∀ a b c, k a b c = true → P (.Assign a b c)) → P x) x q (fun _ _ _ _ h g => g _ _ _ h) q h g
noncomputable def qSFor (x : PySem.Stmt) (k : Expr → Expr → List Stmt → List Stmt → Pos → Bool) : Bool := if q : x.ctorIdx = 9 then PySem.Stmt.For.elim x q k else false
theorem kSFor {x : PySem.Stmt} {k : Expr → Expr → List Stmt → List Stmt → Pos → Bool} {P : PySem.Stmt → Prop} (h : qSFor x k = true) (g : ∀ a b c d e, k a b c d e = true → P (.For a b c d e)) : P x :=
  (dq h).elim fun q h => PySem.Stmt.For.elim (motive_2 := fun x => ∀ q : x.ctorIdx = 9, (PySem.Stmt.For.elim x q k : Bool) = true → (∀ a b c d e, k a b c d e = true → P (.For a b c d e)) → P x) x q (fun _ _ _ _ _ _ h g => g _ _ _ _ _ h) q h g
noncomputable def qSWhi (x : PySem.Stmt) (k : Expr → List Stmt → List Stmt → Pos → Bool) : Bool := if q : x.ctorIdx = 11 then PySem.Stmt.While.elim x q k else false
theorem kSWhi {x : PySem.Stmt} {k : Expr → List Stmt → List Stmt → Pos → Bool} {P : PySem.Stmt → Prop} (h : qSWhi x k = true) (g : ∀ a b c d, k a b c d = true → P (.While a b c d)) : P x :=
  (dq h).elim fun q h => PySem.Stmt.While.elim (motive_2 := fun x => ∀ q : x.ctorIdx = 11, (PySem.Stmt.While.elim x q k : Bool) = true → (∀ a b c d, k a b c d = true → P (.While a b c d)) → P x) x q (fun _ _ _ _ _ h g => g _ _ _ _ h) q h g
noncomputable def qSIff (x : PySem.Stmt) (k : Expr → List Stmt → List Stmt → Pos → Bool) : Bool := if q : x.ctorIdx = 12 then PySem.Stmt.If.elim x q k else false
theorem kSIff {x : PySem.Stmt} {k : Expr → List Stmt → List Stmt → Pos → Bool} {P : PySem.Stmt → Prop} (h : qSIff x k = true) (g : ∀ a b c d, k a b c d = true → P (.If a b c d)) : P x :=
  (dq h).elim fun q h => PySem.Stmt.If.elim (motive_2 := fun x => ∀ q : x.ctorIdx = 12, (PySem.Stmt.If.elim x q k : Bool) = true → (∀ a b c d, k a b c d = true → P (.If a b c d)) → P x) x q (fun _ _ _ _ _ h g => g _ _ _ _ h) q h g
noncomputable def qSExp (x : PySem.Stmt) (k : Expr → Pos → Bool) : Bool := if q : x.ctorIdx = 24 then PySem.Stmt.Expr.elim x q k else false
theorem kSExp {x : PySem.Stmt} {k : Expr → Pos → Bool} {P : PySem.Stmt → Prop} (h : qSExp x k = true) (g : ∀ a b, k a b = true → P (.Expr a b)) : P x :=
  (dq h).elim fun q h => PySem.Stmt.Expr.elim (motive_2 := fun x => ∀ q : x.ctorIdx = 24, (PySem.Stmt.Expr.elim x q k : Bool) = true → (∀ a b, k a b = true → P (.Expr a b)) → P x) x q (fun _ _ _ h g => g _ _ h) q h g
noncomputable def qSPas (x : PySem.Stmt) (k : Pos → Bool) : Bool := if q : x.ctorIdx = 25 then PySem.Stmt.Pass.elim x q k else false
theorem kSPas {x : PySem.Stmt} {k : Pos → Bool} {P : PySem.Stmt → Prop} (h : qSPas x k = true) (g : ∀ a, k a = true → P (.Pass a)) : P x :=
  (dq h).elim fun q h => PySem.Stmt.Pass.elim (motive_2 := fun x => ∀ q : x.ctorIdx = 25, (PySem.Stmt.Pass.elim x q k : Bool) = true → (∀ a, k a = true → P (.Pass a)) → P x) x q (fun _ _ h g => g _ h) q h g
noncomputable def qSBre (x : PySem.Stmt) (k : Pos → Bool) : Bool := if q : x.ctorIdx = 26 then PySem.Stmt.Break.elim x q k else false
theorem kSBre {x : PySem.Stmt} {k : Pos → Bool} {P : PySem.Stmt → Prop} (h : qSBre x k = true) (g : ∀ a, k a = true → P (.Break a)) : P x :=
  (dq h).elim fun q h => PySem.Stmt.Break.elim (motive_2 := fun x => ∀ q : x.ctorIdx = 26, (PySem.Stmt.Break.elim x q k : Bool) = true → (∀ a, k a = true → P (.Break a)) → P x) x q (fun _ _ h g => g _ h) q h g
noncomputable def qSCon (x : PySem.Stmt) (k : Pos → Bool) : Bool := if q : x.ctorIdx = 27 then PySem.Stmt.Continue.elim x q k else false
theorem kSCon {x : PySem.Stmt} {k : Pos → Bool} {P : PySem.Stmt → Prop} (h : qSCon x k = true) (g : ∀ a, k a = true → P (.Continue a)) : P x :=
  (dq h).elim fun q h => PySem.Stmt.Continue.elim (motive_2 := fun x => ∀ q : x.ctorIdx = 27, (PySem.Stmt.Continue.elim x q k : Bool) = true → (∀ a, k a = true → P (.Continue a)) → P x) x q (fun _ _ h g => g _ h) q h g
noncomputable def qCNon (x : PySem.Const) (k : Bool) : Bool := if q : x.ctorIdx = 0 then PySem.Const.none.elim x q k else false
theorem kCNon {x : PySem.Const} {k : Bool} {P : PySem.Const → Prop} (h : qCNon x k = true) (g : k = true → P .none) : P x :=
  (dq h).elim fun q h => PySem.Const.none.elim (motive := fun x => ∀ q : x.ctorIdx = 0, (PySem.Const.none.elim x q k : Bool) = true → (k = true → P .none) → P x) x q (fun _ h g => g h) q h g
noncomputable def qCBoo (x : PySem.Const) (k : Bool → Bool) : Bool := if q : x.ctorIdx = 1 then PySem.Const.bool.elim x q k else false
theorem kCBoo {x : PySem.Const} {k : Bool → Bool} {P : PySem.Const → Prop} (h : qCBoo x k = true) (g : ∀ a, k a = true → P (.bool a)) : P x :=
  (dq h).elim fun q h => PySem.Const.bool.elim (motive := fun x => ∀ q : x.ctorIdx = 1, (PySem.Const.bool.elim x q k : Bool) = true → (∀ a, k a = true → P (.bool a)) → P x) x q (fun _ _ h g => g _ h) q h g
noncomputable def qCInt (x : PySem.Const) (k : Int → Bool) : Bool := if q : x.ctorIdx = 2 then PySem.Const.int.elim x q k else false
theorem kCInt {x : PySem.Const} {k : Int → Bool} {P : PySem.Const → Prop} (h : qCInt x k = true) (g : ∀ a, k a = true → P (.int a)) : P x :=
  (dq h).elim fun q h => PySem.Const.int.elim (motive := fun x => ∀ q : x.ctorIdx = 2, (PySem.Const.int.elim x q k : Bool) = true → (∀ a, k a = true → P (.int a)) → P x) x q (fun _ _ h g => g _ h) q h g
noncomputable def qCStr (x : PySem.Const) (k : Str → Bool) : Bool := if q : x.ctorIdx = 5 then PySem.Const.str.elim x q k else false
theorem kCStr {x : PySem.Const} {k : Str → Bool} {P : PySem.Const → Prop} (h : qCStr x k = true) (g : ∀ a, k a = true → P (.str a)) : P x :=
  (dq h).elim fun q h => PySem.Const.str.elim (motive := fun x => ∀ q : x.ctorIdx = 5, (PySem.Const.str.elim x q k : Bool) = true → (∀ a, k a = true → P (.str a)) → P x) x q (fun _ _ h g => g _ h) q h g
noncomputable def q1 {α : Type} (l : List α) (k : α → Bool) : Bool := match l with
  | [] => false
  | a :: r => r.isEmpty && k a
noncomputable def q2 {α : Type} (l : List α) (k : α → α → Bool) : Bool := match l with
  | [] => false
  | a :: r => q1 r fun b => k a b
theorem k0 {α : Type} {l : List α} {P : List α → Prop} (h : l.isEmpty = true) (g : P []) : P l := match l, h with
  | [], _ => g
theorem k1 {α : Type} {l : List α} {k : α → Bool} {P : List α → Prop} (h : q1 l k = true) (g : ∀ a, k a = true → P [a]) : P l := match l, h with
  | a :: r, h => k0 (P := fun r => P (a :: r)) (Bool.and_eq_true_iff.mp h).1 (g a (Bool.and_eq_true_iff.mp h).2)
theorem k2 {α : Type} {l : List α} {k : α → α → Bool} {P : List α → Prop} (h : q2 l k = true) (g : ∀ a b, k a b = true → P [a, b]) : P l := match l, h with
  | a :: r, h => k1 (P := fun r => P (a :: r)) (l := r) (k := fun b => k a b) h fun b h => g a b h
noncomputable def qS {α : Type} (o : Option α) (k : α → Bool) : Bool := match o with
  | none => false
  | some a => k a
theorem kS {α : Type} {o : Option α} {k : α → Bool} {P : Option α → Prop} (h : qS o k = true) (g : ∀ a, k a = true → P (some a)) : P o := match o, h with
  | some a, h => g a h
theorem kN {α : Type} {o : Option α} {P : Option α → Prop} (h : o.isNone = true) (g : P none) : P o := match o, h with
  | none, _ => g
theorem kEq {α : Type} [BEq α] [LawfulBEq α] {a b : α} {P : α → Prop} (h : (a == b) = true) (g : P b) : P a := eq_of_beq h ▸ g
noncomputable def nameO (e : PySem.Expr) : Option Str := if q : e.ctorIdx = 23 then PySem.Expr.Name.elim e q fun x _ => some x else none
noncomputable def tupO (e : PySem.Expr) : Option (List PySem.Expr) := if q : e.ctorIdx = 25 then PySem.Expr.Tuple.elim e q fun x _ _ => some x else none
noncomputable def noSup (e : PySem.Expr) : Bool := !(e.ctorIdx == 16)
noncomputable def isComp (e : PySem.Expr) : Bool := [8, 9, 10].contains e.ctorIdx
noncomputable def okE (e : PySem.Expr) : Bool := ![1, 4, 7, 9, 10, 11, 12, 13, 14, 17, 18, 22].contains e.ctorIdx
noncomputable def plainT (e : PySem.Expr) : Bool := ![0, 3, 5, 15].contains e.ctorIdx
noncomputable def tgtOk (sc : Sp) (nm : Nm) (i : Nat) (x : Str) : Bool := nm[i]? == some (some x) && (sc.lookup x == some .local || sc.lookup x == some .cell)
noncomputable def tgtsOk (sc : Sp) (nm : Nm) : List Nat → List PySem.Expr → Bool
  | [], l => l.isEmpty
  | i :: r, l => match l with
    | [] => false
    | t :: l => qENam t fun x _ => tgtOk sc nm i x && tgtsOk sc nm r l
noncomputable def tgtE (sc : Sp) (nm : Nm) (one : Bool) (is : List Nat) (e : PySem.Expr) : Bool := match one with
  | true => qENam e fun x _ => q1 is fun i => tgtOk sc nm i x
  | false => qETup e fun ts _ _ => tgtsOk sc nm is ts
noncomputable def namesT (e : PySem.Expr) : List Str := match tupO e with
  | some ts => ts.filterMap nameO
  | none => (nameO e).toList
noncomputable def namesG (gs : List Comprehension) : List Str := gs.flatMap fun g => namesT g.target
noncomputable def maskN (nm : Nm) (names : Sp) : Nm := nm.map fun o => o.bind fun x => if names.lookup x == some .free then some x else none
noncomputable def relN (sc names : Sp) : Sp := names.map fun p => if p.2 == .free && sc.lookup p.1 == some .cell then (p.1, .cell) else p
noncomputable def uniqN (nm : Nm) : Bool := decide ((nm.filterMap id).Nodup)
noncomputable def scopeOk (sc names : Sp) : Bool :=
  decide ((names.map (·.1)).Nodup) && names.all fun p => !(p.1 == ("__class__" : Str)) && (!(p.2 == .free) || sc.lookup p.1 == some .cell || sc.lookup p.1 == some .free)

noncomputable def b2Ok : B2 → Operator → Bool
  | .add, o => o == .Add
  | .sub, o => o == .Sub
  | .mul, o => o == .Mult
  | .mod, o => o == .Mod
  | .fdiv, o => o == .FloorDiv
  | .shr, o => o == .RShift
  | .band, o => o == .BitAnd
noncomputable def c2Ok : C2 → CmpOp → Bool
  | .eq, o => o == .Eq
  | .ne, o => o == .NotEq
  | .lt, o => o == .Lt
  | .le, o => o == .LtE
  | .gt, o => o == .Gt
  | .ge, o => o == .GtE
  | .isin, o => o == .In
  | .nin, o => o == .NotIn
  | .is, o => o == .Is
  | .isn, o => o == .IsNot
noncomputable def blN : Bl → Str
  | .len => "len" | .abs => "abs" | .int => "int" | .list _ => "list" | .tuple => "tuple" | .sorted => "sorted"
noncomputable def keysE (S : Sta) : List Nat → List (Option PySem.Expr) → Bool
  | [], l => l.isEmpty
  | k :: r, l => match l with
    | [] => false
    | o :: t => qS o fun e => qECon e fun c _ _ => qCStr c fun x => S.tab[k]? == some x && keysE S r t
noncomputable def isKN (e : ME) : Bool := e.ctorIdx == 0
noncomputable def kOne (k : SK) (one : Bool) : Bool := match k with
  | .enum => !one
  | .zip => !one
  | .vals => true
  | .rng => true
noncomputable def tgtG : MG → List Nat
  | .mk t _ _ _ _ => t
noncomputable def noFree (names : Sp) (l : List Str) : Bool := l.all fun x => !(names.lookup x == some .free) && !(x == ("__class__" : Str))
noncomputable def firstG : List Comprehension → Bool
  | [] => false
  | _ :: _ => true

mutual
noncomputable def chkE (S : Sta) : ME → Sp → Nm → PySem.Expr → Bool
  | .kN, _, _, e => qECon e fun c _ _ => qCNon c true
  | .kB b, _, _, e => qECon e fun c _ _ => qCBoo c fun c => c == b
  | .kI i, _, _, e => qECon e fun c _ _ => qCInt c fun c => c == i
  | .kS k, _, _, e => qECon e fun c _ _ => qCStr c fun x => S.tab[k]? == some x
  | .loc i, sc, nm, e => qENam e fun x _ => nm[i]? == some (some x) && locK sc x && !(x == ("__debug__" : Str))
  | .gI k i, sc, _, e => qENam e fun x _ => S.tab[k]? == some x && gloK sc x && S.gints.lookup x == some i
  | .attr a k, sc, nm, e => qEAtt e fun x n _ => chkE S a sc nm x && S.tab[k]? == some n && noSup x
  | .sub a i, sc, nm, e => qESub e fun x y _ => chkE S a sc nm x && chkE S i sc nm y
  | .slc a lo hi, sc, nm, e => qESub e fun x z _ => qESlc z fun l u s _ => s.isNone && (chkE S a sc nm x && (match l with | none => isKN lo | some y => chkE S lo sc nm y) && (match u with | none => isKN hi | some y => chkE S hi sc nm y))
  | .rev a, sc, nm, e => qESub e fun x z _ => qESlc z fun l u s _ => l.isNone && (u.isNone && (qS s fun w => qEUna w fun op v _ => op == .USub && (qECon v fun c _ _ => qCInt c fun i => i == 1 && chkE S a sc nm x)))
  | .bin o a b, sc, nm, e => qEBin e fun l op r _ => b2Ok o op && chkE S a sc nm l && chkE S b sc nm r
  | .neg a, sc, nm, e => qEUna e fun op x _ => op == .USub && chkE S a sc nm x
  | .no _, _, _, _ => false
  | .and_ _, _, _, _ => false
  | .or_ _, _, _, _ => false
  | .truth _, _, _, _ => false
  | .cmp o a b, sc, nm, e => qECmp e fun l os rs _ => q1 os fun op => q1 rs fun r => c2Ok o op && chkE S a sc nm l && chkE S b sc nm r
  | .cmp2 _ _ _ _ _, _, _, _ => false
  | .ite c a b, sc, nm, e => qEIte e fun t x y _ => chkT S c sc nm t && chkE S a sc nm x && chkE S b sc nm y
  | .tup es, sc, nm, e => qETup e fun xs _ _ => chkEs S es sc nm xs && decide (es.length ≤ 64)
  | .lst _ es, sc, nm, e => qELst e fun xs _ => chkEs S es sc nm xs && decide (es.length ≤ 64)
  | .dct ks es, sc, nm, e => qEDic e fun keys xs _ => keysE S ks keys && chkEs S es sc nm xs && decide (0 < ks.length ∧ ks.length ≤ 15 ∧ ks.length = es.length) && decide ks.Nodup
  | .dct0, _, _, e => qEDic e fun keys xs _ => keys.isEmpty && xs.isEmpty
  | .comp _ k elt gs, sc, nm, e => qELcm e fun x gens scope _ =>
      scope.kind == .function && scopeOk sc scope.names && decide (k = (namesG gens).length)
        && uniqN (maskN nm scope.names ++ (namesG gens).map some) && firstG gens
        && noFree scope.names (namesG gens) && decide ((gs.flatMap tgtG).Nodup)
        && chkGs S gs true sc nm (relN sc scope.names) (maskN nm scope.names ++ (namesG gens).map some) nm.length gens
        && chkE S elt (relN sc scope.names) (maskN nm scope.names ++ (namesG gens).map some) x
  | .call f es, sc, nm, e => qECal e fun g xs ks _ => qENam g fun x _ => ks.isEmpty && (gloK sc x && S.globs.lookup x == some f && chkEs S es sc nm xs && decide (xs.length < 28))
  | .new c es, sc, nm, e => qECal e fun g xs ks _ => qENam g fun x _ => ks.isEmpty && (gloK sc x && S.globs.lookup x == some c && chkEs S es sc nm xs && decide (xs.length < 28))
  | .meth a m es, sc, nm, e => qECal e fun g xs ks p => qEAtt g fun x n ap => ks.isEmpty && (chkE S a sc nm x && S.tab[m]? == some n && noSup x && chkEs S es sc nm xs && decide (xs.length < 28) && ap.endLine == p.line)
  | .blt b a, sc, nm, e => qECal e fun g xs ks _ => qENam g fun x _ => ks.isEmpty && (x == blN b && (bltK S sc (blN b) && (q1 xs fun y => chkE S a sc nm y)))
  | .app a b, sc, nm, e => qECal e fun g xs ks p => qEAtt g fun x n ap => ks.isEmpty && (n == ("append" : Str) && (q1 xs fun y => noSup x && chkE S a sc nm x && chkE S b sc nm y && ap.endLine == p.line))
  | .pop a, sc, nm, e => qECal e fun g xs ks p => qEAtt g fun x n ap => ks.isEmpty && (n == ("pop" : Str) && (xs.isEmpty && (noSup x && chkE S a sc nm x && ap.endLine == p.line)))
  | .get a b c, sc, nm, e => qECal e fun g xs ks p => qEAtt g fun x n ap => ks.isEmpty && (n == ("get" : Str) && (q2 xs fun y z => noSup x && chkE S a sc nm x && chkE S b sc nm y && chkE S c sc nm z && ap.endLine == p.line))
  | .srtK a b m, sc, nm, e => S.skey && (qECal e fun g xs ks _ => qENam g fun x _ => q1 xs fun y => q2 ks fun w1 w2 => qEAtt w1.value fun z n _ => qECon w2.value fun c _ _ => qCBoo c fun t =>
      t && x == ("sorted" : Str) && bltK S sc ("sorted" : Str) && w1.arg == some ("key" : Str) && w2.arg == some ("reverse" : Str) && chkE S a sc nm y && chkE S b sc nm z && noSup z && S.tab[m]? == some n)
  | .sup _ _ _, _, _, _ => false
noncomputable def chkEs (S : Sta) : List ME → Sp → Nm → List PySem.Expr → Bool
  | [], _, _, xs => xs.isEmpty
  | e :: r, sc, nm, xs => match xs with | x :: t => chkE S e sc nm x && chkEs S r sc nm t | [] => false
noncomputable def chkT (S : Sta) : ME → Sp → Nm → PySem.Expr → Bool
  | .no a, sc, nm, e => qEUna e fun op x _ => op == .Not && chkT S a sc nm x
  | .and_ es, sc, nm, e => qEBoo e fun op xs _ => op == .And && chkTs S es sc nm xs
  | .or_ es, sc, nm, e => qEBoo e fun op xs _ => op == .Or && chkTs S es sc nm xs
  | .cmp o a b, sc, nm, e => qECmp e fun l os rs _ => q1 os fun op => q1 rs fun r => c2Ok o op && chkE S a sc nm l && chkE S b sc nm r
  | .cmp2 o1 o2 a b c, sc, nm, e => qECmp e fun l os rs _ => q2 os fun op1 op2 => q2 rs fun r1 r2 => c2Ok o1 op1 && c2Ok o2 op2 && chkE S a sc nm l && chkE S b sc nm r1 && chkE S c sc nm r2
  | .truth a, sc, nm, e => chkE S a sc nm e && plainT e
  | _, _, _, _ => false
noncomputable def chkTs (S : Sta) : List ME → Sp → Nm → List PySem.Expr → Bool
  | [], _, _, xs => xs.isEmpty
  | e :: r, sc, nm, xs => match xs with | x :: t => chkT S e sc nm x && chkTs S r sc nm t | [] => false
noncomputable def chkSrc (S : Sta) (k : SK) : List ME → Sp → Nm → PySem.Expr → Bool
  | [], _, _, _ => false
  | a :: r, sc, nm, e => match r with
    | [] => (match k with
      | .vals => chkE S a sc nm e
      | .rng => qECal e fun g xs ks _ => qENam g fun x _ => ks.isEmpty && (x == ("range" : Str) && (bltK S sc ("range" : Str) && (q1 xs fun y => chkE S a sc nm y)))
      | .enum => qECal e fun g xs ks _ => qENam g fun x _ => ks.isEmpty && (x == ("enumerate" : Str) && (bltK S sc ("enumerate" : Str) && (q1 xs fun y => chkE S a sc nm y)))
      | .zip => false)
    | b :: r => r.isEmpty && (match k with
      | .vals => false
      | .rng => qECal e fun g xs ks _ => qENam g fun x _ => ks.isEmpty && (x == ("range" : Str) && (bltK S sc ("range" : Str) && (q2 xs fun y z => chkE S a sc nm y && chkE S b sc nm z)))
      | .enum => false
      | .zip => qECal e fun g xs ks _ => qENam g fun x _ => ks.isEmpty && (x == ("zip" : Str) && (bltK S sc ("zip" : Str) && (q2 xs fun y z => chkE S a sc nm y && chkE S b sc nm z))))
noncomputable def chkG (S : Sta) : MG → Bool → Sp → Nm → Sp → Nm → Nat → Comprehension → Bool
  | .mk tgt one k srcs ifs, fst, sc, nm, sc', nm', nb, g =>
    g.is_async == 0 && kOne k one && tgtE sc' nm' one tgt g.target && tgt.all (fun i => decide (nb ≤ i))
      && (if fst then chkSrc S k srcs sc nm g.iter else chkSrc S k srcs sc' nm' g.iter) && chkTs S ifs sc' nm' g.ifs
noncomputable def chkGs (S : Sta) : List MG → Bool → Sp → Nm → Sp → Nm → Nat → List Comprehension → Bool
  | [], _, _, _, _, _, _, xs => xs.isEmpty
  | g :: r, fst, sc, nm, sc', nm', nb, xs => match xs with | x :: t => chkG S g fst sc nm sc' nm' nb x && chkGs S r false sc nm sc' nm' nb t | [] => false
end

noncomputable def swNo (sc : Sp) (ts : List PySem.Expr) (v : PySem.Expr) : Bool := match tupO v with
  | some vs => !(ts.length == 2 || ts.length == 3) || !(vs.length == ts.length) || ts.any fun t => match nameO t with | some x => !(sc.lookup x == some .local) | none => true
  | none => true
noncomputable def lineOf (ts : List PySem.Expr) : Nat := (ts.head?.map (·.pos.line)).getD 0
noncomputable def swYes (sc : Sp) (ts : List PySem.Expr) (v : PySem.Expr) : Bool := qETup v fun vs _ _ =>
  (ts.length == 2 || ts.length == 3) && vs.length == ts.length
      && (ts.all fun t => qENam t fun x p => sc.lookup x == some .local && p.line == lineOf ts)
      && (ts.filterMap nameO).eraseDups.length == ts.length
      && !(vs.all (foldedForSure 8)) && !(vs.all (constantsAlone 8)) && !(vs.any fun | .Starred .. => true | _ => false)

mutual
noncomputable def chkS (S : Sta) : MS → Sp → Nm → Stmt → Bool
  | .expr a, sc, nm, s => qSExp s fun x _ => chkE S a sc nm x && !isComp x
  | .asg i a, sc, nm, s => qSAsg s fun l v _ => q1 l fun t => qENam t fun x _ => tgtOk sc nm i x && chkE S a sc nm v && okE v
  | .asgT is a, sc, nm, s => qSAsg s fun l v _ => q1 l fun t => qETup t fun ts _ _ => tgtsOk sc nm is ts && chkE S a sc nm v && swNo sc ts v
  | .asgW is a, sc, nm, s => qSAsg s fun l v _ => q1 l fun t => qETup t fun ts _ _ => tgtsOk sc nm is ts && chkE S a sc nm v && swYes sc ts v
  | .asgA o k a, sc, nm, s => qSAsg s fun l v _ => q1 l fun t => qEAtt t fun x n _ => chkE S a sc nm v && chkE S o sc nm x && S.tab[k]? == some n
  | .asgS o i a, sc, nm, s => qSAsg s fun l v _ => q1 l fun t => qESub t fun x y _ => chkE S a sc nm v && chkE S o sc nm x && chkE S i sc nm y
  | .ifS c a b, sc, nm, s => qSIff s fun t x y _ => chkT S c sc nm t && chkSs S a sc nm x && chkSs S b sc nm y
  | .whileS c b, sc, nm, s => qSWhi s fun t x y _ => y.isEmpty && (chkT S c sc nm t && chkSs S b sc nm x)
  | .forS tgt one k srcs b, sc, nm, s => qSFor s fun t it x y _ => y.isEmpty && (kOne k one && tgtE sc nm one tgt t && chkSrc S k srcs sc nm it && chkSs S b sc nm x)
  | .ret a, sc, nm, s => qSRet s fun y _ => match y with | some x => chkE S a sc nm x | none => isKN a
  | .cont, _, _, s => qSCon s fun _ => true
  | .brk, _, _, s => qSBre s fun _ => true
  | .pass, _, _, s => qSPas s fun _ => true
noncomputable def chkSs (S : Sta) : List MS → Sp → Nm → List Stmt → Bool
  | [], _, _, xs => xs.isEmpty
  | e :: r, sc, nm, xs => match xs with | x :: t => chkS S e sc nm x && chkSs S r sc nm t | [] => false
end

noncomputable def qMexpr (x : MS) (k : ME → Bool) : Bool := if q : x.ctorIdx = 0 then MS.expr.elim x q k else false
theorem kMexpr {x : MS} {k : ME → Bool} {P : MS → Prop} (h : qMexpr x k = true) (g : ∀ a, k a = true → P (.expr a)) : P x :=
  (dq h).elim fun q h => MS.expr.elim (motive_1 := fun x => ∀ q : x.ctorIdx = 0, (MS.expr.elim x q k : Bool) = true → (∀ a, k a = true → P (.expr a)) → P x) x q (fun _ _ h g => g _ h) q h g
noncomputable def qMsup (x : ME) (k : Nat → Nat → List ME → Bool) : Bool := if q : x.ctorIdx = 32 then ME.sup.elim x q k else false
theorem kMsup {x : ME} {k : Nat → Nat → List ME → Bool} {P : ME → Prop} (h : qMsup x k = true) (g : ∀ a b c, k a b c = true → P (.sup a b c)) : P x :=
  (dq h).elim fun q h => ME.sup.elim (motive_1 := fun x => ∀ q : x.ctorIdx = 32, (ME.sup.elim x q k : Bool) = true → (∀ a b c, k a b c = true → P (.sup a b c)) → P x) x q (fun _ _ _ _ h g => g _ _ _ h) q h g
noncomputable def chkSup (S : Sta) (m : MS) (sc : Sp) (nm : Nm) (s : Stmt) : Bool :=
  qMexpr m fun m => qMsup m fun f _ es => qSExp s fun e _ => qECal e fun g xs ks p => qEAtt g fun o n ap => qECal o fun y ys ls _ => qENam y fun y _ =>
    ks.isEmpty && (ys.isEmpty && (ls.isEmpty && (y == ("super" : Str) && (n == ("__init__" : Str) && (bltK S sc ("super" : Str) && sc.lookup ("__class__" : Str) == some .free && S.sups.contains f && chkEs S es sc nm xs && decide (xs.length < 28) && ap.endLine == p.line)))))
noncomputable def chkB (S : Sta) (l : List MS) (sc : Sp) (nm : Nm) (ys : List Stmt) : Bool := match l with
  | [] => false
  | x :: r => match ys with
    | [] => false
    | y :: t => (chkS S x sc nm y || chkSup S x sc nm y) && chkSs S r sc nm t

noncomputable def chkF (S : Sta) (f : MFun) (nms : List Str) (ps : Arguments) (scope : Scope) (body : List Stmt) : Bool :=
  decide (nms.length = f.n + f.k) && decide (f.dfl.length ≤ f.n) && (scope.names.all fun p => !(p.2 == .free) || p.1 == ("__class__" : Str)) && decide (nms.Nodup) && decide (ps.args.map (·.arg) = nms.take f.n) && ps.posonlyargs.isEmpty && ps.vararg.isNone && ps.kwonlyargs.isEmpty && ps.kwarg.isNone
    && scope.kind == .function && !scope.isGenerator && !scope.isCoroutine && decide ((scope.names.map (·.1)).Nodup)
    && nms.all (fun x => (scope.names.lookup x == some .local || scope.names.lookup x == some .cell) && !(x == ("__class__" : Str)))
    && chkB S f.body scope.names (nms.map some) body

end Mine
end
section
namespace Mine
set_option maxRecDepth 100000
noncomputable def tabS : List String := ["limit", "step", "FIRST_STEP", "activity", "heap", "place", "many", "push", "is_before", "put", "better_child", "is_held", "rise", "sink", "rescale", "hook", "assigns", "UNKNOWN", "levels", "reasons", "NO_CLAUSE", "spots", "phases", "FALSE", "watches", "trail", "starts", "head", "told", "clauses", "steps", "droppable", "activities", "learnt_count", "grow", "TRUE", "depth", "push_level", "proof", "seen", "unit_steps", "rooted", "is_ok", "empty_step", "failed", "failed_at", "conflict_limit", "conflicts", "decisions", "bump", "spot", "cells", "new_var", "new_level", "enqueue", "store", "note_lits", "pop"]
noncomputable abbrev n_limit : Nat := 0
noncomputable abbrev n_step : Nat := 1
noncomputable abbrev n_FIRST_STEP : Nat := 2
noncomputable abbrev n_activity : Nat := 3
noncomputable abbrev n_heap : Nat := 4
noncomputable abbrev n_place : Nat := 5
noncomputable abbrev n_many : Nat := 6
noncomputable abbrev n_push : Nat := 7
noncomputable abbrev n_is_before : Nat := 8
noncomputable abbrev n_put : Nat := 9
noncomputable abbrev n_better_child : Nat := 10
noncomputable abbrev n_is_held : Nat := 11
noncomputable abbrev n_rise : Nat := 12
noncomputable abbrev n_sink : Nat := 13
noncomputable abbrev n_rescale : Nat := 14
noncomputable abbrev n_hook : Nat := 15
noncomputable abbrev n_assigns : Nat := 16
noncomputable abbrev n_UNKNOWN : Nat := 17
noncomputable abbrev n_levels : Nat := 18
noncomputable abbrev n_reasons : Nat := 19
noncomputable abbrev n_NO_CLAUSE : Nat := 20
noncomputable abbrev n_spots : Nat := 21
noncomputable abbrev n_phases : Nat := 22
noncomputable abbrev n_FALSE : Nat := 23
noncomputable abbrev n_watches : Nat := 24
noncomputable abbrev n_trail : Nat := 25
noncomputable abbrev n_starts : Nat := 26
noncomputable abbrev n_head : Nat := 27
noncomputable abbrev n_told : Nat := 28
noncomputable abbrev n_clauses : Nat := 29
noncomputable abbrev n_steps : Nat := 30
noncomputable abbrev n_droppable : Nat := 31
noncomputable abbrev n_activities : Nat := 32
noncomputable abbrev n_learnt_count : Nat := 33
noncomputable abbrev n_grow : Nat := 34
noncomputable abbrev n_TRUE : Nat := 35
noncomputable abbrev n_depth : Nat := 36
noncomputable abbrev n_push_level : Nat := 37
noncomputable abbrev n_proof : Nat := 38
noncomputable abbrev n_seen : Nat := 39
noncomputable abbrev n_unit_steps : Nat := 40
noncomputable abbrev n_rooted : Nat := 41
noncomputable abbrev n_is_ok : Nat := 42
noncomputable abbrev n_empty_step : Nat := 43
noncomputable abbrev n_failed : Nat := 44
noncomputable abbrev n_failed_at : Nat := 45
noncomputable abbrev n_conflict_limit : Nat := 46
noncomputable abbrev n_conflicts : Nat := 47
noncomputable abbrev n_decisions : Nat := 48
noncomputable abbrev n_bump : Nat := 49
noncomputable abbrev n_spot : Nat := 50
noncomputable abbrev n_cells : Nat := 51
noncomputable abbrev n_new_var : Nat := 52
noncomputable abbrev n_new_level : Nat := 53
noncomputable abbrev n_enqueue : Nat := 54
noncomputable abbrev n_store : Nat := 55
noncomputable abbrev n_note_lits : Nat := 56
noncomputable abbrev n_pop : Nat := 57
noncomputable abbrev f_wall : Nat := 21
noncomputable abbrev f_CoreHeap___init__ : Nat := 36
noncomputable abbrev f_CoreHeap_many : Nat := 43
noncomputable abbrev f_CoreHeap_is_held : Nat := 50
noncomputable abbrev f_CoreHeap_is_before : Nat := 57
noncomputable abbrev f_CoreHeap_grow : Nat := 64
noncomputable abbrev f_CoreHeap_put : Nat := 71
noncomputable abbrev f_CoreHeap_rise : Nat := 78
noncomputable abbrev f_CoreHeap_better_child : Nat := 85
noncomputable abbrev f_CoreHeap_sink : Nat := 92
noncomputable abbrev f_CoreHeap_push : Nat := 99
noncomputable abbrev f_CoreHeap_pop : Nat := 106
noncomputable abbrev f_CoreHeap_pop_best : Nat := 113
noncomputable abbrev f_CoreHeap_bump : Nat := 120
noncomputable abbrev f_CoreHeap_decay : Nat := 127
noncomputable abbrev f_CoreHeap_rescale : Nat := 132
noncomputable abbrev f_CoreHeap_rebuild : Nat := 139
noncomputable abbrev f_place_of : Nat := 153
noncomputable abbrev f_order_key : Nat := 160
noncomputable abbrev f_Trail___init__ : Nat := 174
noncomputable abbrev f_Trail_grow : Nat := 181
noncomputable abbrev f_Trail_var_count : Nat := 188
noncomputable abbrev f_Trail_value : Nat := 195
noncomputable abbrev f_Trail_depth : Nat := 202
noncomputable abbrev f_Trail_spot_of : Nat := 209
noncomputable abbrev f_Trail_by_spots : Nat := 216
noncomputable abbrev f_Trail_store : Nat := 223
noncomputable abbrev f_Trail_watch : Nat := 230
noncomputable abbrev f_Trail_unwatch : Nat := 237
noncomputable abbrev f_Trail_height : Nat := 244
noncomputable abbrev f_Trail_by_heights : Nat := 251
noncomputable abbrev f_Trail_top_level : Nat := 258
noncomputable abbrev f_Trail_place : Nat := 265
noncomputable abbrev f_Trail_enqueue : Nat := 272
noncomputable abbrev f_Trail_new_level : Nat := 279
noncomputable abbrev f_Trail_cancel_until : Nat := 286
noncomputable abbrev f_Trail_propagate_clauses : Nat := 293
noncomputable abbrev f_Trail_visit : Nat := 300
noncomputable abbrev f_Trail_moved : Nat := 307
noncomputable abbrev f_Trail_is_sound : Nat := 314
noncomputable abbrev f_Search___init__ : Nat := 337
noncomputable abbrev f_Search_new_var : Nat := 344
noncomputable abbrev f_Search_add_clause : Nat := 351
noncomputable abbrev f_Search_learnt_clauses : Nat := 358
noncomputable abbrev f_Search_failed_assumptions : Nat := 365
noncomputable abbrev f_Search_failed_step : Nat := 372
noncomputable abbrev f_Search_log_chain : Nat := 379
noncomputable abbrev f_Search_root_pairs : Nat := 386
noncomputable abbrev f_Search_unit_step : Nat := 393
noncomputable abbrev f_Search_fail_at_root : Nat := 400
noncomputable abbrev f_Search_propagate : Nat := 407
noncomputable abbrev f_Search_note_lits : Nat := 414
noncomputable abbrev f_Search_analyze : Nat := 421
noncomputable abbrev f_Search_is_implied : Nat := 428
noncomputable abbrev f_Search_shortened : Nat := 435
noncomputable abbrev f_Search_handle : Nat := 442
noncomputable abbrev f_Search_note_use : Nat := 449
noncomputable abbrev f_Search_pause : Nat := 456
noncomputable abbrev f_Search_solve : Nat := 463
noncomputable abbrev f_Search_step_on : Nat := 470
noncomputable abbrev f_Search_ask_final : Nat := 477
noncomputable abbrev f_Search_find_failed : Nat := 484
noncomputable abbrev f_Search_mark_others : Nat := 491
noncomputable abbrev f_law_draw : Nat := 503
noncomputable abbrev f_law_plan : Nat := 508
noncomputable abbrev f_law_core : Nat := 515
noncomputable abbrev f_law_noted : Nat := 522
noncomputable abbrev f_law_is_right : Nat := 527
noncomputable abbrev f_law_is_bumped : Nat := 532
noncomputable abbrev f_law : Nat := 537
noncomputable abbrev c_CoreHeap : Nat := 142
noncomputable abbrev c_Trail : Nat := 317
noncomputable abbrev c_Search : Nat := 494
noncomputable def b_CoreHeap___init__ : List MS := [
  .asgA (.loc 0) n_limit (.loc 1),
  .asgA (.loc 0) n_step (.gI n_FIRST_STEP 1024),
  .asgA (.loc 0) n_activity (.lst true [(.kI 0)]),
  .asgA (.loc 0) n_heap (.lst true []),
  .asgA (.loc 0) n_place (.lst true [(.neg (.kI 1))])]
noncomputable def d_CoreHeap___init__ : MFun := ⟨2, 0, [.int 1000000000000], b_CoreHeap___init__⟩
noncomputable def b_CoreHeap_many : List MS := [
  .ret (.bin .sub (.blt .len (.attr (.loc 0) n_activity)) (.kI 1))]
noncomputable def d_CoreHeap_many : MFun := ⟨1, 0, [], b_CoreHeap_many⟩
noncomputable def b_CoreHeap_is_held : List MS := [
  .ret (.cmp .ge (.sub (.attr (.loc 0) n_place) (.loc 1)) (.kI 0))]
noncomputable def d_CoreHeap_is_held : MFun := ⟨2, 0, [], b_CoreHeap_is_held⟩
noncomputable def b_CoreHeap_is_before : List MS := [
  .ifS (.cmp .ne (.sub (.attr (.loc 0) n_activity) (.loc 1)) (.sub (.attr (.loc 0) n_activity) (.loc 2))) [.ret (.cmp .gt (.sub (.attr (.loc 0) n_activity) (.loc 1)) (.sub (.attr (.loc 0) n_activity) (.loc 2)))] [],
  .ret (.cmp .lt (.loc 1) (.loc 2))]
noncomputable def d_CoreHeap_is_before : MFun := ⟨3, 0, [], b_CoreHeap_is_before⟩
noncomputable def b_CoreHeap_grow : List MS := [
  .whileS (.cmp .lt (.meth (.loc 0) n_many []) (.loc 1)) [.expr (.app (.attr (.loc 0) n_activity) (.kI 0)), .expr (.app (.attr (.loc 0) n_place) (.neg (.kI 1))), .expr (.meth (.loc 0) n_push [(.meth (.loc 0) n_many [])])]]
noncomputable def d_CoreHeap_grow : MFun := ⟨2, 0, [], b_CoreHeap_grow⟩
noncomputable def b_CoreHeap_put : List MS := [
  .asgS (.attr (.loc 0) n_heap) (.loc 1) (.loc 2),
  .asgS (.attr (.loc 0) n_place) (.loc 2) (.loc 1)]
noncomputable def d_CoreHeap_put : MFun := ⟨3, 0, [], b_CoreHeap_put⟩
noncomputable def b_CoreHeap_rise : List MS := [
  .asg 2 (.sub (.attr (.loc 0) n_heap) (.loc 1)),
  .whileS (.cmp .gt (.loc 1) (.kI 0)) [.asg 3 (.bin .fdiv (.bin .sub (.loc 1) (.kI 1)) (.kI 2)), .ifS (.no (.truth (.meth (.loc 0) n_is_before [(.loc 2), (.sub (.attr (.loc 0) n_heap) (.loc 3))]))) [.brk] [], .expr (.meth (.loc 0) n_put [(.loc 1), (.sub (.attr (.loc 0) n_heap) (.loc 3))]), .asg 1 (.loc 3)],
  .expr (.meth (.loc 0) n_put [(.loc 1), (.loc 2)])]
noncomputable def d_CoreHeap_rise : MFun := ⟨2, 2, [], b_CoreHeap_rise⟩
noncomputable def b_CoreHeap_better_child : List MS := [
  .asg 2 (.bin .add (.bin .mul (.kI 2) (.loc 1)) (.kI 1)),
  .ifS (.cmp .ge (.loc 2) (.blt .len (.attr (.loc 0) n_heap))) [.ret (.neg (.kI 1))] [],
  .asg 3 (.bin .add (.loc 2) (.kI 1)),
  .ifS (.and_ [(.cmp .lt (.loc 3) (.blt .len (.attr (.loc 0) n_heap))), (.truth (.meth (.loc 0) n_is_before [(.sub (.attr (.loc 0) n_heap) (.loc 3)), (.sub (.attr (.loc 0) n_heap) (.loc 2))]))]) [.ret (.loc 3)] [],
  .ret (.loc 2)]
noncomputable def d_CoreHeap_better_child : MFun := ⟨2, 2, [], b_CoreHeap_better_child⟩
noncomputable def b_CoreHeap_sink : List MS := [
  .asg 2 (.sub (.attr (.loc 0) n_heap) (.loc 1)),
  .asg 3 (.meth (.loc 0) n_better_child [(.loc 1)]),
  .whileS (.and_ [(.cmp .ge (.loc 3) (.kI 0)), (.truth (.meth (.loc 0) n_is_before [(.sub (.attr (.loc 0) n_heap) (.loc 3)), (.loc 2)]))]) [.expr (.meth (.loc 0) n_put [(.loc 1), (.sub (.attr (.loc 0) n_heap) (.loc 3))]), .asg 1 (.loc 3), .asg 3 (.meth (.loc 0) n_better_child [(.loc 1)])],
  .expr (.meth (.loc 0) n_put [(.loc 1), (.loc 2)])]
noncomputable def d_CoreHeap_sink : MFun := ⟨2, 2, [], b_CoreHeap_sink⟩
noncomputable def b_CoreHeap_push : List MS := [
  .ifS (.truth (.meth (.loc 0) n_is_held [(.loc 1)])) [.ret .kN] [],
  .expr (.app (.attr (.loc 0) n_heap) (.loc 1)),
  .asgS (.attr (.loc 0) n_place) (.loc 1) (.bin .sub (.blt .len (.attr (.loc 0) n_heap)) (.kI 1)),
  .expr (.meth (.loc 0) n_rise [(.bin .sub (.blt .len (.attr (.loc 0) n_heap)) (.kI 1))])]
noncomputable def d_CoreHeap_push : MFun := ⟨2, 0, [], b_CoreHeap_push⟩
noncomputable def b_CoreHeap_pop : List MS := [
  .ifS (.cmp .eq (.blt .len (.attr (.loc 0) n_heap)) (.kI 0)) [.ret (.kI 0)] [],
  .asg 1 (.sub (.attr (.loc 0) n_heap) (.kI 0)),
  .asg 2 (.pop (.attr (.loc 0) n_heap)),
  .asgS (.attr (.loc 0) n_place) (.loc 1) (.neg (.kI 1)),
  .ifS (.cmp .gt (.blt .len (.attr (.loc 0) n_heap)) (.kI 0)) [.expr (.meth (.loc 0) n_put [(.kI 0), (.loc 2)]), .expr (.meth (.loc 0) n_sink [(.kI 0)])] [],
  .ret (.loc 1)]
noncomputable def d_CoreHeap_pop : MFun := ⟨1, 2, [], b_CoreHeap_pop⟩
noncomputable def b_CoreHeap_bump : List MS := [
  .asgS (.attr (.loc 0) n_activity) (.loc 1) (.bin .add (.sub (.attr (.loc 0) n_activity) (.loc 1)) (.attr (.loc 0) n_step)),
  .ifS (.cmp .gt (.sub (.attr (.loc 0) n_activity) (.loc 1)) (.attr (.loc 0) n_limit)) [.expr (.meth (.loc 0) n_rescale [])] [.ifS (.truth (.meth (.loc 0) n_is_held [(.loc 1)])) [.expr (.meth (.loc 0) n_rise [(.sub (.attr (.loc 0) n_place) (.loc 1))])] []]]
noncomputable def d_CoreHeap_bump : MFun := ⟨2, 0, [], b_CoreHeap_bump⟩
noncomputable def b_Trail___init__ : List MS := [
  .asgA (.loc 0) n_hook (.loc 1),
  .asgA (.loc 0) n_assigns (.lst true [(.gI n_UNKNOWN 0)]),
  .asgA (.loc 0) n_levels (.lst true [(.kI 0)]),
  .asgA (.loc 0) n_reasons (.lst true [(.gI n_NO_CLAUSE (-1))]),
  .asgA (.loc 0) n_spots (.lst true [(.kI 0)]),
  .asgA (.loc 0) n_phases (.lst true [(.gI n_FALSE (-1))]),
  .asgA (.loc 0) n_watches (.lst true [(.lst true []), (.lst true [])]),
  .asgA (.loc 0) n_heap (.new c_CoreHeap []),
  .asgA (.loc 0) n_trail (.lst true []),
  .asgA (.loc 0) n_starts (.lst true []),
  .asgA (.loc 0) n_head (.kI 0),
  .asgA (.loc 0) n_told (.kI 0),
  .asgA (.loc 0) n_clauses (.lst true []),
  .asgA (.loc 0) n_steps (.lst true []),
  .asgA (.loc 0) n_droppable (.lst true []),
  .asgA (.loc 0) n_activities (.lst true []),
  .asgA (.loc 0) n_learnt_count (.kI 0)]
noncomputable def d_Trail___init__ : MFun := ⟨2, 0, [], b_Trail___init__⟩
noncomputable def b_Trail_grow : List MS := [
  .asg 1 (.blt .len (.attr (.loc 0) n_assigns)),
  .expr (.app (.attr (.loc 0) n_assigns) (.gI n_UNKNOWN 0)),
  .expr (.app (.attr (.loc 0) n_levels) (.kI 0)),
  .expr (.app (.attr (.loc 0) n_reasons) (.gI n_NO_CLAUSE (-1))),
  .expr (.app (.attr (.loc 0) n_spots) (.kI 0)),
  .expr (.app (.attr (.loc 0) n_phases) (.gI n_FALSE (-1))),
  .expr (.app (.attr (.loc 0) n_watches) (.lst false [])),
  .expr (.app (.attr (.loc 0) n_watches) (.lst false [])),
  .expr (.meth (.attr (.loc 0) n_heap) n_grow [(.loc 1)]),
  .ret (.loc 1)]
noncomputable def d_Trail_grow : MFun := ⟨1, 1, [], b_Trail_grow⟩
noncomputable def b_Trail_depth : List MS := [
  .ret (.blt .len (.attr (.loc 0) n_starts))]
noncomputable def d_Trail_depth : MFun := ⟨1, 0, [], b_Trail_depth⟩
noncomputable def b_Trail_store : List MS := [
  .asg 4 (.blt .len (.attr (.loc 0) n_clauses)),
  .expr (.app (.attr (.loc 0) n_clauses) (.blt (.list false) (.loc 1))),
  .expr (.app (.attr (.loc 0) n_steps) (.loc 2)),
  .expr (.app (.attr (.loc 0) n_droppable) (.loc 3)),
  .expr (.app (.attr (.loc 0) n_activities) (.kI 0)),
  .ifS (.truth (.loc 3)) [.asgA (.loc 0) n_learnt_count (.bin .add (.attr (.loc 0) n_learnt_count) (.kI 1))] [],
  .ret (.loc 4)]
noncomputable def d_Trail_store : MFun := ⟨4, 1, [], b_Trail_store⟩
noncomputable def b_Trail_enqueue : List MS := [
  .asg 3 (.blt .abs (.loc 1)),
  .asgS (.attr (.loc 0) n_assigns) (.loc 3) (.ite (.cmp .gt (.loc 1) (.kI 0)) (.gI n_TRUE 1) (.gI n_FALSE (-1))),
  .asgS (.attr (.loc 0) n_levels) (.loc 3) (.meth (.loc 0) n_depth []),
  .asgS (.attr (.loc 0) n_reasons) (.loc 3) (.loc 2),
  .asgS (.attr (.loc 0) n_spots) (.loc 3) (.blt .len (.attr (.loc 0) n_trail)),
  .expr (.app (.attr (.loc 0) n_trail) (.loc 1))]
noncomputable def d_Trail_enqueue : MFun := ⟨3, 1, [], b_Trail_enqueue⟩
noncomputable def b_Trail_new_level : List MS := [
  .expr (.app (.attr (.loc 0) n_starts) (.blt .len (.attr (.loc 0) n_trail))),
  .ifS (.cmp .isn (.attr (.loc 0) n_hook) .kN) [.expr (.meth (.attr (.loc 0) n_hook) n_push_level [])] []]
noncomputable def d_Trail_new_level : MFun := ⟨1, 0, [], b_Trail_new_level⟩
noncomputable def b_Search___init__ : List MS := [
  .expr (.sup f_Trail___init__ c_Search [(.loc 2)]),
  .asgA (.loc 0) n_proof (.loc 1),
  .asgA (.loc 0) n_seen (.lst true [(.kB false)]),
  .asgA (.loc 0) n_unit_steps (.lst true [.kN]),
  .asgA (.loc 0) n_rooted (.kI 0),
  .asgA (.loc 0) n_is_ok (.kB true),
  .asgA (.loc 0) n_empty_step .kN,
  .asgA (.loc 0) n_failed (.tup []),
  .asgA (.loc 0) n_failed_at .kN,
  .asgA (.loc 0) n_conflict_limit (.kI 0),
  .asgA (.loc 0) n_conflicts (.kI 0),
  .asgA (.loc 0) n_decisions (.kI 0)]
noncomputable def d_Search___init__ : MFun := ⟨3, 0, [], b_Search___init__⟩
noncomputable def b_Search_new_var : List MS := [
  .expr (.app (.attr (.loc 0) n_seen) (.kB false)),
  .expr (.app (.attr (.loc 0) n_unit_steps) .kN),
  .ret (.meth (.loc 0) n_grow [])]
noncomputable def d_Search_new_var : MFun := ⟨1, 0, [], b_Search_new_var⟩
noncomputable def b_Search_note_lits : List MS := [
  .asg 5 (.kI 0),
  .forS [6] true .vals [(.sub (.attr (.loc 0) n_clauses) (.loc 1))] [.asg 7 (.blt .abs (.loc 6)), .ifS (.or_ [(.cmp .eq (.loc 7) (.loc 2)), (.truth (.sub (.attr (.loc 0) n_seen) (.loc 7)))]) [.cont] [], .asgS (.attr (.loc 0) n_seen) (.loc 7) (.kB true), .ifS (.cmp .eq (.sub (.attr (.loc 0) n_levels) (.loc 7)) (.kI 0)) [.expr (.app (.loc 4) (.loc 7)), .cont] [], .expr (.meth (.attr (.loc 0) n_heap) n_bump [(.loc 7)]), .ifS (.cmp .eq (.sub (.attr (.loc 0) n_levels) (.loc 7)) (.meth (.loc 0) n_depth [])) [.asg 5 (.bin .add (.loc 5) (.kI 1))] [.expr (.app (.loc 3) (.loc 6))]],
  .ret (.loc 5)]
noncomputable def d_Search_note_lits : MFun := ⟨5, 3, [], b_Search_note_lits⟩
noncomputable def b_law_draw : List MS := [
  .asgS (.loc 0) (.kS n_spot) (.bin .add (.sub (.loc 0) (.kS n_spot)) (.kI 1)),
  .asg 2 (.sub (.loc 0) (.kS n_spot)),
  .ifS (.cmp .le (.loc 2) (.blt .len (.sub (.loc 0) (.kS n_cells)))) [.ret (.bin .mod (.sub (.sub (.loc 0) (.kS n_cells)) (.bin .sub (.loc 2) (.kI 1))) (.loc 1))] [],
  .ret (.bin .mod (.bin .fdiv (.bin .mod (.bin .add (.bin .add (.bin .mul (.bin .mul (.kI 11) (.loc 2)) (.loc 2)) (.bin .mul (.kI 7) (.loc 2))) (.kI 2)) (.kI 1013)) (.kI 3)) (.loc 1))]
noncomputable def d_law_draw : MFun := ⟨2, 1, [], b_law_draw⟩
noncomputable def b_law_plan : List MS := [
  .asgT [1, 2, 3] (.tup [(.call f_law_draw [(.loc 0), (.kI 8)]), (.sub (.lst false [(.kI 1), (.kI 3), (.kI 5), (.kI 7)]) (.call f_law_draw [(.loc 0), (.kI 4)])), (.call f_law_draw [(.loc 0), (.kI 256)])]),
  .asg 4 (.comp false 1 (.bin .mul (.bin .add (.kI 1) (.bin .mod (.bin .add (.loc 1) (.bin .mul (.loc 2) (.loc 10))) (.kI 8))) (.bin .sub (.kI 1) (.bin .mul (.kI 2) (.bin .band (.bin .shr (.loc 3) (.loc 10)) (.kI 1))))) [.mk [10] true .rng [(.kI 8)] []]),
  .asg 5 (.lst false [(.call f_law_draw [(.loc 0), (.kI 3)]), (.bin .add (.kI 1) (.call f_law_draw [(.loc 0), (.kI 2)])), (.bin .add (.kI 1) (.call f_law_draw [(.loc 0), (.kI 2)]))]),
  .asg 6 (.lst true []),
  .forS [7] true .rng [(.bin .add (.kI 2) (.call f_law_draw [(.loc 0), (.kI 4)]))] [.asg 8 (.comp false 1 (.bin .sub (.kI 0) (.sub (.loc 4) (.call f_law_draw [(.loc 0), (.kI 8)]))) [.mk [10] true .rng [(.bin .add (.kI 1) (.call f_law_draw [(.loc 0), (.kI 5)]))] []]), .asg 9 (.ite (.cmp .eq (.call f_law_draw [(.loc 0), (.kI 2)]) (.kI 1)) (.blt .abs (.sub (.loc 8) (.call f_law_draw [(.loc 0), (.blt .len (.loc 8))]))) (.kI 0)), .expr (.app (.loc 6) (.tup [(.loc 8), (.loc 9), (.call f_law_draw [(.loc 0), (.bin .add (.blt .len (.loc 8)) (.kI 1))])]))],
  .ret (.tup [(.loc 4), (.loc 5), (.loc 6)])]
noncomputable def d_law_plan : MFun := ⟨1, 9, [], b_law_plan⟩
noncomputable def b_law_core : List MS := [
  .asg 2 (.new c_Search [.kN, .kN]),
  .forS [3] true .rng [(.kI 8)] [.expr (.meth (.loc 2) n_new_var [])],
  .forS [4, 5] false .enum [(.loc 0)] [.ifS (.cmp .isin (.loc 4) (.tup [(.sub (.loc 1) (.kI 0)), (.bin .add (.sub (.loc 1) (.kI 0)) (.sub (.loc 1) (.kI 1))), (.bin .add (.bin .add (.sub (.loc 1) (.kI 0)) (.sub (.loc 1) (.kI 1))) (.sub (.loc 1) (.kI 2)))])) [.expr (.meth (.loc 2) n_new_level [])] [], .expr (.meth (.loc 2) n_enqueue [(.loc 5), (.neg (.kI 1))])],
  .ret (.loc 2)]
noncomputable def d_law_core : MFun := ⟨2, 4, [], b_law_core⟩
noncomputable def b_law_noted : List MS := [
  .asgW [2, 3, 4] (.tup [(.kI 0), (.lst true []), (.lst true [])]),
  .forS [5, 6] false .vals [(.loc 1)] [.asg 7 (.meth (.loc 0) n_store [(.loc 5), .kN, (.kB false)]), .asg 2 (.bin .add (.loc 2) (.meth (.loc 0) n_note_lits [(.loc 7), (.loc 6), (.loc 3), (.loc 4)]))],
  .ret (.tup [(.loc 2), (.loc 3), (.loc 4)])]
noncomputable def d_law_noted : MFun := ⟨2, 6, [], b_law_noted⟩
noncomputable def b_law_is_right : List MS := [
  .asgT [4, 5, 6] (.loc 2),
  .asgT [7, 8] (.tup [(.comp false 1 (.loc 10) [.mk [10] true .vals [(.loc 3)] [(.cmp .eq (.sub (.attr (.loc 0) n_levels) (.loc 10)) (.kI 3))]]), (.comp false 3 (.loc 12) [.mk [10, 11] false .vals [(.loc 1)] [], .mk [12] true .vals [(.loc 10)] []])]),
  .asg 9 (.comp false 1 (.loc 10) [.mk [10] true .vals [(.loc 3)] [(.cmp2 .lt .lt (.kI 0) (.sub (.attr (.loc 0) n_levels) (.loc 10)) (.kI 3))]]),
  .ifS (.or_ [(.cmp .ne (.comp false 1 (.loc 10) [.mk [10] true .rng [(.kI 9)] [(.truth (.sub (.attr (.loc 0) n_seen) (.loc 10)))]]) (.loc 3)), (.cmp .ne (.loc 4) (.blt .len (.loc 7)))]) [.ret (.kB false)] [],
  .ifS (.or_ [(.cmp .ne (.blt .sorted (.comp false 1 (.blt .abs (.loc 10)) [.mk [10] true .vals [(.loc 5)] []])) (.loc 9)), (.cmp .ne (.comp false 1 (.loc 10) [.mk [10] true .vals [(.loc 5)] [(.cmp .nin (.loc 10) (.loc 8))]]) (.lst false []))]) [.ret (.kB false)] [],
  .ret (.cmp .eq (.blt .sorted (.loc 6)) (.comp false 1 (.loc 10) [.mk [10] true .vals [(.loc 3)] [(.cmp .eq (.sub (.attr (.loc 0) n_levels) (.loc 10)) (.kI 0))]]))]
noncomputable def d_law_is_right : MFun := ⟨4, 6, [], b_law_is_right⟩
noncomputable def b_law_is_bumped : List MS := [
  .asg 2 (.comp false 1 (.loc 3) [.mk [3] true .vals [(.loc 1)] [(.cmp .gt (.sub (.attr (.loc 0) n_levels) (.loc 3)) (.kI 0))]]),
  .ifS (.cmp .ne (.comp false 1 (.sub (.attr (.attr (.loc 0) n_heap) n_activity) (.loc 3)) [.mk [3] true .rng [(.kI 1), (.kI 9)] []]) (.comp false 1 (.ite (.cmp .isin (.loc 3) (.loc 2)) (.kI 1024) (.kI 0)) [.mk [3] true .rng [(.kI 1), (.kI 9)] []])) [.ret (.kB false)] [],
  .ret (.cmp .eq (.comp false 1 (.meth (.attr (.loc 0) n_heap) n_pop []) [.mk [3] true .rng [(.kI 9)] []]) (.bin .add (.bin .add (.loc 2) (.comp false 1 (.loc 3) [.mk [3] true .rng [(.kI 1), (.kI 9)] [(.cmp .nin (.loc 3) (.loc 2))]])) (.lst false [(.kI 0)])))]
noncomputable def d_law_is_bumped : MFun := ⟨2, 1, [], b_law_is_bumped⟩
noncomputable def b_law : List MS := [
  .asg 1 (.dct [n_cells, n_spot] [(.comp false 1 (.bin .mod (.blt .abs (.blt .int (.loc 12))) (.kI 1000003)) [.mk [12] true .vals [(.slc (.loc 0) .kN (.kI 50))] []]), (.kI 0)]),
  .asgT [2, 3, 4] (.call f_law_plan [(.loc 1)]),
  .asg 5 (.comp false 3 (.tup [(.loc 12), (.loc 13)]) [.mk [12, 13, 14] false .vals [(.loc 4)] []]),
  .asg 6 (.comp false 4 (.tup [(.loc 15), (.loc 13)]) [.mk [12, 13, 14] false .vals [(.loc 4)] [], .mk [15] true .vals [(.tup [(.slc (.loc 12) .kN (.loc 14)), (.slc (.loc 12) (.loc 14) .kN)])] []]),
  .asg 7 (.comp false 1 (.loc 12) [.mk [12] true .rng [(.kI 1), (.kI 9)] [(.cmp .ne (.comp false 2 (.kI 1) [.mk [13, 14] false .vals [(.loc 5)] [(.and_ [(.cmp .ne (.loc 12) (.loc 14)), (.or_ [(.cmp .isin (.loc 12) (.loc 13)), (.cmp .isin (.neg (.loc 12)) (.loc 13))])])]]) (.lst false []))]]),
  .asg 8 (.comp false 1 (.call f_law_core [(.loc 2), (.loc 3)]) [.mk [12] true .rng [(.kI 3)] []]),
  .asg 9 (.comp false 2 (.call f_law_noted [(.loc 12), (.loc 13)]) [.mk [12, 13] false .zip [(.loc 8), (.lst false [(.loc 5), (.loc 6), (.rev (.loc 5))])] []]),
  .ifS (.cmp .ne (.sub (.loc 9) (.kI 0)) (.sub (.loc 9) (.kI 1))) [.ret (.kB false)] [],
  .forS [10, 11] false .zip [(.loc 8), (.loc 9)] [.ifS (.no (.truth (.call f_law_is_right [(.loc 10), (.loc 5), (.loc 11), (.loc 7)]))) [.ret (.kB false)] [], .ifS (.or_ [(.cmp .ne (.call f_law_noted [(.loc 10), (.loc 5)]) (.tup [(.kI 0), (.lst false []), (.lst false [])])), (.no (.truth (.call f_law_is_bumped [(.loc 10), (.loc 7)])))]) [.ret (.kB false)] []],
  .ret (.kB true)]
noncomputable def d_law : MFun := ⟨1, 11, [], b_law⟩
noncomputable def globsS : List (String × Nat) := [("_wall", f_wall), ("place_of", f_place_of), ("order_key", f_order_key), ("_law_draw", f_law_draw), ("_law_plan", f_law_plan), ("_law_core", f_law_core), ("_law_noted", f_law_noted), ("_law_is_right", f_law_is_right), ("_law_is_bumped", f_law_is_bumped), ("law", f_law), ("CoreHeap", c_CoreHeap), ("Trail", c_Trail), ("Search", c_Search)]
noncomputable def gintsS : List (String × Int) := [("FIRST_STEP", 1024), ("UNKNOWN", 0), ("TRUE", 1), ("FALSE", -1), ("NO_CLAUSE", -1)]
noncomputable def bltsS : List String := ["len", "abs", "int", "list", "tuple", "sorted", "range", "enumerate", "zip", "super"]
noncomputable def pFns : List (Nat × MFun × List String) := [(f_CoreHeap___init__, d_CoreHeap___init__, ["self", "limit"]), (f_CoreHeap_many, d_CoreHeap_many, ["self"]), (f_CoreHeap_is_held, d_CoreHeap_is_held, ["self", "var"]), (f_CoreHeap_is_before, d_CoreHeap_is_before, ["self", "one", "other"]), (f_CoreHeap_grow, d_CoreHeap_grow, ["self", "n"]), (f_CoreHeap_put, d_CoreHeap_put, ["self", "spot", "var"]), (f_CoreHeap_rise, d_CoreHeap_rise, ["self", "spot", "var", "above"]), (f_CoreHeap_better_child, d_CoreHeap_better_child, ["self", "spot", "left", "right"]), (f_CoreHeap_sink, d_CoreHeap_sink, ["self", "spot", "var", "below"]), (f_CoreHeap_push, d_CoreHeap_push, ["self", "var"]), (f_CoreHeap_pop, d_CoreHeap_pop, ["self", "best", "last"]), (f_CoreHeap_bump, d_CoreHeap_bump, ["self", "var"]), (f_Trail___init__, d_Trail___init__, ["self", "hook"]), (f_Trail_grow, d_Trail_grow, ["self", "var"]), (f_Trail_depth, d_Trail_depth, ["self"]), (f_Trail_store, d_Trail_store, ["self", "clause", "step", "can_drop", "number"]), (f_Trail_enqueue, d_Trail_enqueue, ["self", "lit", "number", "var"]), (f_Trail_new_level, d_Trail_new_level, ["self"]), (f_Search___init__, d_Search___init__, ["self", "proof", "hook"]), (f_Search_new_var, d_Search_new_var, ["self"]), (f_Search_note_lits, d_Search_note_lits, ["self", "number", "skipped", "rest", "roots", "count", "lit", "var"]), (f_law_draw, d_law_draw, ["feed", "wide", "here"]), (f_law_plan, d_law_plan, ["feed", "first", "step", "signs", "row", "sizes", "clauses", "lap", "lits", "skipped"]), (f_law_core, d_law_core, ["row", "sizes", "core", "lap", "spot", "lit"]), (f_law_noted, d_law_noted, ["core", "lots", "told", "rest", "roots", "lits", "skipped", "number"]), (f_law_is_right, d_law_is_right, ["core", "lots", "found", "due", "told", "rest", "roots", "top", "lits", "low"]), (f_law_is_bumped, d_law_is_bumped, ["core", "due", "active"]), (f_law, d_law, ["script", "feed", "row", "sizes", "clauses", "lots", "halves", "due", "cores", "found", "core", "one"])]
noncomputable def pFn (f : Nat) : Option MFun := (pFns.lookup f).map (·.1)
noncomputable def pInits : List (Nat × Nat) := [(c_CoreHeap, f_CoreHeap___init__), (c_Trail, f_Trail___init__), (c_Search, f_Search___init__)]
noncomputable def pInit (c : Nat) : Option Nat := pInits.lookup c
noncomputable def pMths : List (Nat × Nat × Nat) := [(c_CoreHeap, n_many, f_CoreHeap_many), (c_CoreHeap, n_is_held, f_CoreHeap_is_held), (c_CoreHeap, n_is_before, f_CoreHeap_is_before), (c_CoreHeap, n_grow, f_CoreHeap_grow), (c_CoreHeap, n_put, f_CoreHeap_put), (c_CoreHeap, n_rise, f_CoreHeap_rise), (c_CoreHeap, n_better_child, f_CoreHeap_better_child), (c_CoreHeap, n_sink, f_CoreHeap_sink), (c_CoreHeap, n_push, f_CoreHeap_push), (c_CoreHeap, n_pop, f_CoreHeap_pop), (c_CoreHeap, n_bump, f_CoreHeap_bump), (c_CoreHeap, n_rescale, f_CoreHeap_rescale), (c_Trail, n_grow, f_Trail_grow), (c_Trail, n_depth, f_Trail_depth), (c_Trail, n_store, f_Trail_store), (c_Trail, n_place, f_Trail_place), (c_Trail, n_enqueue, f_Trail_enqueue), (c_Trail, n_new_level, f_Trail_new_level), (c_Search, n_new_var, f_Search_new_var), (c_Search, n_note_lits, f_Search_note_lits), (c_Search, n_grow, f_Trail_grow), (c_Search, n_depth, f_Trail_depth), (c_Search, n_store, f_Trail_store), (c_Search, n_place, f_Trail_place), (c_Search, n_enqueue, f_Trail_enqueue), (c_Search, n_new_level, f_Trail_new_level)]
noncomputable def pMth (c m : Nat) : Option Nat := (pMths.find? fun p => p.1 == c && p.2.1 == m).map (·.2.2)
noncomputable def pAtrs : List (Nat × Nat) := [(c_CoreHeap, n_limit), (c_CoreHeap, n_step), (c_CoreHeap, n_activity), (c_CoreHeap, n_heap), (c_CoreHeap, n_place), (c_Trail, n_hook), (c_Search, n_hook), (c_Trail, n_assigns), (c_Search, n_assigns), (c_Trail, n_levels), (c_Search, n_levels), (c_Trail, n_reasons), (c_Search, n_reasons), (c_Trail, n_spots), (c_Search, n_spots), (c_Trail, n_phases), (c_Search, n_phases), (c_Trail, n_watches), (c_Search, n_watches), (c_Trail, n_heap), (c_Search, n_heap), (c_Trail, n_trail), (c_Search, n_trail), (c_Trail, n_starts), (c_Search, n_starts), (c_Trail, n_head), (c_Search, n_head), (c_Trail, n_told), (c_Search, n_told), (c_Trail, n_clauses), (c_Search, n_clauses), (c_Trail, n_steps), (c_Search, n_steps), (c_Trail, n_droppable), (c_Search, n_droppable), (c_Trail, n_activities), (c_Search, n_activities), (c_Trail, n_learnt_count), (c_Search, n_learnt_count), (c_Search, n_proof), (c_Search, n_seen), (c_Search, n_unit_steps), (c_Search, n_rooted), (c_Search, n_is_ok), (c_Search, n_empty_step), (c_Search, n_failed), (c_Search, n_failed_at), (c_Search, n_conflict_limit), (c_Search, n_conflicts), (c_Search, n_decisions)]
noncomputable def pAtr (c k : Nat) : Bool := pAtrs.contains (c, k)
noncomputable def prog : Prog := ⟨pFn, pInit, pMth, pAtr⟩
end Mine
end
section
namespace Mine
open PySem
noncomputable def fnD (n : String) : List Stmt → Option (Arguments × Scope × List Stmt)
  | [] => none
  | .FunctionDef x args body _ _ _ scope _ _ _ :: r => if x = (n : Str) then some (args, scope, body) else fnD n r
  | _ :: r => fnD n r
noncomputable def clD (n : String) : List Stmt → Option (List Stmt)
  | [] => none
  | .ClassDef x _ _ body _ _ _ _ _ _ _ :: r => if x = (n : Str) then some body else clD n r
  | _ :: r => clD n r
noncomputable def qD (q : List String) (b : List Stmt) : Option (Arguments × Scope × List Stmt) := match q with
  | [f] => fnD f b
  | [c, f] => (clD c b).bind (fnD f)
  | _ => none
noncomputable def sta : Sta := ⟨tabS.map Str.ofString, globsS.map (fun p => (Str.ofString p.1, p.2)), gintsS.map (fun p => (Str.ofString p.1, p.2)), bltsS.map Str.ofString, [f_Trail___init__], false⟩
noncomputable def chkQ (f : MFun) (nms : List String) (q : List String) : Bool := match qD q PySem.Challenge.pw_qz0032_02.main.body with
  | some (a, sc, b) => chkF sta f (nms.map Str.ofString) a sc b
  | none => false
end Mine
end
section
set_option autoImplicit false
set_option linter.unusedVariables false
set_option linter.unusedSectionVars false
namespace Mine
open PySem

theorem ft {P : Prop} (h : false = true) : P := nomatch h
theorem ott {a b : Bool} (h : (a && b) = true) : a = true ∧ b = true := Bool.and_eq_true_iff.mp h
theorem obk {α β : Type} {o : Option α} {f : α → Option β} {b : β} {P : Prop} (h : o.bind f = some b) (g : ∀ a, o = some a → f a = some b → P) : P := (Option.bind_eq_some_iff.mp h).elim fun a q => g a q.1 q.2
theorem omk {α β : Type} {o : Option α} {f : α → β} {b : β} {P : β → Prop} (h : o.map f = some b) (g : ∀ a, o = some a → P (f a)) : P b := (Option.map_eq_some_iff.mp h).elim fun a q => q.2 ▸ g a q.1
theorem oif {α : Type} {p : Prop} [Decidable p] {a : Option α} {b : α} {P : Prop} (h : (if p then a else none) = some b) (g : p → a = some b → P) : P := by
  by_cases hp : p
  · rw [if_pos hp] at h; exact g hp h
  · rw [if_neg hp] at h; cases h
theorem bmf {α β : Type} {o : Option (α × GH)} (F : α → GH → Option β) (K : β → MV) {x : MV} {G' : GH} {P : MV → Prop} (h : (o.bind fun q => (F q.1 q.2).map fun b => (K b, q.2)) = some (x, G')) (g : ∀ w b, o = some (w, G') → F w G' = some b → P (K b)) : P x := by
  obtain ⟨⟨w, G1⟩, h1, h2⟩ := Option.bind_eq_some_iff.mp h
  obtain ⟨b, h3, h4⟩ := Option.map_eq_some_iff.mp h2
  cases h4
  exact g w b h1 h3
theorem osome {α β : Type} {a b : α} {G G' : β} (h : some (a, G) = some (b, G')) : a = b ∧ G = G' := by cases h; exact ⟨rfl, rfl⟩
theorem opk {α β : Type} {a b : α} {G G' : β} {P : α → β → Prop} (h : some (a, G) = some (b, G')) (g : P a G) : P b G' := by cases h; exact g
theorem opk3 {α β γ : Type} {a b : α} {G G' : β} {H H' : γ} {P : α → β → γ → Prop} (h : some (a, G, H) = some (b, G', H')) (g : P a G H) : P b G' H' := by cases h; exact g

section
variable {X : Ctx} {ρ ρ' : Lo} {G G' : GH} {v x : MV} {fl : Fl} {P : Prop} {Px : MV → Prop}
theorem onBk {β : Type} {o : Option (MV × GH)} {t f : GH → Option β} {r : β} (h : onB o t f = some r) (g1 : ∀ G1, o = some (.bool true, G1) → t G1 = some r → P) (g2 : ∀ G1, o = some (.bool false, G1) → f G1 = some r → P) : P :=
  obk h fun p h1 h => obk h fun b h2 h => by
    obtain ⟨v, G1⟩ := p
    refine truthO_k (P := fun v => o = some (v, G1) → P) h2 (fun h1 => ?_) h1
    cases b with
    | true => exact g1 G1 h1 h
    | false => exact g2 G1 h1 h
theorem iE_loc {i : Nat} (h : mE X (.loc i) ρ G = some (x, G')) : ρ[i]? = some (some x) ∧ G = G' :=
  obk (o := ρ[i]?) (f := fun v => v.map (·, G)) h fun v h1 h => by
    obtain ⟨w, h2, h3⟩ := Option.map_eq_some_iff.mp h
    cases h3
    exact ⟨h1.trans (congrArg some h2), rfl⟩
theorem iE_attr {e : ME} {k : Nat} (h : mE X (.attr e k) ρ G = some (x, G')) (g : ∀ v, mE X e ρ G = some (v, G') → aGet X G' k v = some x → P) : P :=
  bmf (fun v G => aGet X G k v) id (P := fun x => (∀ v, mE X e ρ G = some (v, G') → aGet X G' k v = some x → P) → P) h (fun w b h1 h2 g => g w h1 h2) g
theorem iE_sub {e i : ME} (h : mE X (.sub e i) ρ G = some (x, G')) (g : ∀ v G1 w, mE X e ρ G = some (v, G1) → mE X i ρ G1 = some (w, G') → subO G' v w = some x → P) : P :=
  obk (o := mE X e ρ G) h fun p h1 h => bmf (fun w G => subO G p.1 w) id (P := fun x => (∀ v G1 w, mE X e ρ G = some (v, G1) → mE X i ρ G1 = some (w, G') → subO G' v w = some x → P) → P) h (fun w b h2 h3 g => g p.1 p.2 w h1 h2 h3) g
theorem iE_bin {o : B2} {a b : ME} (h : mE X (.bin o a b) ρ G = some (x, G')) (g : ∀ v G1 w, mE X a ρ G = some (v, G1) → mE X b ρ G1 = some (w, G') → binO G' o v w = some x → P) : P :=
  obk (o := mE X a ρ G) h fun p h1 h => bmf (fun w G => binO G o p.1 w) id (P := fun x => (∀ v G1 w, mE X a ρ G = some (v, G1) → mE X b ρ G1 = some (w, G') → binO G' o v w = some x → P) → P) h (fun w b h2 h3 g => g p.1 p.2 w h1 h2 h3) g
theorem iE_slc {e lo hi : ME} (h : mE X (.slc e lo hi) ρ G = some (x, G')) (g : ∀ v G1 a G2 b, mE X e ρ G = some (v, G1) → mE X lo ρ G1 = some (a, G2) → mE X hi ρ G2 = some (b, G') → slcO G' v a b = some x → P) : P :=
  obk (o := mE X e ρ G) h fun p h1 h => obk (o := mE X lo ρ p.2) h fun q h2 h => bmf (fun w G => slcO G p.1 q.1 w) id (P := fun x => (∀ v G1 a G2 b, mE X e ρ G = some (v, G1) → mE X lo ρ G1 = some (a, G2) → mE X hi ρ G2 = some (b, G') → slcO G' v a b = some x → P) → P) h (fun w b h3 h4 g => g p.1 p.2 q.1 q.2 w h1 h2 h3 h4) g
theorem iE_rev {e : ME} (h : mE X (.rev e) ρ G = some (x, G')) (g : ∀ v, mE X e ρ G = some (v, G') → revO G' v = some x → P) : P :=
  bmf (fun v G => revO G v) id (P := fun x => (∀ v, mE X e ρ G = some (v, G') → revO G' v = some x → P) → P) h (fun w b h1 h2 g => g w h1 h2) g
theorem iE_neg {e : ME} (h : mE X (.neg e) ρ G = some (x, G')) (g : ∀ v, mE X e ρ G = some (v, G') → negO v = some x → P) : P :=
  bmf (fun v _ => negO v) id (P := fun x => (∀ v, mE X e ρ G = some (v, G') → negO v = some x → P) → P) h (fun w b h1 h2 g => g w h1 h2) g
theorem iE_no {e : ME} (h : mE X (.no e) ρ G = some (x, G')) (g : ∀ b, mE X e ρ G = some (.bool b, G') → Px (.bool (!b))) : Px x :=
  bmf (fun v _ => truthO v) (fun b => .bool (!b)) h fun w b h1 h2 => truthO_k (P := fun w => mE X e ρ G = some (w, G') → Px (.bool (!b))) h2 (g b) h1
theorem iE_truth {e : ME} (h : mE X (.truth e) ρ G = some (x, G')) (g : ∀ b, mE X e ρ G = some (.bool b, G') → Px (.bool b)) : Px x :=
  bmf (fun v _ => truthO v) (fun b => .bool b) h fun w b h1 h2 => truthO_k (P := fun w => mE X e ρ G = some (w, G') → Px (.bool b)) h2 (g b) h1
theorem iE_cmp {o : C2} {a b : ME} (h : mE X (.cmp o a b) ρ G = some (x, G')) (g : ∀ v G1 w r, mE X a ρ G = some (v, G1) → mE X b ρ G1 = some (w, G') → cmpO G' o v w = some r → Px (.bool r)) : Px x :=
  obk (o := mE X a ρ G) h fun p h1 h => bmf (fun w G => cmpO G o p.1 w) (fun b => .bool b) h fun w b h2 h3 => g p.1 p.2 w b h1 h2 h3
theorem iE_cmp2 {o1 o2 : C2} {a b c : ME} (h : mE X (.cmp2 o1 o2 a b c) ρ G = some (x, G'))
    (g1 : ∀ v G1 w G2 y r, mE X a ρ G = some (v, G1) → mE X b ρ G1 = some (w, G2) → cmpO G2 o1 v w = some true → mE X c ρ G2 = some (y, G') → cmpO G' o2 w y = some r → Px (.bool r))
    (g2 : ∀ v G1 w, mE X a ρ G = some (v, G1) → mE X b ρ G1 = some (w, G') → cmpO G' o1 v w = some false → Px (.bool false)) : Px x :=
  obk (o := mE X a ρ G) h fun p h1 h => obk (o := mE X b ρ p.2) h fun q h2 h => by
    have key : ∀ {o : Option Bool} {G2 G3 : GH} {t : Bool}, (o.map fun b => (MV.bool b, G2)) = some (MV.bool t, G3) → o = some t ∧ G2 = G3 := fun {o} _ _ _ h => by
      cases o with
      | none => exact noS h
      | some b => cases h; exact ⟨rfl, rfl⟩
    refine onBk h (fun G2 h3 h => ?_) fun G2 h3 h => ?_
    · obtain ⟨k3, rfl⟩ := key h3
      exact bmf (fun w G => cmpO G o2 q.1 w) (fun b => .bool b) h fun w b h4 h5 => g1 p.1 p.2 q.1 q.2 w b h1 h2 k3 h4 h5
    · obtain ⟨k3, rfl⟩ := key h3
      exact opk (P := fun x G' => (mE X b ρ p.2 = some (q.1, G') → cmpO G' o1 p.1 q.1 = some false → Px (.bool false)) → Px x) h (fun g => g h2 k3) (g2 p.1 p.2 q.1 h1)
theorem iE_ite {c a b : ME} {r : MV × GH} (h : mE X (.ite c a b) ρ G = some r) (g1 : ∀ G1, mE X c ρ G = some (.bool true, G1) → mE X a ρ G1 = some r → P) (g2 : ∀ G1, mE X c ρ G = some (.bool false, G1) → mE X b ρ G1 = some r → P) : P := onBk h g1 g2
theorem iAnd {e : ME} {r : List ME} (h : mAnd X (e :: r) ρ G = some (x, G')) (g1 : ∀ G1, mE X e ρ G = some (.bool true, G1) → mAnd X r ρ G1 = some (x, G') → Px x) (g2 : mE X e ρ G = some (.bool false, G') → Px (.bool false)) : Px x :=
  onBk h g1 fun G1 h1 h => opk (P := fun x G' => (mE X e ρ G = some (.bool false, G') → Px (.bool false)) → Px x) h (fun g => g h1) g2
theorem iOr {e : ME} {r : List ME} (h : mOr X (e :: r) ρ G = some (x, G')) (g1 : mE X e ρ G = some (.bool true, G') → Px (.bool true)) (g2 : ∀ G1, mE X e ρ G = some (.bool false, G1) → mOr X r ρ G1 = some (x, G') → Px x) : Px x :=
  onBk h (fun G1 h1 h => opk (P := fun x G' => (mE X e ρ G = some (.bool true, G') → Px (.bool true)) → Px x) h (fun g => g h1) g1) g2
theorem iEs {e : ME} {r : List ME} {vs : List MV} {Pv : List MV → Prop} (h : mEs X (e :: r) ρ G = some (vs, G')) (g : ∀ v G1 ws, mE X e ρ G = some (v, G1) → mEs X r ρ G1 = some (ws, G') → Pv (v :: ws)) : Pv vs :=
  obk (o := mE X e ρ G) h fun p h1 h => by
    obtain ⟨⟨ws, G2⟩, h2, h3⟩ := Option.map_eq_some_iff.mp h
    cases h3
    exact g p.1 p.2 ws h1 h2
theorem iE_tup {es : List ME} (h : mE X (.tup es) ρ G = some (x, G')) (g : ∀ vs, mEs X es ρ G = some (vs, G') → Px (.tup vs)) : Px x := by
  obtain ⟨⟨ws, G2⟩, h2, h3⟩ := Option.map_eq_some_iff.mp (show (mEs X es ρ G).map (fun p => (MV.tup p.1, p.2)) = some (x, G') from h)
  cases h3
  exact g ws h2
theorem iE_lst {m : Bool} {es : List ME} {r : MV × GH} (h : mE X (.lst m es) ρ G = some r) (g : ∀ vs G1, mEs X es ρ G = some (vs, G1) → r = mkL m vs G1 → P) : P :=
  (Option.map_eq_some_iff.mp (show (mEs X es ρ G).map (fun p => mkL m p.1 p.2) = some r from h)).elim fun p q => g p.1 p.2 q.1 q.2.symm
theorem iE_dct {ks : List Nat} {es : List ME} {r : MV × GH} (h : mE X (.dct ks es) ρ G = some r) (g : ∀ vs G1, mEs X es ρ G = some (vs, G1) → ks.length = vs.length → r = (.ref G1.length, G1 ++ [.sd (ks.zip vs)]) → P) : P :=
  obk (o := mEs X es ρ G) h fun p h1 h => oif h fun h2 h => g p.1 p.2 h1 h2 (Option.some.inj h).symm
theorem iE_comp {m : Bool} {k : Nat} {elt : ME} {gs : List MG} {r : MV × GH} (h : mE X (.comp m k elt gs) ρ G = some r) (g : ∀ l G1, mC X gs (fun ρ' G' => mE X elt ρ' G') (ρ ++ List.replicate k none) G [] = some (l, G1) → l.length < 4096 → r = mkL m l G1 → P) : P :=
  obk (o := mC X gs (fun ρ' G' => mE X elt ρ' G') (ρ ++ List.replicate k none) G []) h fun p h1 h => oif h fun h2 h => g p.1 p.2 h1 h2 (Option.some.inj h).symm
theorem iE_call {f : Nat} {es : List ME} {r : MV × GH} (h : mE X (.call f es) ρ G = some r) (g : ∀ vs G1, mEs X es ρ G = some (vs, G1) → X.call f vs G1 = some r → P) : P :=
  obk (o := mEs X es ρ G) h fun p h1 h => g p.1 p.2 h1 h
theorem iE_new {c : Nat} {es : List ME} (h : mE X (.new c es) ρ G = some (x, G')) (g : ∀ vs G1 f, mEs X es ρ G = some (vs, G1) → X.init c = some f → X.call f (.obj c G1.length :: vs) (G1 ++ [.sd []]) = some (.none, G') → Px (.obj c G1.length)) : Px x :=
  obk (o := mEs X es ρ G) h fun p h1 h => obk (o := X.init c) h fun f h2 h => obk (o := X.call f (.obj c p.2.length :: p.1) (p.2 ++ [.sd []])) h fun q h3 h => oif h fun h4 h => by
    refine opk (P := fun x G' => (∀ vs G1 f, mEs X es ρ G = some (vs, G1) → X.init c = some f → X.call f (.obj c G1.length :: vs) (G1 ++ [.sd []]) = some (.none, G') → Px (.obj c G1.length)) → Px x) h (fun g => g p.1 p.2 f h1 h2 ?_) g
    exact isN_k (P := fun v => X.call f (.obj c p.2.length :: p.1) (p.2 ++ [.sd []]) = some (v, q.2) → X.call f (.obj c p.2.length :: p.1) (p.2 ++ [.sd []]) = some (.none, q.2)) h4 id h3
theorem iMth {m c i f : Nat} (h : mthO X G m c i = some f) (g : ∀ l, X.mth c m = some f → G[i]? = some (.sd l) → l.lookup m = none → P) : P :=
  obk (o := X.mth c m) h fun f h1 h => obk (o := hS G i) h fun l h2 h => oif h fun h3 h => g l (h1.trans h) (hS_at h2) h3
theorem iE_meth {e : ME} {m : Nat} {es : List ME} {r : MV × GH} (h : mE X (.meth e m es) ρ G = some r) (g : ∀ c i G1 f l vs G2, mE X e ρ G = some (.obj c i, G1) → X.mth c m = some f → G1[i]? = some (.sd l) → l.lookup m = none → mEs X es ρ G1 = some (vs, G2) → X.call f (.obj c i :: vs) G2 = some r → P) : P :=
  obk (o := mE X e ρ G) h fun p h1 h => obk (o := iObj p.1) h fun o h2 h => obk (o := mthO X p.2 m o.1 o.2) h fun f h3 h => obk (o := mEs X es ρ p.2) h fun q h4 h => iMth h3 fun l h5 h6 h7 =>
    g o.1 o.2 p.2 f l q.1 q.2 (iObj_k (P := fun v => mE X e ρ G = some (v, p.2) → mE X e ρ G = some (.obj o.1 o.2, p.2)) h2 id h1) h5 h6 h7 h4 h
theorem iE_blt {b : Bl} {a : ME} {r : MV × GH} (h : mE X (.blt b a) ρ G = some r) (g : ∀ v G1, mE X a ρ G = some (v, G1) → bltO G1 b v = some r → P) : P :=
  obk (o := mE X a ρ G) h fun p h1 h => g p.1 p.2 h1 h
theorem iE_app {e a : ME} (h : mE X (.app e a) ρ G = some (x, G')) (g : ∀ v G1 y G2, mE X e ρ G = some (v, G1) → (lsO G1 v).isSome = true → mE X a ρ G1 = some (y, G2) → appO G2 v y = some G' → Px .none) : Px x :=
  obk (o := mE X e ρ G) h fun p h1 h => oif h fun h2 h => obk (o := mE X a ρ p.2) h fun q h3 h => (Option.map_eq_some_iff.mp h).elim fun G3 h =>
    opk (P := fun x G' => (appO q.2 p.1 q.1 = some G' → Px .none) → Px x) (congrArg some h.2) (fun g => g h.1) (g p.1 p.2 q.1 q.2 h1 h2 h3)
theorem iE_pop {e : ME} {r : MV × GH} (h : mE X (.pop e) ρ G = some r) (g : ∀ v G1, mE X e ρ G = some (v, G1) → popO G1 v = some r → P) : P :=
  obk (o := mE X e ρ G) h fun p h1 h => g p.1 p.2 h1 h
theorem iE_get {e a b : ME} (h : mE X (.get e a b) ρ G = some (x, G')) (g : ∀ v G1 k G2 y, mE X e ρ G = some (v, G1) → isNd G1 v = true → mE X a ρ G1 = some (k, G2) → mE X b ρ G2 = some (y, G') → getO G' v k y = some x → P) : P :=
  obk (o := mE X e ρ G) h fun p h1 h => oif h fun h2 h => obk (o := mE X a ρ p.2) h fun q h3 h => bmf (fun w G => getO G p.1 q.1 w) id (P := fun x => (∀ y, mE X b ρ q.2 = some (y, G') → getO G' p.1 q.1 y = some x → P) → P) h (fun w b h2 h3 g => g w h2 h3) (g p.1 p.2 q.1 q.2 · h1 h2 h3)

variable {Pf : Fl → Prop} {Pl : Fl → Lo → Prop}
theorem iS_expr {e : ME} (h : mS X (.expr e) ρ G = some (fl, ρ', G')) (g : ∀ v, mE X e ρ G = some (v, G') → Pl .next ρ) : Pl fl ρ' := by
  obtain ⟨⟨w, G2⟩, h2, h3⟩ := Option.map_eq_some_iff.mp (show (mE X e ρ G).map (fun p => (Fl.next, ρ, p.2)) = _ from h)
  cases h3
  exact g w h2
theorem iS_asg {i : Nat} {e : ME} (h : mS X (.asg i e) ρ G = some (fl, ρ', G')) (g : ∀ v, mE X e ρ G = some (v, G') → set1 ρ i v = some ρ' → Pf .next) : Pf fl :=
  obk (o := mE X e ρ G) h fun p h1 h => (Option.map_eq_some_iff.mp h).elim fun ρ1 h => opk3 (P := fun fl ρ' G' => (mE X e ρ G = some (p.1, G') → set1 ρ i p.1 = some ρ' → Pf .next) → Pf fl) (congrArg some h.2) (fun g => g h1 h.1) (g p.1)
theorem otup {p : MV × GH} {l : List MV} {o : Option (MV × GH)} (h : o = some p) (h2 : iTup p.1 = some l) : o = some (.tup l, p.2) :=
  iTup_k (P := fun v => o = some (v, p.2) → o = some (.tup l, p.2)) h2 id h
theorem iS_asgT {is : List Nat} {e : ME} (h : mS X (.asgT is e) ρ G = some (fl, ρ', G')) (g : ∀ l, mE X e ρ G = some (.tup l, G') → setAll ρ is l = some ρ' → Pf .next) : Pf fl :=
  obk (o := mE X e ρ G) h fun p h1 h => obk (o := iTup p.1) h fun l h2 h => (Option.map_eq_some_iff.mp h).elim fun ρ1 h => opk3 (P := fun fl ρ' G' => (mE X e ρ G = some (.tup l, G') → setAll ρ is l = some ρ' → Pf .next) → Pf fl) (congrArg some h.2) (fun g => g (otup h1 h2) h.1) (g l)
theorem iS_asgW {is : List Nat} {e : ME} (h : mS X (.asgW is e) ρ G = some (fl, ρ', G')) (g : ∀ l, mE X e ρ G = some (.tup l, G') → is.length = l.length → setAll ρ is.reverse l.reverse = some ρ' → Pf .next) : Pf fl :=
  obk (o := mE X e ρ G) h fun p h1 h => obk (o := iTup p.1) h fun l h2 h => oif h fun h3 h => (Option.map_eq_some_iff.mp h).elim fun ρ1 h => opk3 (P := fun fl ρ' G' => (mE X e ρ G = some (.tup l, G') → is.length = l.length → setAll ρ is.reverse l.reverse = some ρ' → Pf .next) → Pf fl) (congrArg some h.2) (fun g => g (otup h1 h2) h3 h.1) (g l)
theorem iS_asgA {e : ME} {k : Nat} {q : ME} (h : mS X (.asgA q k e) ρ G = some (fl, ρ', G')) (g : ∀ y G1 v G2, mE X e ρ G = some (y, G1) → mE X q ρ G1 = some (v, G2) → aSet X G2 k y v = some G' → Pl .next ρ) : Pl fl ρ' :=
  obk (o := mE X e ρ G) h fun p h1 h => obk (o := mE X q ρ p.2) h fun r h2 h => (Option.map_eq_some_iff.mp h).elim fun G3 h => opk3 (P := fun fl ρ' G' => (aSet X r.2 k p.1 r.1 = some G' → Pl .next ρ) → Pl fl ρ') (congrArg some h.2) (fun g => g h.1) (g p.1 p.2 r.1 r.2 h1 h2)
theorem iS_asgS {e q i : ME} (h : mS X (.asgS q i e) ρ G = some (fl, ρ', G')) (g : ∀ y G1 v G2 w G3, mE X e ρ G = some (y, G1) → mE X q ρ G1 = some (v, G2) → mE X i ρ G2 = some (w, G3) → subSet G3 v w y = some G' → Pl .next ρ) : Pl fl ρ' :=
  obk (o := mE X e ρ G) h fun p h1 h => obk (o := mE X q ρ p.2) h fun r h2 h => obk (o := mE X i ρ r.2) h fun t h3 h => (Option.map_eq_some_iff.mp h).elim fun G3 h => opk3 (P := fun fl ρ' G' => (subSet t.2 r.1 t.1 p.1 = some G' → Pl .next ρ) → Pl fl ρ') (congrArg some h.2) (fun g => g h.1) (g p.1 p.2 r.1 r.2 t.1 t.2 h1 h2 h3)
theorem iS_if {c : ME} {a b : List MS} {o : Fl × Lo × GH} (h : mS X (.ifS c a b) ρ G = some o) (g1 : ∀ G1, mE X c ρ G = some (.bool true, G1) → mSs X a ρ G1 = some o → P) (g2 : ∀ G1, mE X c ρ G = some (.bool false, G1) → mSs X b ρ G1 = some o → P) : P := onBk h g1 g2
theorem iS_ret {e : ME} (h : mS X (.ret e) ρ G = some (fl, ρ', G')) (g : ∀ v, mE X e ρ G = some (v, G') → Pl (.ret v) ρ) : Pl fl ρ' := by
  obtain ⟨⟨w, G2⟩, h2, h3⟩ := Option.map_eq_some_iff.mp (show (mE X e ρ G).map (fun p => (Fl.ret p.1, ρ, p.2)) = _ from h)
  cases h3
  exact g w h2
theorem iS_for {tgt : List Nat} {one : Bool} {k : SK} {srcs : List ME} {b : List MS} {o : Fl × Lo × GH} (h : mS X (.forS tgt one k srcs b) ρ G = some o) (g : ∀ vs G1 gd items, mEs X srcs ρ G = some (vs, G1) → srcO G1 k vs = some (gd, items) →
    loopS gd (fun v ρ G => (asgO one tgt v ρ).bind fun ρ' => mSs X b ρ' G) items ρ G1 = some o → P) : P :=
  obk (o := mEs X srcs ρ G) h fun p h1 h => obk (o := srcO p.2 k p.1) h fun t h2 h => g p.1 p.2 t.1 t.2 h1 h2 h
end
end Mine
end
section
set_option autoImplicit false
set_option linter.unusedVariables false
set_option linter.unusedSectionVars false
namespace Mine
open PySem
theorem beq_ok {α : Type} [BEq α] [LawfulBEq α] {a b : α} (h : (a == b) = true) : a = b := eq_of_beq h
theorem ak {a b : Bool} {P : Prop} (h : (a && b) = true) (g : a = true → b = true → P) : P := g (Bool.and_eq_true_iff.mp h).1 (Bool.and_eq_true_iff.mp h).2
section
variable {S : Sta} {sc : Sp} {nm : Nm} {x : PySem.Expr} {P : PySem.Expr → Prop}
theorem cE_kN (h : chkE S .kN sc nm x = true) (g : ∀ k p, P (.Constant .none k p)) : P x :=
  kECon h fun _ k p h => kCNon (P := fun c => P (.Constant c k p)) h fun _ => g k p
theorem cE_kB {b : Bool} (h : chkE S (.kB b) sc nm x = true) (g : ∀ k p, P (.Constant (.bool b) k p)) : P x :=
  kECon h fun _ k p h => kCBoo (P := fun c => P (.Constant c k p)) h fun _ h => kEq (P := fun b => P (.Constant (.bool b) k p)) h (g k p)
theorem cE_kI {i : Int} (h : chkE S (.kI i) sc nm x = true) (g : ∀ k p, P (.Constant (.int i) k p)) : P x :=
  kECon h fun _ k p h => kCInt (P := fun c => P (.Constant c k p)) h fun _ h => kEq (P := fun b => P (.Constant (.int b) k p)) h (g k p)
theorem cE_kS {j : Nat} (h : chkE S (.kS j) sc nm x = true) (g : ∀ n k p, S.tab[j]? = some n → P (.Constant (.str n) k p)) : P x :=
  kECon h fun _ k p h => kCStr (P := fun c => P (.Constant c k p)) h fun n h => g n k p (beq_ok h)
theorem cE_loc {i : Nat} (h : chkE S (.loc i) sc nm x = true) (g : ∀ n p, nm[i]? = some (some n) → locK sc n = true → (n == ("__debug__" : Str)) = false → P (.Name n p)) : P x :=
  kENam h fun n p h => ak h fun h h3 => ak h fun h1 h2 => g n p (beq_ok h1) h2 ((Bool.not_eq_true' _).mp h3)
theorem cE_gI {k : Nat} {i : Int} (h : chkE S (.gI k i) sc nm x = true) (g : ∀ n p, gloK sc n = true → S.gints.lookup n = some i → P (.Name n p)) : P x :=
  kENam h fun n p h => ak h fun h h3 => ak h fun _ h2 => g n p h2 (beq_ok h3)
theorem cE_attr {a : ME} {k : Nat} (h : chkE S (.attr a k) sc nm x = true) (g : ∀ y n p, chkE S a sc nm y = true → S.tab[k]? = some n → noSup y = true → P (.Attribute y n p)) : P x :=
  kEAtt h fun y n p h => ak h fun h h3 => ak h fun h1 h2 => g y n p h1 (beq_ok h2) h3
theorem cE_sub {a i : ME} (h : chkE S (.sub a i) sc nm x = true) (g : ∀ y z p, chkE S a sc nm y = true → chkE S i sc nm z = true → P (.Subscript y z p)) : P x :=
  kESub h fun y z p h => ak h fun h1 h2 => g y z p h1 h2
theorem cE_bin {o : B2} {a b : ME} (h : chkE S (.bin o a b) sc nm x = true) (g : ∀ l op r p, b2Ok o op = true → chkE S a sc nm l = true → chkE S b sc nm r = true → P (.BinOp l op r p)) : P x :=
  kEBin h fun l op r p h => ak h fun h h3 => ak h fun h1 h2 => g l op r p h1 h2 h3
theorem cE_neg {a : ME} (h : chkE S (.neg a) sc nm x = true) (g : ∀ y p, chkE S a sc nm y = true → P (.UnaryOp .USub y p)) : P x :=
  kEUna h fun _ y p h => ak h fun h1 h2 => kEq (P := fun o => P (.UnaryOp o y p)) h1 (g y p h2)
theorem cE_cmp {o : C2} {a b : ME} (h : chkE S (.cmp o a b) sc nm x = true) (g : ∀ l op r p, c2Ok o op = true → chkE S a sc nm l = true → chkE S b sc nm r = true → P (.Compare l [op] [r] p)) : P x :=
  kECmp h fun l os rs p h => k1 (P := fun os => P (.Compare l os rs p)) h fun op h => k1 (P := fun rs => P (.Compare l [op] rs p)) h fun r h => ak h fun h h3 => ak h fun h1 h2 => g l op r p h1 h2 h3
theorem cE_ite {c a b : ME} (h : chkE S (.ite c a b) sc nm x = true) (g : ∀ t y z p, chkT S c sc nm t = true → chkE S a sc nm y = true → chkE S b sc nm z = true → P (.IfExp t y z p)) : P x :=
  kEIte h fun t y z p h => ak h fun h h3 => ak h fun h1 h2 => g t y z p h1 h2 h3
theorem cT_cmp {o : C2} {a b : ME} (h : chkT S (.cmp o a b) sc nm x = true) (g : ∀ l op r p, c2Ok o op = true → chkE S a sc nm l = true → chkE S b sc nm r = true → P (.Compare l [op] [r] p)) : P x := cE_cmp (o := o) (a := a) (b := b) h g
theorem cT_cmp2 {o1 o2 : C2} {a b c : ME} (h : chkT S (.cmp2 o1 o2 a b c) sc nm x = true) (g : ∀ l op1 op2 r1 r2 p, c2Ok o1 op1 = true → c2Ok o2 op2 = true → chkE S a sc nm l = true → chkE S b sc nm r1 = true → chkE S c sc nm r2 = true → P (.Compare l [op1, op2] [r1, r2] p)) : P x :=
  kECmp h fun l os rs p h => k2 (P := fun os => P (.Compare l os rs p)) h fun op1 op2 h => k2 (P := fun rs => P (.Compare l [op1, op2] rs p)) h fun r1 r2 h => ak h fun h h5 => ak h fun h h4 => ak h fun h h3 => ak h fun h1 h2 => g l op1 op2 r1 r2 p h1 h2 h3 h4 h5
theorem cT_no {a : ME} (h : chkT S (.no a) sc nm x = true) (g : ∀ y p, chkT S a sc nm y = true → P (.UnaryOp .Not y p)) : P x :=
  kEUna h fun _ y p h => ak h fun h1 h2 => kEq (P := fun o => P (.UnaryOp o y p)) h1 (g y p h2)
theorem cT_and {es : List ME} (h : chkT S (.and_ es) sc nm x = true) (g : ∀ ys p, chkTs S es sc nm ys = true → P (.BoolOp .And ys p)) : P x :=
  kEBoo h fun _ y p h => ak h fun h1 h2 => kEq (P := fun o => P (.BoolOp o y p)) h1 (g y p h2)
theorem cT_or {es : List ME} (h : chkT S (.or_ es) sc nm x = true) (g : ∀ ys p, chkTs S es sc nm ys = true → P (.BoolOp .Or ys p)) : P x :=
  kEBoo h fun _ y p h => ak h fun h1 h2 => kEq (P := fun o => P (.BoolOp o y p)) h1 (g y p h2)
theorem cT_truth {a : ME} (h : chkT S (.truth a) sc nm x = true) : chkE S a sc nm x = true ∧ plainT x = true := ott h
end
end Mine
end
section
set_option autoImplicit false
set_option linter.unusedVariables false
set_option linter.unusedSectionVars false
namespace Mine
open PySem
section
variable {S : Sta} {sc : Sp} {nm : Nm} {x : PySem.Expr} {P : PySem.Expr → Prop}
theorem cE_tup {es : List ME} (h : chkE S (.tup es) sc nm x = true) (g : ∀ xs k p, chkEs S es sc nm xs = true → es.length ≤ 64 → P (.Tuple xs k p)) : P x :=
  kETup h fun xs k p h => ak h fun h1 h2 => g xs k p h1 (of_decide_eq_true h2)
theorem cE_lst {m : Bool} {es : List ME} (h : chkE S (.lst m es) sc nm x = true) (g : ∀ xs p, chkEs S es sc nm xs = true → es.length ≤ 64 → P (.List xs p)) : P x :=
  kELst h fun xs p h => ak h fun h1 h2 => g xs p h1 (of_decide_eq_true h2)
theorem cE_slc {a lo hi : ME} (h : chkE S (.slc a lo hi) sc nm x = true) (g : ∀ y l u q p, chkE S a sc nm y = true → (match l with | none => isKN lo | some y => chkE S lo sc nm y) = true → (match u with | none => isKN hi | some y => chkE S hi sc nm y) = true → P (.Subscript y (.Slice l u none q) p)) : P x :=
  kESub h fun y z p h => kESlc (P := fun z => P (.Subscript y z p)) h fun l u s q h => ak h fun h1 h => kN (P := fun s => P (.Subscript y (.Slice l u s q) p)) h1 (ak h fun h h3 => ak h fun h1 h2 => g y l u q p h1 h2 h3)
theorem cE_rev {a : ME} (h : chkE S (.rev a) sc nm x = true) (g : ∀ y k q1 q2 q3 p, chkE S a sc nm y = true → P (.Subscript y (.Slice none none (some (.UnaryOp .USub (.Constant (.int 1) k q1) q2)) q3) p)) : P x :=
  kESub h fun y z p h => kESlc (P := fun z => P (.Subscript y z p)) h fun l u s q3 h => ak h fun h1 h => kN (P := fun l => P (.Subscript y (.Slice l u s q3) p)) h1 (ak h fun h1 h => kN (P := fun u => P (.Subscript y (.Slice none u s q3) p)) h1
    (kS (P := fun s => P (.Subscript y (.Slice none none s q3) p)) h fun _ h => kEUna (P := fun w => P (.Subscript y (.Slice none none (some w) q3) p)) h fun _ v q2 h => ak h fun h1 h => kEq (P := fun o => P (.Subscript y (.Slice none none (some (.UnaryOp o v q2)) q3) p)) h1
    (kECon (P := fun v => P (.Subscript y (.Slice none none (some (.UnaryOp .USub v q2)) q3) p)) h fun _ k q1 h => kCInt (P := fun c => P (.Subscript y (.Slice none none (some (.UnaryOp .USub (.Constant c k q1) q2)) q3) p)) h fun _ h => ak h fun h1 h => kEq (P := fun i => P (.Subscript y (.Slice none none (some (.UnaryOp .USub (.Constant (.int i) k q1) q2)) q3) p)) h1 (g y k q1 q2 q3 p h))))
theorem cE_dct0 (h : chkE S .dct0 sc nm x = true) (g : ∀ p, P (.Dict [] [] p)) : P x :=
  kEDic h fun ks vs p h => ak h fun h1 h2 => k0 (P := fun ks => P (.Dict ks vs p)) h1 (k0 (P := fun vs => P (.Dict [] vs p)) h2 (g p))
theorem cE_dct {ks : List Nat} {es : List ME} (h : chkE S (.dct ks es) sc nm x = true) (g : ∀ keys xs p, keysE S ks keys = true → chkEs S es sc nm xs = true → (0 < ks.length ∧ ks.length ≤ 15 ∧ ks.length = es.length) → ks.Nodup → P (.Dict keys xs p)) : P x :=
  kEDic h fun keys xs p h => ak h fun h h4 => ak h fun h h3 => ak h fun h1 h2 => g keys xs p h1 h2 (of_decide_eq_true h3) (of_decide_eq_true h4)
theorem cE_call {f : Nat} {es : List ME} (h : chkE S (.call f es) sc nm x = true) (g : ∀ n q xs p, gloK sc n = true → S.globs.lookup n = some f → chkEs S es sc nm xs = true → xs.length < 28 → P (.Call (.Name n q) xs [] p)) : P x :=
  kECal h fun _ xs ks p h => kENam (P := fun g => P (.Call g xs ks p)) h fun n q h => ak h fun h1 h => k0 (P := fun ks => P (.Call (.Name n q) xs ks p)) h1 (ak h fun h h4 => ak h fun h h3 => ak h fun h1 h2 => g n q xs p h1 (beq_ok h2) h3 (of_decide_eq_true h4))
theorem cE_new {f : Nat} {es : List ME} (h : chkE S (.new f es) sc nm x = true) (g : ∀ n q xs p, gloK sc n = true → S.globs.lookup n = some f → chkEs S es sc nm xs = true → xs.length < 28 → P (.Call (.Name n q) xs [] p)) : P x :=
  cE_call (f := f) (es := es) h g
theorem kMeth {e : PySem.Expr} {F : PySem.Expr → Str → Pos → List PySem.Expr → Pos → Bool} (h : qECal e (fun g xs ks p => qEAtt g fun x n ap => ks.isEmpty && F x n ap xs p) = true) (g : ∀ y n ap xs p, F y n ap xs p = true → P (.Call (.Attribute y n ap) xs [] p)) : P e :=
  kECal h fun _ xs ks p h => kEAtt (P := fun g => P (.Call g xs ks p)) h fun y n ap h => ak h fun h1 h => k0 (P := fun ks => P (.Call (.Attribute y n ap) xs ks p)) h1 (g y n ap xs p h)
theorem kFun {e : PySem.Expr} {s : Str} {F : List PySem.Expr → Bool} (h : qECal e (fun g xs ks p => qENam g fun x _ => ks.isEmpty && (x == s && F xs)) = true) (g : ∀ q xs p, F xs = true → P (.Call (.Name s q) xs [] p)) : P e :=
  kECal h fun _ xs ks p h => kENam (P := fun g => P (.Call g xs ks p)) h fun n q h => ak h fun h1 h => k0 (P := fun ks => P (.Call (.Name n q) xs ks p)) h1 (ak h fun h1 h => kEq (P := fun n => P (.Call (.Name n q) xs [] p)) h1 (g q xs p h))
theorem cE_meth {a : ME} {m : Nat} {es : List ME} (h : chkE S (.meth a m es) sc nm x = true) (g : ∀ y n ap xs p, chkE S a sc nm y = true → S.tab[m]? = some n → noSup y = true → chkEs S es sc nm xs = true → xs.length < 28 → (ap.endLine == p.line) = true → P (.Call (.Attribute y n ap) xs [] p)) : P x :=
  kMeth (F := fun x n ap xs p => chkE S a sc nm x && S.tab[m]? == some n && noSup x && chkEs S es sc nm xs && decide (xs.length < 28) && ap.endLine == p.line) h fun y n ap xs p h =>
    ak h fun h h6 => ak h fun h h5 => ak h fun h h4 => ak h fun h h3 => ak h fun h1 h2 => g y n ap xs p h1 (beq_ok h2) h3 h4 (of_decide_eq_true h5) h6
theorem cE_blt {b : Bl} {a : ME} (h : chkE S (.blt b a) sc nm x = true) (g : ∀ q y p, bltK S sc (blN b) = true → chkE S a sc nm y = true → P (.Call (.Name (blN b) q) [y] [] p)) : P x :=
  kFun (F := fun xs => bltK S sc (blN b) && (q1 xs fun y => chkE S a sc nm y)) h fun q xs p h => ak h fun h1 h => k1 (P := fun xs => P (.Call (.Name (blN b) q) xs [] p)) h fun y h => g q y p h1 h
theorem cE_app {a b : ME} (h : chkE S (.app a b) sc nm x = true) (g : ∀ y ap z p, noSup y = true → chkE S a sc nm y = true → chkE S b sc nm z = true → (ap.endLine == p.line) = true → P (.Call (.Attribute y "append" ap) [z] [] p)) : P x :=
  kMeth (F := fun x n ap xs p => n == ("append" : Str) && (q1 xs fun y => noSup x && chkE S a sc nm x && chkE S b sc nm y && ap.endLine == p.line)) h fun y n ap xs p h =>
    ak h fun h1 h => kEq (P := fun n => P (.Call (.Attribute y n ap) xs [] p)) h1 (k1 (P := fun xs => P (.Call (.Attribute y "append" ap) xs [] p)) h fun z h => ak h fun h h4 => ak h fun h h3 => ak h fun h1 h2 => g y ap z p h1 h2 h3 h4)
theorem cE_pop {a : ME} (h : chkE S (.pop a) sc nm x = true) (g : ∀ y ap p, noSup y = true → chkE S a sc nm y = true → (ap.endLine == p.line) = true → P (.Call (.Attribute y "pop" ap) [] [] p)) : P x :=
  kMeth (F := fun x n ap xs p => n == ("pop" : Str) && (xs.isEmpty && (noSup x && chkE S a sc nm x && ap.endLine == p.line))) h fun y n ap xs p h =>
    ak h fun h1 h => kEq (P := fun n => P (.Call (.Attribute y n ap) xs [] p)) h1 (ak h fun h1 h => k0 (P := fun xs => P (.Call (.Attribute y "pop" ap) xs [] p)) h1 (ak h fun h h3 => ak h fun h1 h2 => g y ap p h1 h2 h3))
theorem cE_get {a b c : ME} (h : chkE S (.get a b c) sc nm x = true) (g : ∀ y ap z w p, noSup y = true → chkE S a sc nm y = true → chkE S b sc nm z = true → chkE S c sc nm w = true → (ap.endLine == p.line) = true → P (.Call (.Attribute y "get" ap) [z, w] [] p)) : P x :=
  kMeth (F := fun x n ap xs p => n == ("get" : Str) && (q2 xs fun y z => noSup x && chkE S a sc nm x && chkE S b sc nm y && chkE S c sc nm z && ap.endLine == p.line)) h fun y n ap xs p h =>
    ak h fun h1 h => kEq (P := fun n => P (.Call (.Attribute y n ap) xs [] p)) h1 (k2 (P := fun xs => P (.Call (.Attribute y "get" ap) xs [] p)) h fun z w h => ak h fun h h5 => ak h fun h h4 => ak h fun h h3 => ak h fun h1 h2 => g y ap z w p h1 h2 h3 h4 h5)
theorem cEs_cons {e : ME} {r : List ME} {y : PySem.Expr} {t : List PySem.Expr} (h : chkEs S (e :: r) sc nm (y :: t) = true) : chkE S e sc nm y = true ∧ chkEs S r sc nm t = true := ott h
theorem xsLen : ∀ {es : List ME} {xs : List PySem.Expr}, chkEs S es sc nm xs = true → xs.length = es.length
  | [], [], _ => rfl
  | [], _ :: _, h => ft h
  | _ :: _, [], h => ft h
  | _ :: es, _ :: xs, h => congrArg Nat.succ (xsLen (cEs_cons h).2)
theorem cEs1 {e : ME} {y : PySem.Expr} (h : chkE S e sc nm y = true) : chkEs S [e] sc nm [y] = true := (Bool.and_eq_true_iff).mpr ⟨h, rfl⟩
theorem cEs2 {e e2 : ME} {y y2 : PySem.Expr} (h : chkE S e sc nm y = true) (h2 : chkE S e2 sc nm y2 = true) : chkEs S [e, e2] sc nm [y, y2] = true := (Bool.and_eq_true_iff).mpr ⟨h, cEs1 h2⟩
theorem keysE_cons {k : Nat} {ks : List Nat} {o : Option PySem.Expr} {t : List (Option PySem.Expr)} {P : Option PySem.Expr → Prop} (h : keysE S (k :: ks) (o :: t) = true) (g : ∀ x a p, S.tab[k]? = some x → keysE S ks t = true → P (some (.Constant (.str x) a p))) : P o :=
  kS h fun _ h => kECon (P := fun e => P (some e)) h fun _ a p h => kCStr (P := fun c => P (some (.Constant c a p))) h fun x h => ak h fun h1 h2 => g x a p (beq_ok h1) h2
theorem keysLen : ∀ {ks : List Nat} {keys : List (Option PySem.Expr)}, keysE S ks keys = true → keys.all (·.isSome) = true ∧ keys.length = ks.length
  | [], [], _ => ⟨rfl, rfl⟩
  | [], _ :: _, h => ft h
  | _ :: _, [], h => ft h
  | _ :: _, _ :: t, h => keysE_cons (P := fun o => (o :: t).all (·.isSome) = true ∧ _) h fun _ _ _ _ h2 => ⟨(keysLen h2).1, congrArg Nat.succ (keysLen h2).2⟩
end
end Mine
end
section
set_option autoImplicit false
set_option linter.unusedVariables false
set_option linter.unusedSectionVars false
namespace Mine
open PySem
section
variable {S : Sta} {sc : Sp} {nm : Nm} {st : Stmt} {P : Stmt → Prop}
theorem cS_expr {a : ME} (h : chkS S (.expr a) sc nm st = true) (g : ∀ y p, chkE S a sc nm y = true → isComp y = false → P (.Expr y p)) : P st :=
  kSExp h fun y p h => ak h fun h1 h2 => g y p h1 ((Bool.not_eq_true' _).mp h2)
theorem kAsg {F : PySem.Expr → PySem.Expr → Bool} (h : qSAsg st (fun l v _ => q1 l fun t => F t v) = true) (g : ∀ t v q, F t v = true → P (.Assign [t] v q)) : P st :=
  kSAsg h fun _ v q h => k1 (P := fun l => P (.Assign l v q)) h fun t h => g t v q h
theorem cS_asg {i : Nat} {a : ME} (h : chkS S (.asg i a) sc nm st = true) (g : ∀ n p v q, tgtOk sc nm i n = true → chkE S a sc nm v = true → okE v = true → P (.Assign [.Name n p] v q)) : P st :=
  kAsg (F := fun t v => qENam t fun x _ => tgtOk sc nm i x && chkE S a sc nm v && okE v) h fun _ v q h => kENam (P := fun t => P (.Assign [t] v q)) h fun n p h => ak h fun h h3 => ak h fun h1 h2 => g n p v q h1 h2 h3
theorem cS_asgT {is : List Nat} {a : ME} (h : chkS S (.asgT is a) sc nm st = true) (g : ∀ ts k p v q, tgtsOk sc nm is ts = true → chkE S a sc nm v = true → swNo sc ts v = true → P (.Assign [.Tuple ts k p] v q)) : P st :=
  kAsg (F := fun t v => qETup t fun ts _ _ => tgtsOk sc nm is ts && chkE S a sc nm v && swNo sc ts v) h fun _ v q h => kETup (P := fun t => P (.Assign [t] v q)) h fun ts k p h => ak h fun h h3 => ak h fun h1 h2 => g ts k p v q h1 h2 h3
theorem cS_asgW {is : List Nat} {a : ME} (h : chkS S (.asgW is a) sc nm st = true) (g : ∀ ts k p v q, tgtsOk sc nm is ts = true → chkE S a sc nm v = true → swYes sc ts v = true → P (.Assign [.Tuple ts k p] v q)) : P st :=
  kAsg (F := fun t v => qETup t fun ts _ _ => tgtsOk sc nm is ts && chkE S a sc nm v && swYes sc ts v) h fun _ v q h => kETup (P := fun t => P (.Assign [t] v q)) h fun ts k p h => ak h fun h h3 => ak h fun h1 h2 => g ts k p v q h1 h2 h3
theorem cS_asgA {o a : ME} {k : Nat} (h : chkS S (.asgA o k a) sc nm st = true) (g : ∀ y n p v q, chkE S a sc nm v = true → chkE S o sc nm y = true → S.tab[k]? = some n → P (.Assign [.Attribute y n p] v q)) : P st :=
  kAsg (F := fun t v => qEAtt t fun x n _ => chkE S a sc nm v && chkE S o sc nm x && S.tab[k]? == some n) h fun _ v q h => kEAtt (P := fun t => P (.Assign [t] v q)) h fun y n p h => ak h fun h h3 => ak h fun h1 h2 => g y n p v q h1 h2 (beq_ok h3)
theorem cS_asgS {o i a : ME} (h : chkS S (.asgS o i a) sc nm st = true) (g : ∀ y z p v q, chkE S a sc nm v = true → chkE S o sc nm y = true → chkE S i sc nm z = true → P (.Assign [.Subscript y z p] v q)) : P st :=
  kAsg (F := fun t v => qESub t fun x y _ => chkE S a sc nm v && chkE S o sc nm x && chkE S i sc nm y) h fun _ v q h => kESub (P := fun t => P (.Assign [t] v q)) h fun y z p h => ak h fun h h3 => ak h fun h1 h2 => g y z p v q h1 h2 h3
theorem cS_if {c : ME} {a b : List MS} (h : chkS S (.ifS c a b) sc nm st = true) (g : ∀ t x y p, chkT S c sc nm t = true → chkSs S a sc nm x = true → chkSs S b sc nm y = true → P (.If t x y p)) : P st :=
  kSIff h fun t x y p h => ak h fun h h3 => ak h fun h1 h2 => g t x y p h1 h2 h3
theorem cS_while {c : ME} {b : List MS} (h : chkS S (.whileS c b) sc nm st = true) (g : ∀ t x p, chkT S c sc nm t = true → chkSs S b sc nm x = true → P (.While t x [] p)) : P st :=
  kSWhi h fun t x y p h => ak h fun h1 h => k0 (P := fun y => P (.While t x y p)) h1 (ak h fun h1 h2 => g t x p h1 h2)
theorem cS_for {tgt : List Nat} {one : Bool} {k : SK} {srcs : List ME} {b : List MS} (h : chkS S (.forS tgt one k srcs b) sc nm st = true) (g : ∀ t it x p, kOne k one = true → tgtE sc nm one tgt t = true → chkSrc S k srcs sc nm it = true → chkSs S b sc nm x = true → P (.For t it x [] p)) : P st :=
  kSFor h fun t it x y p h => ak h fun h1 h => k0 (P := fun y => P (.For t it x y p)) h1 (ak h fun h h4 => ak h fun h h3 => ak h fun h1 h2 => g t it x p h1 h2 h3 h4)
theorem cS_ret {a : ME} (h : chkS S (.ret a) sc nm st = true) (g : ∀ y p, chkE S a sc nm y = true → P (.Return (some y) p)) (g2 : ∀ p, isKN a = true → P (.Return none p)) : P st :=
  kSRet h fun y p h => match y, h with
    | none, h => g2 p h
    | some y, h => g y p h
theorem cS_cont (h : chkS S .cont sc nm st = true) (g : ∀ p, P (.Continue p)) : P st := kSCon h fun p _ => g p
theorem cS_brk (h : chkS S .brk sc nm st = true) (g : ∀ p, P (.Break p)) : P st := kSBre h fun p _ => g p
theorem cS_pass (h : chkS S .pass sc nm st = true) (g : ∀ p, P (.Pass p)) : P st := kSPas h fun p _ => g p
end
section
variable {S : Sta} {sc : Sp} {nm : Nm} {x : PySem.Expr} {P : PySem.Expr → Prop}
theorem kFun1 {s : Str} {b : Bool} {F : PySem.Expr → Bool} (h : qECal x (fun g xs ks p => qENam g fun x _ => ks.isEmpty && (x == s && (b && q1 xs F))) = true) (g : ∀ q y p, b = true → F y = true → P (.Call (.Name s q) [y] [] p)) : P x :=
  kFun (F := fun xs => b && q1 xs F) h fun q xs p h => ak h fun h1 h => k1 (P := fun xs => P (.Call (.Name s q) xs [] p)) h fun y h => g q y p h1 h
theorem kFun2 {s : Str} {b : Bool} {F : PySem.Expr → PySem.Expr → Bool} (h : qECal x (fun g xs ks p => qENam g fun x _ => ks.isEmpty && (x == s && (b && q2 xs F))) = true) (g : ∀ q y z p, b = true → F y z = true → P (.Call (.Name s q) [y, z] [] p)) : P x :=
  kFun (F := fun xs => b && q2 xs F) h fun q xs p h => ak h fun h1 h => k2 (P := fun xs => P (.Call (.Name s q) xs [] p)) h fun y z h => g q y z p h1 h
theorem cR_rng1 {a : ME} (h : chkSrc S .rng [a] sc nm x = true) (g : ∀ q y p, bltK S sc "range" = true → chkE S a sc nm y = true → P (.Call (.Name "range" q) [y] [] p)) : P x := kFun1 h g
theorem cR_enum {a : ME} (h : chkSrc S .enum [a] sc nm x = true) (g : ∀ q y p, bltK S sc "enumerate" = true → chkE S a sc nm y = true → P (.Call (.Name "enumerate" q) [y] [] p)) : P x := kFun1 h g
theorem cR_rng2 {a b : ME} (h : chkSrc S .rng [a, b] sc nm x = true) (g : ∀ q y z p, bltK S sc "range" = true → chkE S a sc nm y = true → chkE S b sc nm z = true → P (.Call (.Name "range" q) [y, z] [] p)) : P x :=
  ak (a := true) h fun _ h => kFun2 h fun q y z p h1 h => ak h fun h2 h3 => g q y z p h1 h2 h3
theorem cR_zip {a b : ME} (h : chkSrc S .zip [a, b] sc nm x = true) (g : ∀ q y z p, bltK S sc "zip" = true → chkE S a sc nm y = true → chkE S b sc nm z = true → P (.Call (.Name "zip" q) [y, z] [] p)) : P x :=
  ak (a := true) h fun _ h => kFun2 h fun q y z p h1 h => ak h fun h2 h3 => g q y z p h1 h2 h3
end
end Mine
end
section
set_option autoImplicit false
set_option linter.unusedVariables false
set_option linter.unusedSectionVars false
namespace Mine
open PySem
section
variable {X : Ctx} {ρ : Lo} {G : GH} {P : Prop}
theorem iC_nil {emit : Lo → GH → Option (MV × GH)} {acc : List MV} {r : List MV × GH} (h : mC X [] emit ρ G acc = some r) (g : ∀ v G1, emit ρ G = some (v, G1) → acc.length < 4096 → r = (acc ++ [v], G1) → P) : P :=
  obk (o := emit ρ G) h fun p h1 h => oif h fun h2 h => g p.1 p.2 h1 h2 (Option.some.inj h).symm
theorem iC_cons {tgt : List Nat} {one : Bool} {k : SK} {srcs ifs : List ME} {gs : List MG} {emit : Lo → GH → Option (MV × GH)} {acc : List MV} {r : List MV × GH} (h : mC X (.mk tgt one k srcs ifs :: gs) emit ρ G acc = some r) (g : ∀ vs G1 gd items, mEs X srcs ρ G = some (vs, G1) → srcO G1 k vs = some (gd, items) →
    loopC gd (fun v G acc => (asgO one tgt v ρ).bind fun ρ' => onB (mAnd X ifs ρ' G) (fun G2 => mC X gs emit ρ' G2 acc) fun G2 => some (acc, G2)) items G1 acc = some r → P) : P :=
  obk (o := mEs X srcs ρ G) h fun p h1 h => obk (o := srcO p.2 k p.1) h fun t h2 h => g p.1 p.2 t.1 t.2 h1 h2 h
variable {S : Sta} {sc sc' : Sp} {nm nm' : Nm} {nb : Nat}
theorem cG_cons {g : MG} {r : List MG} {b : Bool} {y : Comprehension} {t : List Comprehension} (h : chkGs S (g :: r) b sc nm sc' nm' nb (y :: t) = true) : chkG S g b sc nm sc' nm' nb y = true ∧ chkGs S r false sc nm sc' nm' nb t = true := ott h
theorem cG_one {tgt : List Nat} {one : Bool} {k : SK} {srcs ifs : List ME} {b : Bool} {y : Comprehension} (h : chkG S (.mk tgt one k srcs ifs) b sc nm sc' nm' nb y = true) (g : y.is_async = 0 → kOne k one = true → tgtE sc' nm' one tgt y.target = true → (∀ i ∈ tgt, nb ≤ i) → (if b then chkSrc S k srcs sc nm y.iter else chkSrc S k srcs sc' nm' y.iter) = true → chkTs S ifs sc' nm' y.ifs = true → P) : P :=
  ak h fun h h6 => ak h fun h h5 => ak h fun h h4 => ak h fun h h3 => ak h fun h1 h2 => g (beq_ok h1) h2 h3 (fun i hi => of_decide_eq_true (List.all_eq_true.mp h4 i hi)) h5 h6
theorem cE_comp {m : Bool} {k : Nat} {elt : ME} {gs : List MG} {x : PySem.Expr} {P : PySem.Expr → Prop} (h : chkE S (.comp m k elt gs) sc nm x = true) (g : ∀ y gens scope p, chkE S (.comp m k elt gs) sc nm (.ListComp y gens scope p) = true → P (.ListComp y gens scope p)) : P x :=
  kELcm h fun y gens scope p h => g y gens scope p h
theorem cC_facts {m : Bool} {k : Nat} {elt : ME} {gs : List MG} {x : PySem.Expr} {gens : List Comprehension} {scope : Scope} {p : Pos} (h : chkE S (.comp m k elt gs) sc nm (.ListComp x gens scope p) = true)
    (g : scope.kind = .function → scopeOk sc scope.names = true → k = (namesG gens).length → uniqN (maskN nm scope.names ++ (namesG gens).map some) = true → firstG gens = true → noFree scope.names (namesG gens) = true → (gs.flatMap tgtG).Nodup → chkGs S gs true sc nm (relN sc scope.names) (maskN nm scope.names ++ (namesG gens).map some) nm.length gens = true → chkE S elt (relN sc scope.names) (maskN nm scope.names ++ (namesG gens).map some) x = true → P) : P := by
  have e : chkE S (.comp m k elt gs) sc nm (.ListComp x gens scope p) = (scope.kind == .function && scopeOk sc scope.names && decide (k = (namesG gens).length)
        && uniqN (maskN nm scope.names ++ (namesG gens).map some) && firstG gens
        && noFree scope.names (namesG gens) && decide ((gs.flatMap tgtG).Nodup)
        && chkGs S gs true sc nm (relN sc scope.names) (maskN nm scope.names ++ (namesG gens).map some) nm.length gens
        && chkE S elt (relN sc scope.names) (maskN nm scope.names ++ (namesG gens).map some) x) := by kernel_rfl
  exact ak (e.symm.trans h) fun h h9 => ak h fun h h8 => ak h fun h h7 => ak h fun h h6 => ak h fun h h5 => ak h fun h h4 => ak h fun h h3 => ak h fun h1 h2 => g (eq_of_beq h1) h2 (of_decide_eq_true h3) h4 h5 h6 (of_decide_eq_true h7) h8 h9
end
end Mine
end
section
set_option autoImplicit false
set_option linter.unusedVariables false
set_option linter.unusedSectionVars false
namespace Mine
open PySem
theorem iS_sup {X : Ctx} {ρ ρ' : Lo} {G G' : GH} {f C : Nat} {es : List ME} {fl : Fl} {Pl : Fl → Lo → Prop} (h : mS X (.expr (.sup f C es)) ρ G = some (fl, ρ', G')) (g : ∀ vs G1 i v, mEs X es ρ G = some (vs, G1) → ρ[0]? = some (some (.obj C i)) → X.call f (.obj C i :: vs) G1 = some (v, G') → Pl .next ρ) : Pl fl ρ' :=
  iS_expr h fun v h => obk (o := mEs X es ρ G) h fun p h1 h => obk (o := ρ[0]?) h fun u h2 h => obk (o := u) h fun w h3 h => obk (o := iObj w) h fun o h4 h => oif h fun h5 h6 => by
    refine iObj_k (P := fun w => ρ[0]? = some (some w) → Pl .next ρ) h4 (fun h2 => ?_) (h2.trans (congrArg some h3))
    rw [h5] at h2 h6
    exact g p.1 p.2 o.2 v h1 h2 h6
section
variable {S : Sta} {sc : Sp} {nm : Nm} {st : Stmt}
theorem cU_expr {x : MS} {P : MS → Prop} (h : chkSup S x sc nm st = true) (g : ∀ f C es, chkSup S (.expr (.sup f C es)) sc nm st = true → P (.expr (.sup f C es))) : P x :=
  kMexpr h fun _ h => kMsup (P := fun e => P (.expr e)) h fun f C es h => g f C es h
theorem cU {f C : Nat} {es : List ME} {P : Stmt → Prop} (h : chkSup S (.expr (.sup f C es)) sc nm st = true) (g : ∀ py p1 ap xs p q, bltK S sc "super" = true → sc.lookup ("__class__" : Str) = some .free → S.sups.contains f = true → chkEs S es sc nm xs = true → xs.length < 28 → (ap.endLine == p.line) = true → P (.Expr (.Call (.Attribute (.Call (.Name "super" py) [] [] p1) "__init__" ap) xs [] p) q)) : P st :=
  kSExp (k := fun e _ => qECal e fun g xs ks p => qEAtt g fun o n ap => qECal o fun y ys ls _ => qENam y fun y _ =>
    ks.isEmpty && (ys.isEmpty && (ls.isEmpty && (y == ("super" : Str) && (n == ("__init__" : Str) && (bltK S sc ("super" : Str) && sc.lookup ("__class__" : Str) == some .free && S.sups.contains f && chkEs S es sc nm xs && decide (xs.length < 28) && ap.endLine == p.line)))))) h fun _ q h => kECal (P := fun e => P (.Expr e q)) h fun _ xs ks p h => kEAtt (P := fun e => P (.Expr (.Call e xs ks p) q)) h fun _ n ap h => kECal (P := fun e => P (.Expr (.Call (.Attribute e n ap) xs ks p) q)) h fun _ ys ls p1 h => kENam (P := fun e => P (.Expr (.Call (.Attribute (.Call e ys ls p1) n ap) xs ks p) q)) h fun y py h =>
    ak h fun h1 h => k0 (P := fun ks => P (.Expr (.Call (.Attribute (.Call (.Name y py) ys ls p1) n ap) xs ks p) q)) h1 (ak h fun h1 h => k0 (P := fun ys => P (.Expr (.Call (.Attribute (.Call (.Name y py) ys ls p1) n ap) xs [] p) q)) h1 (ak h fun h1 h => k0 (P := fun ls => P (.Expr (.Call (.Attribute (.Call (.Name y py) [] ls p1) n ap) xs [] p) q)) h1
      (ak h fun h1 h => kEq (P := fun y => P (.Expr (.Call (.Attribute (.Call (.Name y py) [] [] p1) n ap) xs [] p) q)) h1 (ak h fun h1 h => kEq (P := fun n => P (.Expr (.Call (.Attribute (.Call (.Name "super" py) [] [] p1) n ap) xs [] p) q)) h1
        (ak h fun h h6 => ak h fun h h5 => ak h fun h h4 => ak h fun h h3 => ak h fun h1 h2 => g py p1 ap xs p q h1 (beq_ok h2) h3 h4 (of_decide_eq_true h5) h6)))))
theorem cB_cons {x : MS} {r : List MS} {t : List Stmt} (h : chkB S (x :: r) sc nm (st :: t) = true) : (chkS S x sc nm st = true ∨ chkSup S x sc nm st = true) ∧ chkSs S r sc nm t = true :=
  ⟨Bool.or_eq_true_iff.mp (ott h).1, (ott h).2⟩
end
end Mine
end
section
set_option autoImplicit false
namespace Mine
open PySem PySem.W PyProof.Rows PySem.Calls

noncomputable abbrev Kp := Addr → Option Obj
noncomputable def Le (f g : Kp) : Prop := ∀ a o, f a = some o → g a = some o
theorem Le.refl (f : Kp) : Le f f := fun _ _ h => h
theorem Le.trans {f g h : Kp} (x : Le f g) (y : Le g h) : Le f h := fun a o e => y a o (x a o e)
noncomputable def upd (f : Kp) (a : Addr) (o : Option Obj) : Kp := fun b => if b = a then o else f b
theorem upd_self (f : Kp) (a : Addr) (o : Option Obj) : upd f a o a = o := by unfold upd; rw [if_pos rfl]
theorem upd_ne (f : Kp) {a b : Addr} (o : Option Obj) (h : b ≠ a) : upd f a o b = f b := by unfold upd; rw [if_neg h]

mutual
inductive VR (tab : List Str) (fix : Kp) (φ : List Addr) : MV → Value → Prop
  | none : VR tab fix φ .none .none
  | bool (b : Bool) : VR tab fix φ (.bool b) (.bool b)
  | int (i : Int) (t : Tok) : VR tab fix φ (.int i) (.int i t)
  | str {k : Nat} {x : Str} (t : Tok) : tab[k]? = some x → VR tab fix φ (.str k) (.str x t)
  | tup {l : List MV} {a : Addr} {xs : List Value} {n : Nat} : fix a = some ⟨.type "tuple", Option.none, .seq xs.toArray n, #[]⟩ → VRs tab fix φ l xs → l.length ≤ 4096 → VR tab fix φ (.tup l) (.ref a)
  | lst {l : List MV} {a : Addr} {xs : List Value} {n : Nat} : fix a = some ⟨.type "list", Option.none, .seq xs.toArray n, #[]⟩ → VRs tab fix φ l xs → l.length ≤ 4096 → VR tab fix φ (.lst l) (.ref a)
  | ref {i : Nat} {a : Addr} : φ[i]? = some a → VR tab fix φ (.ref i) (.ref a)
  | obj {c i : Nat} {a d : Addr} : fix a = some (instObj c d) → φ[i]? = some d → VR tab fix φ (.obj c i) (.ref a)
inductive VRs (tab : List Str) (fix : Kp) (φ : List Addr) : List MV → List Value → Prop
  | nil : VRs tab fix φ [] []
  | cons {v : MV} {x : Value} {l : List MV} {xs : List Value} : VR tab fix φ v x → VRs tab fix φ l xs → VRs tab fix φ (v :: l) (x :: xs)
end

theorem VRs.ind {tab : List Str} {fix : Kp} {φ : List Addr} {M : List MV → List Value → Prop} {l : List MV} {xs : List Value} (h : VRs tab fix φ l xs) (n : M [] []) (k : ∀ v x l xs, VR tab fix φ v x → VRs tab fix φ l xs → M l xs → M (v :: l) (x :: xs)) : M l xs :=
  VRs.rec (motive_1 := fun _ _ _ => True) (motive_2 := fun l xs _ => M l xs) trivial (fun _ => trivial) (fun _ _ => trivial) (fun _ _ => trivial) (fun _ _ _ _ => trivial) (fun _ _ _ _ => trivial) (fun _ => trivial) (fun _ _ => trivial) n (fun a b _ ih => k _ _ _ _ a b ih) h
theorem VRs.nilI {tab : List Str} {fix : Kp} {φ : List Addr} {ys : List Value} {P : List Value → Prop} (h : VRs tab fix φ [] ys) (g : P []) : P ys := by cases h; exact g
theorem VRs.consI {tab : List Str} {fix : Kp} {φ : List Addr} {v : MV} {vs : List MV} {ys : List Value} {P : List Value → Prop} (h : VRs tab fix φ (v :: vs) ys) (g : ∀ y r, VR tab fix φ v y → VRs tab fix φ vs r → P (y :: r)) : P ys := by cases h with | cons a b => exact g _ _ a b
theorem VRs.length {tab : List Str} {fix : Kp} {φ : List Addr} {l : List MV} {xs : List Value} (h : VRs tab fix φ l xs) : l.length = xs.length :=
  h.ind (M := fun l xs => l.length = xs.length) rfl fun _ _ _ _ _ _ e => congrArg Nat.succ e

theorem pre_get {α : Type} {l m : List α} (h : l <+: m) {i : Nat} {a : α} (e : l[i]? = some a) : m[i]? = some a := by
  obtain ⟨t, rfl⟩ := h
  rw [List.getElem?_append_left (List.getElem?_eq_some_iff.mp e).1]; exact e

section
variable {tab : List Str} {fix fix' : Kp} {φ φ' : List Addr} {l m : List MV} {xs ys : List Value} {v : MV} {x : Value}
theorem VR.mono (hf : Le fix fix') (hp : φ <+: φ') (h : VR tab fix φ v x) : VR tab fix' φ' v x :=
  VR.rec (motive_1 := fun v x _ => VR tab fix' φ' v x) (motive_2 := fun l xs _ => VRs tab fix' φ' l xs) .none (fun b => .bool b) (fun i t => .int i t) (fun t h => .str t h) (fun h _ z ih => .tup (hf _ _ h) ih z) (fun h _ z ih => .lst (hf _ _ h) ih z) (fun h => .ref (pre_get hp h)) (fun h r => .obj (hf _ _ h) (pre_get hp r)) .nil (fun _ _ a b => .cons a b) h
theorem VRs.mono (hf : Le fix fix') (hp : φ <+: φ') (h : VRs tab fix φ l xs) : VRs tab fix' φ' l xs :=
  h.ind (M := fun l xs => VRs tab fix' φ' l xs) .nil fun _ _ _ _ a _ ih => .cons (a.mono hf hp) ih
theorem VRs.get (h : VRs tab fix φ l xs) : ∀ {i : Nat} {v : MV}, l[i]? = some v → ∃ x, xs[i]? = some x ∧ VR tab fix φ v x :=
  h.ind (M := fun l xs => ∀ {i : Nat} {v : MV}, l[i]? = some v → ∃ x, xs[i]? = some x ∧ VR tab fix φ v x) (fun {i} _ h => noS (h.symm.trans List.getElem?_nil).symm) fun v x l xs a _ ih {i} {v'} h => match i, h with
    | 0, h => ⟨x, rfl, Option.some.inj h ▸ a⟩
    | i + 1, h => ih (i := i) h
theorem VRs.append (h : VRs tab fix φ l xs) (h2 : VRs tab fix φ m ys) : VRs tab fix φ (l ++ m) (xs ++ ys) :=
  h.ind (M := fun l xs => VRs tab fix φ (l ++ m) (xs ++ ys)) h2 fun _ _ _ _ a _ ih => .cons a ih
theorem VRs.one (h : VR tab fix φ v x) : VRs tab fix φ [v] [x] := .cons h .nil
theorem VRs.take (h : VRs tab fix φ l xs) : ∀ n : Nat, VRs tab fix φ (l.take n) (xs.take n) :=
  h.ind (M := fun l xs => ∀ n : Nat, VRs tab fix φ (l.take n) (xs.take n)) (fun n => by rw [List.take_nil, List.take_nil]; exact .nil) fun _ _ _ _ a _ ih n => match n with
    | 0 => .nil
    | n + 1 => .cons a (ih n)
theorem VRs.drop (h : VRs tab fix φ l xs) : ∀ n : Nat, VRs tab fix φ (l.drop n) (xs.drop n) :=
  h.ind (M := fun l xs => ∀ n : Nat, VRs tab fix φ (l.drop n) (xs.drop n)) (fun n => by rw [List.drop_nil, List.drop_nil]; exact .nil) fun _ _ _ _ a b ih n => match n with
    | 0 => .cons a b
    | n + 1 => ih n
theorem VRs.set (h : VRs tab fix φ l xs) (hv : VR tab fix φ v x) : ∀ n : Nat, VRs tab fix φ (l.set n v) (xs.set n x) :=
  h.ind (M := fun l xs => ∀ n : Nat, VRs tab fix φ (l.set n v) (xs.set n x)) (fun _ => .nil) fun _ _ _ _ a b ih n => match n with
    | 0 => .cons hv b
    | n + 1 => .cons a (ih n)
theorem VRs.reverse (h : VRs tab fix φ l xs) : VRs tab fix φ l.reverse xs.reverse :=
  h.ind (M := fun l xs => VRs tab fix φ l.reverse xs.reverse) .nil fun _ _ _ _ a _ ih => by rw [List.reverse_cons, List.reverse_cons]; exact ih.append (.one a)
theorem VRs.split : ∀ {l : List MV} {xs : List Value}, VRs tab fix φ (l ++ m) xs → ∃ ys zs, xs = ys ++ zs ∧ VRs tab fix φ l ys ∧ VRs tab fix φ m zs
  | [], xs, h => ⟨[], xs, rfl, .nil, h⟩
  | v :: l, _, h => VRs.consI (P := fun xs => ∃ ys zs, xs = ys ++ zs ∧ VRs tab fix φ (v :: l) ys ∧ VRs tab fix φ m zs) (vs := l ++ m) h fun y _ a b => (VRs.split b).elim fun ys q => q.elim fun zs q => ⟨y :: ys, zs, congrArg (y :: ·) q.1, .cons a q.2.1, q.2.2⟩
theorem VRs.snoc_inv (h : VRs tab fix φ l xs) (e : l.getLast? = some v) : ∃ ys x, xs = ys ++ [x] ∧ VR tab fix φ v x ∧ VRs tab fix φ l.dropLast ys := by
  have q : l = l.dropLast ++ [v] := by
    obtain ⟨h1, h2⟩ := List.getLast?_eq_some_iff.mp e
    rw [h2, List.dropLast_concat]
  rw [q] at h
  obtain ⟨ys, zs, e1, h1, h2⟩ := h.split
  exact VRs.consI (P := fun zs => xs = ys ++ zs → ∃ ys x, xs = ys ++ [x] ∧ VR tab fix φ v x ∧ VRs tab fix φ l.dropLast ys) h2 (fun y r a b e => VRs.nilI (P := fun r => xs = ys ++ y :: r → ∃ ys x, xs = ys ++ [x] ∧ VR tab fix φ v x ∧ VRs tab fix φ l.dropLast ys) b (fun e => ⟨ys, y, e, a, h1⟩) e) e1
end

inductive EDs {prog : Program} {w : World} {κ K : Type} [DecidableEq K] (knd : PySem.KeyKind prog w K) (kr : κ → K → Prop) (tab : List Str) (fix : Kp) (φ : List Addr) : List (κ × MV) → List DictEntry → Prop
  | nil : EDs knd kr tab fix φ [] []
  | cons {k : κ} {v : MV} {x : K} {key y : Value} {l : List (κ × MV)} {es : List DictEntry} : kr k x → knd.is x key = true → VR tab fix φ v y → EDs knd kr tab fix φ l es → EDs knd kr tab fix φ ((k, v) :: l) (⟨knd.hash x, key, y⟩ :: es)
theorem EDs.mono {prog : Program} {w : World} {κ K : Type} [DecidableEq K] {knd : PySem.KeyKind prog w K} {kr : κ → K → Prop} {tab : List Str} {fix fix' : Kp} {φ φ' : List Addr} (hf : Le fix fix') (hp : φ <+: φ')
    {l : List (κ × MV)} {es : List DictEntry} (h : EDs knd kr tab fix φ l es) : EDs knd kr tab fix' φ' l es :=
  EDs.rec (motive := fun l es _ => EDs knd kr tab fix' φ' l es) .nil (fun h i v _ r => .cons h i (v.mono hf hp) r) h

noncomputable def krS (tab : List Str) (k : Nat) (x : Str) : Prop := tab[k]? = some x
noncomputable def krI (i j : Int) : Prop := i = j
noncomputable abbrev SDs (prog : Program) (w : World) (tab : List Str) (fix : Kp) (φ : List Addr) (l : List (Nat × MV)) (es : List DictEntry) : Prop := EDs (strKind prog w) (krS tab) tab fix φ l es
noncomputable abbrev NDs (prog : Program) (w : World) (tab : List Str) (fix : Kp) (φ : List Addr) (l : List (Int × MV)) (es : List DictEntry) : Prop := EDs (intKind prog w) krI tab fix φ l es

noncomputable def GR (prog : Program) (w : World) (tab : List Str) (fix : Kp) (φ : List Addr) : GO → Obj → Prop
  | .lst l, o => ∃ (xs : List Value) (n : Nat), o = ⟨.type "list", none, .seq xs.toArray n, #[]⟩ ∧ VRs tab fix φ l xs ∧ l.length ≤ 4096
  | .sd l, o => ∃ (es : List DictEntry) (n : Nat), o = ⟨.type "dict", none, .dict es.toArray n, #[]⟩ ∧ SDs prog w tab fix φ l es ∧ (l.map (·.1)).Nodup ∧ l.length ≤ 4096
  | .nd ep l, o => ∃ (es : List DictEntry), o = ⟨.type "dict", none, .dict es.toArray ep, #[]⟩ ∧ NDs prog w tab fix φ l es ∧ (l.map (·.1)).Nodup ∧ l.length ≤ 4096
theorem GR.mono {prog : Program} {w : World} {tab : List Str} {fix fix' : Kp} {φ φ' : List Addr} (hf : Le fix fix') (hp : φ <+: φ') {g : GO} {o : Obj} (h : GR prog w tab fix φ g o) : GR prog w tab fix' φ' g o := by
  cases g with
  | lst l => exact h.elim fun xs h => h.elim fun n h => ⟨xs, n, h.1, h.2.1.mono hf hp, h.2.2⟩
  | sd l => exact h.elim fun es h => h.elim fun n h => ⟨es, n, h.1, EDs.mono hf hp h.2.1, h.2.2⟩
  | nd ep l => exact h.elim fun es h => ⟨es, h.1, EDs.mono hf hp h.2.1, h.2.2⟩
theorem GR.notFreed {prog : Program} {w : World} {tab : List Str} {fix : Kp} {φ : List Addr} {g : GO} {o : Obj} (h : GR prog w tab fix φ g o) : o.isFreed = false := by
  cases g with
  | lst l => exact h.elim fun xs h => h.elim fun n h => by rw [h.1]; rfl
  | sd l => exact h.elim fun es h => h.elim fun n h => by rw [h.1]; rfl
  | nd ep l => exact h.elim fun es h => by rw [h.1]; rfl

structure CX where
  prog : Program
  w : World
  S : Sta
  P : Prog
  K : Frag
  hb : Heap
  mg : Str → Option Value
  mb : Str → Option Value
  gs : Array GenState
  os : OsState

noncomputable abbrev CX.M (c : CX) : Model := model c.prog c.w
noncomputable abbrev CX.VR (c : CX) := Mine.VR c.S.tab
noncomputable abbrev CX.VRs (c : CX) := Mine.VRs c.S.tab
noncomputable abbrev CX.GR (c : CX) := Mine.GR c.prog c.w c.S.tab

structure Rel (c : CX) (fix kp : Kp) (φ : List Addr) (G : GH) (h : Heap) : Prop where
  base : ∀ a o, c.hb.get? a = some o → fix a = some o
  fixK : ∀ a o, fix a = some o → h.get? a = some o
  kpK : ∀ a o, kp a = some o → h.get? a = some o
  dj : ∀ a o, kp a = some o → fix a = none
  len : φ.length = G.length
  nd : φ.Nodup
  out : ∀ a ∈ φ, fix a = none ∧ kp a = none
  obj : ∀ (i : Nat) (a : Addr) (g : GO), φ[i]? = some a → G[i]? = some g → ∃ o, h.get? a = some o ∧ c.GR fix φ g o
  st : (c.hb.get? cStatics).isSome = true
  lo : ∀ a ∈ φ, sysModules < a

noncomputable def St (c : CX) (fix kp : Kp) (φ : List Addr) (G : GH) (s : Shared) : Prop := Rel c fix kp φ G s.heap ∧ s.gens = c.gs ∧ s.os = c.os

section
variable {c : CX} {fix kp : Kp} {φ : List Addr} {G : GH} {h h' : Heap}

theorem Rel.at (R : Rel c fix kp φ G h) {i : Nat} {g : GO} (e : G[i]? = some g) : ∃ a o, φ[i]? = some a ∧ h.get? a = some o ∧ c.GR fix φ g o := by
  have hi : i < φ.length := by rw [R.len]; exact (List.getElem?_eq_some_iff.mp e).1
  obtain ⟨o, ho, hg⟩ := R.obj i φ[i] g (List.getElem?_eq_getElem hi) e
  exact ⟨_, o, List.getElem?_eq_getElem hi, ho, hg⟩
theorem Rel.goAt (R : Rel c fix kp φ G h) {i : Nat} {g : GO} {a : Addr} (e : G[i]? = some g) (ea : φ[i]? = some a) : ∃ o, h.get? a = some o ∧ c.GR fix φ g o := R.obj i a g ea e
theorem Rel.mem {c : CX} {fix kp : Kp} {φ : List Addr} {G : GH} {h : Heap} (R : Rel c fix kp φ G h) {i : Nat} {a : Addr} (ea : φ[i]? = some a) : fix a = none ∧ kp a = none := R.out a (List.mem_of_getElem? ea)
theorem Rel.live (R : Rel c fix kp φ G h) {a : Addr} (ha : a ∈ φ) : (h.get? a).isSome = true := by
  obtain ⟨i, hi, rfl⟩ := List.mem_iff_getElem.mp ha
  have hg : i < G.length := by rw [← R.len]; exact hi
  obtain ⟨o, ho, _⟩ := R.obj i _ _ (List.getElem?_eq_getElem hi) (List.getElem?_eq_getElem hg)
  rw [ho]; rfl
theorem Rel.lt (R : Rel c fix kp φ G h) {a : Addr} (ha : a ∈ φ) : a < h.objs.size := by
  obtain ⟨o, ho⟩ := Option.isSome_iff_exists.mp (R.live ha)
  exact Heap.lt_size ho
theorem get_size (h : Heap) : h.get? h.objs.size = none := by
  cases e : h.get? h.objs.size with
  | none => rfl
  | some o => exact absurd (Heap.lt_size e) (Nat.lt_irrefl _)
theorem get_ge {h : Heap} {a : Addr} (hz : h.objs.size ≤ a) : h.get? a = none := by
  cases e : h.get? a with
  | none => rfl
  | some o => exact absurd (Heap.lt_size e) (Nat.not_lt.mpr hz)
theorem Rel.fixLt (R : Rel c fix kp φ G h) {a : Addr} (hz : h.objs.size ≤ a) : fix a = none := by
  cases e : fix a with
  | none => rfl
  | some o => have := R.fixK a o e; rw [get_ge hz] at this; cases this
theorem Rel.kpLt (R : Rel c fix kp φ G h) {a : Addr} (hz : h.objs.size ≤ a) : kp a = none := by
  cases e : kp a with
  | none => rfl
  | some o => have := R.kpK a o e; rw [get_ge hz] at this; cases this

theorem Rel.heap (R : Rel c fix kp φ G h) (hk : ∀ a o, ((fix a).isSome = true ∨ (kp a).isSome = true ∨ a ∈ φ) → h.get? a = some o → h'.get? a = some o) : Rel c fix kp φ G h' where
  base := R.base
  fixK a o e := hk a o (.inl (by rw [e]; rfl)) (R.fixK a o e)
  kpK a o e := hk a o (.inr (.inl (by rw [e]; rfl))) (R.kpK a o e)
  dj := R.dj
  len := R.len
  nd := R.nd
  out := R.out
  obj i a g ea eg := by
    obtain ⟨o, ho, hg⟩ := R.obj i a g ea eg
    exact ⟨o, hk a o (.inr (.inr (List.mem_of_getElem? ea))) ho, hg⟩
  st := R.st
  lo := R.lo
theorem Rel.ext (R : Rel c fix kp φ G h) (hk : ∀ a o, h.get? a = some o → h'.get? a = some o) : Rel c fix kp φ G h' := R.heap fun a o _ e => hk a o e
theorem Rel.push (R : Rel c fix kp φ G h) (o : Obj) : Rel c fix kp φ G (h.push o) := R.ext fun _ _ e => Heap.get?_push_of_some o e

theorem Rel.freeze (R : Rel c fix kp φ G h) {a : Addr} {o : Obj} (ha : h.get? a = some o) (hk : kp a = none) (hp : a ∉ φ) (hf : fix a = none) :
    Rel c (upd fix a (some o)) kp φ G h ∧ Le fix (upd fix a (some o)) := by
  have hle : Le fix (upd fix a (some o)) := fun b x e => by
    by_cases hb : b = a
    · subst hb; rw [hf] at e; cases e
    · rw [upd_ne _ _ hb]; exact e
  refine ⟨⟨fun b x e => hle b x (R.base b x e), fun b x e => ?_, R.kpK, fun b x e => ?_, R.len, R.nd, fun b hb => ?_, fun i b g ea eg => ?_, R.st, R.lo⟩, hle⟩
  · by_cases hb : b = a
    · subst hb; rw [upd_self] at e; cases e; exact ha
    · rw [upd_ne _ _ hb] at e; exact R.fixK b x e
  · have hb : b ≠ a := by rintro rfl; rw [hk] at e; cases e
    rw [upd_ne _ _ hb]; exact R.dj b x e
  · have hb' : b ≠ a := by rintro rfl; exact hp hb
    rw [upd_ne _ _ hb']; exact R.out b hb
  · obtain ⟨x, hx, hg⟩ := R.obj i b g ea eg
    exact ⟨x, hx, hg.mono hle (List.prefix_refl _)⟩
theorem Rel.hold (R : Rel c fix kp φ G h) {a : Addr} {o : Obj} (ha : h.get? a = some o) (hf : fix a = none) (hp : a ∉ φ) : Rel c fix (upd kp a (some o)) φ G h where
  base := R.base
  fixK := R.fixK
  kpK b x e := by
    by_cases hb : b = a
    · subst hb; rw [upd_self] at e; cases e; exact ha
    · rw [upd_ne _ _ hb] at e; exact R.kpK b x e
  dj b x e := by
    by_cases hb : b = a
    · subst hb; exact hf
    · rw [upd_ne _ _ hb] at e; exact R.dj b x e
  len := R.len
  nd := R.nd
  out b hb := by
    have hb' : b ≠ a := by rintro rfl; exact hp hb
    rw [upd_ne _ _ hb']; exact R.out b hb
  obj := R.obj
  st := R.st
  lo := R.lo
theorem Rel.less (R : Rel c fix kp φ G h) {kp' : Kp} (hk : Le kp' kp) : Rel c fix kp' φ G h where
  base := R.base
  fixK := R.fixK
  kpK a o e := R.kpK a o (hk a o e)
  dj a o e := R.dj a o (hk a o e)
  len := R.len
  nd := R.nd
  out a ha := ⟨(R.out a ha).1, by
    cases e : kp' a with
    | none => rfl
    | some o => have := hk a o e; rw [(R.out a ha).2] at this; cases this⟩
  obj := R.obj
  st := R.st
  lo := R.lo
theorem Rel.grow (R : Rel c fix kp φ G h) {a : Addr} {o : Obj} {g : GO} (ha : h.get? a = some o) (hf : fix a = none) (hk : kp a = none) (hp : a ∉ φ) (hg : c.GR fix (φ ++ [a]) g o) (hlo : sysModules < a) : Rel c fix kp (φ ++ [a]) (G ++ [g]) h where
  base := R.base
  fixK := R.fixK
  kpK := R.kpK
  dj := R.dj
  len := by rw [List.length_append, List.length_append, R.len]; rfl
  nd := List.nodup_append.mpr ⟨R.nd, by simp, fun x hx y hy => by
    rw [List.mem_singleton] at hy; subst hy; rintro rfl; exact hp hx⟩
  out b hb := by
    rcases List.mem_append.mp hb with hb | hb
    · exact R.out b hb
    · rw [List.mem_singleton] at hb; subst hb; exact ⟨hf, hk⟩
  obj i b x ea eg := by
    by_cases hi : i < φ.length
    · rw [List.getElem?_append_left hi] at ea
      rw [List.getElem?_append_left (by rw [← R.len]; exact hi)] at eg
      obtain ⟨o', ho', hg'⟩ := R.obj i b x ea eg
      exact ⟨o', ho', hg'.mono (Le.refl _) (List.prefix_append _ _)⟩
    · have hi' : i = φ.length := by
        have := (List.getElem?_eq_some_iff.mp ea).1
        rw [List.length_append] at this
        simp only [List.length_cons, List.length_nil] at this
        omega
      subst hi'
      rw [List.getElem?_append_right (Nat.le_refl _), Nat.sub_self] at ea
      rw [R.len, List.getElem?_append_right (Nat.le_refl _), Nat.sub_self] at eg
      cases ea; cases eg
      exact ⟨o, ha, hg⟩
  st := R.st
  lo b hb := by
    rcases List.mem_append.mp hb with hb | hb
    · exact R.lo b hb
    · rw [List.mem_singleton] at hb; subst hb; exact hlo
theorem Rel.size (R : Rel c fix kp φ G h) {a : Addr} (ha : h.objs.size ≤ a) : sysModules < a := by
  obtain ⟨o, ho⟩ := Option.isSome_iff_exists.mp R.st
  have := Heap.lt_size (R.fixK _ _ (R.base _ _ ho))
  exact Nat.lt_of_lt_of_le (Nat.lt_trans (show (1 : Nat) < 2 by decide) this) ha
theorem Rel.set (R : Rel c fix kp φ G h) {i : Nat} {a : Addr} {o : Obj} {g : GO} (ea : φ[i]? = some a) (hs : ∀ b, b ≠ a → ∀ x, h.get? b = some x → h'.get? b = some x) (ho : h'.get? a = some o) (hg : c.GR fix φ g o) : Rel c fix kp φ (G.set i g) h' where
  base := R.base
  fixK b x e := hs b (by rintro rfl; rw [(R.mem ea).1] at e; cases e) x (R.fixK b x e)
  kpK b x e := hs b (by rintro rfl; rw [(R.mem ea).2] at e; cases e) x (R.kpK b x e)
  dj := R.dj
  len := by rw [List.length_set]; exact R.len
  nd := R.nd
  out := R.out
  obj j b x eb eg := by
    by_cases hj : j = i
    · subst hj
      rw [ea] at eb; cases eb
      have hlt : j < G.length := by rw [← R.len]; exact (List.getElem?_eq_some_iff.mp ea).1
      rw [List.getElem?_set_self hlt] at eg; cases eg
      exact ⟨o, ho, hg⟩
    · rw [List.getElem?_set_ne (Ne.symm hj)] at eg
      obtain ⟨y, hy, hg'⟩ := R.obj j b x eb eg
      refine ⟨y, hs b ?_ y hy, hg'⟩
      rintro rfl
      exact hj ((List.getElem?_inj (List.getElem?_eq_some_iff.mp eb).1 R.nd).mp (eb.trans ea.symm))
  st := R.st
  lo := R.lo
end

theorem St.rel {c : CX} {fix kp : Kp} {φ : List Addr} {G : GH} {s : Shared} (h : St c fix kp φ G s) : Rel c fix kp φ G s.heap := h.1

end Mine
end
section
set_option autoImplicit false
namespace Mine
open PySem PySem.W PyProof.Rows PySem.Calls

noncomputable def Ev (c : CX) (A : Around) (fix kp : Kp) (φ : List Addr) {α : Type} (t : Sem α) (s : Shared) (G' : GH) (R : Kp → List Addr → α → Prop) : Prop :=
  ∀ (E : Value → Shared → Prop) (Q : α → Shared → Prop), (∀ fix' φ' x s', Le fix fix' → φ <+: φ' → St c fix' kp φ' G' s' → R fix' φ' x → Q x s') → wpAny c.M A t Q E s

structure AOk (A : Around) (d : Nat) : Prop where
  handled : A.handled = none
  depth : A.depth + 4 * (d + 1) + 3 < recursionLimit
  units : A.units + 20 * (d + 1) + 90 < cLine
structure AOkC (A : Around) (d : Nat) : Prop where
  handled : A.handled = none
  depth : A.depth + 4 * (d + 1) < recursionLimit
  units : A.units + 20 * (d + 1) + 80 < cLine
theorem AOk.call {A : Around} {d : Nat} (h : AOk A d) : AOkC A d := ⟨h.handled, by have := h.depth; omega, by have := h.units; omega⟩
theorem AOkC.body {A : Around} {d : Nat} (h : AOkC A (d + 1)) (env : Env) : AOk (A.deeper env) d :=
  ⟨h.handled, by have := h.depth; show A.depth + 1 + _ + 3 < _; omega, by have := h.units; show A.units + 3 + _ + 90 < _; omega⟩

section
variable {c : CX} {A : Around} {fix kp : Kp} {φ : List Addr} {G : GH} {s : Shared} {d : Nat}

theorem St.toks (S : St c fix kp φ G s) (t : Nat) : St c fix kp φ G { s with toks := t } := S

theorem Ev.same {α : Type} {t : Sem α} {R : Kp → List Addr → α → Prop} (S : St c fix kp φ G s) (h : ∀ (E : Value → Shared → Prop) (Q : α → Shared → Prop), (∀ x tk, R fix φ x → Q x { s with toks := tk }) → wpAny c.M A t Q E s) : Ev c A fix kp φ t s G R :=
  fun E Q k => h E Q fun x tk r => k fix φ x _ (Le.refl _) (List.prefix_refl _) (S.toks tk) r

theorem St.frz (S : St c fix kp φ G s) {h' : Heap} {a : Addr} {o : Obj} (hk : ∀ b x, s.heap.get? b = some x → h'.get? b = some x) (ha : h'.get? a = some o) (hn : s.heap.get? a = none) :
    ∃ fix', Le fix fix' ∧ fix' a = some o ∧ ∀ tk, St c fix' kp φ G { s with heap := h', toks := tk } := by
  have R := S.1.ext hk
  have hf : fix a = none := by
    cases e : fix a with
    | none => rfl
    | some x => have := S.1.fixK a x e; rw [hn] at this; cases this
  have hkp : kp a = none := by
    cases e : kp a with
    | none => rfl
    | some x => have := S.1.kpK a x e; rw [hn] at this; cases this
  have hp : a ∉ φ := fun q => by have := S.1.live q; rw [hn] at this; cases this
  obtain ⟨R', l⟩ := R.freeze ha hkp hp hf
  exact ⟨_, l, upd_self _ _ _, fun tk => ⟨R', S.2.1, S.2.2⟩⟩
theorem St.frzPush (S : St c fix kp φ G s) {o : Obj} (ho : o.isFreed = false) :
    ∃ fix', Le fix fix' ∧ fix' s.heap.objs.size = some o ∧ ∀ tk, St c fix' kp φ G { s with heap := s.heap.push o, toks := tk } :=
  S.frz (fun _ _ e => Heap.get?_push_of_some o e) (Heap.get?_push_size _ ho) (get_size _)

section
variable {tab : List Str} {fx : Kp} {ph : List Addr} {x : Value} {P : Value → Prop}
theorem intV {i : Int} (h : VR tab fx ph (.int i) x) (g : ∀ t, P (.int i t)) : P x := by cases h; exact g _
theorem strV {k : Nat} (h : VR tab fx ph (.str k) x) (g : ∀ n t, tab[k]? = some n → P (.str n t)) : P x := by cases h; exact g _ _ (by assumption)
theorem noneV (h : VR tab fx ph .none x) (g : P .none) : P x := by cases h; exact g
theorem boolV {b : Bool} (h : VR tab fx ph (.bool b) x) (g : P (.bool b)) : P x := by cases h; exact g
theorem refV {i : Nat} (h : VR tab fx ph (.ref i) x) (g : ∀ a, ph[i]? = some a → P (.ref a)) : P x := by cases h; exact g _ (by assumption)
theorem lstV {l : List MV} (h : VR tab fx ph (.lst l) x) (g : ∀ a xs n, fx a = some ⟨.type "list", Option.none, .seq xs.toArray n, #[]⟩ → VRs tab fx ph l xs → l.length ≤ 4096 → P (.ref a)) : P x := by cases h; exact g _ _ _ (by assumption) (by assumption) (by assumption)
theorem tupV {l : List MV} (h : VR tab fx ph (.tup l) x) (g : ∀ a xs n, fx a = some ⟨.type "tuple", Option.none, .seq xs.toArray n, #[]⟩ → VRs tab fx ph l xs → l.length ≤ 4096 → P (.ref a)) : P x := by cases h; exact g _ _ _ (by assumption) (by assumption) (by assumption)
theorem objV {C i : Nat} (h : VR tab fx ph (.obj C i) x) (g : ∀ a d, fx a = some (instObj C d) → ph[i]? = some d → P (.ref a)) : P x := by cases h; exact g _ _ (by assumption) (by assumption)
end
theorem St.go (S : St c fix kp φ G s) {i : Nat} {a : Addr} {l : List MV} {P : Prop} (hp : φ[i]? = some a) (hg : G[i]? = some (.lst l)) (g : ∀ xs n, s.heap.get? a = some ⟨.type "list", none, .seq xs.toArray n, #[]⟩ → c.VRs fix φ l xs → l.length ≤ 4096 → P) : P := by
  obtain ⟨o, ho, xs, n, e, r, z⟩ := S.1.goAt hg hp
  exact g xs n (e ▸ ho) r z
theorem St.gd (S : St c fix kp φ G s) {i : Nat} {a : Addr} {l : List (Nat × MV)} {P : Prop} (hp : φ[i]? = some a) (hg : G[i]? = some (.sd l)) (g : ∀ es n, s.heap.get? a = some ⟨.type "dict", none, .dict es.toArray n, #[]⟩ → SDs c.prog c.w c.S.tab fix φ l es → (l.map (·.1)).Nodup → l.length ≤ 4096 → P) : P := by
  obtain ⟨o, ho, xs, n, e, r, z⟩ := S.1.goAt hg hp
  exact g xs n (e ▸ ho) r z.1 z.2
theorem St.gn (S : St c fix kp φ G s) {i : Nat} {a : Addr} {ep : Nat} {l : List (Int × MV)} {P : Prop} (hp : φ[i]? = some a) (hg : G[i]? = some (.nd ep l)) (g : ∀ es, s.heap.get? a = some ⟨.type "dict", none, .dict es.toArray ep, #[]⟩ → NDs c.prog c.w c.S.tab fix φ l es → (l.map (·.1)).Nodup → l.length ≤ 4096 → P) : P := by
  obtain ⟨o, ho, xs, e, r, z⟩ := S.1.goAt hg hp
  exact g xs (e ▸ ho) r z.1 z.2
theorem lsO_k {l : List MV} {v : MV} {P : MV → Prop} (e : lsO G v = some l) (g1 : P (.lst l)) (g2 : ∀ i, G[i]? = some (.lst l) → P (.ref i)) : P v := by
  cases v with
  | lst m => exact Option.some.inj e ▸ g1
  | ref i => exact g2 i (hL_at e)
  | _ => exact noS e
theorem sqO_k {l : List MV} {v : MV} {P : MV → Prop} (e : sqO G v = some l) (g1 : P (.tup l)) (g2 : lsO G v = some l → P v) : P v := by
  cases v with
  | tup m => exact Option.some.inj e ▸ g1
  | _ => exact g2 e
theorem lstK (S : St c fix kp φ G s) {l : List MV} {x : Value} {v : MV} {P : Value → Prop} (h : c.VR fix φ v x) (e : lsO G v = some l) (g : ∀ a xs n, s.heap.get? a = some ⟨.type "list", none, .seq xs n, #[]⟩ → c.VRs fix φ l xs.toList → l.length ≤ 4096 → P (.ref a)) : P x :=
  lsO_k (P := fun v => c.VR fix φ v x → P x) e (fun h => lstV h fun a xs n hf r z => g a xs.toArray n (S.1.fixK _ _ hf) r z) (fun i hg h => refV h fun a hp => S.go hp hg fun xs n ho r z => g a xs.toArray n ho r z) h
theorem lstIn (S : St c fix kp φ G s) {l : List MV} {x : Value} {v : MV} (h : c.VR fix φ v x) (e : lsO G v = some l) :
    ∃ a xs n, x = .ref a ∧ s.heap.get? a = some ⟨.type "list", none, .seq xs n, #[]⟩ ∧ c.VRs fix φ l xs.toList ∧ l.length ≤ 4096 :=
  lstK (P := fun x => ∃ a xs n, x = .ref a ∧ s.heap.get? a = some ⟨.type "list", none, .seq xs n, #[]⟩ ∧ c.VRs fix φ l xs.toList ∧ l.length ≤ 4096) S h e fun a xs n h1 h2 h3 => ⟨a, xs, n, rfl, h1, h2, h3⟩
theorem seqK (S : St c fix kp φ G s) {l : List MV} {x : Value} {v : MV} {P : Value → Prop} (h : c.VR fix φ v x) (e : sqO G v = some l) (g : ∀ a xs n T, (T = "list" ∨ T = "tuple") → s.heap.get? a = some ⟨.type T, none, .seq xs n, #[]⟩ → c.VRs fix φ l xs.toList → l.length ≤ 4096 → P (.ref a)) : P x :=
  sqO_k (P := fun v => c.VR fix φ v x → P x) e (fun h => tupV h fun a xs n hf r z => g a xs.toArray n "tuple" (.inr rfl) (S.1.fixK _ _ hf) r z) (fun e h => lstK S h e fun a xs n h1 h2 h3 => g a xs n "list" (.inl rfl) h1 h2 h3) h
theorem isL {h : Heap} {a : Addr} {xs : Array Value} {n : Nat} {dd : Option Addr} {sl : Array (Option Value)} (e : h.get? a = some ⟨.type "list", dd, .seq xs n, sl⟩) : h.IsList a xs := ⟨_, e, rfl, n, rfl⟩
theorem sizeOk {l : List MV} {xs : Array Value} (r : c.VRs fix φ l xs.toList) (z : l.length ≤ 4096) : xs.size ≤ 4096 := by
  have e := VRs.length r
  have e2 : xs.toList.length = xs.size := Array.length_toList
  omega
theorem sizeLine_ge {n : Nat} (h : n ≤ 8192) : n ≤ sizeLine := by unfold sizeLine; omega

theorem intsK {v : MV} {l : List MV} {ns : List Int} {P : MV → List Int → Prop} (e : intsO (v :: l) = some ns) (g : ∀ i ms, intsO l = some ms → P (.int i) (i :: ms)) : P v ns :=
  (Option.bind_eq_some_iff.mp (show (iInt v).bind (fun i => (intsO l).map (i :: ·)) = some ns from e)).elim fun i q => (Option.map_eq_some_iff.mp q.2).elim fun ms q2 => iInt_k (P := fun v => P v ns) q.1 (q2.2 ▸ g i ms q2.1)
theorem intsIn {l : List MV} {xs : List Value} (h : c.VRs fix φ l xs) : ∀ {ns : List Int}, intsO l = some ns → IntsAre xs ns :=
  h.ind (M := fun l xs => ∀ {ns : List Int}, intsO l = some ns → IntsAre xs ns) (fun e => Option.some.inj e ▸ .nil) fun v x l xs h _ ih ns e =>
    intsK (P := fun v ns => c.VR fix φ v x → IntsAre (x :: xs) ns) e (fun i ms e h => intV (P := fun x => IntsAre (x :: xs) (i :: ms)) h fun t => .cons i t (ih e)) h
theorem intsOut {xs : List Value} {ns : List Int} (h : IntsAre xs ns) : c.VRs fix φ (ns.map .int) xs := by
  induction h with
  | nil => exact .nil
  | cons i t _ ih => exact .cons (.int i t) ih
theorem intsO_length : ∀ {l : List MV} {ns : List Int}, intsO l = some ns → l.length = ns.length
  | [], ns, e => by cases e; rfl
  | v :: l, ns, e => intsK (P := fun _ ns => l.length + 1 = ns.length) e fun i ms e => congrArg Nat.succ (intsO_length e)

theorem small_iff {a : Int} (h : small a = true) : -18446744073709551616 < a ∧ a < 18446744073709551616 := of_decide_eq_true h

theorem small_bits {a : Int} (h : small a = true) : Builtin.Int.intBits a ≤ 64 := by
  have ha : a.natAbs < 2 ^ 64 := by have := small_iff h; omega
  unfold Builtin.Int.intBits
  split
  · omega
  · rename_i hz
    have hz' : a.natAbs ≠ 0 := by intro q; exact hz (by simp [Int.natAbs_eq_zero.mp q])
    have := (Nat.log2_lt hz').mpr ha
    omega
theorem mulOk {a b : Int} (h : small a = true) : IntMulOk a b := by
  unfold IntMulOk
  have := small_bits h
  have e : decide (Builtin.Int.intBits a > shortFactorBits) = false := decide_eq_false (by unfold shortFactorBits; omega)
  rw [e]; simp
theorem divOk {a b : Int} (h : small b = true) : Builtin.divisionGoesByPylong a b = false := by
  have hb : b.natAbs < 2 ^ 64 := by have := small_iff h; omega
  unfold Builtin.divisionGoesByPylong
  have e : decide ((if (b == 0) = true then 0 else b.natAbs.log2 / 30 + 1) > 300) = false := by
    apply decide_eq_false
    split
    · omega
    · rename_i hz
      have hz' : b.natAbs ≠ 0 := by intro q; exact hz (by simp [Int.natAbs_eq_zero.mp q])
      have := (Nat.log2_lt hz').mpr hb
      omega
  simp only [e, Bool.false_and]
theorem and1 {a : Int} (h : 0 ≤ a) : Builtin.bitAnd a 1 = a % 2 := by
  obtain ⟨n, rfl⟩ := Int.eq_ofNat_of_zero_le h
  unfold Builtin.bitAnd
  have e1 : decide ((0 : Int) ≤ (n : Int)) = true := decide_eq_true h
  have e2 : decide ((0 : Int) ≤ 1) = true := rfl
  rw [e1, e2]
  show ((n &&& 1 : Nat) : Int) = (n : Int) % 2
  rw [Nat.and_one_is_mod]; omega

theorem addLists (S : St c fix kp φ G s) {a b v : MV} {x y : Value} {l m : List MV} (hl : lsO G a = some l) (hm : lsO G b = some m) (hz : l.length + m.length < 4096) (hv : .lst (l ++ m) = v) (va : c.VR fix φ a x) (vb : c.VR fix φ b y) :
    Ev c A fix kp φ (binaryOp .Add x y) s G (fun f p z => c.VR f p v z) := by
  rw [← hv]
  refine lstK (P := fun x => Ev c A fix kp φ (binaryOp .Add x y) s G (fun f p z => c.VR f p (.lst (l ++ m)) z)) S va hl fun p xs n hx rx zx => ?_
  refine lstK (P := fun y => Ev c A fix kp φ (binaryOp .Add (.ref p) y) s G (fun f p z => c.VR f p (.lst (l ++ m)) z)) S vb hm fun q ys k hy ry zy => ?_
  intro E Q k'
  refine concat_meets ⟨_, hx, rfl⟩ ⟨_, hy, rfl⟩ noFill_list_add seq_list_add PySem.F.slot_list_add PySem.F.entry_list_add (PySem.F.args_list_add_2 _ _) (list_addW p q xs ys n k none none #[] #[] (sizeLine_ge (Nat.add_le_add (sizeOk rx zx) (sizeOk ry zy)))) ⟨hx, hy, ?_⟩
  obtain ⟨fix', le, hf, st⟩ := S.frzPush (o := ⟨.type "list", none, .seq (xs ++ ys) 0, #[]⟩) rfl
  exact k' fix' φ _ _ le (List.prefix_refl _) (st _) (VR.lst (xs := xs.toList ++ ys.toList) (n := 0) (by rw [hf]; simp) ((rx.append ry).mono le (List.prefix_refl _)) (by rw [List.length_append]; exact Nat.le_of_lt hz))

noncomputable def Same (c : CX) (A : Around) (fix : Kp) (φ : List Addr) (s : Shared) (v : MV) (t : Sem Value) : Prop := ∀ (E : Value → Shared → Prop) (Q : Value → Shared → Prop), (∀ z tk, c.VR fix φ v z → Q z { s with toks := tk }) → wpAny c.M A t Q E s
theorem binInt {op : Operator} {a b v : MV} {x y : Value} {K : Int → Int → Option MV} (h : i2 a b K = some v) (S : St c fix kp φ G s) (va : c.VR fix φ a x) (vb : c.VR fix φ b y) (g : ∀ i j t u, K i j = some v → Same c A fix φ s v (binaryOp op (.int i t) (.int j u))) : Ev c A fix kp φ (binaryOp op x y) s G (fun f p z => c.VR f p v z) :=
  Ev.same S (i2_k (P := fun a b => c.VR fix φ a x → c.VR fix φ b y → Same c A fix φ s v (binaryOp op x y)) h (fun i j h va vb => intV (P := fun x => Same c A fix φ s v (binaryOp op x y)) va fun t => intV (P := fun y => Same c A fix φ s v (binaryOp op (.int i t) y)) vb fun u => g i j t u h) va vb)
theorem isI {i : Int} {v : MV} {t : Tok} (h : some (MV.int i) = some v) : c.VR fix φ v (.int i t) := Option.some.inj h ▸ .int i t
theorem oif' {α : Type} {p : Prop} [Decidable p] {a : Option α} {b : α} (h : (if p then a else none) = some b) : p ∧ a = some b := by
  by_cases hp : p
  · rw [if_pos hp] at h; exact ⟨hp, h⟩
  · rw [if_neg hp] at h; cases h
theorem kEq' {α : Type} [BEq α] [LawfulBEq α] {a b : α} {P : α → Prop} (h : (a == b) = true) (g : P b) : P a := eq_of_beq h ▸ g

theorem binO_ok {o : B2} {op : Operator} {a b v : MV} {x y : Value} (h : binO G o a b = some v) (hop : b2Ok o op = true) (S : St c fix kp φ G s) (va : c.VR fix φ a x) (vb : c.VR fix φ b y) :
    Ev c A fix kp φ (binaryOp op x y) s G (fun f p z => c.VR f p v z) := by
  cases o with
  | add =>
    refine kEq' (P := fun op => Ev c A fix kp φ (binaryOp op x y) s G (fun f p z => c.VR f p v z)) hop ?_
    cases e : iInt a with
    | some i =>
      refine binInt (K := fun a b => some (.int (a + b))) (a := a) (b := b) ?_ S va vb fun i j t u h E Q k => add_int (k _ _ (isI h))
      have h' : (match iInt a with
        | some a => (iInt b).map fun b => MV.int (a + b)
        | none => (lsO G a).bind fun a => (lsO G b).bind fun b => if a.length + b.length < 4096 then some (.lst (a ++ b)) else none) = some v := h
      rw [e] at h'
      unfold i2
      rw [e]
      obtain ⟨j, h1, h2⟩ := Option.map_eq_some_iff.mp h'
      rw [h1, ← h2]; rfl
    | none =>
      have h' : (match iInt a with
        | some a => (iInt b).map fun b => MV.int (a + b)
        | none => (lsO G a).bind fun a => (lsO G b).bind fun b => if a.length + b.length < 4096 then some (.lst (a ++ b)) else none) = some v := h
      rw [e] at h'
      obtain ⟨l, h1, h2⟩ := Option.bind_eq_some_iff.mp h'
      obtain ⟨m, h3, h4⟩ := Option.bind_eq_some_iff.mp h2
      exact addLists S h1 h3 (oif' h4).1 (Option.some.inj (oif' h4).2) va vb
  | sub => exact kEq' (P := fun op => Ev c A fix kp φ (binaryOp op x y) s G (fun f p z => c.VR f p v z)) hop (binInt h S va vb fun i j t u h E Q k => sub_int (k _ _ (isI h)))
  | mul => exact kEq' (P := fun op => Ev c A fix kp φ (binaryOp op x y) s G (fun f p z => c.VR f p v z)) hop (binInt h S va vb fun i j t u h E Q k => mul_int (k _ _ (isI (oif' h).2)) (mulOk (Bool.and_eq_true_iff.mp (oif' h).1).1))
  | mod => exact kEq' (P := fun op => Ev c A fix kp φ (binaryOp op x y) s G (fun f p z => c.VR f p v z)) hop (binInt h S va vb fun i j t u h E Q k => mod_int' (oif' h).1 (k _ _ (isI (oif' h).2)))
  | fdiv => exact kEq' (P := fun op => Ev c A fix kp φ (binaryOp op x y) s G (fun f p z => c.VR f p v z)) hop (binInt h S va vb fun i j t u h E Q k => floordiv_int (oif' h).1.1 (k _ _ (isI (oif' h).2)) (.inl (divOk (oif' h).1.2.2)))
  | shr => exact kEq' (P := fun op => Ev c A fix kp φ (binaryOp op x y) s G (fun f p z => c.VR f p v z)) hop (binInt h S va vb fun i j t u h E Q k => rshift_int (oif' h).1 (k _ _ (isI (oif' h).2)))
  | band => exact kEq' (P := fun op => Ev c A fix kp φ (binaryOp op x y) s G (fun f p z => c.VR f p v z)) hop (binInt h S va vb fun i j t u h E Q k => and_int (by rw [(oif' h).1.1, and1 (oif' h).1.2]; exact k _ _ (isI (oif' h).2)))

theorem negO_ok {a v : MV} {x : Value} (h : negO a = some v) (S : St c fix kp φ G s) (va : c.VR fix φ a x) :
    Ev c A fix kp φ (unaryOp .USub x) s G (fun f p z => c.VR f p v z) :=
  (Option.map_eq_some_iff.mp h).elim fun i h => Ev.same S (iInt_k (P := fun a => c.VR fix φ a x → Same c A fix φ s v (unaryOp .USub x)) h.1 (fun va => intV (P := fun x => Same c A fix φ s v (unaryOp .USub x)) va fun t E Q k => neg_int (k _ _ (isI (congrArg some h.2)))) va)
end
end Mine
end
section
set_option autoImplicit false
namespace Mine
open PySem PySem.W PyProof.Rows PySem.Calls PySem.Spec

mutual
noncomputable def toPy : DT → PyData
  | .none => .none
  | .bool b => .bool b
  | .int i => .int i
  | .tup l => .tuple (toPys l)
  | .lst l => .list (toPys l)
noncomputable def toPys : List DT → List PyData
  | [] => []
  | d :: r => toPy d :: toPys r
end
theorem dEq_py (a : DT) : ∀ b : DT, (toPy a).eqv (toPy b) = dEq a b :=
  DT.rec (motive_1 := fun a => ∀ b, (toPy a).eqv (toPy b) = dEq a b) (motive_2 := fun a => ∀ b, PyData.eqvAll (toPys a) (toPys b) = dEqs a b)
    (fun b => by cases b <;> rfl) (fun x b => by cases b <;> first | rfl | (rename_i y; cases x <;> cases y <;> rfl)) (fun x b => by cases b <;> rfl)
    (fun l ih b => by cases b <;> first | rfl | exact ih _) (fun l ih b => by cases b <;> first | rfl | exact ih _)
    (fun b => by cases b <;> rfl) (fun x a h1 h2 b => by
      cases b with
      | nil => rfl
      | cons y b =>
        have e : PyData.eqvAll (toPys (x :: a)) (toPys (y :: b)) = ((toPy x).eqv (toPy y) && PyData.eqvAll (toPys a) (toPys b)) := rfl
        rw [e, h1, h2]; rfl) a

section
variable {c : CX} {A : Around} {fix kp : Kp} {φ : List Addr} {G : GH} {s : Shared} {d : Nat}

noncomputable def DOk (s : Shared) (n : Nat) (x : Value) (t : DT) : Prop := (∃ as, Reads s.heap x (toPy t) as) ∧ (toPy t).canLay0 = true ∧ (toPy t).depth ≤ n
noncomputable def DsOk (s : Shared) (n : Nat) (xs : List Value) (ts : List DT) : Prop := (∃ as, ReadsAll s.heap xs (toPys ts) as) ∧ PyData.canLayAll0 (toPys ts) = true ∧ PyData.depthAll (toPys ts) ≤ n
theorem atomIn {n : Nat} {v : MV} {x : Value} {t : DT} (h : c.VR fix φ v x) (e : atomD v = some t) : DOk s n x t := by
  cases v with
  | none => exact Option.some.inj e ▸ noneV (P := fun x => DOk s n x .none) h ⟨⟨_, Reads.none⟩, rfl, Nat.zero_le _⟩
  | bool b => exact Option.some.inj e ▸ boolV (P := fun x => DOk s n x (.bool b)) h ⟨⟨_, Reads.bool b⟩, rfl, Nat.zero_le _⟩
  | int i => exact Option.some.inj e ▸ intV (P := fun x => DOk s n x (.int i)) h fun t => ⟨⟨_, Reads.int i t⟩, rfl, Nat.zero_le _⟩
  | _ => exact noS e
theorem datsIn {n : Nat} (ih : ∀ {v : MV} {x : Value} {t : DT}, c.VR fix φ v x → datO G n v = some t → DOk s n x t) {l : List MV} {xs : List Value} (h : c.VRs fix φ l xs) : ∀ {ts : List DT}, datsW (datO G n) l = some ts → DsOk s n xs ts :=
  h.ind (M := fun l xs => ∀ {ts : List DT}, datsW (datO G n) l = some ts → DsOk s n xs ts) (fun e => Option.some.inj e ▸ ⟨⟨_, ReadsAll.nil⟩, rfl, Nat.zero_le _⟩) fun v x l xs h _ ih2 ts e => by
    obtain ⟨t, h1, h2⟩ := Option.bind_eq_some_iff.mp (show (datO G n v).bind (fun d => (datsW (datO G n) l).map (d :: ·)) = some ts from e)
    obtain ⟨us, h3, h4⟩ := Option.map_eq_some_iff.mp h2
    have a := ih h h1
    have b := ih2 h3
    rw [← h4]
    exact a.1.elim fun as p => b.1.elim fun bs q => ⟨⟨_, ReadsAll.cons p q⟩, Bool.and_eq_true_iff.mpr ⟨a.2.1, b.2.1⟩, Nat.max_le.mpr ⟨a.2.2, b.2.2⟩⟩
theorem datIn (S : St c fix kp φ G s) : ∀ {n : Nat} {v : MV} {x : Value} {t : DT}, c.VR fix φ v x → datO G n v = some t → DOk s n x t
  | 0, v, x, t, h, e => atomIn h e
  | n + 1, v, x, t, h, e => by
    have e : (match iTup v with
      | some l => (datsW (datO G n) l).map .tup
      | none => match lsO G v with
        | some l => (datsW (datO G n) l).map .lst
        | none => atomD v) = some t := e
    cases q : iTup v with
    | some l =>
      rw [q] at e
      obtain ⟨ts, h1, h2⟩ := Option.map_eq_some_iff.mp e
      rw [← h2]
      exact iTup_k (P := fun v => c.VR fix φ v x → DOk s (n + 1) x (.tup ts)) q (fun h => tupV (P := fun x => DOk s (n + 1) x (.tup ts)) h fun a xs k hf r z => by
        have o := datsIn (fun h e => datIn S h e) r h1
        exact o.1.elim fun as p => ⟨⟨_, reads_tuple_at (S.1.fixK _ _ hf) rfl rfl p⟩, o.2.1, Nat.succ_le_succ o.2.2⟩) h
    | none =>
      rw [q] at e
      cases q2 : lsO G v with
      | some l =>
        rw [q2] at e
        obtain ⟨ts, h1, h2⟩ := Option.map_eq_some_iff.mp e
        rw [← h2]
        exact lstK (P := fun x => DOk s (n + 1) x (.lst ts)) S h q2 fun a xs k ho r z => by
          have o := datsIn (fun h e => datIn S h e) r h1
          exact o.1.elim fun as p => ⟨⟨_, reads_list_at ho rfl rfl p⟩, o.2.1, Nat.succ_le_succ o.2.2⟩
      | none =>
        rw [q2] at e
        exact atomIn h e

theorem shapedOf {n : Nat} {x : Value} {t : DT} (h : DOk s n x t) (hn : n ≤ 8) : SeqAt.shaped (toPy t) = true := by
  unfold SeqAt.shaped; rw [h.2.1, Bool.true_and]; exact decide_eq_true (by have := h.2.2; omega)
theorem eqO_ok {a b : MV} {x y : Value} {r : Bool} (h : eqO G a b = some r) (S : St c fix kp φ G s) (va : c.VR fix φ a x) (vb : c.VR fix φ b y) (hA : AOk A d) :
    (∀ (E : Value → Shared → Prop) (Q : Value → Shared → Prop), Q (.bool r) s → wpAny c.M A (compareOp .Eq x y) Q E s) ∧ (∀ (E : Value → Shared → Prop) (Q : Value → Shared → Prop), Q (.bool (!r)) s → wpAny c.M A (compareOp .NotEq x y) Q E s) := by
  obtain ⟨t, ht, h⟩ := Option.bind_eq_some_iff.mp h
  obtain ⟨u, hu, h⟩ := Option.map_eq_some_iff.mp h
  have a := datIn S va ht
  have b := datIn S vb hu
  have hu' : A.units + 64 < cLine := by have := hA.units; omega
  rw [← h]
  exact a.1.elim fun as q => b.1.elim fun bs p => ⟨fun E Q k => eq_dataH q p (shapedOf a (Nat.le_refl _)) (shapedOf b (Nat.le_refl _)) hu' (by rw [dEq_py]; exact k), fun E Q k => ne_dataH q p (shapedOf a (Nat.le_refl _)) (shapedOf b (Nat.le_refl _)) hu' (by rw [dEq_py]; exact k)⟩

theorem anyInts (x : Int) : ∀ ns : List Int, (ns.map PyData.int).any (datHitsInt x) = ns.contains x
  | [] => rfl
  | n :: r => by
    rw [List.map_cons, List.any_cons, List.contains_cons, anyInts x r]
    congr 1
    show (n == x) = (x == n)
    by_cases h : n = x
    · subst h; rfl
    · rw [beq_eq_false_iff_ne.mpr h, beq_eq_false_iff_ne.mpr (fun q => h q.symm)]
theorem anyVals (x : Int) {xs : List Value} {ns : List Int} (h : IntsAre xs ns) : xs.any (valHitsInt x) = ns.contains x := by
  rw [(PySem.W.ke_carried h).anyInt x, anyInts]

noncomputable def Cmp (c : CX) (A : Around) (s : Shared) (r : Bool) (op : CmpOp) (x y : Value) : Prop := ∀ (E : Value → Shared → Prop) (Q : Value → Shared → Prop), Q (.bool r) s → wpAny c.M A (compareOp op x y) Q E s
theorem isinO_ok {a : Int} {b : MV} {t : Tok} {y : Value} {ns : List Int} (h : (sqO G b).bind intsO = some ns) (S : St c fix kp φ G s) (vb : c.VR fix φ b y) :
    Cmp c A s (ns.contains a) .In (.int a t) y ∧ Cmp c A s (!ns.contains a) .NotIn (.int a t) y := by
  obtain ⟨l, hl, hn⟩ := Option.bind_eq_some_iff.mp h
  refine seqK (P := fun y => Cmp c A s (ns.contains a) .In (.int a t) y ∧ Cmp c A s (!ns.contains a) .NotIn (.int a t) y) S vb hl fun p xs n T hT ho r z => ?_
  have hi := intsIn r hn
  have hc := PySem.W.ke_carried hi
  have he : ∀ y, y ∈ xs → SeqAt.EqAt A.in1 s y (.int a t) (valHitsInt a y) := fun y hy => (hc.memC y (Array.mem_toList_iff.mpr hy)).elim fun d cc => cc.eqAtInt a t
  have hany : xs.any (valHitsInt a) = ns.contains a := by rw [← anyVals a hi]; exact Array.any_toList.symm
  rw [← hany]
  rcases hT with e | e
  · rw [e] at ho
    exact ⟨fun E Q k => SeqAt.in_listAt (valHitsInt a) ⟨_, ho, rfl, n, rfl⟩ he k, fun E Q k => SeqAt.notIn_listAt (valHitsInt a) ⟨_, ho, rfl, n, rfl⟩ he k⟩
  · rw [e] at ho
    exact ⟨fun E Q k => SeqAt.in_tupleAt (valHitsInt a) ⟨_, ho, rfl, n, rfl⟩ he k, fun E Q k => SeqAt.notIn_tupleAt (valHitsInt a) ⟨_, ho, rfl, n, rfl⟩ he k⟩

theorem cmpInt {op : CmpOp} {a b : MV} {x y : Value} {r : Bool} {K : Int → Int → Option Bool} (h : i2 a b K = some r) (va : c.VR fix φ a x) (vb : c.VR fix φ b y) (g : ∀ i j t u, K i j = some r → Cmp c A s r op (.int i t) (.int j u)) : Cmp c A s r op x y :=
  i2_k (P := fun a b => c.VR fix φ a x → c.VR fix φ b y → Cmp c A s r op x y) h (fun i j h va vb => intV (P := fun x => Cmp c A s r op x y) va fun t => intV (P := fun y => Cmp c A s r op (.int i t) y) vb fun u => g i j t u h) va vb
theorem isO_k {a : MV} {x : Value} {r : Bool} {P : Value → Bool → Prop} (h : isO a = some r) (va : c.VR fix φ a x) (g1 : P .none true) (g2 : ∀ i t, P (.int i t) false) (g3 : ∀ a, P (.ref a) false) : P x r := by
  cases a with
  | none => exact Option.some.inj h ▸ noneV (P := fun x => P x true) va g1
  | int i => exact Option.some.inj h ▸ intV (P := fun x => P x false) va (g2 i)
  | lst l => exact Option.some.inj h ▸ lstV (P := fun x => P x false) va fun a _ _ _ _ _ => g3 a
  | _ => exact noS h
theorem cmpO_ok {o : C2} {op : CmpOp} {a b : MV} {x y : Value} {r : Bool} (h : cmpO G o a b = some r) (hop : c2Ok o op = true) (S : St c fix kp φ G s) (va : c.VR fix φ a x) (vb : c.VR fix φ b y) (hA : AOk A d) : Cmp c A s r op x y := by
  cases o with
  | eq => exact kEq' (P := fun op => Cmp c A s r op x y) hop (eqO_ok h S va vb hA).1
  | ne => exact (Option.map_eq_some_iff.mp h).elim fun r' h => kEq' (P := fun op => Cmp c A s r op x y) hop (h.2 ▸ (eqO_ok h.1 S va vb hA).2)
  | lt => exact kEq' (P := fun op => Cmp c A s r op x y) hop (cmpInt h va vb fun i j t u h => Option.some.inj h ▸ fun E Q k => lt_int k)
  | le => exact kEq' (P := fun op => Cmp c A s r op x y) hop (cmpInt h va vb fun i j t u h => Option.some.inj h ▸ fun E Q k => le_int k)
  | gt => exact kEq' (P := fun op => Cmp c A s r op x y) hop (cmpInt h va vb fun i j t u h => Option.some.inj h ▸ fun E Q k => gt_int k)
  | ge => exact kEq' (P := fun op => Cmp c A s r op x y) hop (cmpInt h va vb fun i j t u h => Option.some.inj h ▸ fun E Q k => ge_int k)
  | isin => exact (Option.bind_eq_some_iff.mp h).elim fun i h => (Option.map_eq_some_iff.mp h.2).elim fun ns h2 => kEq' (P := fun op => Cmp c A s r op x y) hop (iInt_k (P := fun a => c.VR fix φ a x → Cmp c A s r .In x y) h.1 (fun va => intV (P := fun x => Cmp c A s r .In x y) va fun t => h2.2 ▸ (isinO_ok h2.1 S vb).1) va)
  | nin => exact (Option.bind_eq_some_iff.mp h).elim fun i h => (Option.map_eq_some_iff.mp h.2).elim fun ns h2 => kEq' (P := fun op => Cmp c A s r op x y) hop (iInt_k (P := fun a => c.VR fix φ a x → Cmp c A s r .NotIn x y) h.1 (fun va => intV (P := fun x => Cmp c A s r .NotIn x y) va fun t => h2.2 ▸ (isinO_ok h2.1 S vb).2) va)
  | is => exact kEq' (P := fun op => Cmp c A s r op x y) hop (isN_k (P := fun b => c.VR fix φ b y → Cmp c A s r .Is x y) (oif' h).1 (fun vb => noneV (P := fun y => Cmp c A s r .Is x y) vb (isO_k (P := fun x r => Cmp c A s r .Is x .none) (oif' h).2 va (fun E Q k => wpAny_is_plain rfl k) (fun i t E Q k => wpAny_is_other rfl (fun e => nomatch e) k) fun a E Q k => wpAny_is_other rfl (fun e => nomatch e) k)) vb)
  | isn => exact kEq' (P := fun op => Cmp c A s r op x y) hop ((Option.map_eq_some_iff.mp (oif' h).2).elim fun r' h2 => isN_k (P := fun b => c.VR fix φ b y → Cmp c A s r .IsNot x y) (oif' h).1 (fun vb => noneV (P := fun y => Cmp c A s r .IsNot x y) vb (h2.2 ▸ isO_k (P := fun x r => Cmp c A s (!r) .IsNot x .none) h2.1 va (fun E Q k => wpAny_isNot_plain rfl k) (fun i t E Q k => wpAny_isNot_other rfl (fun e => nomatch e) k) fun a E Q k => wpAny_isNot_other rfl (fun e => nomatch e) k)) vb)
end
end Mine
end
section
set_option autoImplicit false
set_option linter.unusedSectionVars false
namespace Mine
open PySem PySem.W PyProof.Rows PySem.Calls

section
variable {prog : Program} {w : World} {κ K : Type} [DecidableEq κ] [DecidableEq K] {knd : PySem.KeyKind prog w K} {kr : κ → K → Prop} {tab : List Str} {fix : Kp} {φ : List Addr}
  (inj : ∀ k k' x, kr k x → kr k' x → k = k') (fn : ∀ k x x', kr k x → kr k x' → x = x')

theorem EDs.ind {M : List (κ × MV) → List DictEntry → Prop} {l : List (κ × MV)} {es : List DictEntry} (h : EDs knd kr tab fix φ l es) (n : M [] []) (k : ∀ k v x key y l es, kr k x → knd.is x key = true → VR tab fix φ v y → EDs knd kr tab fix φ l es → M l es → M ((k, v) :: l) (⟨knd.hash x, key, y⟩ :: es)) : M l es :=
  EDs.rec (motive := fun l es _ => M l es) n (fun a b c d ih => k _ _ _ _ _ _ _ a b c d ih) h
theorem EDs.length {l : List (κ × MV)} {es : List DictEntry} (h : EDs knd kr tab fix φ l es) : l.length = es.length :=
  h.ind (M := fun l es => l.length = es.length) rfl fun _ _ _ _ _ _ _ _ _ _ _ ih => congrArg Nat.succ ih
theorem EDs.keysOf {l : List (κ × MV)} {es : List DictEntry} (h : EDs knd kr tab fix φ l es) : ∀ e ∈ es, ∃ k, knd.is k e.key = true ∧ e.hash = knd.hash k :=
  h.ind (M := fun _ es => ∀ e ∈ es, ∃ k, knd.is k e.key = true ∧ e.hash = knd.hash k) (fun e h => absurd h List.not_mem_nil) fun _ _ x _ _ _ _ _ hi _ _ ih e m => (List.mem_cons.mp m).elim (fun q => q ▸ ⟨x, hi, rfl⟩) (ih e)
include inj fn in
theorem EDs.isKey {k k' : κ} {x x' : K} {key : Value} (hk : kr k x) (hk' : kr k' x') (hi : knd.is x' key = true) : knd.is x key = decide (k' = k) := by
  by_cases h : k' = k
  · subst h
    rw [fn _ _ _ hk hk', hi, decide_eq_true rfl]
  · rw [decide_eq_false h]
    cases q : knd.is x key with
    | false => rfl
    | true =>
      have := knd.inj key x x' q hi
      subst this
      exact absurd (inj _ _ _ hk' hk) h
theorem lookI {k : κ} {v : MV} {l : List (κ × MV)} : ((k, v) :: l).lookup k = some v := by rw [List.lookup_cons, beq_self_eq_true]
theorem lookU {k k' : κ} {v : MV} {l : List (κ × MV)} (h : ¬ k' = k) : ((k', v) :: l).lookup k = l.lookup k := by rw [List.lookup_cons, beq_eq_false_iff_ne.mpr fun q => h q.symm]
theorem findI {α : Type} {p : α → Bool} {a : α} {l : List α} (h : p a = true) : (a :: l).find? p = some a := by rw [List.find?_cons, h]
theorem findU {α : Type} {p : α → Bool} {a : α} {l : List α} (h : p a = false) : (a :: l).find? p = l.find? p := by rw [List.find?_cons, h]
theorem idxI {α : Type} {p : α → Bool} {a : α} {l : List α} (h : p a = true) : (a :: l).findIdx? p = some 0 := by rw [List.findIdx?_cons, h]; rfl
theorem idxU {α : Type} {p : α → Bool} {a : α} {l : List α} (h : p a = false) : (a :: l).findIdx? p = (l.findIdx? p).map (· + 1) := by rw [List.findIdx?_cons, h]; rfl
theorem setI {k : κ} {v w : MV} {l : List (κ × MV)} : setL ((k, w) :: l) k v = (k, v) :: l := if_pos rfl
theorem setU {k k' : κ} {v w : MV} {l : List (κ × MV)} (h : ¬ k' = k) : setL ((k', w) :: l) k v = (k', w) :: setL l k v := if_neg h
include inj fn in
theorem EDs.findS {k : κ} {x : K} (hk : kr k x) {l : List (κ × MV)} {es : List DictEntry} (h : EDs knd kr tab fix φ l es) : ∀ {v : MV}, l.lookup k = some v → ∃ e, es.find? (fun e => knd.is x e.key) = some e ∧ VR tab fix φ v e.val :=
  h.ind (M := fun l es => ∀ {v : MV}, l.lookup k = some v → ∃ e, es.find? (fun e => knd.is x e.key) = some e ∧ VR tab fix φ v e.val) (fun e => noS e) fun k' v' x' key y l es hk' hi hv _ ih v e => by
    have q := EDs.isKey inj fn hk hk' hi
    by_cases h : k' = k
    · subst h
      rw [lookI] at e
      exact ⟨_, findI (p := fun e : DictEntry => knd.is x e.key) (q.trans (decide_eq_true rfl)), Option.some.inj e ▸ hv⟩
    · rw [lookU h] at e
      rw [findU (p := fun e : DictEntry => knd.is x e.key) (q.trans (decide_eq_false h))]
      exact ih e
include inj fn in
theorem EDs.findN {k : κ} {x : K} (hk : kr k x) {l : List (κ × MV)} {es : List DictEntry} (h : EDs knd kr tab fix φ l es) : l.lookup k = none → es.find? (fun e => knd.is x e.key) = none :=
  h.ind (M := fun l es => l.lookup k = none → es.find? (fun e => knd.is x e.key) = none) (fun e => rfl) fun k' v' x' key y l es hk' hi hv _ ih e => by
    have q := EDs.isKey inj fn hk hk' hi
    by_cases h : k' = k
    · subst h
      rw [lookI] at e
      exact noS e.symm
    · rw [lookU h] at e
      rw [findU (p := fun e : DictEntry => knd.is x e.key) (q.trans (decide_eq_false h))]
      exact ih e
include inj fn in
theorem EDs.setSome {k : κ} {x : K} (hk : kr k x) {v : MV} {y : Value} (hv : VR tab fix φ v y) {l : List (κ × MV)} {es : List DictEntry} (h : EDs knd kr tab fix φ l es) : ∀ {i : Nat}, es.findIdx? (fun e => knd.is x e.key) = some i →
    EDs knd kr tab fix φ (setL l k v) (es.modify i fun e => { e with val := y }) ∧ (l.lookup k).isSome = true ∧ (setL l k v).map (·.1) = l.map (·.1) :=
  h.ind (M := fun l es => ∀ {i : Nat}, es.findIdx? (fun e => knd.is x e.key) = some i →
    EDs knd kr tab fix φ (setL l k v) (es.modify i fun e => { e with val := y }) ∧ (l.lookup k).isSome = true ∧ (setL l k v).map (·.1) = l.map (·.1)) (fun h => noS h) fun k' v' x' key y' l es hk' hi hv' r ih i e => by
    have q := EDs.isKey inj fn hk hk' hi
    by_cases h : k' = k
    · subst h
      rw [idxI (p := fun e : DictEntry => knd.is x e.key) (q.trans (decide_eq_true rfl))] at e
      rw [setI, lookI, ← Option.some.inj e]
      exact ⟨.cons hk' hi hv r, rfl, rfl⟩
    · rw [idxU (p := fun e : DictEntry => knd.is x e.key) (q.trans (decide_eq_false h))] at e
      obtain ⟨j, hj, e⟩ := Option.map_eq_some_iff.mp e
      have o := ih hj
      rw [setU h, lookU h, ← e]
      exact ⟨.cons hk' hi hv' o.1, o.2.1, congrArg (k' :: ·) o.2.2⟩
include inj fn in
theorem EDs.setNone {k : κ} {x : K} (hk : kr k x) {v : MV} {y key : Value} (hkey : knd.is x key = true) (hv : VR tab fix φ v y) {l : List (κ × MV)} {es : List DictEntry} (h : EDs knd kr tab fix φ l es) : es.findIdx? (fun e => knd.is x e.key) = none →
    EDs knd kr tab fix φ (setL l k v) (es ++ [⟨knd.hash x, key, y⟩]) ∧ (l.lookup k).isSome = false ∧ (setL l k v).map (·.1) = l.map (·.1) ++ [k] ∧ k ∉ l.map (·.1) :=
  h.ind (M := fun l es => es.findIdx? (fun e => knd.is x e.key) = none →
    EDs knd kr tab fix φ (setL l k v) (es ++ [(⟨knd.hash x, key, y⟩ : DictEntry)]) ∧ (l.lookup k).isSome = false ∧ (setL l k v).map (·.1) = l.map (·.1) ++ [k] ∧ k ∉ l.map (·.1)) (fun _ => ⟨.cons hk hkey hv .nil, rfl, rfl, List.not_mem_nil⟩) fun k' v' x' key' y' l es hk' hi hv' r ih e => by
    have q := EDs.isKey inj fn hk hk' hi
    by_cases h : k' = k
    · subst h
      rw [idxI (p := fun e : DictEntry => knd.is x e.key) (q.trans (decide_eq_true rfl))] at e
      exact noS e.symm
    · rw [idxU (p := fun e : DictEntry => knd.is x e.key) (q.trans (decide_eq_false h))] at e
      have o := ih (Option.map_eq_none_iff.mp e)
      rw [setU h, lookU h]
      exact ⟨.cons hk' hi hv' o.1, o.2.1, congrArg (k' :: ·) o.2.2.1, fun m => (List.mem_cons.mp m).elim (fun e => h e.symm) o.2.2.2⟩
end

theorem krS_inj {tab : List Str} (hT : tab.Nodup) (k k' : Nat) (x : Str) (h : krS tab k x) (h' : krS tab k' x) : k = k' :=
  (List.getElem?_inj (List.getElem?_eq_some_iff.mp h).1 hT).mp (Eq.trans h h'.symm)
theorem krS_fn {tab : List Str} (k : Nat) (x x' : Str) (h : krS tab k x) (h' : krS tab k x') : x = x' := Option.some.inj (h.symm.trans h')
theorem krI_inj (k k' x : Int) (h : krI k x) (h' : krI k' x) : k = k' := h.trans h'.symm
theorem krI_fn (k x x' : Int) (h : krI k x) (h' : krI k x') : x = x' := h.symm.trans h'

theorem dictSet_ex {prog : Program} {w : World} {K : Type} [DecidableEq K] {knd : PySem.KeyKind prog w K} {A : Around} {E : Value → Shared → Prop} {s : Shared} {d : Addr} {es : List DictEntry} {ep : Nat} {k : K} {key v : Value} {Q : Unit → Shared → Prop}
    (hkey : knd.is k key = true) (ho : s.heap.get? d = some ⟨.type "dict", none, .dict es.toArray ep, #[]⟩) (hk : PySem.KeysOf knd es.toArray) (hz : es.length ≤ sizeLine)
    (h1 : ∀ i h', es.findIdx? (fun e => knd.is k e.key) = some i → Heap.SameBut d s.heap h' → h'.get? d = some ⟨.type "dict", none, .dict (es.modify i fun e => { e with val := v }).toArray ep, #[]⟩ → Q () { s with heap := h', toks := s.toks + 1 })
    (h2 : ∀ h', es.findIdx? (fun e => knd.is k e.key) = none → Heap.SameBut d s.heap h' → h'.get? d = some ⟨.type "dict", none, .dict (es ++ [(⟨knd.hash k, key, v⟩ : DictEntry)]).toArray (ep + 1), #[]⟩ → Q () { s with heap := h', toks := s.toks + 1 }) :
    wpAny (model prog w) A (dictSet d key v) Q E s := by
  unfold dictSet
  refine wpAny_holding (wpAny_bind (knd.pyHash hkey ?_))
  unfold dictSetHashed
  refine wpAny_holding (wpAny_bind (wpAny_dictFind_of (s := { s with toks := s.toks + 1 }) hkey ho rfl hk ?_))
  have e : (es.toArray.findIdx? fun e => knd.is k e.key) = es.findIdx? fun e => knd.is k e.key := by simp
  rw [e]
  cases hi : es.findIdx? fun e => knd.is k e.key with
  | some i =>
    refine wpAny_bind (wpAny_rule (wpAny_bind (wpAny_updateDict (s := { s with toks := s.toks + 1 }) ho rfl (wpAny_point (h1 i _ hi (Heap.SameBut.update ..) ?_)))))
    rw [Heap.get?_update_self _ ho rfl]
    simp [Obj.mapDict]
  | none =>
    refine wpAny_bind (wpAny_rule (wpAny_updateDictKeys (hz := by rw [List.size_toArray]; exact hz) (s := { s with toks := s.toks + 1 }) ho rfl (h2 _ hi (Heap.SameBut.update ..) ?_)))
    rw [Heap.get?_update_self _ ho rfl]
    simp [Obj.mapDictKeys]
theorem setItem_ex {prog : Program} {w : World} {K : Type} [DecidableEq K] {knd : PySem.KeyKind prog w K} {A : Around} {E : Value → Shared → Prop} {s : Shared} {d : Addr} {es : List DictEntry} {ep : Nat} {k : K} {key v : Value} {Q : Unit → Shared → Prop}
    (hkey : knd.is k key = true) (ho : s.heap.get? d = some ⟨.type "dict", none, .dict es.toArray ep, #[]⟩) (hk : PySem.KeysOf knd es.toArray) (hz : es.length ≤ sizeLine)
    (h1 : ∀ i h', es.findIdx? (fun e => knd.is k e.key) = some i → Heap.SameBut d s.heap h' → h'.get? d = some ⟨.type "dict", none, .dict (es.modify i fun e => { e with val := v }).toArray ep, #[]⟩ → Q () { s with heap := h', toks := s.toks + 1 })
    (h2 : ∀ h', es.findIdx? (fun e => knd.is k e.key) = none → Heap.SameBut d s.heap h' → h'.get? d = some ⟨.type "dict", none, .dict (es ++ [(⟨knd.hash k, key, v⟩ : DictEntry)]).toArray (ep + 1), #[]⟩ → Q () { s with heap := h', toks := s.toks + 1 }) :
    wpAny (model prog w) A (setItem (.ref d) key v) Q E s := by
  have hty : s.TypeIs (.ref d) "dict" := ⟨_, ho, rfl⟩
  unfold setItem
  try with_reducible refine wpAny_holding ?_
  refine wpAny_bind (wpAny_sequenceKey hty (by decide) ?_)
  refine wpAny_bind (wpAny_callSpecial?_slot (name := Str.ofString "__setitem__") hty slot_dict_setitem
    (wpAny_call_entry slot_dict_setitem hty entry_dict_setitem ?_ (args_dict_setitem _ _ _)))
  show wpAny _ _ (Builtin.Dict.notOrdered "__setitem__" ⟨[.ref d, key, v], []⟩ >>= _) _ _ s
  refine wpAny_bind (wpAny_notOrdered_dict hty ?_)
  show wpAny _ _ (dictSet d key v >>= _) _ _ s
  exact wpAny_bind (dictSet_ex hkey ho hk hz (fun i h' a b e => wpAny_pure ⟨.none, rfl, wpAny_pure (h1 i h' a b e)⟩) fun h' a b e => wpAny_pure ⟨.none, rfl, wpAny_pure (h2 h' a b e)⟩)

structure CX.Tab (c : CX) : Prop where
  nodup : c.S.tab.Nodup

section
variable {c : CX} {A : Around} {fix kp : Kp} {φ : List Addr} {G : GH} {s : Shared} {d : Nat}

theorem subscripted_op (slice : PySem.Expr) (o i : Value) : ∃ ops, subscripted slice false o i = operate ops (getItem o i) := by
  cases slice with
  | Slice _ _ st _ => cases st <;> exact ⟨_, rfl⟩
  | _ => exact ⟨_, rfl⟩

theorem getL_ok {l : List MV} {a : Addr} {xs : Array Value} {n : Nat} {k : Int} {t : Tok} {r : MV} {E : Value → Shared → Prop} {Q : Value → Shared → Prop} (ho : s.heap.get? a = some ⟨.type "list", none, .seq xs n, #[]⟩) (hr : c.VRs fix φ l xs.toList) (z : l.length ≤ 4096)
    (h0 : 0 ≤ k) (hx : l[k.toNat]? = some r) (q : ∀ y, c.VR fix φ r y → Q y s) : wpAny c.M A (getItem (.ref a) (.int k t)) Q E s := by
  obtain ⟨y, hy, vy⟩ := hr.get hx
  have hlt : k.toNat < l.length := (List.getElem?_eq_some_iff.mp hx).1
  exact wpAny_getItem_list (isL ho) h0 (by omega) (by rw [← Array.getElem?_toList]; exact hy) (q y vy)

theorem sdMap {l : List (Nat × MV)} {es : List DictEntry} {a : Addr} {n : Nat} {h : Heap} (ho : h.get? a = some ⟨.type "dict", none, .dict es.toArray n, #[]⟩) (r : SDs c.prog c.w c.S.tab fix φ l es) :
    Heap.MapOf (strKind c.prog c.w) h a (fun x => (es.find? fun e => (strKind c.prog c.w).is x e.key).map (·.val)) :=
  ⟨_, es.toArray, n, ho, ⟨rfl, rfl, rfl⟩, rfl, fun e he => EDs.keysOf r e (by simpa using he), fun k => by simp [findBy]⟩
theorem ndMap {l : List (Int × MV)} {es : List DictEntry} {a : Addr} {n : Nat} {h : Heap} (ho : h.get? a = some ⟨.type "dict", none, .dict es.toArray n, #[]⟩) (r : NDs c.prog c.w c.S.tab fix φ l es) :
    Heap.MapOf (intKind c.prog c.w) h a (fun x => (es.find? fun e => (intKind c.prog c.w).is x e.key).map (·.val)) :=
  ⟨_, es.toArray, n, ho, ⟨rfl, rfl, rfl⟩, rfl, fun e he => EDs.keysOf r e (by simpa using he), fun k => by simp [findBy]⟩
theorem strIs {x : Str} {t : Tok} : (strKind c.prog c.w).is x (.str x t) = true := by
  show (Value.str x t).isStr x = true
  simp [Value.isStr]
theorem intIs {i : Int} {t : Tok} : (intKind c.prog c.w).is i (.int i t) = true := by
  show (Value.int i t).isInt i = true
  simp [Value.isInt]

theorem subO_ok (hT : c.S.tab.Nodup) {v w' r : MV} {x y : Value} {value slice : PySem.Expr} (h : subO G v w' = some r) (S : St c fix kp φ G s) (va : c.VR fix φ v x) (vb : c.VR fix φ w' y) :
    Ev c A fix kp φ (subscriptTail value slice x y) s G (fun f p z => c.VR f p r z) := by
  obtain ⟨ops, hs⟩ := subscripted_op slice x y
  refine Ev.same S ?_
  have h : (match iInt w' with
    | some a => (match rN G v with
      | some p => p.2.2.lookup a
      | none => (lsO G v).bind fun l => if 0 ≤ a then l[a.toNat]? else none)
    | none => (iStr w').bind fun k => rS G v fun _ l => l.lookup k) = some r := h
  cases q : iInt w' with
  | none =>
    rw [q] at h
    obtain ⟨k, h1, h⟩ := Option.bind_eq_some_iff.mp h
    refine rS_k (P := fun v => c.VR fix φ v x → Same c A fix φ s r (subscriptTail value slice x y)) h (fun i l hg h va => ?_) va
    revert hs
    refine refV (P := fun x => subscripted slice false x y = operate ops (getItem x y) → Same c A fix φ s r (subscriptTail value slice x y)) va fun a hp => ?_
    refine iStr_k (P := fun w' => c.VR fix φ w' y → _) h1 (fun vb => ?_) vb
    refine strV (P := fun y => subscripted slice false (.ref a) y = operate ops (getItem (.ref a) y) → Same c A fix φ s r (subscriptTail value slice (.ref a) y)) vb fun nm t hk hs => ?_
    exact S.gd hp hg fun es n ho hr _ _ => (EDs.findS (krS_inj hT) krS_fn hk hr h).elim fun e he E Q q => tail_any ⟨_, ho, rfl⟩ slot_dict_getitem.lookup (wpAny_getItem_of strIs (sdMap ho hr) (by rw [he.1]; rfl) (q _ _ he.2)) hs
  | some k =>
    rw [q] at h
    revert hs
    refine iInt_k (P := fun w' => c.VR fix φ w' y → _) q (fun vb => ?_) vb
    refine intV (P := fun y => subscripted slice false x y = operate ops (getItem x y) → Same c A fix φ s r (subscriptTail value slice x y)) vb fun t => ?_
    cases q2 : rN G v with
    | some p =>
      rw [q2] at h
      refine rN_k (P := fun v => c.VR fix φ v x → _) q2 (fun hg va => ?_) va
      refine refV (P := fun x => subscripted slice false x (.int k t) = operate ops (getItem x (.int k t)) → Same c A fix φ s r (subscriptTail value slice x (.int k t))) va fun a hp hs => ?_
      exact S.gn hp hg fun es ho hr _ _ => (EDs.findS krI_inj krI_fn (show krI k k from rfl) hr h).elim fun e he E Q q => tail_any ⟨_, ho, rfl⟩ slot_dict_getitem.lookup (wpAny_getItem_of intIs (ndMap ho hr) (by rw [he.1]; rfl) (q _ _ he.2)) hs
    | none =>
      rw [q2] at h
      obtain ⟨l, h1, h⟩ := Option.bind_eq_some_iff.mp h
      refine lstK (P := fun x => subscripted slice false x (.int k t) = operate ops (getItem x (.int k t)) → Same c A fix φ s r (subscriptTail value slice x (.int k t))) S va h1 fun a xs n ho hr z hs E Q q => ?_
      exact tail_any ⟨_, ho, rfl⟩ slot_list_getitem.lookup (getL_ok ho hr z (oif' h).1 (oif' h).2 fun y hy => q y _ hy) hs
end
end Mine
end
section
set_option autoImplicit false
set_option linter.unusedSectionVars false
namespace Mine
open PySem PySem.W PyProof.Rows PySem.Calls

section
variable {c : CX} {A : Around} {fix kp : Kp} {φ : List Addr} {G : GH} {s : Shared} {d : Nat}

noncomputable def PartP (lo : Option Int) (n p : Nat) : Prop := match lo with
  | none => p = n
  | some i => 0 ≤ i ∧ p = i.toNat
theorem bounds_eq {lo hi : Option Int} {n p q : Nat} (a : PartP lo 0 p) (b : PartP hi n q) : sliceBounds lo hi none n = (((min p n : Nat) : Int), ((min q n : Nat) : Int), 1) := by
  unfold sliceBounds
  dsimp only [Option.getD]
  rw [if_pos (by decide), if_pos (by decide)]
  refine Prod.ext_iff.mpr ⟨?_, Prod.ext_iff.mpr ⟨?_, rfl⟩⟩
  · clear b
    cases lo with
    | none => have a : p = 0 := a; rw [a, Nat.zero_min]; rfl
    | some i =>
      obtain ⟨h0, h1⟩ := a
      dsimp only
      rw [if_pos (by decide), if_neg (Int.not_lt.mpr h0), h1]
      omega
  · clear a
    cases hi with
    | none => have b : q = n := b; rw [b, Nat.min_self]
    | some i =>
      obtain ⟨h0, h1⟩ := b
      dsimp only
      rw [if_pos (by decide), if_neg (Int.not_lt.mpr h0), h1]
      omega
theorem cut_eq {α : Type} (l : List α) (p q n : Nat) (hn : l.length = n) : (l.drop (min p n)).take (min q n - min p n) = (l.take q).drop p := by
  subst hn
  rw [← List.drop_take, List.take_eq_take_iff.mpr (show min (min q l.length) l.length = min q l.length by rw [Nat.min_assoc, Nat.min_self])]
  refine List.drop_eq_drop_iff.mpr ?_
  rw [List.length_take]
  omega
theorem pick_eq {xs : Array Value} {lo hi : Option Int} {p q : Nat} (a : PartP lo 0 p) (b : PartP hi xs.size q) : slicePick xs lo hi none = ((xs.toList.take q).drop p).toArray := by
  rw [PySem.W.kmk_pick_nat xs (bounds_eq a b), cut_eq _ _ _ _ Array.length_toList]

theorem partOf {a : MV} {va : Value} {n p : Nat} {P : Prop} (h : c.VR fix φ a va) (e : boundO n a = some p) (g : ∀ lo, PartP lo n p → IsPart va lo → P) : P := by
  have e : (match iInt a with
    | some a => if 0 ≤ a then some a.toNat else none
    | none => if isN a = true then some n else none) = some p := e
  cases q : iInt a with
  | some i =>
    rw [q] at e
    exact iInt_k (P := fun a => c.VR fix φ a va → P) q (fun h => intV (P := fun va => (∀ lo, PartP lo n p → IsPart va lo → P) → P) h (fun t g => g (some i) ⟨(oif' e).1, (Option.some.inj (oif' e).2).symm⟩ (.int i t)) g) h
  | none =>
    rw [q] at e
    exact isN_k (P := fun a => c.VR fix φ a va → P) (oif' e).1 (fun h => noneV (P := fun va => (∀ lo, PartP lo n p → IsPart va lo → P) → P) h (fun g => g none (Option.some.inj (oif' e).2).symm .none) g) h

theorem slcO_ok {v a b r : MV} {x va vb : Value} {value slice : PySem.Expr} (h : slcO G v a b = some r) (S : St c fix kp φ G s) (vx : c.VR fix φ v x) (ha : c.VR fix φ a va) (hb : c.VR fix φ b vb) :
    Ev c A fix kp φ (subscriptTail value slice x (.ref s.heap.objs.size)) { s with heap := s.heap.push { cls := .type "slice", data := .fields #[va, vb, .none] } } G (fun f p z => c.VR f p r z) := by
  obtain ⟨l, hl, h⟩ := Option.bind_eq_some_iff.mp h
  obtain ⟨p, hp, h⟩ := Option.bind_eq_some_iff.mp h
  obtain ⟨q, hq, h⟩ := Option.map_eq_some_iff.mp h
  rw [← h]
  refine lstK (P := fun x => Ev c A fix kp φ (subscriptTail value slice x (.ref s.heap.objs.size)) { s with heap := s.heap.push { cls := .type "slice", data := .fields #[va, vb, .none] } } G (fun f p' z => c.VR f p' (.lst ((l.take q).drop p)) z)) S vx hl fun D xs n ho hr z => ?_
  refine partOf ha hp fun lo pa ia => partOf hb hq fun hi pb ib => ?_
  rw [show l.length = xs.size from hr.length.trans Array.length_toList] at pb
  clear hp hq h hl vx ha hb
  intro E Q k
  obtain ⟨ops, hs⟩ := subscripted_op slice (.ref D) (.ref s.heap.objs.size)
  refine tail_any (T := "list") ⟨_, Heap.get?_push_of_some _ ho, rfl⟩ slot_list_getitem.lookup ?_ hs
  refine wpAny_getItem_list_slice (lo := lo) (hi := hi) (st := none) (isL (Heap.get?_push_of_some _ ho)) ⟨_, Heap.get?_push_size _ rfl, rfl, rfl⟩ ia ib .none (fun q => nomatch q) ?_ (sizeLine_ge (Nat.le_trans (sizeOk hr z) (by decide)))
  have S1 : St c fix kp φ G { s with heap := s.heap.push { cls := .type "slice", data := .fields #[va, vb, .none] } } := ⟨S.1.push _, S.2⟩
  obtain ⟨fix', le, hf, st⟩ := S1.frzPush (o := ⟨.type "list", none, .seq (slicePick xs lo hi none) 0, #[]⟩) rfl
  refine k fix' φ _ _ le (List.prefix_refl _) (st _) ?_
  rw [pick_eq pa pb] at hf
  exact VR.lst hf ((((hr.take q).drop p)).mono le (List.prefix_refl _)) (Nat.le_trans (by rw [List.length_drop, List.length_take]; exact Nat.le_trans (Nat.sub_le _ _) (Nat.min_le_right _ _)) z)

theorem revO_ok {v r : MV} {x : Value} {value slice : PySem.Expr} {t : Tok} (h : revO G v = some r) (S : St c fix kp φ G s) (vx : c.VR fix φ v x) :
    Ev c A fix kp φ (subscriptTail value slice x (.ref s.heap.objs.size)) { s with heap := s.heap.push { cls := .type "slice", data := .fields #[.none, .none, .int (-1) t] } } G (fun f p z => c.VR f p r z) := by
  obtain ⟨l, hl, h⟩ := Option.map_eq_some_iff.mp h
  rw [← h]
  refine lstK (P := fun x => Ev c A fix kp φ (subscriptTail value slice x (.ref s.heap.objs.size)) { s with heap := s.heap.push { cls := .type "slice", data := .fields #[.none, .none, .int (-1) t] } } G (fun f p z => c.VR f p (.lst l.reverse) z)) S vx hl fun D xs n ho hr z => ?_
  clear h hl vx
  intro E Q k
  obtain ⟨ops, hs⟩ := subscripted_op slice (.ref D) (.ref s.heap.objs.size)
  refine tail_any (T := "list") ⟨_, Heap.get?_push_of_some _ ho, rfl⟩ slot_list_getitem.lookup ?_ hs
  refine wpAny_getItem_list_slice (lo := none) (hi := none) (st := some (-1)) (isL (Heap.get?_push_of_some _ ho)) ⟨_, Heap.get?_push_size _ rfl, rfl, rfl⟩ .none .none (.int _ _) (by decide) ?_ (sizeLine_ge (Nat.le_trans (sizeOk hr z) (by decide)))
  have S1 : St c fix kp φ G { s with heap := s.heap.push { cls := .type "slice", data := .fields #[.none, .none, .int (-1) t] } } := ⟨S.1.push _, S.2⟩
  obtain ⟨fix', le, hf, st⟩ := S1.frzPush (o := ⟨.type "list", none, .seq (slicePick xs none none (some (-1))) 0, #[]⟩) rfl
  refine k fix' φ _ _ le (List.prefix_refl _) (st _) ?_
  rw [PySem.W.krv_pick] at hf
  exact VR.lst hf (hr.reverse.mono le (List.prefix_refl _)) (by rw [List.length_reverse]; exact z)

theorem setL_len {κ : Type} [DecidableEq κ] : ∀ (l : List (κ × MV)) (k : κ) (v : MV), (setL l k v).length ≤ l.length + 1
  | [], _, _ => by simp [setL]
  | (a, x) :: r, k, v => by
    rw [setL]; split
    · simp
    · have := setL_len r k v; simp only [List.length_cons]; omega

theorem dup_app {κ : Type} {l : List κ} {k : κ} (h : l.Nodup) (hk : k ∉ l) : (l ++ [k]).Nodup :=
  List.nodup_append.mpr ⟨h, List.nodup_cons.mpr ⟨List.not_mem_nil, List.nodup_nil⟩, fun y hy z hz e => hk (List.mem_singleton.mp hz ▸ e ▸ hy)⟩
theorem setZ {κ : Type} [DecidableEq κ] {l : List (κ × MV)} {k : κ} {v : MV} (h : l.length < 4096) : (setL l k v).length ≤ 4096 := Nat.le_trans (setL_len l k v) h
theorem memA {es : List DictEntry} {e : DictEntry} (h : e ∈ es.toArray) : e ∈ es := List.mem_toArray.mp h
noncomputable def Done (c : CX) (A : Around) (fix kp : Kp) (φ : List Addr) (s : Shared) (G' : GH) (t : Sem Unit) : Prop := ∀ (E : Value → Shared → Prop) (Q : Unit → Shared → Prop), (∀ s', St c fix kp φ G' s' → Q () s') → wpAny c.M A t Q E s
theorem subSet_ok (hT : c.S.tab.Nodup) {v w' x : MV} {vo vi vx : Value} {G' : GH} (h : subSet G v w' x = some G') (S : St c fix kp φ G s) (ho : c.VR fix φ v vo) (hi : c.VR fix φ w' vi) (hx : c.VR fix φ x vx) :
    Ev c A fix kp φ (setItem vo vi vx) s G' (fun _ _ _ => True) := by
  suffices H : Done c A fix kp φ s G' (setItem vo vi vx) from fun E Q q => H E Q fun s' S' => q fix φ () s' (Le.refl _) (List.prefix_refl _) S' trivial
  have h : (match iInt w' with
    | some a => (match rN G v with
      | some p => if p.2.2.length < 4096 then some (G.set p.1 (.nd (if (p.2.2.lookup a).isSome then p.2.1 else p.2.1 + 1) (setL p.2.2 a x))) else none
      | none => rL G v fun i l => if 0 ≤ a ∧ a < l.length then some (G.set i (.lst (l.set a.toNat x))) else none)
    | none => (iStr w').bind fun k => rS G v fun i l => if l.length < 4096 then some (G.set i (.sd (setL l k x))) else none) = some G' := h
  cases q : iInt w' with
  | none =>
    rw [q] at h
    obtain ⟨k, h1, h⟩ := Option.bind_eq_some_iff.mp h
    refine rS_k (P := fun v => c.VR fix φ v vo → Done c A fix kp φ s G' (setItem vo vi vx)) h (fun i l hg h ho => ?_) ho
    refine refV (P := fun vo => Done c A fix kp φ s G' (setItem vo vi vx)) ho fun a hp => ?_
    refine iStr_k (P := fun w' => c.VR fix φ w' vi → _) h1 (fun hi => ?_) hi
    refine strV (P := fun vi => Done c A fix kp φ s G' (setItem (.ref a) vi vx)) hi fun nm t hk => ?_
    rw [← Option.some.inj (oif' h).2]
    have hz := (oif' h).1
    clear h h1 q
    intro E Q q
    refine S.gd hp hg fun es n ho hr hn z => ?_
    refine setItem_ex (knd := strKind c.prog c.w) strIs ho (fun e he => EDs.keysOf hr e (memA he)) (sizeLine_ge (by rw [← EDs.length hr]; exact Nat.le_trans z (by decide))) (fun j h' hj hs he => ?_) fun h' hj hs he => ?_
    · have o := EDs.setSome (krS_inj hT) krS_fn hk hx hr hj
      exact q _ ⟨S.1.set hp (fun b hb o e => (hs.2 b hb).trans e) he ⟨_, n, rfl, o.1, by rw [o.2.2]; exact hn, setZ hz⟩, S.2⟩
    · have o := EDs.setNone (key := .str nm t) (krS_inj hT) krS_fn hk strIs hx hr hj
      exact q _ ⟨S.1.set hp (fun b hb o e => (hs.2 b hb).trans e) he ⟨_, n + 1, rfl, o.1, by rw [o.2.2.1]; exact dup_app hn o.2.2.2, setZ hz⟩, S.2⟩
  | some k =>
    rw [q] at h
    refine iInt_k (P := fun w' => c.VR fix φ w' vi → _) q (fun hi => ?_) hi
    refine intV (P := fun vi => Done c A fix kp φ s G' (setItem vo vi vx)) hi fun t => ?_
    clear q hi
    cases q2 : rN G v with
    | some p =>
      rw [q2] at h
      refine rN_k (P := fun v => c.VR fix φ v vo → _) q2 (fun hg ho => ?_) ho
      refine refV (P := fun vo => Done c A fix kp φ s G' (setItem vo (.int k t) vx)) ho fun a hp => ?_
      rw [← Option.some.inj (oif' h).2]
      have hz := (oif' h).1
      clear h q2 ho
      intro E Q q
      refine S.gn hp hg fun es ho hr hn z => ?_
      refine setItem_ex (knd := intKind c.prog c.w) intIs ho (fun e he => EDs.keysOf hr e (memA he)) (sizeLine_ge (by rw [← EDs.length hr]; exact Nat.le_trans z (by decide))) (fun j h' hj hs he => ?_) fun h' hj hs he => ?_
      · have o := EDs.setSome krI_inj krI_fn (show krI k k from rfl) hx hr hj
        rw [o.2.1, if_pos rfl] at q
        exact q _ ⟨S.1.set hp (fun b hb o e => (hs.2 b hb).trans e) he ⟨_, rfl, o.1, by rw [o.2.2]; exact hn, setZ hz⟩, S.2⟩
      · have o := EDs.setNone (key := .int k t) krI_inj krI_fn (show krI k k from rfl) intIs hx hr hj
        rw [o.2.1, if_neg (by decide)] at q
        exact q _ ⟨S.1.set hp (fun b hb o e => (hs.2 b hb).trans e) he ⟨_, rfl, o.1, by rw [o.2.2.1]; exact dup_app hn o.2.2.2, setZ hz⟩, S.2⟩
    | none =>
      rw [q2] at h
      refine rL_k (P := fun v => c.VR fix φ v vo → _) h (fun i l hg h ho => ?_) ho
      refine refV (P := fun vo => Done c A fix kp φ s G' (setItem vo (.int k t) vx)) ho fun a hp => ?_
      rw [← Option.some.inj (oif' h).2]
      have hz := (oif' h).1
      clear h q2 ho
      intro E Q q
      refine S.go hp hg fun xs n ho hr z => ?_
      have hlt : k < (xs.toArray.size : Int) := by rw [List.size_toArray, ← hr.length]; exact hz.2
      refine ki_setAt ho hz.1 (Int.lt_of_lt_of_le hz.2 (Int.le_trans (Int.ofNat_le.mpr z) (by decide))) hlt (q _ ⟨S.1.set hp (fun b hb o e => (Heap.get?_update_other _ _ (Ne.symm hb)).trans e) (o := ⟨.type "list", none, .seq (xs.set k.toNat vx).toArray n, #[]⟩) ?_ ⟨_, _, rfl, hr.set hx _, by rw [List.length_set]; exact z⟩, S.2⟩)
      rw [Heap.get?_update_self _ ho rfl]
      simp [Obj.mapSeq]

theorem appO_ok {v x : MV} {vo vx : Value} {G' : GH} (h : appO G v x = some G') (S : St c fix kp φ G s) (ho : c.VR fix φ v vo) (hx : c.VR fix φ x vx) :
    Ev c A fix kp φ (call (.builtin "list.append") [vo, vx]) s G' (fun f p z => c.VR f p .none z) := by
  intro E Q q
  refine rL_k (P := fun v => c.VR fix φ v vo → _) h (fun i l hg h ho => ?_) ho
  refine refV (P := fun vo => wpAny c.M A (call (.builtin "list.append") [vo, vx]) Q E s) ho fun a hp => ?_
  rw [← Option.some.inj (oif' h).2] at q
  have hz := (oif' h).1
  clear h ho
  refine S.go hp hg fun xs n ho hr z => ?_
  refine wpAny_list_append_plain ⟨n, ho⟩ (fun h' hl hs => hl.elim fun n' he => ?_) (sizeLine_ge (by rw [List.size_toArray, ← hr.length]; exact Nat.le_trans z (by decide)))
  exact q fix φ _ _ (Le.refl _) (List.prefix_refl _) ⟨S.1.set hp (fun b hb o e => (hs.2 b hb).trans e) he ⟨xs ++ [vx], n', by rw [List.push_toArray], hr.append (.one hx), by rw [List.length_append]; exact hz⟩, S.2⟩ .none

theorem popO_ok {v r : MV} {vo : Value} {G' : GH} (h : popO G v = some (r, G')) (S : St c fix kp φ G s) (ho : c.VR fix φ v vo) :
    Ev c A fix kp φ (call (.builtin "list.pop") [vo]) s G' (fun f p z => c.VR f p r z) := by
  intro E Q q
  refine rL_k (P := fun v => c.VR fix φ v vo → _) h (fun i l hg h ho => ?_) ho
  refine refV (P := fun vo => wpAny c.M A (call (.builtin "list.pop") [vo]) Q E s) ho fun a hp => ?_
  obtain ⟨y, hy, h⟩ := Option.map_eq_some_iff.mp h
  have e1 : y = r := congrArg Prod.fst h
  have e2 : G.set i (.lst l.dropLast) = G' := congrArg Prod.snd h
  rw [← e1, ← e2] at q
  clear h e1 e2 ho
  refine S.go hp hg fun xs n ho hr z => ?_
  obtain ⟨ys, u, e, hu, hr'⟩ := hr.snoc_inv hy
  rw [e] at ho
  have hsz : (ys ++ [u]).toArray.size = ys.length + 1 := by rw [List.size_toArray, List.length_append]; rfl
  have hz : ys.length + 1 ≤ 4096 := by rw [← hsz, ← e, List.size_toArray, ← hr.length]; exact z
  refine call_meets PySem.F.slot_list_pop ⟨_, ho, rfl⟩ PySem.F.entry_list_pop (PySem.F.args_list_pop_1 _) (PySem.MeetsSeq.list_pop_last a _ n u (by rw [hsz]; simp) (sizeLine_ge (by rw [hsz]; exact Nat.le_trans hz (by decide))))
    ⟨ho, q fix φ _ _ (Le.refl _) (List.prefix_refl _) ⟨S.1.set hp (fun b hb o e => (Heap.get?_update_other _ _ (Ne.symm hb)).trans e) (o := ⟨.type "list", none, .seq ys.toArray (n + 1), #[]⟩) ?_ ⟨ys, _, rfl, hr', by rw [List.length_dropLast]; exact Nat.le_trans (Nat.sub_le _ _) z⟩, S.2⟩ hu⟩
  rw [Heap.get?_update_self _ ho rfl, hsz]
  have e := kl_erase ys [] u
  rw [List.append_nil] at e
  simp only [Nat.add_sub_cancel]
  simp only [Obj.mapSeq, e]
  simp
end
end Mine
end
section
set_option autoImplicit false
set_option linter.unusedSectionVars false
namespace Mine
open PySem PySem.W PyProof.Rows PySem.Calls

section
variable {c : CX} {A : Around} {fix kp : Kp} {φ : List Addr} {G : GH} {s : Shared} {d : Nat}

theorem mkNew (m : Bool) {l : List MV} {xs : List Value} {n : Nat} {a : Addr} {h' : Heap} (S : St c fix kp φ G s) (hk : ∀ b x, s.heap.get? b = some x → h'.get? b = some x) (ha : h'.get? a = some ⟨.type "list", none, .seq xs.toArray n, #[]⟩) (hge : s.heap.objs.size ≤ a) (hr : c.VRs fix φ l xs) (z : l.length ≤ 4096) :
    ∃ fix' φ', Le fix fix' ∧ φ <+: φ' ∧ (∀ tk, St c fix' kp φ' (mkL m l G).2 { s with heap := h', toks := tk }) ∧ c.VR fix' φ' (mkL m l G).1 (.ref a) := by
  have hn := get_ge hge
  cases m with
  | false =>
    obtain ⟨fix', le, hf, st⟩ := S.frz hk ha hn
    exact ⟨fix', φ, le, List.prefix_refl _, st, VR.lst hf (hr.mono le (List.prefix_refl _)) z⟩
  | true =>
    have R := S.1.ext hk
    have hf : fix a = none := by
      cases e : fix a with
      | none => rfl
      | some x => have := S.1.fixK a x e; rw [hn] at this; cases this
    have hkp : kp a = none := by
      cases e : kp a with
      | none => rfl
      | some x => have := S.1.kpK a x e; rw [hn] at this; cases this
    have hp : a ∉ φ := fun q => by have := S.1.live q; rw [hn] at this; cases this
    refine ⟨fix, φ ++ [a], Le.refl _, List.prefix_append _ _, fun tk => ⟨R.grow ha hf hkp hp ⟨xs, n, rfl, hr.mono (Le.refl _) (List.prefix_append _ _), z⟩ (S.1.size hge), S.2⟩, VR.ref ?_⟩
    show (φ ++ [a])[G.length]? = some a
    rw [← S.1.len, List.getElem?_append_right (Nat.le_refl _), Nat.sub_self]
    rfl
theorem mkPush (m : Bool) {l : List MV} {xs : List Value} (S : St c fix kp φ G s) (hr : c.VRs fix φ l xs) (z : l.length ≤ 4096) :
    ∃ fix' φ', Le fix fix' ∧ φ <+: φ' ∧ (∀ tk, St c fix' kp φ' (mkL m l G).2 { s with heap := s.heap.push ⟨.type "list", none, .seq xs.toArray 0, #[]⟩, toks := tk }) ∧ c.VR fix' φ' (mkL m l G).1 (.ref s.heap.objs.size) :=
  mkNew m S (fun _ _ e => Heap.get?_push_of_some _ e) (Heap.get?_push_size _ rfl) (Nat.le_refl _) hr z

theorem sort_eq {ns ms : List Int} (hp : ms.Perm ns) (hs : ms.Pairwise (· ≤ ·)) : ms = ns.mergeSort (· ≤ ·) := by
  refine List.Perm.eq_of_pairwise (le := (· ≤ ·)) (fun a b _ _ h1 h2 => by omega) hs ?_ (hp.trans (List.mergeSort_perm ns _).symm)
  have := List.pairwise_mergeSort (le := fun (a b : Int) => decide (a ≤ b)) (fun a b c h1 h2 => by simp only [decide_eq_true_eq] at *; omega) (fun a b => by simp only [Bool.or_eq_true, decide_eq_true_eq]; omega) ns
  exact this.imp (by intro a b h; simpa using h)

theorem intsO_map : ∀ ns : List Int, intsO (ns.map MV.int) = some ns
  | [] => rfl
  | n :: r => by
    show (intsO (r.map MV.int)).map (n :: ·) = _
    rw [intsO_map r]; rfl

noncomputable def bltV : Bl → Value
  | .len => .builtin "len"
  | .abs => .builtin "abs"
  | .int => .type "int"
  | .list _ => .type "list"
  | .tuple => .type "tuple"
  | .sorted => .builtin "sorted"

theorem natAbs_of (i : Int) : (if i < 0 then -i else i) = ((i.natAbs : Nat) : Int) := by split <;> omega
noncomputable def BltOk (c : CX) (A : Around) (fix kp : Kp) (φ : List Addr) (s : Shared) (G' : GH) (r : MV) (b : Bl) (x : Value) : Prop := Ev c A fix kp φ (call (bltV b) [x]) s G' (fun f p z => c.VR f p r z)
theorem pairK {r r' : MV} {G1 G2 : GH} {P : MV → GH → Prop} (h : (r', G1) = (r, G2)) (g : P r' G1) : P r G2 := by cases h; exact g
theorem bltO_ok {b : Bl} {v r : MV} {x : Value} {G' : GH} (h : bltO G b v = some (r, G')) (S : St c fix kp φ G s) (vx : c.VR fix φ v x) :
    BltOk c A fix kp φ s G' r b x := by
  cases b with
  | len =>
    obtain ⟨l, hl, h⟩ := Option.map_eq_some_iff.mp h
    refine pairK (P := fun r G' => BltOk c A fix kp φ s G' r .len x) h ?_
    clear h
    refine lstK (P := fun x => BltOk c A fix kp φ s G (.int l.length) .len x) S vx hl fun a xs n ho hr z E Q q => ?_
    rw [show l.length = xs.size from hr.length.trans Array.length_toList] at q
    exact len_list (isL ho) (by have := sizeOk hr z; clear hl vx hr z ho q; omega) (q fix φ _ _ (Le.refl _) (List.prefix_refl _) (S.toks _) (.int _ _))
  | abs =>
    obtain ⟨i, hi, h⟩ := Option.map_eq_some_iff.mp h
    refine pairK (P := fun r G' => BltOk c A fix kp φ s G' r .abs x) h ?_
    refine iInt_k (P := fun v => c.VR fix φ v x → _) hi (fun vx => intV (P := fun x => BltOk c A fix kp φ s G (.int i.natAbs) .abs x) vx fun t E Q q => ?_) vx
    exact call_abs_int fun u tk => q fix φ _ _ (Le.refl _) (List.prefix_refl _) (S.toks _) (natAbs_of i ▸ .int _ _)
  | int =>
    obtain ⟨i, hi, h⟩ := Option.map_eq_some_iff.mp h
    refine pairK (P := fun r G' => BltOk c A fix kp φ s G' r .int x) h ?_
    refine iInt_k (P := fun v => c.VR fix φ v x → _) hi (fun vx => intV (P := fun x => BltOk c A fix kp φ s G (.int i) .int x) vx fun t E Q q => ?_) vx
    exact call_int_int (q fix φ _ _ (Le.refl _) (List.prefix_refl _) (S.toks _) (.int _ _))
  | list m =>
    obtain ⟨l, hl, h⟩ := Option.bind_eq_some_iff.mp h
    refine pairK (P := fun r G' => BltOk c A fix kp φ s G' r (.list m) x) (Option.some.inj (oif' h).2) ?_
    clear h
    refine seqK (P := fun x => BltOk c A fix kp φ s (mkL m l G).2 (mkL m l G).1 (.list m) x) S vx hl fun a xs n T hT ho hr z E Q q => ?_
    refine call_list_seq a (T := T) hT ho rfl rfl (fun h' c' hk hD => ?_) (sizeLine_ge (Nat.le_trans (sizeOk hr z) (by decide)))
    obtain ⟨fix', φ', le, pre, st, hv⟩ := mkNew m (xs := xs.toList) S hk (by simpa using hD) (Nat.le_refl _) hr z
    exact q fix' φ' _ _ le pre (st _) hv
  | tuple =>
    obtain ⟨l, hl, h⟩ := Option.bind_eq_some_iff.mp h
    refine pairK (P := fun r G' => BltOk c A fix kp φ s G' r .tuple x) (Option.some.inj (oif' h).2) ?_
    clear h
    refine lstK (P := fun x => BltOk c A fix kp φ s G (.tup l) .tuple x) S vx hl fun a xs n ho hr z E Q q => ?_
    refine call_tuple_list (isL ho) (fun h' hk => ?_) (sizeLine_ge (Nat.le_trans (sizeOk hr z) (by decide)))
    have S1 : St c fix kp φ G { s with heap := h' } := ⟨S.1.ext hk, S.2⟩
    obtain ⟨fix', le, hf, st⟩ := S1.frzPush (o := ⟨.type "tuple", none, .seq xs 0, #[]⟩) rfl
    exact q fix' φ _ _ le (List.prefix_refl _) (st _) (VR.tup (xs := xs.toList) (n := 0) (by rw [Array.toArray_toList]; exact hf) (hr.mono le (List.prefix_refl _)) z)
  | sorted =>
    obtain ⟨ns, hl, h⟩ := Option.bind_eq_some_iff.mp h
    obtain ⟨l, hl, hns⟩ := Option.bind_eq_some_iff.mp hl
    refine pairK (P := fun r G' => BltOk c A fix kp φ s G' r .sorted x) (Option.some.inj (oif' h).2) ?_
    have hz := (oif' h).1
    clear h
    refine lstK (P := fun x => BltOk c A fix kp φ s G (.lst ((ns.mergeSort (· ≤ ·)).map .int)) .sorted x) S vx hl fun a xs n ho hr z E Q q => ?_
    have hi := intsIn hr hns
    refine sorted_ints (vs := xs.toList) (by rw [Array.toArray_toList]; exact isL ho) hi (by rw [hi.length]; exact hz) fun out ns' a1 a2 a3 => ?_
    obtain ⟨e, he⟩ := sortedAll_at s.heap xs.toList out
    obtain ⟨fix', le, hf, st⟩ := S.frz (fun _ _ => sortedAll_old) he (get_ge (Nat.le_succ _))
    rw [← sort_eq a2 a3] at q
    exact q fix' φ _ _ le (List.prefix_refl _) (st _) (VR.lst (xs := out.toList) (n := e) (by rw [Array.toArray_toList]; exact hf) (intsOut a1) (by rw [List.length_map, a2.length_eq]; exact Nat.le_trans (Nat.le_of_lt hz) (by decide)))
end
end Mine
end
section
set_option autoImplicit false
set_option linter.unusedSectionVars false
namespace Mine
open PySem PySem.W PyProof.Rows PySem.Calls

noncomputable def attrIn (K : Frag) (C : Addr) (x : Str) : Bool :=
  plainGet K C x && hasDictIn K C && findIn K (.ref C) x == some none && findIn K (.ref C) "__setattr__" == some (some (.builtin "object.__setattr__")) && plainOver K C && takerIn K C x == some none
noncomputable def methIn (K : Frag) (C : Addr) (x : Str) (f : Addr) : Bool := plainGet K C x && findIn K (.ref C) x == some (some (.ref f)) && isFn K (.ref f) && keepIn K (.ref f)
noncomputable def initIn (K : Frag) (C : Addr) (f : Addr) : Bool := makesIn K C && findIn K (.ref C) "__init__" == some (some (.ref f)) && (typeIn K (.ref f) == some (.type "function")) && keepIn K (.ref C)

set_option genInjectivity false in
set_option genSizeOf false in
structure FnOk (c : CX) (f : Addr) (mf : MFun) where
  nms : List Str
  name : Str
  qual : Str
  params : Arguments
  body : List Stmt
  scope : Scope
  cl : List (Str × Addr)
  dV : Value
  kV : Value
  doc : Value
  pm : Value
  cdv : Value
  ct : Value
  an : Option Addr
  od : Option Addr
  oc : Value
  osl : Array (Option Value)
  here : c.K.lookup f = some ⟨oc, od, .func (fnX name qual params body scope cl dV kV doc pm an cdv ct), osl⟩
  code : codeIn c.K cdv qual = true
  chk : chkF c.S mf nms params scope body = true
  kw : kV = .none

structure CX.Ok (c : CX) : Prop where
  tabN : c.S.tab.Nodup
  Kin : c.K.In c.hb
  g : c.hb.Ns mainGlobals c.mg
  b : c.hb.Ns builtinsNs c.mb
  boot : ∀ x : Str, x ≠ "__name__" → c.mb x = bootBuiltins x
  nolimit : c.hb.NoLimit
  glob : ∀ x f, c.S.globs.lookup x = some f → c.mg x = some (.ref f) ∧ keepIn c.K (.ref f) = true
  gint : ∀ x i, c.S.gints.lookup x = some i → ∃ t, c.mg x = some (.int i t)
  blt : ∀ x ∈ c.S.blts, c.mg x = none ∧ x ≠ ("__name__" : Str)
  atr : ∀ C k, c.P.atr C k = true → ∃ x, c.S.tab[k]? = some x ∧ attrIn c.K C x = true
  mth : ∀ C m f, c.P.mth C m = some f → ∃ x, c.S.tab[m]? = some x ∧ methIn c.K C x f = true
  init : ∀ C f, c.P.init C = some f → initIn c.K C f = true

section
variable {c : CX} {A : Around} {fix kp : Kp} {φ : List Addr} {G : GH} {s : Shared} {d : Nat}

theorem Rel.K (O : c.Ok) {h : Heap} (R : Rel c fix kp φ G h) : c.K.In h := fun a o e => R.fixK _ _ (R.base _ _ (O.Kin a o e))
theorem Rel.baseK {h : Heap} (R : Rel c fix kp φ G h) : ∀ a o, c.hb.get? a = some o → h.get? a = some o := fun _ _ e => R.fixK _ _ (R.base _ _ e)
theorem Rel.noLimit (O : c.Ok) {h : Heap} (R : Rel c fix kp φ G h) : h.NoLimit := O.nolimit.keeps R.baseK

theorem instAt {h : Heap} {x C dx : Addr} {es : List DictEntry} {n : Nat} (hx : h.get? x = some (instObj C dx)) (hd : h.get? dx = some ⟨.type "dict", none, .dict es.toArray n, #[]⟩) : W.InstAt h x (instObj C dx) C (some (dictOf es n)) :=
  ⟨hx, rfl, rfl, hd⟩
theorem handed {v : MV} {x : Value} (h : c.VR fix φ v x) : handedIn x = true := by cases h <;> rfl

theorem strIs_eq (x : Str) (v : Value) : (strKind c.prog c.w).is x v = v.isStr x := by
  show Value.isStrOf x v = v.isStr x
  cases v <;> simp [Value.isStrOf, Value.isStr]
theorem strIs_fn (x : Str) : (fun e : DictEntry => (strKind c.prog c.w).is x e.key) = (fun e : DictEntry => e.key.isStr x) := funext fun e => strIs_eq _ _
theorem sdKeys {l : List (Nat × MV)} {es : List DictEntry} (r : SDs c.prog c.w c.S.tab fix φ l es) : (es.any fun e => e.refKey) = false := by
  rw [List.any_eq_false]
  intro e hm
  obtain ⟨k', hk', _⟩ := EDs.keysOf r e hm
  have hs : e.key.isStr k' = true := (strIs_eq k' e.key).symm.trans hk'
  unfold DictEntry.refKey
  revert hs
  cases e.key <;> intro hs <;> first | exact Bool.false_ne_true | exact noF hs
theorem sdGetS {l : List (Nat × MV)} {es : List DictEntry} {k : Nat} {x : Str} {v : MV} (hT : c.S.tab.Nodup) (hk : c.S.tab[k]? = some x) (r : SDs c.prog c.w c.S.tab fix φ l es) (h : l.lookup k = some v) : ∃ y, getL x es = some (some y) ∧ c.VR fix φ v y := by
  obtain ⟨e, e1, e2⟩ := EDs.findS (krS_inj hT) krS_fn hk r h
  rw [strIs_fn] at e1
  unfold getL
  rw [e1]
  exact ⟨_, rfl, e2⟩
theorem sdGetN {l : List (Nat × MV)} {es : List DictEntry} {k : Nat} {x : Str} (hT : c.S.tab.Nodup) (hk : c.S.tab[k]? = some x) (r : SDs c.prog c.w c.S.tab fix φ l es) (h : l.lookup k = none) : getL x es = some none := by
  have e1 := EDs.findN (krS_inj hT) krS_fn hk r h
  rw [strIs_fn] at e1
  unfold getL
  rw [e1, sdKeys r]
  rfl

theorem attrIn_k {K : Frag} {C : Addr} {x : Str} {P : Prop} (h : attrIn K C x = true) (g : plainGet K C x = true → hasDictIn K C = true → findIn K (.ref C) x = some none → findIn K (.ref C) "__setattr__" = some (some (.builtin "object.__setattr__")) → plainOver K C = true → takerIn K C x = some none → P) : P := by
  have h := Bool.and_eq_true_iff.mp h
  have h2 := Bool.and_eq_true_iff.mp h.1
  have h3 := Bool.and_eq_true_iff.mp h2.1
  have h4 := Bool.and_eq_true_iff.mp h3.1
  have h5 := Bool.and_eq_true_iff.mp h4.1
  exact g h5.1 h5.2 (eq_of_beq h4.2) (eq_of_beq h3.2) h2.2 (eq_of_beq h.2)
theorem aGet_ok (O : c.Ok) {X : Ctx} (hX : X.atr = c.P.atr) {k : Nat} {v r : MV} {x : Value} {nm : Str} (hk : c.S.tab[k]? = some nm) (h : aGet X G k v = some r) (S : St c fix kp φ G s) (vx : c.VR fix φ v x) :
    Ev c A fix kp φ (getAttr x nm true) s G (fun f p z => c.VR f p r z) := by
  obtain ⟨p, h1, h⟩ := Option.bind_eq_some_iff.mp h
  obtain ⟨l, h2, h3⟩ := Option.bind_eq_some_iff.mp (oif' h).2
  have hat : attrIn c.K p.1 nm = true := (O.atr p.1 k (hX ▸ (oif' h).1)).elim fun nm' q => Option.some.inj (hk.symm.trans q.1) ▸ q.2
  refine iObj_k (P := fun v => c.VR fix φ v x → _) h1 (fun vx => ?_) vx
  refine objV (P := fun x => Ev c A fix kp φ (getAttr x nm true) s G (fun f p z => c.VR f p r z)) vx fun a dx hf hp => ?_
  refine S.gd hp (hS_at h2) fun es n ho hr hn z => ?_
  obtain ⟨y, hy, vy⟩ := sdGetS O.tabN hk hr h3
  clear h h1 h2 h3 vx
  exact attrIn_k hat fun h1 h2 h3 _ _ _ => Ev.same S fun E Q q => get_value (S.1.K O) (instAt (S.1.fixK _ _ hf) ho) (plainGet_of h1).1 (findObj_own h2 h3 (by rfl) hy) (handed vy) (q _ _ vy)

theorem isStr_eq {v : Value} {x : Str} (h : v.isStr x = true) : ∃ t, v = .str x t := by
  cases v <;> simp_all [Value.isStr]

theorem sdPut {k : Nat} {x : Str} {v : MV} {t : Tok} {y : Value} (hT : c.S.tab.Nodup) (hk : c.S.tab[k]? = some x) (hv : c.VR fix φ v y) {l : List (Nat × MV)} {es : List DictEntry} (r : SDs c.prog c.w c.S.tab fix φ l es) (hn : (l.map (·.1)).Nodup) :
    SDs c.prog c.w c.S.tab fix φ (setL l k v) (putL x (PyData.keyHash c.w.params x) (.str x t) y es) ∧ ((setL l k v).map (·.1)).Nodup := by
  rw [← putL_find]
  have he : (fun e : DictEntry => e.key.isStr x) = (fun e : DictEntry => (strKind c.prog c.w).is x e.key) := funext fun e => (strIs_eq _ _).symm
  rw [he]
  cases hi : es.findIdx? (fun e : DictEntry => (strKind c.prog c.w).is x e.key) with
  | some i =>
    obtain ⟨a, b, d⟩ := EDs.setSome (krS_inj hT) krS_fn hk hv r hi
    exact ⟨a, by rw [d]; exact hn⟩
  | none =>
    obtain ⟨a, b, d, f⟩ := EDs.setNone (krS_inj hT) krS_fn hk (strIs (c := c) (x := x) (t := t)) hv r hi
    refine ⟨a, ?_⟩
    rw [d]
    exact dup_app hn f

theorem setAttr_ex {E : Value → Shared → Prop} {Q : Unit → Shared → Prop} {x C dx : Addr} {nm : Str} {v : Value} {es : List DictEntry} {n : Nat} (X : c.K.In s.heap) (hx : s.heap.get? x = some (instObj C dx)) (hd : s.heap.get? dx = some ⟨.type "dict", none, .dict es.toArray n, #[]⟩) (hat : attrIn c.K C nm = true)
    (hl : (getL nm es).isSome = true) (hz : es.length ≤ 4096)
    (q : ∀ h' t tk, Heap.SameBut dx s.heap h' → h'.get? dx = some (dictOf (putL nm (PyData.keyHash c.w.params nm) (.str nm t) v es) (putN nm es n)) → Q () { s with heap := h', toks := tk }) :
    wpAny c.M A (setAttr (.ref x) nm v) Q E s := by
  refine attrIn_k hat fun _ h2 _ h4 h5 h6 => ?_
  clear hat
  refine set_plain X (instAt hx hd) h4 ?_
  refine osa_open (s := { s with toks := s.toks + 1 }) X (instAt hx hd) h5 h6 fun b => ?_
  obtain ⟨cd, hc, hd'⟩ := any_some h2
  refine wpAny_bind (wpAny_pure (wpAny_bind (wpAny_bind (wpAny_loadPart hx (wpAny_bind (Looks.here (s := { s with toks := s.toks + 1 }) (looks_clsIn X hc) ?_))))))
  rw [hd']
  refine wpAny_pure (a := some dx) (wpAny_bind (wpAny_pure (wpAny_bind ?_)))
  unfold nsSet
  refine wpAny_bind (wpAny_bind (wpAny_askSetting (wpAny_pure (wpAny_bind (wpAny_mkText (wpAny_bind (wpAny_loadPart hd ?_)))))))
  dsimp only
  have cc : (!es.toArray.any (·.key.isStr nm) && es.toArray.any (·.refKey)) = false := by
    rw [← Array.any_toList, ← Array.any_toList]
    unfold getL at hl
    split at hl
    · rename_i en he
      rw [List.any_eq_true.mpr ⟨en, List.mem_of_find?_eq_some he, List.find?_some he⟩]; rfl
    · split at hl
      · cases hl
      · rename_i z; rw [Bool.not_eq_true] at z; rw [z, Bool.and_false]
  rw [aRefKeyMayBeTheName_at, cc]
  have hlen : ∀ (h : Int) (k : Value), (putL nm h k v es).length ≤ es.length + 1 := by
    intro h k
    clear hl hz q hd cc
    induction es with
    | nil => simp [putL]
    | cons e r ih => rw [putL]; split <;> simp only [List.length_cons] <;> omega
  have D' : (s.heap.update dx (Obj.putName nm (PyData.keyHash c.w.params nm) (.str nm (s.toks + 1)) v)).get? dx = some (dictOf (putL nm (PyData.keyHash c.w.params nm) (.str nm (s.toks + 1)) v es) (putN nm es n)) := by
    rw [← putName_dict]
    exact Heap.get?_update_self _ hd (by rw [putName_dict]; rfl)
  refine wpAny_updatePart hd ?_
  refine wpAny_bind (wpAny_lookBehind D' (pastItsLine_dict (by have := hlen (PyData.keyHash c.w.params nm) (.str nm (s.toks + 1)); rw [List.size_toArray, sizeLine_eq]; omega)) ?_)
  exact wpAny_pure (q _ _ _ (Heap.SameBut.update ..) D')

theorem aSet_ok (O : c.Ok) {X : Ctx} (hX : X.atr = c.P.atr) {k : Nat} {v r : MV} {x y : Value} {nm : Str} {G' : GH} (hk : c.S.tab[k]? = some nm) (h : aSet X G k r v = some G') (S : St c fix kp φ G s) (vx : c.VR fix φ v x) (vy : c.VR fix φ r y) :
    Ev c A fix kp φ (setAttr x nm y) s G' (fun _ _ _ => True) := by
  suffices H : Done c A fix kp φ s G' (setAttr x nm y) from fun E Q q => H E Q fun s' S' => q fix φ () s' (Le.refl _) (List.prefix_refl _) S' trivial
  obtain ⟨p, h1, h⟩ := Option.bind_eq_some_iff.mp h
  obtain ⟨l, h2, h3⟩ := Option.bind_eq_some_iff.mp (oif' h).2
  have hat : attrIn c.K p.1 nm = true := (O.atr p.1 k (hX ▸ (oif' h).1)).elim fun nm' q => Option.some.inj (hk.symm.trans q.1) ▸ q.2
  rw [← Option.some.inj (oif' h3).2]
  have hz := (oif' h3).1
  have hg := hS_at h2
  clear h h2 h3
  refine iObj_k (P := fun v => c.VR fix φ v x → _) h1 (fun vx => ?_) vx
  refine objV (P := fun x => Done c A fix kp φ s (G.set p.2 (.sd (setL l k r))) (setAttr x nm y)) vx fun a dx hf hp E Q q => ?_
  refine S.gd hp hg fun es n ho hr hn z => ?_
  have hl : (getL nm es).isSome = true := by
    cases e : l.lookup k with
    | some v => obtain ⟨y, hy, _⟩ := sdGetS O.tabN hk hr e; rw [hy]; rfl
    | none => rw [sdGetN O.tabN hk hr e]; rfl
  refine setAttr_ex (S.1.K O) (S.1.fixK _ _ hf) ho hat hl (by rw [← EDs.length hr]; exact z) fun h' t tk hs he => ?_
  obtain ⟨a1, a2⟩ := sdPut (t := t) O.tabN hk vy hr hn
  exact q _ ⟨S.1.set hp (fun b hb o e => (hs.2 b hb).trans e) he ⟨_, _, rfl, a1, a2, setZ hz⟩, S.2⟩
end
end Mine
end
section
set_option autoImplicit false
set_option linter.unusedSectionVars false
namespace Mine
open PySem PySem.W PyProof.Rows PySem.Calls

inductive LoadsK (env : Env) (kp : Kp) (x : Str) (v : Value) : Prop
  | loc {o : Obj} {es : Array DictEntry} {ep : Nat} : env.kindOf x = some .local → kp env.locals = some o → o.data = .dict es ep → StrKeys es → nsFind es x = some v → LoadsK env kp x v
  | cell {a : Addr} {o : Obj} : env.kindOf x = some .cell → env.cells.lookup x = some a → kp a = some o → o.data = .cell (some v) → LoadsK env kp x v
  | free {a : Addr} {o : Obj} : env.kindOf x = some .free → env.cells.lookup x = some a → kp a = some o → o.data = .cell (some v) → x ≠ ("__classdict__" : Str) → LoadsK env kp x v

structure EnvOk (c : CX) (sc : Sp) (nm : Nm) (ρ : Lo) (env : Env) (fix kp : Kp) (φ : List Addr) : Prop where
  kind : env.scope.kind = .function
  names : env.scope.names = sc
  globals : env.globals = mainGlobals
  builtins : env.builtins = builtinsNs
  len : ∀ (i : Nat) (v : MV), ρ[i]? = some (some v) → i < nm.length
  loads : ∀ (i : Nat) (x : Str) (v : MV), nm[i]? = some (some x) → ρ[i]? = some (some v) → ∃ y, c.VR fix φ v y ∧ LoadsK env kp x y
  cells : ∀ x, x ≠ ("__class__" : Str) → sc.lookup x = some .cell ∨ sc.lookup x = some .free → ∃ a, env.cells.lookup x = some a ∧ ∃ o v, kp a = some o ∧ o.data = .cell v
  frame : ∃ o es ep, kp env.locals = some o ∧ o.data = .dict es ep ∧ StrKeys es
  apart : ∀ x a, env.cells.lookup x = some a → a ≠ env.locals
  inj : ∀ x y a, env.cells.lookup x = some a → env.cells.lookup y = some a → x = y
  uniq : ∀ (i j : Nat) (x : Str), nm[i]? = some (some x) → nm[j]? = some (some x) → i = j
  nocls : ∀ (i : Nat) (x : Str), nm[i]? = some (some x) → x ≠ ("__class__" : Str)

section
variable {c : CX} {A : Around} {fix kp : Kp} {φ : List Addr} {G : GH} {s : Shared} {d : Nat} {sc : Sp} {nm : Nm} {ρ : Lo} {env : Env}

theorem EnvOk.mono {fix' : Kp} {φ' : List Addr} (h : EnvOk c sc nm ρ env fix kp φ) (le : Le fix fix') (pre : φ <+: φ') : EnvOk c sc nm ρ env fix' kp φ' :=
  ⟨h.kind, h.names, h.globals, h.builtins, h.len, fun i x v e1 e2 => let ⟨y, a, b⟩ := h.loads i x v e1 e2; ⟨y, a.mono le pre, b⟩, h.cells, h.frame, h.apart, h.inj, h.uniq, h.nocls⟩
theorem EnvOk.kindOf (h : EnvOk c sc nm ρ env fix kp φ) (x : Str) : env.kindOf x = sc.lookup x := by unfold Env.kindOf; rw [h.names]

theorem name_ok {i : Nat} {x : Str} {v : MV} {pos : Pos} (V : EnvOk c sc nm ρ env fix kp φ) (S : St c fix kp φ G s) (h1 : nm[i]? = some (some x)) (h2 : ρ[i]? = some (some v)) (hd : (x == ("__debug__" : Str)) = false) :
    Ev c A fix kp φ (eval (.Name x pos) env) s G (fun f p z => c.VR f p v z) := by
  obtain ⟨y, vy, hl⟩ := V.loads i x v h1 h2
  refine Ev.same S fun E Q q => wpAny_Name ?_ hd
  cases hl with
  | loc hk ho hd hs hf => exact wpAny_loadName_local (m := fun n => nsFind _ n) V.kind hk ⟨_, _, _, S.1.kpK _ _ ho, hd, hs, fun _ => rfl⟩ hf (q _ s.toks vy)
  | cell hk hc ho hd => exact wpAny_loadName_cell V.kind hk hc ⟨_, S.1.kpK _ _ ho, hd⟩ (q _ s.toks vy)
  | free hk hc ho hd hn => exact wpAny_loadName_free V.kind hk hc ⟨_, S.1.kpK _ _ ho, hd⟩ (q _ s.toks vy) (beq_eq_false_iff_ne.mpr hn)

theorem glob_ok (O : c.Ok) {x : Str} {y : Value} {pos : Pos} (V : EnvOk c sc nm ρ env fix kp φ) (S : St c fix kp φ G s) (hk : gloK sc x = true) (hv : c.mg x = some y ∨ (c.mg x = none ∧ c.mb x = some y))
    {E : Value → Shared → Prop} {Q : Value → Shared → Prop} (q : Q y s) : wpAny c.M A (eval (.Name x pos) env) Q E s := by
  simp only [gloK, Bool.and_eq_true, beq_iff_eq, Bool.not_eq_true'] at hk
  refine wpAny_Name (ks_loadName_global V.kind (by rw [V.kindOf]; exact hk.1) ?_) hk.2
  unfold loadGlobal
  rw [V.globals, V.builtins]
  have hg : s.heap.Ns mainGlobals c.mg := O.g.keeps S.1.baseK
  have hb : s.heap.Ns builtinsNs c.mb := O.b.keeps S.1.baseK
  rcases hv with h | ⟨h1, h2⟩
  · refine wpAny_bind (wpAny_nsGet hg ?_)
    rw [h]
    exact wpAny_pure q
  · refine wpAny_bind (wpAny_nsGet hg ?_)
    rw [h1]
    refine wpAny_bind (wpAny_nsGet hb ?_)
    rw [h2]
    exact wpAny_pure q
theorem blt_ok (O : c.Ok) {x : Str} {y : Value} {pos : Pos} (V : EnvOk c sc nm ρ env fix kp φ) (S : St c fix kp φ G s) (hk : bltK c.S sc x = true) (hv : bootBuiltins x = some y)
    {E : Value → Shared → Prop} {Q : Value → Shared → Prop} (q : Q y s) : wpAny c.M A (eval (.Name x pos) env) Q E s := by
  simp only [bltK, Bool.and_eq_true] at hk
  obtain ⟨h1, h2⟩ := O.blt x (by simpa using hk.2)
  exact glob_ok O V S hk.1 (.inr ⟨h1, by rw [O.boot x h2]; exact hv⟩) q

theorem notStar {S : Sta} {e : ME} {sc : Sp} {nm : Nm} {x : PySem.Expr} {pos : Pos} (h : chkE S e sc nm (.Starred x pos) = true) : False := by
  have q : chkE S e sc nm (.Starred x pos) = false := by cases e <;> first | rfl | exact Bool.and_false _
  rw [q] at h; cases h
theorem starCons {S : Sta} {e : ME} {sc : Sp} {nm : Nm} {x : PySem.Expr} {r : List PySem.Expr} (h : chkE S e sc nm x = true) : starEach (x :: r) env = (false, eval x env) :: starEach r env := by
  cases x <;> first | rfl | exact absurd h (fun q => notStar q)
theorem backCons {pos : Pos} {t : Sem Value} {r : List (Bool × Sem Value)} : backTo pos ((false, t) :: r) = (false, t) :: backTo pos r := rfl
theorem starNo {S : Sta} : ∀ {es : List ME} {xs : List PySem.Expr} {sc : Sp} {nm : Nm} {pos : Pos}, chkEs S es sc nm xs = true → (backTo pos (starEach xs env)).any (·.1) = false ∧ (backTo pos (starEach xs env)).all (fun x => !x.1) = true
  | [], [], _, _, _, _ => ⟨rfl, rfl⟩
  | [], _ :: _, _, _, _, h => nomatch h
  | _ :: _, [], _, _, _, h => nomatch h
  | e :: es, x :: xs, _, _, pos, h => by
    have h := Bool.and_eq_true_iff.mp h
    rw [starCons h.1, backCons]
    obtain ⟨a, b⟩ := starNo (pos := pos) h.2
    exact ⟨by rw [List.any_cons, a]; rfl, by rw [List.all_cons, b]; rfl⟩

theorem evalArgs_nilG {f : Value} {E : Value → Shared → Prop} {Q : Args → Shared → Prop} (h : wpAny c.M A (spliced []) (fun vs s' => Q ⟨vs, []⟩ s') E s) : wpAny c.M A (evalArgs f true [] []) Q E s := by
  unfold evalArgs
  show wpAny _ A (spliced [] >>= _) Q E s
  refine wpAny_bind (wpAny_mono h (fun vs s' h' => wpAny_bind (wpAny_pure ?_)) fun _ _ x => x)
  refine wpAny_holding ?_
  exact wpAny_bind (wpAny_pure (wpAny_bind (wpAny_pure (wpAny_pure h'))))
theorem callK (O : c.Ok) {f : Value} {first : List Value} {es : List ME} {xs : List PySem.Expr} {vs : List MV} {G' : GH} {pos : Pos} {E : Value → Shared → Prop} {Q : Value → Shared → Prop} (S : St c fix kp φ G s) (hk : keepIn c.K f = true) (hc : chkEs c.S es sc nm xs = true)
    (h : Ev c A fix kp φ (spliced (backTo pos (starEach xs env))) s G' (fun f p z => c.VRs f p vs z))
    (q : ∀ fix' φ' ys s', Le fix fix' → φ <+: φ' → St c fix' kp φ' G' s' → c.VRs fix' φ' vs ys → wpAny c.M A (call f (first ++ ys)) Q E s') :
    wpAny c.M A (callWith pos f first (backTo pos (starEach xs env)) []) Q E s := by
  obtain ⟨a, _⟩ := starNo (env := env) (pos := pos) hc
  refine callWith_of (P := fun h => c.K.In h) (by rw [a]; rfl) (fun h X => keeps_K hk h X) ?_
  cases xs with
  | nil =>
    exact evalArgs_nilG (h E _ fun fix' φ' ys s' le pre S' vr => ⟨S'.1.K O, q fix' φ' ys s' le pre S' vr⟩)
  | cons x xs =>
    cases es with
    | nil => exact nomatch hc
    | cons e es =>
      have hc := Bool.and_eq_true_iff.mp hc
      rw [starCons hc.1, backCons] at h ⊢
      exact evalArgs_plain (h E _ fun fix' φ' ys s' le pre S' vr => ⟨S'.1.K O, q fix' φ' ys s' le pre S' vr⟩)

theorem noSup_base {o : PySem.Expr} {name : Str} (h : noSup o = true) : attributeBase o name env (eval o env) = eval o env := by
  cases o <;> first | rfl | cases h
theorem methTree {o : PySem.Expr} {name : Str} {apos pos : Pos} {xs : List PySem.Expr} {E : Value → Shared → Prop} {Q : Value → Shared → Prop} (hs : noSup o = true) (hl : (apos.endLine == pos.line) = true) (hn : xs.length < 28) (ha : (backTo pos (starEach xs env)).all (fun x => !x.1) = true)
    (h : wpAny c.M A (eval o env) (fun ov s₁ => ∀ pl, wpAny c.M A (getMethod ov name pl) (fun fm s₂ => wpAny c.M A (callWith pos fm.1 fm.2 (backTo pos (starEach xs env)) []) Q E s₂) E s₁) E s) :
    wpAny c.M A (eval (.Call (.Attribute o name apos) xs [] pos) env) Q E s := by
  rw [arm_eval_Call, noSup_base hs]
  refine wpAny_bind (wpAny_mono h (fun ov s₁ h₁ => ?_) fun _ _ e => e)
  refine wpAny_bind (wpAny_standAt ?_)
  have hform : methodCallForm (xs.length + ([] : List Keyword).length) (backTo pos (starEach xs env)) (backToKw pos (keywordEach [] env)) = true := by
    unfold methodCallForm
    rw [ha]
    simp only [Bool.true_and, Bool.and_eq_true, decide_eq_true_eq]
    exact ⟨rfl, by simp [backToKw, keywordEach]; omega⟩
  have hpos : methodCallPos true o env apos pos = pure pos := by unfold methodCallPos; simp [hl]
  unfold methodCall
  rw [hform]
  refine wpAny_bind (wpAny_holding (wpAny_mono (h₁ _) (fun fm s₂ h₂ => ?_) fun _ _ e => e))
  exact wpAny_bind (wpAny_of_eq hpos h₂)
end
end Mine
end
section
set_option autoImplicit false
set_option linter.unusedSectionVars false
namespace Mine
open PySem PySem.W PyProof.Rows PySem.Calls

inductive ItD (c : CX) (fix : Kp) (φ : List Addr) : Value → Gd → List Itm → List (Addr × Obj) → Prop
  | lst {I l : Addr} {i n : Nat} {xs : List Value} {vs : List MV} {o : Obj} : fix l = some ⟨.type "list", none, .seq xs.toArray n, #[]⟩ → c.VRs fix φ vs (xs.drop i) → o.cls = .type "list_iterator" → o.data = .fields #[.ref l, .int i 0] →
      ItD c fix φ (.ref I) .no (vs.map .val) [(I, o)]
  | tup {I l : Addr} {i n : Nat} {xs : List Value} {vs : List MV} {o : Obj} : fix l = some ⟨.type "tuple", none, .seq xs.toArray n, #[]⟩ → c.VRs fix φ vs (xs.drop i) → o.cls = .type "tuple_iterator" → o.data = .fields #[.ref l, .int i 0] →
      ItD c fix φ (.ref I) .no (vs.map .val) [(I, o)]
  | glst {I l : Addr} {id i n : Nat} {o : Obj} : φ[id]? = some l → o.cls = .type "list_iterator" → o.data = .fields #[.ref l, .int i 0] →
      ItD c fix φ (.ref I) (.lst id (i + n)) ((List.range' i n).map .at) [(I, o)]
  | rng {I : Addr} {x : Int} {n : Nat} : ItD c fix φ (.ref I) .no ((List.range n).map fun (k : Nat) => .val (.int (x + 1 * (k : Int)))) [(I, ⟨.type "range_iterator", none, .fields #[rawInt x, rawInt n, rawInt 1], #[]⟩)]
  | dct {I l : Addr} {id i ep : Nat} {ks : List Int} {o : Obj} : φ[id]? = some l → o.cls = .type "dict_keyiterator" → o.data = .fields #[.ref l, .int i 0, .int ks.length 0, .int ep 0] →
      ItD c fix φ (.ref I) (.dct id ep ks) ((ks.drop i).map fun k => .val (.int k)) [(I, o)]
  | enum {e I l : Addr} {i n : Nat} {xs : List Value} {vs : List MV} {o : Obj} {old : Value} : fix l = some ⟨.type "list", none, .seq xs.toArray n, #[]⟩ → c.VRs fix φ vs (xs.drop i) → o.cls = .type "list_iterator" → o.data = .fields #[.ref l, .int i 0] → e ≠ I →
      ItD c fix φ (.ref e) .no (enumT i vs) [(e, ⟨.type "enumerate", none, .fields #[.none, .bool false, .ref I, rawInt i, .none, old], #[]⟩), (I, o)]
  | zip {z TI TO i1 i2 l1 l2 : Addr} {k1 k2 n1 n2 : Nat} {xs ys : List Value} {vs us : List MV} {o1 o2 : Obj} {a b : Value} : fix l1 = some ⟨.type "list", none, .seq xs.toArray n1, #[]⟩ → fix l2 = some ⟨.type "list", none, .seq ys.toArray n2, #[]⟩ →
      c.VRs fix φ vs (xs.drop k1) → c.VRs fix φ us (ys.drop k2) → o1.cls = .type "list_iterator" → o1.data = .fields #[.ref l1, .int k1 0] → o2.cls = .type "list_iterator" → o2.data = .fields #[.ref l2, .int k2 0] → ZipApart z TI TO i1 i2 l1 l2 →
      ItD c fix φ (.ref z) .no (zipT vs us) [(z, ⟨.type "zip", none, .fields #[.none, .bool false, .bool false, .ref TI, .ref TO], #[]⟩), (TI, ⟨.type "tuple", none, .seq #[.ref i1, .ref i2] 0, #[]⟩), (TO, ⟨.type "tuple", none, .seq #[a, b] 0, #[]⟩), (i1, o1), (i2, o2)]

theorem ItD.mono {c : CX} {fix fix' : Kp} {φ φ' : List Addr} (hf : Le fix fix') (hp : φ <+: φ') {it : Value} {gd : Gd} {items : List Itm} {fp : List (Addr × Obj)} (h : ItD c fix φ it gd items fp) : ItD c fix' φ' it gd items fp := by
  cases h with
  | lst a b d e => exact .lst (hf _ _ a) (b.mono hf hp) d e
  | tup a b d e => exact .tup (hf _ _ a) (b.mono hf hp) d e
  | glst a b d => exact .glst (pre_get hp a) b d
  | rng => exact .rng
  | dct a b d => exact .dct (pre_get hp a) b d
  | enum a b d e f => exact .enum (hf _ _ a) (b.mono hf hp) d e f
  | zip a b d e f g h i j => exact .zip (hf _ _ a) (hf _ _ b) (d.mono hf hp) (e.mono hf hp) f g h i j

structure ItOk (c : CX) (fix kp : Kp) (φ : List Addr) (h : Heap) (it : Value) (gd : Gd) (items : List Itm) (fp : List (Addr × Obj)) : Prop where
  d : ItD c fix φ it gd items fp
  here : ∀ p ∈ fp, h.get? p.1 = some p.2
  free : ∀ p ∈ fp, fix p.1 = none ∧ kp p.1 = none ∧ p.1 ∉ φ

noncomputable def holdL (kp : Kp) (fp : List (Addr × Obj)) : Kp := fun a => (fp.lookup a).or (kp a)

section
variable {c : CX} {A : Around} {fix kp : Kp} {φ : List Addr} {G : GH} {s : Shared} {h : Heap} {it : Value} {gd : Gd} {items : List Itm} {fp : List (Addr × Obj)}

theorem lookup_mem' {α β : Type} [BEq α] [LawfulBEq α] : ∀ {l : List (α × β)} {a : α} {b : β}, l.lookup a = some b → (a, b) ∈ l
  | [], _, _, h => by cases h
  | (x, y) :: r, a, b, h => by
    rw [List.lookup_cons] at h
    cases q : a == x with
    | true => rw [q] at h; cases h; rw [eq_of_beq q]; exact .head _
    | false => rw [q] at h; exact .tail _ (lookup_mem' h)
theorem lookup_none' {α β : Type} [BEq α] [LawfulBEq α] : ∀ {l : List (α × β)} {a : α}, l.lookup a = none → ∀ p ∈ l, p.1 ≠ a
  | [], _, _, _, h => by cases h
  | (x, y) :: r, a, h, p, hp => by
    rw [List.lookup_cons] at h
    cases q : a == x with
    | true => rw [q] at h; cases h
    | false =>
      rw [q] at h
      rcases List.mem_cons.mp hp with rfl | hp
      · intro e; rw [← e] at q; simp at q
      · exact lookup_none' h p hp

theorem ItOk.hold (I : ItOk c fix kp φ h it gd items fp) (R : Rel c fix kp φ G h) : Rel c fix (holdL kp fp) φ G h ∧ Le kp (holdL kp fp) ∧
    ∀ {fix' kp' : Kp} {φ' : List Addr} {G' : GH} {h' : Heap}, Le fix fix' → φ <+: φ' → Le (holdL kp fp) kp' → Rel c fix' kp' φ' G' h' → ItOk c fix' kp φ' h' it gd items fp := by
  have hl : ∀ a o, fp.lookup a = some o → h.get? a = some o ∧ fix a = none ∧ kp a = none ∧ a ∉ φ := fun a o e => ⟨I.here _ (lookup_mem' e), I.free _ (lookup_mem' e)⟩
  have le : Le kp (holdL kp fp) := fun a o e => by
    unfold holdL
    cases q : fp.lookup a with
    | none => exact e
    | some x => have := (hl a x q).2.2.1; rw [e] at this; cases this
  have key : ∀ a o, holdL kp fp a = some o → h.get? a = some o ∧ fix a = none ∧ a ∉ φ := fun a o e => by
    unfold holdL at e
    cases q : fp.lookup a with
    | none => rw [q] at e; exact ⟨R.kpK a o e, R.dj a o e, fun m => by have := (R.out a m).2; rw [show kp a = some o from e] at this; cases this⟩
    | some x => rw [q] at e; cases e; exact ⟨(hl a o q).1, (hl a o q).2.1, (hl a o q).2.2.2⟩
  refine ⟨⟨R.base, R.fixK, fun a o e => (key a o e).1, fun a o e => (key a o e).2.1, R.len, R.nd, fun a ha => ⟨(R.out a ha).1, ?_⟩, R.obj, R.st, R.lo⟩, le, ?_⟩
  · cases e : holdL kp fp a with
    | none => rfl
    | some o => exact absurd ha (key a o e).2.2
  · intro fix' kp' φ' G' h' lf lp lk R'
    have hk : ∀ p ∈ fp, ∃ o, kp' p.1 = some o := fun p hp => by
      cases q : fp.lookup p.1 with
      | none => exact absurd rfl (lookup_none' q p hp)
      | some x => exact ⟨x, lk _ _ (by unfold holdL; rw [q]; rfl)⟩
    have hsame : ∀ p ∈ fp, fp.lookup p.1 = some p.2 := fun p hp => by
      cases q : fp.lookup p.1 with
      | none => exact absurd rfl (lookup_none' q p hp)
      | some x =>
        have h1 := (hl _ _ q).1
        have h2 := I.here p hp
        rw [h1] at h2; exact h2
    refine ⟨I.d.mono lf lp, fun p hp => R'.kpK _ _ (lk _ _ (by unfold holdL; rw [hsame p hp]; rfl)), fun p hp => ⟨?_, (I.free p hp).2.1, fun m => ?_⟩⟩
    · obtain ⟨o, ho⟩ := hk p hp; exact R'.dj _ _ ho
    · obtain ⟨o, ho⟩ := hk p hp; have := (R'.out _ m).2; rw [ho] at this; cases this

theorem ItOk.step (I : ItOk c fix kp φ s.heap it gd items fp) (S : St c fix kp φ G s) {h' : Heap} {tk : Nat} (hk : ∀ a o, (∀ p ∈ fp, p.1 ≠ a) → s.heap.get? a = some o → h'.get? a = some o) : St c fix kp φ G { s with heap := h', toks := tk } :=
  ⟨S.1.heap fun a o ha e => hk a o (fun p hp => by
    rintro rfl
    obtain ⟨a1, a2, a3⟩ := I.free p hp
    rcases ha with ha | ha | ha
    · rw [a1] at ha; cases ha
    · rw [a2] at ha; cases ha
    · exact a3 ha) e, S.2⟩

noncomputable def tgtFit (one : Bool) (target : PySem.Expr) : Prop := match one with
  | true => ∃ x p, target = .Name x p
  | false => ∃ ts k p, target = .Tuple ts k p
theorem lotg_name {target : PySem.Expr} {it y : Value} {E : Value → Shared → Prop} {Q : Unit → Shared → Prop} (ht : tgtFit true target) (q : Q () s) : wpAny c.M A (letOwnedTupleGo target it y) Q E s := by
  obtain ⟨x, p, rfl⟩ := ht
  exact wpAny_pure q
theorem lotg_other {ts : List PySem.Expr} {k : Nat} {p : Pos} {I : Addr} {y : Value} {o : Obj} {n : String} {E : Value → Shared → Prop} {Q : Unit → Shared → Prop} (ho : s.heap.get? I = some o) (hc : o.cls = .type n)
    (hn : (["enumerate", "zip", "dict_itemiterator", "dict_reverseitemiterator", "odict_iterator", "itertools.zip_longest", "itertools.pairwise"].contains n) = false) (q : Q () s) : wpAny c.M A (letOwnedTupleGo (.Tuple ts k p) (.ref I) y) Q E s := by
  unfold letOwnedTupleGo
  cases y with
  | ref a =>
    refine wpAny_bind (wpAny_load ho ?_)
    rw [hc]
    split
    · rename_i hq _
      cases hq
      rw [if_neg (by rw [hn, Bool.false_and]; decide)]
      exact wpAny_pure q
    · exact wpAny_pure q
  | _ => exact wpAny_pure q
end
end Mine
end
section
set_option autoImplicit false
set_option linter.unusedSectionVars false
namespace Mine
open PySem PySem.W PyProof.Rows PySem.Calls

section
variable {c : CX} {A : Around} {fix kp : Kp} {φ : List Addr} {G : GH} {s : Shared} {h : Heap} {it : Value} {gd : Gd} {items : List Itm} {fp : List (Addr × Obj)} {d : Nat}

theorem dropCons {α : Type} {l : List α} {i : Nat} {x : α} {r : List α} (h : l.drop i = x :: r) : l[i]? = some x ∧ l.drop (i + 1) = r := by
  have h1 : (l.drop i)[0]? = some x := by rw [h]; rfl
  rw [List.getElem?_drop] at h1
  refine ⟨h1, ?_⟩
  rw [← List.drop_drop, h]; rfl
theorem VRs.consE {tab : List Str} {fix : Kp} {φ : List Addr} {v : MV} {l : List MV} {xs : List Value} {P : Prop} (h : VRs tab fix φ (v :: l) xs) (g : ∀ x r, xs = x :: r → VR tab fix φ v x → VRs tab fix φ l r → P) : P :=
  VRs.consI (P := fun ys => xs = ys → P) h (fun y r a b e => g y r e a b) rfl
theorem VRs.nextE {tab : List Str} {fix : Kp} {φ : List Addr} {v : MV} {l : List MV} {xs : List Value} {i : Nat} {P : Prop} (h : VRs tab fix φ (v :: l) (xs.drop i)) (g : ∀ x, xs.toArray[i]? = some x → VR tab fix φ v x → VRs tab fix φ l (xs.drop (i + 1)) → P) : P :=
  h.consE fun x _ e a b => g x ((List.getElem?_toArray ..).trans (dropCons e).1) a ((dropCons e).2 ▸ b)
theorem VRs.lastE {tab : List Str} {fix : Kp} {φ : List Addr} {l : List MV} {xs : List Value} {i : Nat} (h : VRs tab fix φ l (xs.drop i)) (e : l = []) : xs.toArray[i]? = none := by
  have h1 : xs.length ≤ i := List.drop_eq_nil_iff.mp (List.length_eq_zero_iff.mp (h.length.symm.trans (e ▸ rfl)))
  rw [List.getElem?_toArray, List.getElem?_eq_none_iff]; exact h1
theorem mapK {α β : Type} {f : α → β} {l : List α} {x : β} {r : List β} {P : Prop} (h : l.map f = x :: r) (g : ∀ a t, l = a :: t → f a = x → t.map f = r → P) : P := match l, h with
  | a :: t, h => g a t rfl (List.cons.inj h).1 (List.cons.inj h).2
theorem allCons {α : Type} {P : α → Prop} {a : α} {l : List α} (h : P a) (t : ∀ x ∈ l, P x) : ∀ x ∈ a :: l, P x := fun x m => (List.mem_cons.mp m).elim (fun e => e ▸ h) (t x)
theorem allNil {α : Type} {P : α → Prop} : ∀ x ∈ ([] : List α), P x := fun x m => absurd m List.not_mem_nil
theorem allOne {α : Type} {P : α → Prop} {a : α} (h : P a) : ∀ x ∈ [a], P x := allCons h allNil

theorem isInt_shape {k : Int} {v : Value} (h : (intKind c.prog c.w).is k v = true) : c.VR fix φ (.int k) v := by
  have h' : v.isInt k = true := h
  cases v with
  | int j t => exact eq_of_beq h' ▸ .int _ _
  | _ => exact noF h'
theorem ndPairs {fix : Kp} {φ : List Addr} {l : List (Int × MV)} {es : List DictEntry} (h : NDs c.prog c.w c.S.tab fix φ l es) : ∃ kvs : List (Int × Value), Pairs (intKind c.prog c.w) es kvs ∧ kvs.map (·.1) = l.map (·.1) :=
  h.ind (M := fun l es => ∃ kvs : List (Int × Value), Pairs (intKind c.prog c.w) es kvs ∧ kvs.map (·.1) = l.map (·.1)) ⟨[], .nil, rfl⟩ fun k v x key y l es hk hi hv _ ih => ih.elim fun kvs q => by
    have hk' : k = x := hk
    rw [← hk'] at hi ⊢
    exact ⟨(k, y) :: kvs, .cons hi rfl q.1, congrArg (k :: ·) q.2⟩
theorem gdLst {id n : Nat} {P : Prop} (h : gdOk G (.lst id n) = true) (g : ∀ l, G[id]? = some (.lst l) → l.length = n → P) : P := by
  have h : (match hL G id with | some l => decide (l.length = n) | none => false) = true := h
  cases q : hL G id with
  | none => rw [q] at h; exact noF h
  | some l => rw [q] at h; exact g l (hL_at q) (of_decide_eq_true h)
theorem gdDct {id ep : Nat} {ks : List Int} {P : Prop} (h : gdOk G (.dct id ep ks) = true) (g : ∀ l, G[id]? = some (.nd ep l) → l.map (·.1) = ks → P) : P := by
  have h : (match hN G id with | some p => decide (p.1 = ep ∧ p.2.map (·.1) = ks) | none => false) = true := h
  cases q : hN G id with
  | none => rw [q] at h; exact noF h
  | some p => rw [q] at h; exact g p.2 ((of_decide_eq_true h).1 ▸ hN_at q) (of_decide_eq_true h).2
theorem dctK (S : St c fix kp φ G s) {id ep : Nat} {a : Addr} {l : List (Int × MV)} {P : Prop} (hp : φ[id]? = some a) (hg : G[id]? = some (.nd ep l)) (g : ∀ kvs, Heap.DictAt (intKind c.prog c.w) s.heap a kvs ep → kvs.map (·.1) = l.map (·.1) → P) : P :=
  S.gn hp hg fun es ho hr hn _ => (ndPairs hr).elim fun kvs q => g kvs ⟨_, es.toArray, ho, ⟨rfl, rfl, rfl⟩, rfl, fun e he => EDs.keysOf hr e (memA he), q.1, by rw [q.2]; exact hn⟩ q.2

theorem fetchV {x : Itm} {a v : MV} (h : fetch G gd x = some v) (e : .val a = x) : a = v := by subst e; exact Option.some.inj h
theorem fetchA {x : Itm} {i id n : Nat} {v : MV} (h : fetch G (.lst id n) x = some v) (e : .at i = x) : (hL G id).bind (fun l => l[i]?) = some v := by subst e; exact h
noncomputable def Nx (c : CX) (fix kp : Kp) (φ : List Addr) (G : GH) (v : MV) (it : Value) (gd : Gd) (items : List Itm) (n : Nat) (Q : Value → Shared → Prop) : Prop :=
  ∀ fix' y s' fp', Le fix fix' → St c fix' kp φ G s' → c.VR fix' φ v y → ItOk c fix' kp φ s'.heap it gd items fp' → fp'.length = n → Q y s'
noncomputable def NextG (c : CX) (A : Around) (it : Value) (target : PySem.Expr) (E : Value → Shared → Prop) (Q : Value → Shared → Prop) (s : Shared) : Prop :=
  wpAny c.M A (pyNext it) (fun r s₁ => match r with | none => False | some y => wpAny c.M A (letOwnedTupleGo target it y) (fun _ s₂ => Q y s₂) E s₁) E s
section
variable {one : Bool} {target : PySem.Expr} {x : Itm} {v : MV} {E : Value → Shared → Prop} {Q : Value → Shared → Prop}
theorem nextOne {I : Addr} {o o' : Obj} {y : Value} {n : String} {h' : Heap} {its : List Itm} (J : ItOk c fix kp φ s.heap (.ref I) gd its [(I, o)]) (S : St c fix kp φ G s) (hs : Heap.SameBut I s.heap h') (ho : h'.get? I = some o') (hc : o'.cls = .type n)
    (hn : (["enumerate", "zip", "dict_itemiterator", "dict_reverseitemiterator", "odict_iterator", "itertools.zip_longest", "itertools.pairwise"].contains n) = false) (D : ItD c fix φ (.ref I) gd items [(I, o')]) (vy : c.VR fix φ v y) (ht : tgtFit one target) (q : Nx c fix kp φ G v (.ref I) gd items 1 Q) {tk : Nat} :
    wpAny c.M A (letOwnedTupleGo target (.ref I) y) (fun _ s₂ => Q y s₂) E { s with heap := h', toks := tk } := by
  have fin : Q y { s with heap := h', toks := tk } := q fix y _ [(I, o')] (Le.refl _) (J.step S fun a o ha e => (hs.2 a (fun q => ha (I, _) (.head _) q.symm)).trans e) vy ⟨D, allOne ho, allOne (J.free (I, o) (.head _))⟩ rfl
  cases one with
  | true => exact lotg_name ht fin
  | false => exact ht.elim fun ts ht => ht.elim fun k ht => ht.elim fun p ht => ht ▸ lotg_other ho hc hn fin
theorem next_lst {I l : Addr} {i n : Nat} {xs : List Value} {vs : List MV} {o : Obj} (hl : fix l = some ⟨.type "list", none, .seq xs.toArray n, #[]⟩) (hr : c.VRs fix φ vs (xs.drop i)) (hc : o.cls = .type "list_iterator") (hd : o.data = .fields #[.ref l, .int i 0])
    (e : vs.map .val = x :: items) (J : ItOk c fix kp φ s.heap (.ref I) .no (vs.map .val) [(I, o)]) (hv : fetch G .no x = some v) (S : St c fix kp φ G s) (ht : tgtFit one target) (q : Nx c fix kp φ G v (.ref I) .no items 1 Q) : NextG c A (.ref I) target E Q s :=
  mapK e fun a t ev ex et => VRs.nextE (ev ▸ hr) fun y hy vy hr' => wpAny_pyNext_list_item ⟨o, J.here _ (.head _), hc, hd⟩ ⟨_, S.1.fixK _ _ hl, rfl, n, rfl⟩ hy fun h' hit hs => hit.elim fun o' p =>
    nextOne J S hs p.1 p.2.1 (by decide) (et ▸ ItD.lst hl hr' p.2.1 (by rw [p.2.2])) (fetchV hv ex ▸ vy) ht q
theorem next_tup {I l : Addr} {i n : Nat} {xs : List Value} {vs : List MV} {o : Obj} (hl : fix l = some ⟨.type "tuple", none, .seq xs.toArray n, #[]⟩) (hr : c.VRs fix φ vs (xs.drop i)) (hc : o.cls = .type "tuple_iterator") (hd : o.data = .fields #[.ref l, .int i 0])
    (e : vs.map .val = x :: items) (J : ItOk c fix kp φ s.heap (.ref I) .no (vs.map .val) [(I, o)]) (hv : fetch G .no x = some v) (S : St c fix kp φ G s) (ht : tgtFit one target) (q : Nx c fix kp φ G v (.ref I) .no items 1 Q) : NextG c A (.ref I) target E Q s :=
  mapK e fun a t ev ex et => VRs.nextE (ev ▸ hr) fun y hy vy hr' => wpAny_pyNext_tuple_item ⟨o, J.here _ (.head _), hc, hd⟩ ⟨_, S.1.fixK _ _ hl, rfl, n, rfl⟩ hy fun h' hit hs => hit.elim fun o' p =>
    nextOne J S hs p.1 p.2.1 (by decide) (et ▸ ItD.tup hl hr' p.2.1 (by rw [p.2.2])) (fetchV hv ex ▸ vy) ht q
theorem rangeK {i n : Nat} {P : Prop} (h : (List.range' i n).map Itm.at = x :: items) (g : ∀ m, n = m + 1 → Itm.at i = x → (List.range' (i + 1) m).map Itm.at = items → P) : P := match n, h with
  | m + 1, h => g m rfl (List.cons.inj h).1 (List.cons.inj h).2
theorem next_glst {I l : Addr} {id i n : Nat} {o : Obj} (hl : φ[id]? = some l) (hc : o.cls = .type "list_iterator") (hd : o.data = .fields #[.ref l, .int i 0])
    (e : (List.range' i n).map .at = x :: items) (J : ItOk c fix kp φ s.heap (.ref I) (.lst id (i + n)) ((List.range' i n).map .at) [(I, o)]) (hv : fetch G (.lst id (i + n)) x = some v) (S : St c fix kp φ G s) (ht : tgtFit one target) (q : Nx c fix kp φ G v (.ref I) (.lst id (i + n)) items 1 Q) : NextG c A (.ref I) target E Q s :=
  rangeK e fun m en ex et => (Option.bind_eq_some_iff.mp (fetchA hv ex)).elim fun ms hm => S.go hl (hL_at hm.1) fun xs k ho hr z => (hr.get hm.2).elim fun y hy =>
    wpAny_pyNext_list_item ⟨o, J.here _ (.head _), hc, hd⟩ ⟨_, ho, rfl, k, rfl⟩ ((List.getElem?_toArray ..).trans hy.1) fun h' hit hs => hit.elim fun o' p =>
      nextOne J S hs p.1 p.2.1 (by decide) (by rw [← et, show i + n = i + 1 + m by rw [en, Nat.add_assoc, Nat.add_comm 1]]; exact ItD.glst hl p.2.1 (by rw [p.2.2])) hy.2 ht q
theorem next_rng {I : Addr} {a : Int} {n : Nat} (e : ((List.range n).map fun (k : Nat) => Itm.val (.int (a + 1 * (k : Int)))) = x :: items) (J : ItOk c fix kp φ s.heap (.ref I) .no ((List.range n).map fun (k : Nat) => Itm.val (.int (a + 1 * (k : Int)))) [(I, ⟨.type "range_iterator", none, .fields #[rawInt a, rawInt n, rawInt 1], #[]⟩)])
    (hv : fetch G .no x = some v) (S : St c fix kp φ G s) (ht : tgtFit one target) (q : Nx c fix kp φ G v (.ref I) .no items 1 Q) : NextG c A (.ref I) target E Q s := by
  cases n with
  | zero => exact nomatch e
  | succ n =>
    rw [List.range_succ_eq_map, List.map_cons, List.map_map] at e
    obtain ⟨ex, et⟩ := List.cons.inj e
    have e1 : ((fun (k : Nat) => Itm.val (MV.int (a + 1 * (k : Int)))) ∘ Nat.succ) = fun (k : Nat) => Itm.val (MV.int (a + 1 + 1 * (k : Int))) := funext fun k => congrArg (fun i => Itm.val (.int i)) (show a + 1 * ((k + 1 : Nat) : Int) = a + 1 + 1 * (k : Int) by clear J e q hv S ht ex et; omega)
    rw [e1] at et
    have hv := fetchV hv ex
    rw [show a + 1 * ((0 : Nat) : Int) = a by clear J e q hv S ht ex et e1; omega] at hv
    refine wpAny_pyNext_range_item (J.here _ (.head _)) (by clear J e q hv S ht ex et e1; omega) fun h' hit hs => ?_
    rw [show ((n + 1 : Nat) : Int) - 1 = (n : Int) by clear hit J e q hv S ht ex et e1; omega] at hit
    have fin : Q (.int a s.toks) { s with heap := h', toks := s.toks + 1 } := q fix _ _ [(I, _)] (Le.refl _) (J.step S fun a o ha e => (hs.2 a (fun q => ha (I, _) (.head _) q.symm)).trans e) (hv ▸ .int a s.toks) ⟨et ▸ .rng, allOne hit, allOne (show fix I = none ∧ kp I = none ∧ I ∉ φ from J.free _ (.head _))⟩ rfl
    cases one with
    | true => exact lotg_name ht fin
    | false => exact ht.elim fun ts ht => ht.elim fun k ht => ht.elim fun p ht => ht ▸ wpAny_pure fin
theorem next_dct {I l : Addr} {id i ep : Nat} {ks : List Int} {o : Obj} (hl : φ[id]? = some l) (hc : o.cls = .type "dict_keyiterator") (hd : o.data = .fields #[.ref l, .int i 0, .int ks.length 0, .int ep 0])
    (e : ((ks.drop i).map fun k => Itm.val (.int k)) = x :: items) (J : ItOk c fix kp φ s.heap (.ref I) (.dct id ep ks) ((ks.drop i).map fun k => Itm.val (.int k)) [(I, o)]) (hg : gdOk G (.dct id ep ks) = true) (hv : fetch G (.dct id ep ks) x = some v) (S : St c fix kp φ G s) (ht : tgtFit one target) (q : Nx c fix kp φ G v (.ref I) (.dct id ep ks) items 1 Q) : NextG c A (.ref I) target E Q s :=
  mapK e fun k t ev ex et => gdDct hg fun ml hm hks => dctK S hl hm fun kvs hD hf => by
    have hlen : kvs.length = ks.length := by rw [← hks, ← hf, List.length_map]
    have h1 : (kvs.map (·.1))[i]? = some k := by rw [hf, hks]; exact (dropCons ev).1
    rw [List.getElem?_map, Option.map_eq_some_iff] at h1
    obtain ⟨⟨k', y⟩, hy, ek⟩ := h1
    have ek : k' = k := ek
    rw [ek] at hy
    refine wpAny_pyNext_dict_item ⟨o, J.here _ (.head _), hc, by rw [hlen]; exact hd⟩ hD hy fun key h' hkey hit hs => hit.elim fun o' p => ?_
    exact nextOne J S hs p.1 p.2.1 (by decide) (et ▸ (dropCons ev).2 ▸ ItD.dct hl p.2.1 (by rw [p.2.2, hlen])) (fetchV hv ex ▸ isInt_shape hkey) ht q
theorem enumK {i : Nat} {vs : List MV} {P : Prop} (e : enumT i vs = x :: items) (g : ∀ a t, vs = a :: t → Itm.val (.tup [.int i, a]) = x → enumT (i + 1) t = items → P) : P := match vs, e with
  | a :: t, e => g a t rfl (List.cons.inj e).1 (List.cons.inj e).2
theorem zipK {vs us : List MV} {P : Prop} (e : zipT vs us = x :: items) (g : ∀ a t b r, vs = a :: t → us = b :: r → Itm.val (.tup [a, b]) = x → zipT t r = items → P) : P := match vs, us, e with
  | a :: t, b :: r, e => g a t b r rfl rfl (List.cons.inj e).1 (List.cons.inj e).2
theorem newPair (S : St c fix kp φ G s) {h' : Heap} {tk : Nat} (S1 : St c fix kp φ G { s with heap := h', toks := tk }) {a b : MV} {x y : Value} (hT : h'.get? s.heap.objs.size = some ⟨.type "tuple", none, .seq #[x, y] 0, #[]⟩) (va : c.VR fix φ a x) (vb : c.VR fix φ b y) {P : Prop}
    (g : ∀ fix', Le fix fix' → (∀ a, a ≠ s.heap.objs.size → fix' a = fix a) → St c fix' kp φ G { s with heap := h', toks := tk } → c.VR fix' φ (.tup [a, b]) (.ref s.heap.objs.size) → P) : P := by
  obtain ⟨R2, le⟩ := S1.1.freeze hT (S.1.kpLt (Nat.le_refl _)) (fun m => Nat.lt_irrefl _ (S.1.lt m)) (S.1.fixLt (Nat.le_refl _))
  exact g _ le (fun a h => upd_ne _ _ h) ⟨R2, S1.2⟩ (.tup (xs := [x, y]) (n := 0) (upd_self _ _ _) (.cons (va.mono le (List.prefix_refl _)) (.cons (vb.mono le (List.prefix_refl _)) .nil)) (by decide : 2 ≤ 4096))
theorem next_enum {e I l : Addr} {i n : Nat} {xs : List Value} {vs : List MV} {o : Obj} {old : Value} (hl : fix l = some ⟨.type "list", none, .seq xs.toArray n, #[]⟩) (hr : c.VRs fix φ vs (xs.drop i)) (hc : o.cls = .type "list_iterator") (hd : o.data = .fields #[.ref l, .int i 0]) (hne : e ≠ I)
    (ee : enumT i vs = x :: items) (J : ItOk c fix kp φ s.heap (.ref e) .no (enumT i vs) [(e, ⟨.type "enumerate", none, .fields #[.none, .bool false, .ref I, rawInt i, .none, old], #[]⟩), (I, o)]) (hv : fetch G .no x = some v) (S : St c fix kp φ G s) (ht : tgtFit false target) (q : Nx c fix kp φ G v (.ref e) .no items 2 Q) : NextG c A (.ref e) target E Q s :=
  enumK ee fun a t ev ex et => VRs.nextE (ev ▸ hr) fun y hy vy hr' => ht.elim fun ts ht => ht.elim fun kk ht => ht.elim fun p ht => by
    rw [ht]
    have me := J.here _ (.head _)
    have mI := J.here _ (.tail _ (.head _))
    refine wpAny_pyNext_enum_item me ⟨o, mI, hc, hd⟩ ⟨_, S.1.fixK _ _ hl, rfl, n, rfl⟩ hy hne fun h' ho hit ht' hsz hs => hit.elim fun o' hit => ?_
    refine wpAny_letOwnedTupleGo_enum ho fun h'' he hs2 => ?_
    have hn : s.heap.get? s.heap.objs.size = none := get_size _
    have ne : ∀ {w : Addr} {o : Obj}, s.heap.get? w = some o → w ≠ s.heap.objs.size := fun {w o} e q => by rw [q, hn] at e; exact noS e
    refine newPair (tk := s.toks + 1) S (J.step S fun a o ha e' => (hs2.2 a (fun q => ha (e, _) (.head _) q.symm)).trans (hs a o (fun q => ha (e, _) (.head _) q.symm) (fun q => ha (I, _) (.tail _ (.head _)) q.symm) e')) ((hs2.2 _ (ne me).symm).trans ht') (.int i s.toks) vy fun f2 le keep S2 vp => ?_
    refine q f2 _ _ [(e, ⟨.type "enumerate", none, .fields #[.none, .bool false, .ref I, rawInt (i + 1 : Nat), .none, y], #[]⟩), (I, o')] le S2 (fetchV hv ex ▸ vp) ⟨et ▸ .enum (old := y) (le _ _ hl) (hr'.mono le (List.prefix_refl _)) hit.2.1 (by rw [hit.2.2]) hne, allCons he (allOne ((hs2.2 I (fun q => hne q.symm)).trans hit.1)), ?_⟩ rfl
    have f1 := J.free _ (.head _)
    have f2 := J.free _ (.tail _ (.head _))
    exact allCons ⟨(keep _ (ne me)).trans f1.1, f1.2⟩ (allOne ⟨(keep _ (ne mI)).trans f2.1, f2.2⟩)
theorem next_zip {z TI TO i1 i2 l1 l2 : Addr} {k1 k2 n1 n2 : Nat} {xs ys : List Value} {vs us : List MV} {o1 o2 : Obj} {a b : Value} (hl1 : fix l1 = some ⟨.type "list", none, .seq xs.toArray n1, #[]⟩) (hl2 : fix l2 = some ⟨.type "list", none, .seq ys.toArray n2, #[]⟩)
    (hr1 : c.VRs fix φ vs (xs.drop k1)) (hr2 : c.VRs fix φ us (ys.drop k2)) (hc1 : o1.cls = .type "list_iterator") (hd1 : o1.data = .fields #[.ref l1, .int k1 0]) (hc2 : o2.cls = .type "list_iterator") (hd2 : o2.data = .fields #[.ref l2, .int k2 0]) (ap : ZipApart z TI TO i1 i2 l1 l2)
    (ee : zipT vs us = x :: items) (J : ItOk c fix kp φ s.heap (.ref z) .no (zipT vs us) [(z, ⟨.type "zip", none, .fields #[.none, .bool false, .bool false, .ref TI, .ref TO], #[]⟩), (TI, ⟨.type "tuple", none, .seq #[.ref i1, .ref i2] 0, #[]⟩), (TO, ⟨.type "tuple", none, .seq #[a, b] 0, #[]⟩), (i1, o1), (i2, o2)]) (hv : fetch G .no x = some v) (S : St c fix kp φ G s) (ht : tgtFit false target) (q : Nx c fix kp φ G v (.ref z) .no items 5 Q) : NextG c A (.ref z) target E Q s :=
  zipK ee fun v1 r1 v2 r2 ev1 ev2 ex et => VRs.nextE (ev1 ▸ hr1) fun x1 hx1 vx1 hr1' => VRs.nextE (ev2 ▸ hr2) fun x2 hx2 vx2 hr2' => ht.elim fun ts ht => ht.elim fun kk ht => ht.elim fun p ht => by
    rw [ht]
    have mz := J.here _ (.head _)
    have mTI := J.here _ (.tail _ (.head _))
    have mTO := J.here _ (.tail _ (.tail _ (.head _)))
    have mi1 := J.here _ (.tail _ (.tail _ (.tail _ (.head _))))
    have mi2 := J.here _ (.tail _ (.tail _ (.tail _ (.tail _ (.head _)))))
    refine wpAny_pyNext_zip_item ap mz mTI mTO ⟨o1, mi1, hc1, hd1⟩ ⟨o2, mi2, hc2, hd2⟩ ⟨_, S.1.fixK _ _ hl1, rfl, n1, rfl⟩ ⟨_, S.1.fixK _ _ hl2, rfl, n2, rfl⟩ hx1 hx2 fun h' hz hTO hit1 hit2 hT hsz hs => hit1.elim fun o1' p1 => hit2.elim fun o2' p2 => ?_
    refine wpAny_letOwnedTupleGo_zip hz fun h'' hz' hs2 => ?_
    have hn : s.heap.get? s.heap.objs.size = none := get_size _
    have ne : ∀ {w : Addr} {o : Obj}, s.heap.get? w = some o → w ≠ s.heap.objs.size := fun {w o} e q => by rw [q, hn] at e; exact noS e
    refine newPair (tk := s.toks) S (J.step S fun w o ha e' => (hs2.2 w (fun q => ha (z, _) (.head _) q.symm)).trans (hs w o (fun q => ha (z, _) (.head _) q.symm) (fun q => ha (TO, _) (.tail _ (.tail _ (.head _))) q.symm) (fun q => ha (i1, _) (.tail _ (.tail _ (.tail _ (.head _)))) q.symm) (fun q => ha (i2, _) (.tail _ (.tail _ (.tail _ (.tail _ (.head _))))) q.symm) e')) ((hs2.2 _ (ne mz).symm).trans hT) vx1 vx2 fun f2 le keep S2 vp => ?_
    refine q f2 _ _ [(z, ⟨.type "zip", none, .fields #[.none, .bool false, .bool false, .ref TI, .ref TO], #[]⟩), (TI, ⟨.type "tuple", none, .seq #[.ref i1, .ref i2] 0, #[]⟩), (TO, ⟨.type "tuple", none, .seq #[x1, x2] 0, #[]⟩), (i1, o1'), (i2, o2')] le S2 (fetchV hv ex ▸ vp) ⟨et ▸ .zip (a := x1) (b := x2) (le _ _ hl1) (le _ _ hl2) (hr1'.mono le (List.prefix_refl _)) (hr2'.mono le (List.prefix_refl _)) p1.2.1 (by rw [p1.2.2]) p2.2.1 (by rw [p2.2.2]) ap,
      allCons hz' (allCons ((hs2.2 TI ap.TIz).trans (hs TI _ ap.TIz ap.TITO ap.TIi1 ap.TIi2 mTI)) (allCons ((hs2.2 TO ap.TOz).trans hTO) (allCons ((hs2.2 i1 ap.i1z).trans p1.1) (allOne ((hs2.2 i2 ap.i2z).trans p2.1))))), ?_⟩ rfl
    have fr : ∀ p ∈ [(z, _), (TI, _), (TO, _), (i1, o1), (i2, o2)], f2 p.1 = none ∧ kp p.1 = none ∧ p.1 ∉ φ := fun p m => ⟨(keep _ (ne (J.here p m))).trans (J.free p m).1, (J.free p m).2⟩
    have g0 := fr _ (.head _)
    have g1 := fr _ (.tail _ (.head _))
    have g2 := fr _ (.tail _ (.tail _ (.head _)))
    have g3 := fr _ (.tail _ (.tail _ (.tail _ (.head _))))
    have g4 := fr _ (.tail _ (.tail _ (.tail _ (.tail _ (.head _)))))
    exact allCons g0 (allCons g1 (allCons g2 (allCons g3 (allOne g4))))

theorem it_next (I : ItOk c fix kp φ s.heap it gd (x :: items) fp) (S : St c fix kp φ G s) (hg : gdOk G gd = true) (hv : fetch G gd x = some v) (ht : tgtFit one target) (hk : one = true → fp.length = 1) (q : Nx c fix kp φ G v it gd items fp.length Q) : NextG c A it target E Q s := by
  have key : ∀ {it : Value} {gd : Gd} {its : List Itm} {fp : List (Addr × Obj)}, ItD c fix φ it gd its fp → its = x :: items → ItOk c fix kp φ s.heap it gd its fp → gdOk G gd = true → fetch G gd x = some v → (one = true → fp.length = 1) → Nx c fix kp φ G v it gd items fp.length Q → NextG c A it target E Q s := fun D => by
    cases D with
    | lst a b c d => exact fun e J _ hv _ q => next_lst a b c d e J hv S ht q
    | tup a b c d => exact fun e J _ hv _ q => next_tup a b c d e J hv S ht q
    | glst a b c => exact fun e J _ hv _ q => next_glst a b c e J hv S ht q
    | rng => exact fun e J _ hv _ q => next_rng e J hv S ht q
    | dct a b c => exact fun e J hg hv _ q => next_dct a b c e J hg hv S ht q
    | enum a b c d f => cases one with
      | true => exact fun _ _ _ _ hk _ => absurd (hk rfl) (by decide : ¬ 2 = 1)
      | false => exact fun e J _ hv _ q => next_enum a b c d f e J hv S ht q
    | zip a b c d f g h i j => cases one with
      | true => exact fun _ _ _ _ hk _ => absurd (hk rfl) (by decide : ¬ 5 = 1)
      | false => exact fun e J _ hv _ q => next_zip a b c d f g h i j e J hv S ht q
  exact key I.d rfl I hg hv hk q
theorem it_step {β : Type} (I : ItOk c fix kp φ s.heap it gd (x :: items) fp) (S : St c fix kp φ G s) (hg : gdOk G gd = true) (hv : fetch G gd x = some v) (ht : tgtFit one target) (hk : one = true → fp.length = 1) {T : Value → Sem β} {Z : Sem β} {R : β → Shared → Prop}
    (q : ∀ fix' y s' fp', Le fix fix' → St c fix' kp φ G s' → c.VR fix' φ v y → ItOk c fix' kp φ s'.heap it gd items fp' → fp'.length = fp.length → wpAny c.M A (T y) R E s') :
    wpAny c.M A (pyNext it) (fun r s₁ => wpAny c.M A (match r with | none => Z | some y => letOwnedTupleGo target it y >>= fun _ => T y) R E s₁) E s :=
  wpAny_mono (it_next (Q := fun y s' => wpAny c.M A (T y) R E s') I S hg hv ht hk q) (fun r s1 h => by
    cases r with
    | none => exact h.elim
    | some y => exact wpAny_bind h) fun _ _ e => e
end

theorem mapNil {α β : Type} {f : α → β} {l : List α} (h : l.map f = []) : l = [] := List.map_eq_nil_iff.mp h
theorem it_end (I : ItOk c fix kp φ s.heap it gd [] fp) (S : St c fix kp φ G s) (hg : gdOk G gd = true) (hA : A.handled = none)
    {E : Value → Shared → Prop} {Q : Option Value → Shared → Prop} (q : ∀ s', St c fix kp φ G s' → Q none s') : wpAny c.M A (pyNext it) Q E s := by
  have key : ∀ {it : Value} {gd : Gd} {its : List Itm} {fp : List (Addr × Obj)}, ItD c fix φ it gd its fp → its = [] → ItOk c fix kp φ s.heap it gd its fp → gdOk G gd = true → wpAny c.M A (pyNext it) Q E s := fun D e J hg => by
    have stepX : ∀ {w : Addr} {o : Obj} {h' : Heap}, (w, o) ∈ _ → Heap.ExtBut w s.heap h' → Q none { s with heap := h' } := fun {w o h'} hJ hs => q _ (J.step S fun a o ha e => hs a o (fun q => ha _ hJ q.symm) e)
    cases D with
    | lst hl hr hc hd => exact wpAny_pyNext_list_end hA ⟨_, J.here _ (.head _), hc, hd⟩ ⟨_, S.1.fixK _ _ hl, rfl, _, rfl⟩ (hr.lastE (mapNil e)) fun h' hs => stepX (.head _) hs
    | tup hl hr hc hd => exact wpAny_pyNext_tuple_end hA ⟨_, J.here _ (.head _), hc, hd⟩ ⟨_, S.1.fixK _ _ hl, rfl, _, rfl⟩ (hr.lastE (mapNil e)) fun h' hs => stepX (.head _) hs
    | @glst I l id i n o hl hc hd =>
      have hn : n = 0 := (List.length_range' ..).symm.trans (congrArg List.length (mapNil e))
      exact gdLst hg fun ms hm hz => S.go hl hm fun xs k ho hr z => wpAny_pyNext_list_end hA ⟨_, J.here _ (.head _), hc, hd⟩ ⟨_, ho, rfl, k, rfl⟩ (by rw [List.getElem?_toArray, List.getElem?_eq_none_iff, ← hr.length, hz, hn]; exact Nat.le_refl _) fun h' hs => stepX (.head _) hs
    | @rng I a n =>
      have hn : n = 0 := List.length_range.symm.trans (congrArg List.length (mapNil e))
      exact wpAny_pyNext_range_end hA (J.here _ (.head _)) (by rw [hn]; decide) fun h' hs => stepX (.head _) hs
    | @dct I l id i ep ks o hl hc hd =>
      have hge : ks.length ≤ i := List.drop_eq_nil_iff.mp (mapNil e)
      refine gdDct hg fun ml hm hks => dctK S hl hm fun kvs hD hf => ?_
      have hlen : kvs.length = ks.length := by rw [← hks, ← hf, List.length_map]
      exact wpAny_pyNext_dict_end hA ⟨o, J.here _ (.head _), hc, by rw [hlen]; exact hd⟩ hD (by rw [List.getElem?_eq_none_iff, hlen]; exact hge) fun h' hs => stepX (.head _) hs
    | @enum ea I l i n xs vs o old hl hr hc hd hne =>
      exact wpAny_pyNext_enum_end hA (J.here _ (.head _)) ⟨o, J.here _ (.tail _ (.head _)), hc, hd⟩ ⟨_, S.1.fixK _ _ hl, rfl, n, rfl⟩ (hr.lastE (match vs, e with | [], _ => rfl)) fun h' hs => stepX (.tail _ (.head _)) hs
    | @zip z TI TO i1 i2 l1 l2 k1 k2 n1 n2 xs ys vs us o1 o2 a b hl1 hl2 hr1 hr2 hc1 hd1 hc2 hd2 ap =>
      have hor : xs.toArray[k1]? = none ∨ ys.toArray[k2]? = none := match vs, us, hr1, hr2, e with
        | [], _, hr1, _, _ => .inl (hr1.lastE rfl)
        | _ :: _, [], _, hr2, _ => .inr (hr2.lastE rfl)
      refine wpAny_pyNext_zip_end hA ap (J.here _ (.head _)) (J.here _ (.tail _ (.head _))) (J.here _ (.tail _ (.tail _ (.head _)))) ⟨o1, J.here _ (.tail _ (.tail _ (.tail _ (.head _)))), hc1, hd1⟩ ⟨o2, J.here _ (.tail _ (.tail _ (.tail _ (.tail _ (.head _))))), hc2, hd2⟩ ⟨_, S.1.fixK _ _ hl1, rfl, n1, rfl⟩ ⟨_, S.1.fixK _ _ hl2, rfl, n2, rfl⟩ hor fun h' hs => ?_
      exact q _ (J.step S fun w o ha e => hs w o (fun q => ha (z, _) (.head _) q.symm) (fun q => ha (TO, _) (.tail _ (.tail _ (.head _))) q.symm) (fun q => ha (i1, _) (.tail _ (.tail _ (.tail _ (.head _)))) q.symm) (fun q => ha (i2, _) (.tail _ (.tail _ (.tail _ (.tail _ (.head _))))) q.symm) e)
  exact key I.d rfl I hg

theorem it_self (I : ItOk c fix kp φ s.heap it gd items fp) {E : Value → Shared → Prop} {Q : Value → Shared → Prop} (q : Q it s) : wpAny c.M A (pyIter it) Q E s := by
  obtain ⟨D, here, free⟩ := I
  cases D with
  | @lst I l i n xs vs o hl hr hc hd => exact wpAny_pyIter_listiter ⟨o, here _ (.head _), hc, hd⟩ q
  | @tup I l i n xs vs o hl hr hc hd => exact wpAny_pyIter_tupleiter ⟨o, here _ (.head _), hc, hd⟩ q
  | @glst I l id i n o hl hc hd => exact wpAny_pyIter_listiter ⟨o, here _ (.head _), hc, hd⟩ q
  | @rng I a n => exact wpAny_pyIter_rangeiter (here _ (.head _)) q
  | @dct I l id i ep ks o hl hc hd => exact wpAny_pyIter_keyiter ⟨o, here _ (.head _), hc, hd⟩ q
  | @enum e I l i n xs vs o old hl hr hc hd hne => exact wpAny_pyIter_enum (here _ (.head _)) q
  | @zip z TI TO i1 i2 l1 l2 k1 k2 n1 n2 xs ys vs us o1 o2 a b hl1 hl2 hr1 hr2 hc1 hd1 hc2 hd2 ap => exact wpAny_pyIter_zip (here _ (.head _)) q

theorem newFree (S : St c fix kp φ G s) {a : Addr} (h : s.heap.objs.size ≤ a) : fix a = none ∧ kp a = none ∧ a ∉ φ := ⟨S.1.fixLt h, S.1.kpLt h, fun m => Nat.not_lt.mpr h (S.1.lt m)⟩

theorem pairK' {α β : Type} {r r' : α} {G1 G2 : β} {P : α → β → Prop} (h : (r', G1) = (r, G2)) (g : P r' G1) : P r G2 := by cases h; exact g
theorem it_vals {v : MV} {x : Value} (hs : valsO G v = some (gd, items)) (S : St c fix kp φ G s) (vx : c.VR fix φ v x)
    {E : Value → Shared → Prop} {Q : Value → Shared → Prop} (q : ∀ it s' fp, St c fix kp φ G s' → ItOk c fix kp φ s'.heap it gd items fp → fp.length = 1 → Q it s') : wpAny c.M A (pyIter x) Q E s := by
  have q : ∀ {gd' : Gd} {its : List Itm} {o : Obj}, (gd', its) = (gd, items) → o.isFreed = false → ItD c fix φ (.ref s.heap.objs.size) gd' its [(s.heap.objs.size, o)] → Q (.ref s.heap.objs.size) { s with heap := s.heap.push o } := fun {gd' its o} e ho D =>
    pairK' (P := fun gd items => (∀ it s' fp, St c fix kp φ G s' → ItOk c fix kp φ s'.heap it gd items fp → fp.length = 1 → Q it s') → Q (.ref s.heap.objs.size) { s with heap := s.heap.push o }) e (fun q => q _ _ [(_, o)] ⟨S.1.push o, S.2⟩ ⟨D, allOne (Heap.get?_push_size _ ho), allOne (newFree S (Nat.le_refl _))⟩ rfl) q
  have hs : (match iRef v with
    | none => (sqO G v).map fun l => (Gd.no, l.map Itm.val)
    | some i => match hN G i with
      | some p => some (.dct i p.1 (p.2.map (·.1)), p.2.map fun q => .val (.int q.1))
      | none => (hL G i).map fun l => (.lst i l.length, (List.range l.length).map .at)) = some (gd, items) := hs
  cases e : iRef v with
  | none =>
    rw [e] at hs
    obtain ⟨l, h1, h2⟩ := Option.map_eq_some_iff.mp hs
    refine sqO_k (P := fun v => c.VR fix φ v x → iRef v = none → _) h1 (fun vx _ => ?_) (fun h1 => lsO_k (P := fun v => c.VR fix φ v x → iRef v = none → _) h1 (fun vx _ => ?_) fun i _ _ e => noS e.symm) vx e
    · exact tupV (P := fun x => wpAny c.M A (pyIter x) Q E s) vx fun a xs n hf r z => wpAny_pyIter_tuple ⟨_, S.1.fixK _ _ hf, rfl, n, rfl⟩ (q h2 rfl (.tup hf (i := 0) r rfl rfl))
    · exact lstV (P := fun x => wpAny c.M A (pyIter x) Q E s) vx fun a xs n hf r z => wpAny_pyIter_list ⟨_, S.1.fixK _ _ hf, rfl, n, rfl⟩ (q h2 rfl (.lst hf (i := 0) r rfl rfl))
  | some i =>
    rw [e] at hs
    dsimp only at hs
    refine iRef_k (P := fun v => c.VR fix φ v x → _) e (fun vx => refV (P := fun x => wpAny c.M A (pyIter x) Q E s) vx fun a hp => ?_) vx
    cases e2 : hN G i with
    | none =>
      rw [e2] at hs
      obtain ⟨l, h1, h2⟩ := Option.map_eq_some_iff.mp hs
      refine S.go hp (hL_at h1) fun xs k ho hr z => wpAny_pyIter_list ⟨_, ho, rfl, k, rfl⟩ (q h2 rfl ?_)
      have := ItD.glst (c := c) (fix := fix) (I := s.heap.objs.size) (i := 0) (n := l.length) (o := { cls := .type "list_iterator", data := .fields #[.ref a, .int 0 0] }) hp rfl rfl
      rw [Nat.zero_add, ← List.range_eq_range'] at this
      exact this
    | some p =>
      rw [e2] at hs
      have hne : (a == sysModules) = false := beq_eq_false_iff_ne.mpr fun e => Nat.lt_irrefl _ (e ▸ S.1.lo a (List.mem_of_getElem? hp))
      refine dctK S hp (hN_at e2) fun kvs hD hf => wpAny_pyIter_dict hne hD (q (Option.some.inj hs) rfl ?_)
      rw [show kvs.length = (p.2.map (·.1)).length by rw [← hf, List.length_map]]
      have := ItD.dct (c := c) (fix := fix) (I := s.heap.objs.size) (i := 0) (ks := p.2.map (·.1)) (o := { cls := .type "dict_keyiterator", data := .fields #[.ref a, .int 0 0, .int (p.2.map (·.1)).length 0, .int p.1 0] }) hp rfl rfl
      rw [List.drop_zero, List.map_map] at this
      exact this

theorem rangeO_one (a b : Int) : rangeO a b 1 = (List.range (Builtin.Range.rangeSize a b 1).toNat).map fun (k : Nat) => .val (.int (a + 1 * (k : Int))) := by
  unfold rangeO
  rw [if_pos (by decide), rangeSize_one, Int.fdiv_one]
  congr 2
  split <;> omega
theorem rangeSize_nat (a b : Int) : ((Builtin.Range.rangeSize a b 1).toNat : Int) = Builtin.Range.rangeSize a b 1 := by
  rw [rangeSize_one]; split <;> omega

theorem it_range {a b : Int} {r : Addr} {t u w' : Tok} {s : Shared} (S : St c fix kp φ G s) (hr : IsRange s.heap r a b 1 t u w')
    {E : Value → Shared → Prop} {Q : Value → Shared → Prop} (q : ∀ it s' fp, St c fix kp φ G s' → ItOk c fix kp φ s'.heap it .no (rangeO a b 1) fp → fp.length = 1 → Q it s') (hsm : Builtin.Range.small a b 1 = true) : wpAny c.M A (pyIter (.ref r)) Q E s := by
  refine wpAny_pyIter_range hr hsm (q _ _ [(s.heap.objs.size, _)] ⟨S.1.push _, S.2⟩ ⟨?_, fun p hp => by rw [List.mem_singleton] at hp; subst hp; exact Heap.get?_push_size _ rfl, fun p hp => by rw [List.mem_singleton] at hp; subst hp; exact newFree S (Nat.le_refl _)⟩ rfl)
  rw [rangeO_one, ← rangeSize_nat a b]
  exact .rng
theorem fr0 (O : c.Ok) (S : St c fix kp φ G s) : Fr {} mainGlobals s.heap c.mg := ⟨O.g.keeps S.1.baseK, fun b o e => by simp [Heap.get?] at e, Nat.zero_le _⟩

theorem it_enum (O : c.Ok) {l : List MV} {x : Value} (S : St c fix kp φ G s) (vx : c.VR fix φ (.lst l) x)
    {E : Value → Shared → Prop} {Q : Value → Shared → Prop} (q : ∀ it s' fp, St c fix kp φ G s' → ItOk c fix kp φ s'.heap it .no (enumT 0 l) fp → Q it s') :
    wpAny c.M A (call (.type "enumerate") [x]) (fun x' s₁ => wpAny c.M A (pyIter x') Q E s₁) E s := by
  refine lstV (P := fun x => wpAny c.M A (call (.type "enumerate") [x]) (fun x' s₁ => wpAny c.M A (pyIter x') Q E s₁) E s) vx fun a xs n hf r z => ?_
  refine enum_rows (fr0 O S) (isL (S.1.fixK _ _ hf)) fun h' he hit hl _ hk h1 h2 h3 _ _ => hit.elim fun o p => ?_
  exact wpAny_pyIter_enum he (q _ _ [(s.heap.objs.size + 1, ⟨.type "enumerate", none, .fields #[.none, .bool false, .ref s.heap.objs.size, rawInt (0 : Nat), .none, .none], #[]⟩), (s.heap.objs.size, o)] ⟨S.1.ext hk, S.2⟩ ⟨.enum (i := 0) hf r p.2.1 p.2.2 h1, allCons he (allOne p.1), allCons (newFree S (Nat.le_succ _)) (allOne (newFree S (Nat.le_refl _)))⟩)

theorem it_zip (O : c.Ok) {l m : List MV} {x y : Value} (S : St c fix kp φ G s) (vx : c.VR fix φ (.lst l) x) (vy : c.VR fix φ (.lst m) y)
    {E : Value → Shared → Prop} {Q : Value → Shared → Prop} (q : ∀ it s' fp, St c fix kp φ G s' → ItOk c fix kp φ s'.heap it .no (zipT l m) fp → Q it s') :
    wpAny c.M A (call (.type "zip") [x, y]) (fun x' s₁ => wpAny c.M A (pyIter x') Q E s₁) E s := by
  refine lstV (P := fun x => wpAny c.M A (call (.type "zip") [x, y]) (fun x' s₁ => wpAny c.M A (pyIter x') Q E s₁) E s) vx fun a xs n hf r z => ?_
  refine lstV (P := fun y => wpAny c.M A (call (.type "zip") [.ref a, y]) (fun x' s₁ => wpAny c.M A (pyIter x') Q E s₁) E s) vy fun b ys k hg r2 z2 => ?_
  have ap := zipApart_new (Heap.lt_size (S.1.fixK _ _ hf)) (Heap.lt_size (S.1.fixK _ _ hg))
  have nf : ∀ i, fix (s.heap.objs.size + i) = none ∧ kp (s.heap.objs.size + i) = none ∧ s.heap.objs.size + i ∉ φ := fun i => newFree S (Nat.le_add_right _ _)
  refine call_zip_2 (isL (S.1.fixK _ _ hf)) (isL (S.1.fixK _ _ hg)) fun h' e1 e2 e3 i1 i2 _ hk => i1.elim fun o1 p1 => i2.elim fun o2 p2 => ?_
  exact wpAny_pyIter_zip e1 (q _ _ [(s.heap.objs.size + 4, _), (s.heap.objs.size + 2, _), (s.heap.objs.size + 3, _), (s.heap.objs.size, o1), (s.heap.objs.size + 1, o2)] ⟨S.1.ext hk, S.2⟩ ⟨.zip (k1 := 0) (k2 := 0) (a := .none) (b := .none) hf hg r r2 p1.2.1 p1.2.2 p2.2.1 p2.2.2 ap,
    allCons e1 (allCons e2 (allCons e3 (allCons p1.1 (allOne p2.1)))), allCons (nf 4) (allCons (nf 2) (allCons (nf 3) (allCons (newFree S (Nat.le_refl _)) (allOne (nf 1)))))⟩)
end
end Mine
end
section
set_option autoImplicit false
set_option linter.unusedSectionVars false
namespace Mine
open PySem PySem.W PyProof.Rows PySem.Calls

structure Own (sc : Sp) (nm : Nm) (nb : Nat) (env : Env) (kp0 : Kp) : Prop where
  loc : kp0 env.locals = none
  cell : ∀ (i : Nat) (x : Str) (a : Addr), nb ≤ i → nm[i]? = some (some x) → env.cells.lookup x = some a → sc.lookup x = some .cell → kp0 a = none

section
variable {c : CX} {A : Around} {fix kp kp0 : Kp} {φ : List Addr} {G : GH} {s : Shared} {h h' : Heap} {d nb : Nat} {sc : Sp} {nm : Nm} {ρ ρ' : Lo} {env : Env}

theorem Rel.setKp (R : Rel c fix kp φ G h) {a : Addr} {o o' : Obj} (ha : kp a = some o) (hs : ∀ b, b ≠ a → ∀ x, h.get? b = some x → h'.get? b = some x) (ho : h'.get? a = some o') : Rel c fix (upd kp a (some o')) φ G h' where
  base := R.base
  fixK b x e := hs b (by rintro rfl; have := R.dj _ _ ha; rw [this] at e; cases e) x (R.fixK b x e)
  kpK b x e := by
    by_cases hb : b = a
    · subst hb; rw [upd_self] at e; cases e; exact ho
    · rw [upd_ne _ _ hb] at e; exact hs b hb x (R.kpK b x e)
  dj b x e := by
    by_cases hb : b = a
    · subst hb; exact R.dj _ _ ha
    · rw [upd_ne _ _ hb] at e; exact R.dj b x e
  len := R.len
  nd := R.nd
  out b hb := by
    have hb' : b ≠ a := by rintro rfl; have := (R.out _ hb).2; rw [ha] at this; cases this
    rw [upd_ne _ _ hb']; exact R.out b hb
  obj i b g ea eg := by
    obtain ⟨x, hx, hg⟩ := R.obj i b g ea eg
    have hb' : b ≠ a := by rintro rfl; have := (R.mem ea).2; rw [ha] at this; cases this
    exact ⟨x, hs b hb' x hx, hg⟩
  st := R.st
  lo := R.lo

theorem set1_get {i j : Nat} {v : MV} (h : set1 ρ i v = some ρ') : ρ'.length = ρ.length ∧ ρ'[i]? = some (some v) ∧ (j ≠ i → ρ'[j]? = ρ[j]?) := by
  unfold set1 at h
  split at h
  · rename_i hl
    cases h
    exact ⟨List.length_set .., List.getElem?_set_self hl, fun hj => List.getElem?_set_ne (Ne.symm hj)⟩
  · cases h

theorem store_ok {i : Nat} {x : Str} {v : MV} {y : Value} (V : EnvOk c sc nm ρ env fix kp φ) (S : St c fix kp φ G s) (W : Own sc nm nb env kp0) (hle : Le kp0 kp) (hnb : nb ≤ i) (ht : tgtOk sc nm i x = true) (hs : set1 ρ i v = some ρ') (vy : c.VR fix φ v y)
    {E : Value → Shared → Prop} {Q : Unit → Shared → Prop} (q : ∀ kp' s', Le kp0 kp' → St c fix kp' φ G s' → EnvOk c sc nm ρ' env fix kp' φ → Q () s') : wpAny c.M A (storeName env x y) Q E s := by
  simp only [tgtOk, Bool.and_eq_true, Bool.or_eq_true, beq_iff_eq] at ht
  obtain ⟨hi, hk⟩ := ht
  obtain ⟨o, es, ep, ho, hd, hsk⟩ := V.frame
  have len' : ∀ (j : Nat) (w : MV), ρ'[j]? = some (some w) → j < nm.length := fun j w e => by
    by_cases hj : j = i
    · subst hj; exact (List.getElem?_eq_some_iff.mp hi).1
    · rw [(set1_get (j := j) hs).2.2 hj] at e; exact V.len j w e
  have hother : ∀ (j : Nat) (x' : Str), nm[j]? = some (some x') → x' ≠ x → j ≠ i := fun j x' hj hx e => hx (by subst e; rw [hi] at hj; cases hj; rfl)
  rcases hk with hk | hk
  · -- a local
    refine wpAny_storeName_local (m := fun n => nsFind es n) (by rw [V.kindOf]; exact hk) ⟨o, es, ep, S.1.kpK _ _ ho, hd, hsk, fun _ => rfl⟩ (fun h' hn hsb => ?_) (by rw [V.kind]; rfl)
    obtain ⟨o', es', ep', ho', hd', hsk', hf'⟩ := hn
    have hle' : Le kp0 (upd kp env.locals (some o')) := fun b z e => by
      have hb : b ≠ env.locals := by rintro rfl; rw [W.loc] at e; cases e
      rw [upd_ne _ _ hb]; exact hle b z e
    refine q (upd kp env.locals (some o')) _ hle' ⟨S.1.setKp ho (fun b hb z e => (hsb.2 b hb).trans e) ho', S.2⟩ ⟨V.kind, V.names, V.globals, V.builtins, len', fun j x' w' hj hρ => ?_, fun x' hne' hx' => ?_, ⟨o', es', ep', upd_self _ _ _, hd', hsk'⟩, V.apart, V.inj, V.uniq, V.nocls⟩
    · by_cases hx : x' = x
      · subst hx
        obtain rfl : j = i := V.uniq _ _ _ hj hi
        rw [(set1_get (j := 0) hs).2.1] at hρ
        cases hρ
        exact ⟨y, vy, .loc (by rw [V.kindOf]; exact hk) (upd_self _ _ _) hd' hsk' ((hf' x').trans (if_pos rfl))⟩
      · rw [(set1_get (j := j) hs).2.2 (hother j x' hj hx)] at hρ
        obtain ⟨y', vy', hl⟩ := V.loads j x' w' hj hρ
        refine ⟨y', vy', ?_⟩
        cases hl with
        | loc h1 h2 h3 h4 h5 =>
          rw [ho] at h2; cases h2
          rw [hd] at h3; cases h3
          exact .loc h1 (upd_self _ _ _) hd' hsk' ((hf' x').trans ((if_neg hx).trans h5))
        | cell h1 h2 h3 h4 => exact .cell h1 h2 ((upd_ne _ _ (V.apart _ _ h2)).trans h3) h4
        | free h1 h2 h3 h4 h5 => exact .free h1 h2 ((upd_ne _ _ (V.apart _ _ h2)).trans h3) h4 h5
    · obtain ⟨a, ha, oc, vc, h1, h2⟩ := V.cells x' hne' hx'
      exact ⟨a, ha, oc, vc, (upd_ne _ _ (V.apart _ _ ha)).trans h1, h2⟩
  · -- a cell
    obtain ⟨a, ha, oc, vc, hoc, hdc⟩ := V.cells x (V.nocls _ _ hi) (.inl hk)
    refine wpAny_storeName_cell V.kind (by rw [V.kindOf]; exact hk) ha ⟨oc, S.1.kpK _ _ hoc, hdc⟩ fun h' hc' hsb => ?_
    obtain ⟨o', ho', hd'⟩ := hc'
    have hle' : Le kp0 (upd kp a (some o')) := fun b z e => by
      have hb : b ≠ a := by rintro rfl; rw [W.cell i x _ hnb hi ha hk] at e; cases e
      rw [upd_ne _ _ hb]; exact hle b z e
    refine q (upd kp a (some o')) _ hle' ⟨S.1.setKp hoc (fun b hb z e => (hsb.2 b hb).trans e) ho', S.2⟩ ⟨V.kind, V.names, V.globals, V.builtins, len', fun j x' w' hj hρ => ?_, fun x' hne' hx' => ?_, ⟨o, es, ep, (upd_ne _ _ (Ne.symm (V.apart _ _ ha))).trans ho, hd, hsk⟩, V.apart, V.inj, V.uniq, V.nocls⟩
    · by_cases hx : x' = x
      · subst hx
        obtain rfl : j = i := V.uniq _ _ _ hj hi
        rw [(set1_get (j := 0) hs).2.1] at hρ
        cases hρ
        exact ⟨y, vy, .cell (by rw [V.kindOf]; exact hk) ha (upd_self _ _ _) hd'⟩
      · rw [(set1_get (j := j) hs).2.2 (hother j x' hj hx)] at hρ
        obtain ⟨y', vy', hl⟩ := V.loads j x' w' hj hρ
        have ne : ∀ {b}, env.cells.lookup x' = some b → b ≠ a := fun {b} hb e => hx (V.inj _ _ _ hb (e ▸ ha))
        refine ⟨y', vy', ?_⟩
        cases hl with
        | loc h1 h2 h3 h4 h5 => exact .loc h1 ((upd_ne _ _ (Ne.symm (V.apart _ _ ha))).trans h2) h3 h4 h5
        | cell h1 h2 h3 h4 => exact .cell h1 h2 ((upd_ne _ _ (ne h2)).trans h3) h4
        | free h1 h2 h3 h4 h5 => exact .free h1 h2 ((upd_ne _ _ (ne h2)).trans h3) h4 h5
    · obtain ⟨b, hb, oc', vc', h1, h2⟩ := V.cells x' hne' hx'
      by_cases e : b = a
      · subst e; exact ⟨_, hb, o', _, upd_self _ _ _, hd'⟩
      · exact ⟨b, hb, oc', vc', (upd_ne _ _ e).trans h1, h2⟩

noncomputable def tnOk (sc : Sp) (nm : Nm) : List Nat → List Str → Bool
  | [], xs => xs.isEmpty
  | i :: r, xs => match xs with
    | [] => false
    | x :: t => tgtOk sc nm i x && tnOk sc nm r t
noncomputable def Acts (M : Model) (env : Env) : List (Value → Sem Unit) → List Str → Prop
  | [], xs => xs = []
  | a :: r, xs => match xs with
    | [] => False
    | x :: t => (∀ {A : Around} {y : Value} {E : Value → Shared → Prop} {Q : Unit → Shared → Prop} {s : Shared}, wpAny M A (storeName env x y) Q E s → wpAny M A (a y) Q E s) ∧ Acts M env r t
theorem setAll_nil {vs : List MV} {P : List MV → Prop} (h : setAll ρ [] vs = some ρ') (g : ρ' = ρ → P []) : P vs := match vs, h with
  | [], h => g (Option.some.inj h).symm
theorem setAll_cons {i : Nat} {is : List Nat} {vs : List MV} {P : List MV → Prop} (h : setAll ρ (i :: is) vs = some ρ') (g : ∀ v r ρ1, set1 ρ i v = some ρ1 → setAll ρ1 is r = some ρ' → P (v :: r)) : P vs := match vs, h with
  | v :: r, h => (Option.bind_eq_some_iff.mp (show (set1 ρ i v).bind (fun ρ1 => setAll ρ1 is r) = some ρ' from h)).elim fun ρ1 h => g v r ρ1 h.1 h.2
noncomputable def StoreOk (c : CX) (A : Around) (sc : Sp) (nm : Nm) (env : Env) (kp0 : Kp) (fix : Kp) (φ : List Addr) (G : GH) (ρ' : Lo) (Q : Shared → Prop) : Prop := ∀ kp' s', Le kp0 kp' → St c fix kp' φ G s' → EnvOk c sc nm ρ' env fix kp' φ → Q s'
theorem acts_ok (W : Own sc nm nb env kp0) {E : Value → Shared → Prop} {Q : Unit → Shared → Prop} (q : StoreOk c A sc nm env kp0 fix φ G ρ' (Q ())) : ∀ {is : List Nat} {xs : List Str} {as : List (Value → Sem Unit)} {vs : List MV} {ys : List Value} {ρ : Lo} {kp : Kp} {s : Shared}, EnvOk c sc nm ρ env fix kp φ → St c fix kp φ G s → Le kp0 kp → (∀ i ∈ is, nb ≤ i) → tnOk sc nm is xs = true → Acts c.M env as xs → setAll ρ is vs = some ρ' → c.VRs fix φ vs ys → wpAny c.M A (assignInOrder as ys) Q E s
  | [], xs, as, vs, ys, ρ, kp, s, V, S, hle, _, ht, ha, hs, hv => by
    refine setAll_nil (P := fun vs => c.VRs fix φ vs ys → _) hs (fun e hv => ?_) hv
    rw [e] at q
    refine k0 (P := fun xs => Acts c.M env as xs → _) ht (fun ha => ?_) ha
    match as, ha with
    | [], _ =>
      exact VRs.nilI (P := fun ys => wpAny c.M A (assignInOrder [] ys) Q E s) hv (wpAny_pure (q _ _ hle S V))
    | _ :: _, ha => exact ha.elim
  | i :: is, xs, as, vs, ys, ρ, kp, s, V, S, hle, hnb, ht, ha, hs, hv => by
    refine setAll_cons (P := fun vs => c.VRs fix φ vs ys → _) hs (fun v r ρ1 h1 h2 hv => ?_) hv
    apply VRs.consI hv; intro y t vy hv
    match xs, as, ht, ha with
    | x :: xs, a :: as, ht, ha =>
      rw [assignInOrder]
      exact wpAny_bind (wpAny_holding (ha.1 (store_ok V S W hle (hnb i (.head _)) (Bool.and_eq_true_iff.mp ht).1 h1 vy fun kp1 s1 l1 S1 V1 => acts_ok W q V1 S1 l1 (fun j hj => hnb j (.tail _ hj)) (Bool.and_eq_true_iff.mp ht).2 ha.2 h2 hv)))
    | [], _, ht, _ => exact nomatch ht
    | _ :: _, [], _, ha => exact nomatch ha
theorem tgts_of {M : Model} {sc : Sp} {nm : Nm} : ∀ {is : List Nat} {ts : List PySem.Expr}, tgtsOk sc nm is ts = true → tnOk sc nm is (ts.filterMap nameO) = true ∧ Acts M env ((assignEach ts env).map (·.2)) (ts.filterMap nameO) ∧ (assignEach ts env).length = is.length ∧ (assignEach ts env).findIdx? (·.1) = none
  | [], ts, h => k0 (P := fun ts => tnOk sc nm [] (ts.filterMap nameO) = true ∧ Acts M env ((assignEach ts env).map (·.2)) (ts.filterMap nameO) ∧ (assignEach ts env).length = 0 ∧ (assignEach ts env).findIdx? (·.1) = none) h ⟨rfl, rfl, rfl, rfl⟩
  | i :: is, [], h => nomatch h
  | i :: is, t :: ts, h => kENam (P := fun t => tnOk sc nm (i :: is) ((t :: ts).filterMap nameO) = true ∧ Acts M env ((assignEach (t :: ts) env).map (·.2)) ((t :: ts).filterMap nameO) ∧ (assignEach (t :: ts) env).length = is.length + 1 ∧ (assignEach (t :: ts) env).findIdx? (·.1) = none) (k := fun x _ => tgtOk sc nm i x && tgtsOk sc nm is ts) h fun x p h =>
    have r := tgts_of (Bool.and_eq_true_iff.mp h).2
    ⟨Bool.and_eq_true_iff.mpr ⟨(Bool.and_eq_true_iff.mp h).1, r.1⟩, ⟨fun h => wpAny_assign_Name h, r.2.1⟩, congrArg Nat.succ r.2.2.1, by
      show List.findIdx? (·.1) ((false, assign (.Name x p) env) :: assignEach ts env) = none
      rw [List.findIdx?_cons, r.2.2.2]; rfl⟩
theorem setAll_len : ∀ {is : List Nat} {vs : List MV} {ρ ρ' : Lo}, setAll ρ is vs = some ρ' → is.length = vs.length
  | [], _, _, _, h => setAll_nil (P := fun vs => 0 = vs.length) h fun _ => rfl
  | _ :: is, _, _, _, h => setAll_cons (P := fun vs => is.length + 1 = vs.length) h fun _ _ _ _ h => congrArg Nat.succ (setAll_len h)

theorem tupIn {l : List MV} {y : Value} {f : Kp} {p : List Addr} (h : c.VR f p (.tup l) y) : ∃ a xs n, y = .ref a ∧ f a = some ⟨.type "tuple", none, .seq xs.toArray n, #[]⟩ ∧ c.VRs f p l xs := by
  cases h with
  | @tup _ a xs n hf r z => exact ⟨a, xs, n, rfl, hf, r⟩
theorem asgO_one {tgt : List Nat} {v : MV} {P : List Nat → Prop} (h : asgO true tgt v ρ = some ρ') (g : ∀ i, set1 ρ i v = some ρ' → P [i]) : P tgt := match tgt, h with
  | [i], h => g i h
theorem asgO_tup {tgt : List Nat} {v : MV} {P : MV → Prop} (h : asgO false tgt v ρ = some ρ') (g : ∀ l, setAll ρ tgt l = some ρ' → P (.tup l)) : P v := by
  cases v with
  | tup l => exact g l h
  | _ => exact nomatch h
theorem target_ok {one : Bool} {tgt : List Nat} {t : PySem.Expr} {v : MV} {y : Value} (hA : A.handled = none) (V : EnvOk c sc nm ρ env fix kp φ) (S : St c fix kp φ G s) (W : Own sc nm nb env kp0) (hle : Le kp0 kp) (hnb : ∀ i ∈ tgt, nb ≤ i) (ht : tgtE sc nm one tgt t = true) (hs : asgO one tgt v ρ = some ρ') (vy : c.VR fix φ v y)
    {E : Value → Shared → Prop} {Q : Unit → Shared → Prop} (q : ∀ kp' s', Le kp0 kp' → St c fix kp' φ G s' → EnvOk c sc nm ρ' env fix kp' φ → Q () s') : wpAny c.M A (assign t env y) Q E s := by
  cases one with
  | true =>
    apply kENam (k := fun x _ => q1 tgt fun i => tgtOk sc nm i x) ht; intro x pos ht
    refine asgO_one (P := fun tgt => (∀ i ∈ tgt, nb ≤ i) → q1 tgt (fun i => tgtOk sc nm i x) = true → _) hs (fun i hs hnb ht => ?_) hnb ht
    exact wpAny_assign_Name (store_ok V S W hle (hnb i (.head _)) ht hs vy q)
  | false =>
    apply kETup (k := fun ts _ _ => tgtsOk sc nm tgt ts) ht; intro ts k pos ht
    refine asgO_tup (P := fun v => c.VR fix φ v y → _) hs (fun l hs vy => ?_) vy
    obtain ⟨a, xs, n, e, hf, r⟩ := tupIn vy
    rw [e]
    obtain ⟨h0, ha, h1, h2⟩ := tgts_of (M := c.M) (env := env) ht
    refine wpAny_assign_Tuple hA ⟨_, S.1.fixK _ _ hf, rfl, n, rfl⟩ (by rw [h1, setAll_len hs, r.length, List.size_toArray]) h2 fun h' hx => ?_
    have S' : St c fix kp φ G { s with heap := h' } := ⟨S.1.heap fun b o hb e => hx b o (fun q => by
      have := Heap.lt_size e
      rw [q] at this
      exact Nat.lt_irrefl _ this) e, S.2⟩
    exact acts_ok W q V S' hle hnb h0 ha hs r
end
end Mine
end
section
set_option autoImplicit false
set_option linter.unusedSectionVars false
set_option linter.unusedVariables false
namespace Mine
open PySem PySem.W PyProof.Rows PySem.Calls

noncomputable def cut (kp : Kp) (fp : List (Addr × Obj)) : Kp := fun a => if (fp.lookup a).isSome then none else kp a
noncomputable def Free (fix kp : Kp) (φ : List Addr) (h : Heap) (fp : List (Addr × Obj)) : Prop := ∀ p ∈ fp, h.get? p.1 = some p.2 ∧ fix p.1 = none ∧ kp p.1 = none ∧ p.1 ∉ φ

section
variable {c : CX} {A : Around} {fix kp kp0 fix' kp' kp'' : Kp} {φ φ' : List Addr} {G G' : GH} {s : Shared} {h h' : Heap} {d nb : Nat} {sc : Sp} {nm : Nm} {ρ ρ' : Lo} {env : Env} {fp : List (Addr × Obj)} {it : Value} {gd : Gd} {items : List Itm}

theorem cut_le : Le (cut kp fp) kp := fun a o e => by
  unfold cut at e
  split at e
  · cases e
  · exact e
theorem cut_out {a : Addr} (h : ∀ p ∈ fp, p.1 ≠ a) : cut kp fp a = kp a := by
  unfold cut
  cases q : fp.lookup a with
  | none => rfl
  | some x => exact absurd rfl (h _ (lookup_mem' q))
theorem cut_in {p : Addr × Obj} (h : p ∈ fp) : cut kp fp p.1 = none := by
  unfold cut
  cases q : fp.lookup p.1 with
  | none => exact absurd rfl (lookup_none' q p h)
  | some x => rfl
theorem holdL_out {a : Addr} (h : ∀ p ∈ fp, p.1 ≠ a) : holdL kp fp a = kp a := by
  unfold holdL
  cases q : fp.lookup a with
  | none => rfl
  | some x => exact absurd rfl (h _ (lookup_mem' q))

theorem Free.hold (F : Free fix kp φ h fp) (R : Rel c fix kp φ G h) : Rel c fix (holdL kp fp) φ G h ∧ Le kp (holdL kp fp) := by
  have hl : ∀ a o, fp.lookup a = some o → h.get? a = some o ∧ fix a = none ∧ kp a = none ∧ a ∉ φ := fun a o e => F _ (lookup_mem' e)
  have le : Le kp (holdL kp fp) := fun a o e => by
    unfold holdL
    cases q : fp.lookup a with
    | none => exact e
    | some x => have := (hl a x q).2.2.1; rw [e] at this; cases this
  have key : ∀ a o, holdL kp fp a = some o → h.get? a = some o ∧ fix a = none ∧ a ∉ φ := fun a o e => by
    unfold holdL at e
    cases q : fp.lookup a with
    | none => rw [q] at e; exact ⟨R.kpK a o e, R.dj a o e, fun m => by have := (R.out a m).2; rw [show kp a = some o from e] at this; cases this⟩
    | some x => rw [q] at e; cases e; exact ⟨(hl a o q).1, (hl a o q).2.1, (hl a o q).2.2.2⟩
  refine ⟨⟨R.base, R.fixK, fun a o e => (key a o e).1, fun a o e => (key a o e).2.1, R.len, R.nd, fun a ha => ⟨(R.out a ha).1, ?_⟩, R.obj, R.st, R.lo⟩, le⟩
  cases e : holdL kp fp a with
  | none => rfl
  | some o => exact absurd ha (key a o e).2.2
theorem Free.holdAt (F : Free fix kp φ h fp) {p : Addr × Obj} (hp : p ∈ fp) : holdL kp0 fp p.1 = some p.2 := by
  unfold holdL
  cases q : fp.lookup p.1 with
  | none => exact absurd rfl (lookup_none' q p hp)
  | some x =>
    have h1 := (F _ (lookup_mem' q)).1
    have h2 := (F p hp).1
    dsimp only at h1
    rw [h1] at h2; cases h2; rfl
theorem Free.back (F : Free fix kp φ h fp) (lk : Le (holdL kp0 fp) kp') (R' : Rel c fix' kp' φ' G' h') : Free fix' (cut kp' fp) φ' h' fp ∧ Rel c fix' (cut kp' fp) φ' G' h' := by
  have at' : ∀ p ∈ fp, kp' p.1 = some p.2 := fun p hp => lk _ _ (F.holdAt hp)
  refine ⟨fun p hp => ⟨R'.kpK _ _ (at' p hp), R'.dj _ _ (at' p hp), cut_in hp, fun m => ?_⟩, R'.less cut_le⟩
  have := (R'.out _ m).2; rw [at' p hp] at this; cases this
theorem Free.le (F : Free fix kp φ h fp) (l0 : Le kp0 kp) (lk : Le (holdL kp0 fp) kp') : Le kp0 (cut kp' fp) := fun a o e => by
  have ha : ∀ p ∈ fp, p.1 ≠ a := by
    rintro p hp rfl
    have := (F p hp).2.2.1; rw [l0 _ _ e] at this; cases this
  rw [cut_out ha]
  exact lk _ _ ((holdL_out ha).trans e)
theorem Free.holdLe (F : Free fix kp φ h fp) (l0 : Le kp0 kp) : Le (holdL kp0 fp) (holdL kp fp) := fun a o e => by
  unfold holdL at e ⊢
  cases q : fp.lookup a with
  | none => rw [q] at e; exact l0 _ _ e
  | some x => rw [q] at e; exact e

theorem EnvOk.at (V : EnvOk c sc nm ρ env fix kp φ) (hl : kp' env.locals = kp env.locals) (hc : ∀ x a, x ≠ ("__class__" : Str) → (sc.lookup x = some .cell ∨ sc.lookup x = some .free) → env.cells.lookup x = some a → kp' a = kp a) : EnvOk c sc nm ρ env fix kp' φ :=
  ⟨V.kind, V.names, V.globals, V.builtins, V.len, fun i x v e1 e2 => by
    obtain ⟨y, a, b⟩ := V.loads i x v e1 e2
    refine ⟨y, a, ?_⟩
    cases b with
    | loc h1 h2 h3 h4 h5 => exact .loc h1 (hl.trans h2) h3 h4 h5
    | cell h1 h2 h3 h4 => exact .cell h1 h2 ((hc _ _ (V.nocls _ _ e1) (.inl ((V.kindOf x).symm.trans h1)) h2).trans h3) h4
    | free h1 h2 h3 h4 h5 => exact .free h1 h2 ((hc _ _ (V.nocls _ _ e1) (.inr ((V.kindOf x).symm.trans h1)) h2).trans h3) h4 h5, fun x hne hx => by
    obtain ⟨a, ha, o, v, h1, h2⟩ := V.cells x hne hx
    exact ⟨a, ha, o, v, (hc x a hne hx ha).trans h1, h2⟩, by
    obtain ⟨o, es, ep, h1, h2, h3⟩ := V.frame
    exact ⟨o, es, ep, hl.trans h1, h2, h3⟩, V.apart, V.inj, V.uniq, V.nocls⟩
theorem EnvOk.offL (V : EnvOk c sc nm ρ env fix kp φ) (F : ∀ p ∈ fp, kp p.1 = none) : ∀ p ∈ fp, p.1 ≠ env.locals := by
  rintro p hp e
  obtain ⟨o, es, ep, h1, _⟩ := V.frame
  have := F p hp; rw [e, h1] at this; cases this
theorem EnvOk.offC (V : EnvOk c sc nm ρ env fix kp φ) (F : ∀ p ∈ fp, kp p.1 = none) {x : Str} {a : Addr} (hne : x ≠ ("__class__" : Str)) (hx : sc.lookup x = some .cell ∨ sc.lookup x = some .free) (ha : env.cells.lookup x = some a) : ∀ p ∈ fp, p.1 ≠ a := by
  rintro p hp e
  obtain ⟨b, hb, o, v, h1, _⟩ := V.cells x hne hx
  rw [ha] at hb; cases hb
  have := F p hp; rw [e, h1] at this; cases this
theorem EnvOk.hold (V : EnvOk c sc nm ρ env fix kp φ) (F : ∀ p ∈ fp, kp p.1 = none) : EnvOk c sc nm ρ env fix (holdL kp fp) φ :=
  V.at (holdL_out (V.offL F)) fun x a hne hx ha => holdL_out (V.offC F hne hx ha)
theorem EnvOk.cut (V : EnvOk c sc nm ρ env fix kp φ) (F : ∀ p ∈ fp, kp p.1 = none) (V' : EnvOk c sc nm ρ' env fix' kp' φ') : EnvOk c sc nm ρ' env fix' (Mine.cut kp' fp) φ' :=
  V'.at (cut_out (V.offL F)) fun x a hne hx ha => cut_out (V.offC F hne hx ha)
theorem EnvOk.lower (V : EnvOk c sc nm ρ' env fix kp φ) (h : ∀ (i : Nat) (v : MV), ρ[i]? = some (some v) → ρ'[i]? = some (some v)) : EnvOk c sc nm ρ env fix kp φ :=
  ⟨V.kind, V.names, V.globals, V.builtins, fun i v e => V.len i v (h i v e), fun i x v e1 e2 => V.loads i x v e1 (h i v e2), V.cells, V.frame, V.apart, V.inj, V.uniq, V.nocls⟩
theorem rep_none {k i : Nat} {v : MV} (h : (ρ ++ List.replicate k none)[i]? = some (some v)) : ρ[i]? = some (some v) := by
  by_cases hi : i < ρ.length
  · rwa [List.getElem?_append_left hi] at h
  · rw [List.getElem?_append_right (by omega)] at h
    obtain ⟨_, e⟩ := List.getElem?_eq_some_iff.mp h
    rw [List.getElem_replicate] at e
    cases e
theorem Own.hold (W : Own sc nm nb env kp0) (V : EnvOk c sc nm ρ env fix kp φ) (F : ∀ p ∈ fp, kp p.1 = none) : Own sc nm nb env (holdL kp0 fp) :=
  ⟨(holdL_out (V.offL F)).trans W.loc, fun i x a hi hn ha hk => (holdL_out (V.offC F (V.nocls _ _ hn) (.inl hk) ha)).trans (W.cell i x a hi hn ha hk)⟩

theorem ItOk.Free (I : ItOk c fix kp φ h it gd items fp) : Free fix kp φ h fp := fun p hp => ⟨I.here p hp, I.free p hp⟩
theorem ItOk.of (D : ItD c fix φ it gd items fp) (F : Mine.Free fix kp φ h fp) : ItOk c fix kp φ h it gd items fp := ⟨D, fun p hp => (F p hp).1, fun p hp => (F p hp).2⟩

theorem lookup_nodup {α : Type} {l : List (Str × α)} {x : Str} {k : α} {r : List (Str × α)} (h : ((x, k) :: r) = l) (hn : (l.map (·.1)).Nodup) : r.lookup x = none := by
  subst h
  rw [List.map_cons, List.nodup_cons] at hn
  cases e : r.lookup x with
  | none => rfl
  | some v => exact absurd (List.mem_map_of_mem (f := (·.1)) (mem_of_lookup e)) hn.1
theorem closure_ok : ∀ (names : Sp) (cs : List (Str × Addr)) (env : Env), (names.map (·.1)).Nodup → (∀ x, names.lookup x = some .free → (env.cells.lookup x).isSome = true) →
    ∃ cl, (forIn names cs fun (x : Str × NameKind) (r : List (Str × Addr)) => if (x.2 == .free) = true then (do let a ← cellOf env x.1; pure (ForInStep.yield ((x.1, a) :: r))) else pure (ForInStep.yield r) : Sem (List (Str × Addr))) = pure cl ∧
      ∀ n, cl.lookup n = if names.lookup n = some .free then env.cells.lookup n else cs.lookup n
  | [], cs, env, _, _ => ⟨cs, by rw [List.forIn_nil], fun n => rfl⟩
  | (y, k) :: r, cs, env, hn, hf => by
    have hy : r.lookup y = none := lookup_nodup rfl hn
    have hr : (r.map (·.1)).Nodup := by rw [List.map_cons, List.nodup_cons] at hn; exact hn.2
    have hf' : ∀ x, r.lookup x = some .free → (env.cells.lookup x).isSome = true := fun x hx => by
      refine hf x ?_
      rw [List.lookup_cons]
      cases q : x == y with
      | true => rw [eq_of_beq q, hy] at hx; cases hx
      | false => exact hx
    have step : ∀ n, ((y, k) :: r).lookup n = if n = y then some k else r.lookup n := fun n => by
      rw [List.lookup_cons]
      cases q : n == y with
      | true => rw [if_pos (eq_of_beq q)]
      | false => rw [if_neg (by intro e; rw [e] at q; simp at q)]
    rw [List.forIn_cons]
    by_cases hk : k = .free
    · subst hk
      obtain ⟨a, ha⟩ := Option.isSome_iff_exists.mp (hf y (by rw [step, if_pos rfl]))
      obtain ⟨cl, e, hl⟩ := closure_ok r ((y, a) :: cs) env hr hf'
      refine ⟨cl, ?_, fun n => ?_⟩
      · simp only [beq_self_eq_true, if_true]
        have : cellOf env y = pure a := by unfold cellOf; rw [ha]
        rw [this]
        exact e
      · rw [hl, step]
        by_cases hny : n = y
        · subst hny
          rw [hy, if_pos rfl, if_pos rfl, if_neg (by simp), List.lookup_cons]
          simp [ha]
        · rw [if_neg hny, List.lookup_cons, beq_eq_false_iff_ne.mpr hny]
    · obtain ⟨cl, e, hl⟩ := closure_ok r cs env hr hf'
      refine ⟨cl, ?_, fun n => ?_⟩
      · have : (k == NameKind.free) = false := beq_eq_false_iff_ne.mpr hk
        simp only [this, Bool.false_eq_true, if_false]
        exact e
      · rw [hl, step]
        by_cases hny : n = y
        · subst hny
          rw [hy, if_pos rfl, if_neg (by simp), if_neg (by simpa using hk)]
        · rw [if_neg hny]

theorem cells_lk : ∀ (names : Sp) (n : Nat) (acc : List (Str × Addr)), (names.map (·.1)).Nodup →
    ∀ x, (names.lookup x = some .cell → ∃ a, n ≤ a ∧ (cellsFrom n names acc).lookup x = some a) ∧ (names.lookup x ≠ some .cell → (cellsFrom n names acc).lookup x = acc.lookup x)
  | [], n, acc, _, x => ⟨fun e => (by cases e), fun _ => rfl⟩
  | (y, k) :: r, n, acc, hn, x => by
    have hy : r.lookup y = none := lookup_nodup rfl hn
    have hr : (r.map (·.1)).Nodup := by rw [List.map_cons, List.nodup_cons] at hn; exact hn.2
    have step : ((y, k) :: r).lookup x = if x = y then some k else r.lookup x := by
      rw [List.lookup_cons]
      cases q : x == y with
      | true => rw [if_pos (eq_of_beq q)]
      | false => rw [if_neg (by intro e; rw [e] at q; simp at q)]
    rw [step]
    unfold cellsFrom
    by_cases hk : k = .cell
    · subst hk
      simp only [beq_self_eq_true, if_true]
      obtain ⟨i1, i2⟩ := cells_lk r (n + 1) ((y, n) :: acc) hr x
      by_cases hx : x = y
      · subst hx
        rw [if_pos rfl]
        refine ⟨fun _ => ⟨n, Nat.le_refl _, ?_⟩, fun q => absurd rfl q⟩
        rw [i2 (by rw [hy]; simp), List.lookup_cons]; simp
      · rw [if_neg hx]
        refine ⟨fun e => ?_, fun e => ?_⟩
        · obtain ⟨a, h1, h2⟩ := i1 e; exact ⟨a, by omega, h2⟩
        · rw [i2 e, List.lookup_cons, beq_eq_false_iff_ne.mpr hx]
    · have : (k == NameKind.cell) = false := beq_eq_false_iff_ne.mpr hk
      simp only [this, Bool.false_eq_true, if_false]
      obtain ⟨i1, i2⟩ := cells_lk r n acc hr x
      by_cases hx : x = y
      · subst hx
        rw [if_pos rfl]
        exact ⟨fun e => absurd (Option.some.inj e) hk, fun _ => i2 (by rw [hy]; simp)⟩
      · rw [if_neg hx]; exact ⟨i1, i2⟩
theorem cells_app : ∀ (names : Sp) (n : Nat) (acc : List (Str × Addr)), cellsFrom n names acc = cellsFrom n names [] ++ acc
  | [], n, acc => rfl
  | (y, k) :: r, n, acc => by
    unfold cellsFrom
    split
    · rw [cells_app r (n + 1) ((y, n) :: acc), cells_app r (n + 1) [(y, n)], List.append_assoc]; rfl
    · exact cells_app r n acc
theorem pushCells_size : ∀ (names : Sp) (h : Heap), h.objs.size ≤ (pushCells h names).objs.size
  | [], h => Nat.le_refl _
  | (y, k) :: r, h => by
    unfold pushCells
    split
    · exact Nat.le_trans (by rw [Heap.size_push]; omega) (pushCells_size r _)
    · exact pushCells_size r h
end
end Mine
end
section
set_option autoImplicit false
set_option linter.unusedSectionVars false
set_option linter.unusedVariables false
namespace Mine
open PySem PySem.W PyProof.Rows PySem.Calls

section
variable {c : CX} {A : Around} {fix kp kp0 fix' kp' kp'' : Kp} {φ φ' : List Addr} {G G' : GH} {s : Shared} {h h' : Heap} {d nb : Nat} {sc : Sp} {nm : Nm} {ρ ρ' : Lo} {env : Env}

noncomputable def compE (scope : Scope) (cl : List (Str × Addr)) (C : Addr) (env : Env) : Env :=
  { scope := scope, locals := C, globals := env.globals, cells := cellsFrom (C + 1) scope.names cl, qual := env.qual, func := none, code := env.code, frame := env.frame, builtins := env.builtins }

theorem relabel_eq (V : EnvOk c sc nm ρ env fix kp φ) (scope : Scope) : (relabel scope env).names = relN sc scope.names := by
  unfold relabel relN
  refine List.map_congr_left fun p hp => ?_
  obtain ⟨n, k⟩ := p
  simp only [V.kind, V.kindOf, beq_self_eq_true, Bool.and_true]

theorem relN_lk : ∀ (names : Sp) (x : Str), (relN sc names).lookup x = if names.lookup x = some .free ∧ sc.lookup x = some .cell then some .cell else names.lookup x
  | [], x => by simp [relN]
  | (y, k) :: r, x => by
    have ih := relN_lk r x
    have step : ∀ k', ((y, k') :: relN sc r).lookup x = if x = y then some k' else (relN sc r).lookup x := fun k' => by
      rw [List.lookup_cons]
      cases q : x == y with
      | true => rw [if_pos (eq_of_beq q)]
      | false => rw [if_neg (by intro e; rw [e] at q; simp at q)]
    have step2 : ((y, k) :: r).lookup x = if x = y then some k else r.lookup x := by
      rw [List.lookup_cons]
      cases q : x == y with
      | true => rw [if_pos (eq_of_beq q)]
      | false => rw [if_neg (by intro e; rw [e] at q; simp at q)]
    have e : relN sc ((y, k) :: r) = (if k == .free && sc.lookup y == some .cell then (y, .cell) else (y, k)) :: relN sc r := rfl
    rw [e, step2]
    by_cases hx : x = y
    · subst hx
      by_cases hc : k = .free ∧ sc.lookup x = some .cell
      · obtain ⟨rfl, hc⟩ := hc
        rw [if_pos (by rw [hc]; rfl), step, if_pos rfl, if_pos rfl, if_pos ⟨rfl, hc⟩]
      · have : (k == .free && sc.lookup x == some .cell) = false := by
          rw [Bool.eq_false_iff]; intro q
          rw [Bool.and_eq_true] at q
          exact hc ⟨eq_of_beq q.1, eq_of_beq q.2⟩
        rw [if_neg (by rw [this]; decide), step, if_pos rfl, if_pos rfl, if_neg (fun q => hc ⟨Option.some.inj q.1, q.2⟩)]
    · rw [if_neg hx]
      split <;> (rw [step, if_neg hx]; exact ih)

theorem fm_cons {l : Nm} {x : Str} : (some x :: l).filterMap id = x :: l.filterMap id := rfl
theorem uniq_at : ∀ {l : Nm}, (l.filterMap id).Nodup → ∀ {i j : Nat} {x : Str}, l[i]? = some (some x) → l[j]? = some (some x) → i = j
  | [], _, i, j, x, h, _ => by cases i <;> cases h
  | o :: l, hn, i, j, x, hi, hj => by
    have hn' : (l.filterMap id).Nodup := by
      cases o with
      | none => exact hn
      | some y => rw [fm_cons, List.nodup_cons] at hn; exact hn.2
    have hd : ∀ k : Nat, l[k]? = some (some x) → o = some x → False := by
      rintro k hk rfl
      rw [fm_cons, List.nodup_cons] at hn
      exact hn.1 (List.mem_filterMap.mpr ⟨_, List.mem_of_getElem? hk, rfl⟩)
    cases i with
    | zero =>
      cases j with
      | zero => rfl
      | succ j => simp only [List.getElem?_cons_zero, Option.some.injEq] at hi; simp only [List.getElem?_cons_succ] at hj; exact (hd j hj hi).elim
    | succ i =>
      cases j with
      | zero => simp only [List.getElem?_cons_zero, Option.some.injEq] at hj; simp only [List.getElem?_cons_succ] at hi; exact (hd i hi hj).elim
      | succ j => simp only [List.getElem?_cons_succ] at hi hj; rw [uniq_at hn' hi hj]
theorem mask_at {names : Sp} {i : Nat} {x : Str} (h : (maskN nm names)[i]? = some (some x)) : nm[i]? = some (some x) ∧ names.lookup x = some .free := by
  unfold maskN at h
  rw [List.getElem?_map, Option.map_eq_some_iff] at h
  obtain ⟨o, e1, e2⟩ := h
  cases o with
  | none => cases e2
  | some y =>
    simp only [Option.bind_some] at e2
    split at e2
    · rename_i hb
      cases e2
      exact ⟨e1, eq_of_beq hb⟩
    · cases e2

theorem newComp_ok {scope : Scope} {ns : List Str} {cl : List (Str × Addr)} (V : EnvOk c sc nm ρ env fix kp φ) (S : St c fix kp φ G s) (hk : scope.kind = .function) (hs : scopeOk sc scope.names = true) (hu : uniqN (maskN nm scope.names ++ ns.map some) = true) (hf : noFree scope.names ns = true)
    (hcl : ∀ n, cl.lookup n = if scope.names.lookup n = some .free then env.cells.lookup n else none) {E : Value → Shared → Prop} {Q : Env → Shared → Prop}
    (q : ∀ cenv s' kp', cenv.locals = s.heap.objs.size → Le kp kp' → St c fix kp' φ G s' →
      EnvOk c (relN sc scope.names) (maskN nm scope.names ++ ns.map some) (ρ ++ List.replicate ns.length none) { cenv with scope := relabel scope env } fix kp' φ →
      Own (relN sc scope.names) (maskN nm scope.names ++ ns.map some) nm.length { cenv with scope := relabel scope env } kp →
      (∀ a, a < s.heap.objs.size → kp' a = kp a) → (∀ a o, s.heap.get? a = some o → s'.heap.get? a = some o) → Q cenv s') :
    wpAny c.M A (newFunctionEnv scope env.globals cl [] env.qual none .none (some env)) Q E s := by
  simp only [scopeOk, Bool.and_eq_true, decide_eq_true_eq] at hs
  obtain ⟨hnd, hfr⟩ := hs
  have hfree0 : ∀ x, scope.names.lookup x = some .free → x ≠ ("__class__" : Str) ∧ (sc.lookup x = some .cell ∨ sc.lookup x = some .free) := fun x hx => by
    have := List.all_eq_true.mp hfr _ (mem_of_lookup hx)
    simpa using this
  have hfree := fun x hx => (hfree0 x hx).2
  simp only [newFunctionEnv, Option.isSome_some, if_true]
  refine wpAny_bind (wpAny_alloc ?_)
  refine wpAny_bind (wpAny_layCells _ (fun name kind cells => by cases hkc : kind == NameKind.cell <;> simp) _ _ _ _ ?_)
  rw [List.forIn_nil]
  refine wpAny_bind (wpAny_pure (wpAny_pure ?_))
  have hsz : (s.heap.push { cls := .type "dict", data := .dict #[] }).objs.size = s.heap.objs.size + 1 := Heap.size_push ..
  have ok := cellsFrom_ok scope.names (s.heap.push { cls := .type "dict", data := .dict #[] }) (s.heap.objs.size + 1) [] ⟨fun _ _ hm => (nomatch hm), List.Pairwise.nil⟩ (by rw [hsz]; exact Nat.le_refl _)
  dsimp only
  rw [hsz] at ok ⊢
  generalize hH : pushCells (s.heap.push { cls := .type "dict", data := .dict #[] }) scope.names = H at ok ⊢
  have keep : ∀ a o, s.heap.get? a = some o → H.get? a = some o := fun a o e => by rw [← hH]; exact pushCells_keeps _ _ a o (Heap.get?_push_of_some _ e)
  have hC : H.get? s.heap.objs.size = some { cls := .type "dict", data := .dict #[] } := by rw [← hH]; exact pushCells_keeps _ _ _ _ (Heap.get?_push_size _ rfl)
  have lk := cells_lk scope.names (s.heap.objs.size + 1) cl hnd
  have app := cells_app scope.names (s.heap.objs.size + 1) cl
  have kpOld : ∀ a o, kp a = some o → a < s.heap.objs.size := fun a o e => Heap.lt_size (S.1.kpK a o e)
  have old : ∀ x a, scope.names.lookup x ≠ some .cell → (cellsFrom (s.heap.objs.size + 1) scope.names cl).lookup x = some a → scope.names.lookup x = some .free ∧ env.cells.lookup x = some a := fun x a h1 h2 => by
    rw [(lk x).2 h1, hcl] at h2
    split at h2
    · rename_i h3; exact ⟨h3, h2⟩
    · cases h2
  have oldLt : ∀ x a, scope.names.lookup x = some .free → env.cells.lookup x = some a → (∃ o v, kp a = some o ∧ o.data = .cell v) ∧ a < s.heap.objs.size := fun x a h1 h2 => by
    obtain ⟨b, hb, o, v, h3, h4⟩ := V.cells x (hfree0 x h1).1 (hfree x h1)
    rw [h2] at hb; cases hb
    exact ⟨⟨o, v, h3, h4⟩, kpOld _ _ h3⟩
  have new : ∀ x, scope.names.lookup x = some .cell → ∃ a, s.heap.objs.size + 1 ≤ a ∧ (cellsFrom (s.heap.objs.size + 1) scope.names cl).lookup x = some a ∧ H.IsCell a none ∧ (x, a) ∈ cellsFrom (s.heap.objs.size + 1) scope.names [] := fun x hx => by
    obtain ⟨a, h1, h2⟩ := (lk x).1 hx
    obtain ⟨b, h3, h4⟩ := (cells_lk scope.names (s.heap.objs.size + 1) [] hnd x).1 hx
    have e : b = a := by
      rw [app, List.lookup_append, h4] at h2
      exact Option.some.inj h2
    subst e
    exact ⟨b, h1, h2, (ok.empty _ _ (mem_of_lookup h4)).1, mem_of_lookup h4⟩
  have lkFree : ∀ x, scope.names.lookup x = some .free → (cellsFrom (s.heap.objs.size + 1) scope.names cl).lookup x = env.cells.lookup x := fun x hx => by
    rw [(lk x).2 (by rw [hx]; decide), hcl, if_pos hx]
  let kp1 : Kp := fun a => if s.heap.objs.size ≤ a then H.get? a else kp a
  have kp1o : ∀ a, a < s.heap.objs.size → kp1 a = kp a := fun a ha => if_neg (Nat.not_le.mpr ha)
  have kp1n : ∀ a, s.heap.objs.size ≤ a → kp1 a = H.get? a := fun a ha => if_pos ha
  have le1 : Le kp kp1 := fun a o e => (kp1o a (kpOld a o e)).trans e
  have R1 : Rel c fix kp1 φ G H := by
    have R0 := S.1.ext keep
    have key : ∀ a o, kp1 a = some o → H.get? a = some o ∧ fix a = none ∧ a ∉ φ := fun a o e => by
      by_cases ha : a < s.heap.objs.size
      · rw [kp1o a ha] at e
        exact ⟨R0.kpK a o e, R0.dj a o e, fun m => by have := (R0.out a m).2; rw [e] at this; cases this⟩
      · rw [kp1n a (Nat.not_lt.mp ha)] at e
        exact ⟨e, S.1.fixLt (Nat.not_lt.mp ha), fun m => ha (S.1.lt m)⟩
    refine ⟨R0.base, R0.fixK, fun a o e => (key a o e).1, fun a o e => (key a o e).2.1, R0.len, R0.nd, fun a m => ⟨(R0.out a m).1, ?_⟩, R0.obj, R0.st, R0.lo⟩
    cases e : kp1 a with
    | none => rfl
    | some o => exact absurd m (key a o e).2.2
  have hkind : ∀ x, (relN sc scope.names).lookup x = some .cell ∨ (relN sc scope.names).lookup x = some .free → scope.names.lookup x = some .cell ∨ scope.names.lookup x = some .free := fun x hx => by
    rw [relN_lk] at hx
    split at hx
    · rename_i h1; exact .inr h1.1
    · exact hx
  refine q _ _ kp1 rfl le1 ⟨R1, S.2⟩ ⟨?_, relabel_eq V scope, V.globals, V.builtins, fun i v e => ?_, fun i x v e1 e2 => ?_, fun x hne hx => ?_, ?_, fun x a ha => ?_, fun x y a hx hy => ?_, fun i j x hi hj => ?_, fun i x hi => ?_⟩ ⟨?_, fun i x a hi hx ha hkx => ?_⟩ kp1o keep
  · exact hk
  · have := V.len i v (rep_none e)
    rw [List.length_append]; unfold maskN; rw [List.length_map]; omega
  · have h0 := rep_none e2
    have hi : i < nm.length := V.len i v h0
    rw [List.getElem?_append_left (by unfold maskN; rw [List.length_map]; exact hi)] at e1
    obtain ⟨h1, h2⟩ := mask_at e1
    obtain ⟨y, vy, hl⟩ := V.loads i x v h1 h0
    refine ⟨y, vy, ?_⟩
    have kindX : Env.kindOf { ({ scope := scope, locals := s.heap.objs.size, globals := env.globals, cells := cellsFrom (s.heap.objs.size + 1) scope.names cl, qual := env.qual, func := none, code := env.code, frame := env.frame, builtins := env.builtins } : Env) with scope := relabel scope env } x = (relN sc scope.names).lookup x := by
      unfold Env.kindOf; rw [relabel_eq V scope]
    cases hl with
    | loc g1 _ _ _ _ =>
      rw [V.kindOf] at g1
      rcases hfree x h2 with q | q <;> (rw [g1] at q; cases q)
    | cell g1 g2 g3 g4 =>
      rw [V.kindOf] at g1
      exact .cell (kindX.trans (by rw [relN_lk, if_pos ⟨h2, g1⟩])) ((lkFree x h2).trans g2) (le1 _ _ g3) g4
    | free g1 g2 g3 g4 g5 =>
      rw [V.kindOf] at g1
      exact .free (kindX.trans (by rw [relN_lk, if_neg (by rintro ⟨_, q⟩; rw [g1] at q; cases q), h2])) ((lkFree x h2).trans g2) (le1 _ _ g3) g4 g5
  · rcases hkind x hx with h1 | h1
    · obtain ⟨a, h2, h3, ⟨o, h4, h5⟩, _⟩ := new x h1
      exact ⟨a, h3, o, _, (kp1n a (by omega)).trans h4, h5⟩
    · obtain ⟨a, h2, o, v, h3, h4⟩ := V.cells x (hfree0 x h1).1 (hfree x h1)
      exact ⟨a, (lkFree x h1).trans h2, o, v, le1 _ _ h3, h4⟩
  · exact ⟨_, _, _, (kp1n _ (Nat.le_refl _)).trans hC, rfl, by intro e he; simp at he⟩
  · have ha' : (cellsFrom (s.heap.objs.size + 1) scope.names cl).lookup x = some a := ha
    show a ≠ s.heap.objs.size
    by_cases h1 : scope.names.lookup x = some .cell
    · obtain ⟨b, h2, h3, _⟩ := new x h1
      rw [h3] at ha'; cases ha'; exact Nat.ne_of_gt h2
    · obtain ⟨h2, h3⟩ := old x a h1 ha'
      exact Nat.ne_of_lt (oldLt x a h2 h3).2
  · have hx' : (cellsFrom (s.heap.objs.size + 1) scope.names cl).lookup x = some a := hx
    have hy' : (cellsFrom (s.heap.objs.size + 1) scope.names cl).lookup y = some a := hy
    by_cases h1 : scope.names.lookup x = some .cell
    · obtain ⟨b, h2, h3, _, hm⟩ := new x h1
      rw [h3] at hx'; cases hx'
      by_cases h1' : scope.names.lookup y = some .cell
      · obtain ⟨b', h2', h3', _, hm'⟩ := new y h1'
        rw [h3'] at hy'; cases hy'
        exact name_of_addr ok.apart hm hm'
      · obtain ⟨g1, g2⟩ := old y _ h1' hy'
        exact absurd (Nat.lt_of_lt_of_le (oldLt y _ g1 g2).2 (Nat.le_of_succ_le h2)) (Nat.lt_irrefl _)
    · obtain ⟨g1, g2⟩ := old x _ h1 hx'
      by_cases h1' : scope.names.lookup y = some .cell
      · obtain ⟨b', h2', h3', _, hm'⟩ := new y h1'
        rw [h3'] at hy'; cases hy'
        exact absurd (Nat.lt_of_lt_of_le (oldLt x _ g1 g2).2 (Nat.le_of_succ_le h2')) (Nat.lt_irrefl _)
      · obtain ⟨g1', g2'⟩ := old y _ h1' hy'
        exact V.inj _ _ _ g2 g2'
  · exact uniq_at (of_decide_eq_true hu) hi hj
  · by_cases hlt : i < nm.length
    · rw [List.getElem?_append_left (by unfold maskN; rw [List.length_map]; exact hlt)] at hi
      exact V.nocls _ _ (mask_at hi).1
    · rw [List.getElem?_append_right (by unfold maskN; rw [List.length_map]; omega)] at hi
      rw [List.getElem?_map, Option.map_eq_some_iff] at hi
      obtain ⟨x', hm, e⟩ := hi
      cases e
      have := List.all_eq_true.mp hf x (List.mem_of_getElem? hm)
      rw [Bool.and_eq_true] at this
      simpa using this.2
  · show kp s.heap.objs.size = none
    exact S.1.kpLt (Nat.le_refl _)
  · have ha' : (cellsFrom (s.heap.objs.size + 1) scope.names cl).lookup x = some a := ha
    rw [List.getElem?_append_right (by unfold maskN; rw [List.length_map]; exact hi)] at hx
    rw [List.getElem?_map, Option.map_eq_some_iff] at hx
    obtain ⟨x', hm, e⟩ := hx
    cases e
    have hnf := List.all_eq_true.mp hf x (List.mem_of_getElem? hm)
    rw [Bool.and_eq_true] at hnf
    have hnf' : scope.names.lookup x ≠ some .free := by simpa using hnf.1
    have h1 : scope.names.lookup x = some .cell := (hkind x (.inl hkx)).resolve_right hnf'
    obtain ⟨b, h2, h3, _⟩ := new x h1
    rw [h3] at ha'; cases ha'
    exact S.1.kpLt (by omega)
theorem closureFor_ok {scope : Scope} (V : EnvOk c sc nm ρ env fix kp φ) (hs : scopeOk sc scope.names = true) : ∃ cl, closureFor scope env = pure cl ∧ ∀ n, cl.lookup n = if scope.names.lookup n = some .free then env.cells.lookup n else none := by
  simp only [scopeOk, Bool.and_eq_true, decide_eq_true_eq] at hs
  obtain ⟨hnd, hfr⟩ := hs
  obtain ⟨cl, e, h⟩ := closure_ok scope.names [] env hnd fun x hx => by
    have := List.all_eq_true.mp hfr _ (mem_of_lookup hx)
    have this' : x ≠ ("__class__" : Str) ∧ (sc.lookup x = some .cell ∨ sc.lookup x = some .free) := by simpa using this
    obtain ⟨a, ha, _⟩ := V.cells x this'.1 this'.2
    rw [ha]; rfl
  refine ⟨cl, ?_, fun n => by rw [h]; rfl⟩
  rw [← e]
  unfold closureFor
  simp only [bind_pure]
end
end Mine
end
section
set_option autoImplicit false
set_option linter.unusedSectionVars false
set_option linter.unusedVariables false
namespace Mine
open PySem PySem.W PyProof.Rows PySem.Calls

structure XOk (c : CX) (X : Ctx) : Prop where
  atr : X.atr = c.P.atr
  mth : X.mth = c.P.mth
  init : X.init = c.P.init

noncomputable def EOk (c : CX) (X : Ctx) (d : Nat) (e : ME) : Prop := ∀ {sc : Sp} {nm : Nm} {ρ : Lo} {env : Env} {A : Around} {fix kp : Kp} {φ : List Addr} {G G' : GH} {s : Shared} {x : PySem.Expr} {v : MV},
  chkE c.S e sc nm x = true → mE X e ρ G = some (v, G') → EnvOk c sc nm ρ env fix kp φ → St c fix kp φ G s → AOk A d → Ev c A fix kp φ (eval x env) s G' (fun f p z => c.VR f p v z)
noncomputable def TOk (c : CX) (X : Ctx) (d : Nat) (e : ME) : Prop := ∀ {sc : Sp} {nm : Nm} {ρ : Lo} {env : Env} {A : Around} {fix kp : Kp} {φ : List Addr} {G G' : GH} {s : Shared} {x : PySem.Expr} {b : Bool},
  chkT c.S e sc nm x = true → mE X e ρ G = some (.bool b, G') → EnvOk c sc nm ρ env fix kp φ → St c fix kp φ G s → AOk A d → Ev c A fix kp φ (isTrue x env (eval x env)) s G' (fun _ _ r => r = b)
noncomputable def EK (c : CX) (X : Ctx) (d : Nat) (e : ME) : Prop := EOk c X d e ∧ TOk c X d e
noncomputable def AllK (c : CX) (X : Ctx) (d : Nat) (es : List ME) : Prop := ∀ e ∈ es, EK c X d e

section
variable {c : CX} {X : Ctx} {d : Nat}

theorem noT {e : ME} (h : ∀ S sc nm x, chkT S e sc nm x = false) : TOk c X d e := fun hc => by rw [h] at hc; exact ft hc
theorem noE {e : ME} (h : ∀ S sc nm x, chkE S e sc nm x = false) : EOk c X d e := fun hc => by rw [h] at hc; exact ft hc

theorem cEs_nil {S : Sta} {sc : Sp} {nm : Nm} {xs : List PySem.Expr} {P : List PySem.Expr → Prop} (h : chkEs S [] sc nm xs = true) (g : P []) : P xs := k0 h g
theorem cEs_k {S : Sta} {sc : Sp} {nm : Nm} {e : ME} {r : List ME} {xs : List PySem.Expr} {P : List PySem.Expr → Prop} (h : chkEs S (e :: r) sc nm xs = true) (g : ∀ x t, chkE S e sc nm x = true → chkEs S r sc nm t = true → P (x :: t)) : P xs := match xs, h with
  | x :: t, h => g x t (ott h).1 (ott h).2
theorem cTs_k {S : Sta} {sc : Sp} {nm : Nm} {e : ME} {r : List ME} {xs : List PySem.Expr} {P : List PySem.Expr → Prop} (h : chkTs S (e :: r) sc nm xs = true) (g : ∀ x t, chkT S e sc nm x = true → chkTs S r sc nm t = true → P (x :: t)) : P xs := match xs, h with
  | x :: t, h => g x t (ott h).1 (ott h).2
noncomputable def EsOk (c : CX) (X : Ctx) (d : Nat) (es : List ME) : Prop := ∀ {sc : Sp} {nm : Nm} {ρ : Lo} {env : Env} {A : Around} {fix kp : Kp} {φ : List Addr} {G G' : GH} {s : Shared} {xs : List PySem.Expr} {vs : List MV}, chkEs c.S es sc nm xs = true → mEs X es ρ G = some (vs, G') → EnvOk c sc nm ρ env fix kp φ → St c fix kp φ G s → AOk A d →
    ∀ pos, Ev c A fix kp φ (spliced (backTo pos (starEach xs env))) s G' (fun f p z => c.VRs f p vs z)
section
variable {sc : Sp} {nm : Nm} {ρ : Lo} {env : Env} {A : Around} {fix kp : Kp} {φ : List Addr} {G G' : GH} {s : Shared} {xs : List PySem.Expr} {vs : List MV}
noncomputable def EsG (c : CX) (A : Around) (fix kp : Kp) (φ : List Addr) (env : Env) (pos : Pos) (s : Shared) (xs : List PySem.Expr) (vs : List MV) (G' : GH) : Prop := Ev c A fix kp φ (spliced (backTo pos (starEach xs env))) s G' (fun f p z => c.VRs f p vs z)
theorem es_nil (hc : chkEs c.S [] sc nm xs = true) (hm : mEs X [] ρ G = some (vs, G')) (S : St c fix kp φ G s) (pos : Pos) : EsG c A fix kp φ env pos s xs vs G' :=
  cEs_nil (P := fun xs => EsG c A fix kp φ env pos s xs vs G') hc (opk (P := fun vs G' => EsG c A fix kp φ env pos s [] vs G') hm fun E Q q => spliced_nil (q fix φ _ _ (Le.refl _) (List.prefix_refl _) S .nil))
theorem es_cons {e : ME} {es : List ME} (hE : EK c X d e) (ih : EsOk c X d es) (hc : chkEs c.S (e :: es) sc nm xs = true) (hm : mEs X (e :: es) ρ G = some (vs, G')) (V : EnvOk c sc nm ρ env fix kp φ) (S : St c fix kp φ G s) (hA : AOk A d) (pos : Pos) : EsG c A fix kp φ env pos s xs vs G' :=
  cEs_k (P := fun xs => EsG c A fix kp φ env pos s xs vs G') hc fun x xs hx hc =>
    iEs (Pv := fun vs => EsG c A fix kp φ env pos s (x :: xs) vs G') hm fun v G1 ws h1 h2 E Q q => by
      rw [starCons hx, backCons]
      exact spliced_cons (hE.1 hx h1 V S hA E _ fun f1 p1 y s1 l1 q1 S1 r1 => ih hc h2 (V.mono l1 q1) S1 hA pos E _ fun f2 p2 ys s2 l2 q2 S2 r2 => q f2 p2 _ s2 (l1.trans l2) (q1.trans q2) S2 (.cons (r1.mono l2 q2) r2))
theorem es_ok : ∀ {es : List ME} (hK : AllK c X d es), EsOk c X d es := fun {es} => List.rec (motive := fun es => AllK c X d es → EsOk c X d es) (fun _ => fun hc hm _ S _ pos => es_nil hc hm S pos) (fun e es ih hK => fun hc hm V S hA pos => es_cons (hK e (.head _)) (ih fun e' he => hK e' (.tail _ he)) hc hm V S hA pos) es
end
structure Row (c : CX) (env : Env) (b0 : Bool) (T : List PySem.Expr → Sem Bool) (m : List ME → Lo → GH → Option (MV × GH)) (X : Ctx) : Prop where
  nil : ∀ {A : Around} {E : Value → Shared → Prop} {Q : Bool → Shared → Prop} {s : Shared}, Q b0 s → wpAny c.M A (T []) Q E s
  cons : ∀ {x : PySem.Expr} {xs : List PySem.Expr} {A : Around} {E : Value → Shared → Prop} {Q : Bool → Shared → Prop} {s : Shared}, wpAny c.M A (isTrue x env (eval x env)) (fun r s1 => (r = b0 → wpAny c.M A (T xs) Q E s1) ∧ (r = (!b0) → Q r s1)) E s → wpAny c.M A (T (x :: xs)) Q E s
  nilM : ∀ {ρ : Lo} {G : GH}, m [] ρ G = some (.bool b0, G)
  consM : ∀ {e : ME} {r : List ME} {ρ : Lo} {G G' : GH} {v : MV} {P : MV → Prop}, m (e :: r) ρ G = some (v, G') → (∀ G1, mE X e ρ G = some (.bool b0, G1) → m r ρ G1 = some (v, G') → P v) → (mE X e ρ G = some (.bool (!b0), G') → P (.bool (!b0))) → P v
noncomputable def RowG (c : CX) (A : Around) (fix kp : Kp) (φ : List Addr) (t : Sem Bool) (s : Shared) (G' : GH) (v : MV) : Prop := Ev c A fix kp φ t s G' (fun _ _ r => .bool r = v)
section
variable {env : Env} {b0 : Bool} {T : List PySem.Expr → Sem Bool} {m : List ME → Lo → GH → Option (MV × GH)} {sc : Sp} {nm : Nm} {ρ : Lo} {A : Around} {kp fix : Kp} {φ : List Addr} {G G' : GH} {v : MV} {s : Shared} {xs : List PySem.Expr}
noncomputable def RowEs (c : CX) (A : Around) (kp : Kp) (env : Env) (T : List PySem.Expr → Sem Bool) (m : List ME → Lo → GH → Option (MV × GH)) (sc : Sp) (nm : Nm) (ρ : Lo) (G' : GH) (v : MV) (es : List ME) : Prop := ∀ {fix : Kp} {φ : List Addr} {G : GH} {s : Shared} {xs : List PySem.Expr}, chkTs c.S es sc nm xs = true → m es ρ G = some (v, G') → EnvOk c sc nm ρ env fix kp φ → St c fix kp φ G s → RowG c A fix kp φ (T xs) s G' v
theorem row_nil (R : Row c env b0 T m X) (hc : chkTs c.S [] sc nm xs = true) (hm : m [] ρ G = some (v, G')) (S : St c fix kp φ G s) : RowG c A fix kp φ (T xs) s G' v :=
  k0 (P := fun xs => RowG c A fix kp φ (T xs) s G' v) hc (opk (P := fun v G' => RowG c A fix kp φ (T []) s G' v) (R.nilM.symm.trans hm) fun E Q q => R.nil (q fix φ _ _ (Le.refl _) (List.prefix_refl _) S rfl))
theorem row_cons (R : Row c env b0 T m X) (hA : AOk A d) {e : ME} {es : List ME} (hK : EK c X d e) (ih : RowEs c A kp env T m sc nm ρ G' v es) (hc : chkTs c.S (e :: es) sc nm xs = true) (hm : m (e :: es) ρ G = some (v, G')) (V : EnvOk c sc nm ρ env fix kp φ) (S : St c fix kp φ G s) : RowG c A fix kp φ (T xs) s G' v :=
  cTs_k (P := fun xs => RowG c A fix kp φ (T xs) s G' v) hc fun x xs hx hc =>
      R.consM (P := fun v => (∀ G1, mE X e ρ G = some (.bool b0, G1) → m es ρ G1 = some (v, G') → RowG c A fix kp φ (T (x :: xs)) s G' v) → RowG c A fix kp φ (T (x :: xs)) s G' v) hm (fun G1 h1 h2 g => g G1 h1 h2)
        (fun h1 _ E Q q => R.cons (hK.2 hx h1 V S hA E _ fun f1 p1 y s1 l1 q1 S1 r1 => ⟨fun h => absurd (h.symm.trans r1) (by cases b0 <;> decide), fun h => q f1 p1 _ s1 l1 q1 S1 (congrArg MV.bool h)⟩))
        fun G1 h1 h2 E Q q => R.cons (hK.2 hx h1 V S hA E _ fun f1 p1 y s1 l1 q1 S1 r1 => ⟨fun _ => ih hc h2 (V.mono l1 q1) S1 E _ fun f2 p2 ys s2 l2 q2 S2 r2 => q f2 p2 _ s2 (l1.trans l2) (q1.trans q2) S2 r2, fun h => absurd (r1.symm.trans h) (by cases b0 <;> decide)⟩)
theorem row_ok (R : Row c env b0 T m X) (hA : AOk A d) : ∀ {es : List ME} (hK : AllK c X d es), RowEs c A kp env T m sc nm ρ G' v es := fun {es} => List.rec (motive := fun es => AllK c X d es → RowEs c A kp env T m sc nm ρ G' v es) (fun _ => fun hc hm _ S => row_nil R hc hm S) (fun e es ih hK => fun hc hm V S => row_cons R hA (hK e (.head _)) (ih fun e' he => hK e' (.tail _ he)) hc hm V S) es
end
theorem row_and {env : Env} : Row c env true (fun xs => allTrue .And xs env) (mAnd X) X where
  nil h := wpAny_allTrue_And_nil h
  cons h := wpAny_allTrue_And_cons (wpAny_mono h (fun r s1 h => by cases r with | true => exact h.1 rfl | false => exact h.2 rfl) fun _ _ e => e)
  nilM := rfl
  consM := iAnd
theorem row_or {env : Env} : Row c env false (fun xs => allTrue .Or xs env) (mOr X) X where
  nil h := wpAny_allTrue_Or_nil h
  cons h := wpAny_allTrue_Or_cons (wpAny_mono h (fun r s1 h => by cases r with | true => exact h.2 rfl | false => exact h.1 rfl) fun _ _ e => e)
  nilM := rfl
  consM h a b := iOr h b a
noncomputable def ifsT (env : Env) (xs : List PySem.Expr) (b : Bool) : Sem Bool := forIn xs b fun x r => if r = true then do let ok ← isTrue x env (eval x env); pure (ForInStep.yield ok) else pure (ForInStep.yield r)
theorem ifs_false {env : Env} : ∀ xs : List PySem.Expr, ifsT env xs false = pure false
  | [] => rfl
  | x :: xs => by
    unfold ifsT
    rw [List.forIn_cons]
    simp only [Bool.false_eq_true, if_false]
    exact ifs_false xs
theorem row_ifs {env : Env} : Row c env true (fun xs => ifsT env xs true) (mAnd X) X where
  nil h := wpAny_pure h
  cons {x xs A E Q s} h := by
    show wpAny c.M A (forIn (x :: xs) true _) Q E s
    rw [List.forIn_cons, if_pos rfl]
    refine wpAny_bind (wpAny_bind (wpAny_mono h (fun r s1 h => wpAny_pure ?_) fun _ _ e => e))
    cases r with
    | true => exact h.1 rfl
    | false => exact wpAny_of_eq (ifs_false xs) (h.2 rfl)
  nilM := rfl
  consM := iAnd
end
end Mine
end
section
set_option autoImplicit false
set_option linter.unusedSectionVars false
set_option linter.unusedVariables false
namespace Mine
open PySem PySem.W PyProof.Rows PySem.Calls

section
variable {c : CX} {X : Ctx} {d : Nat}

noncomputable def EvG (c : CX) (A : Around) (fix kp : Kp) (φ : List Addr) (x : PySem.Expr) (env : Env) (s : Shared) (G' : GH) (v : MV) : Prop := Ev c A fix kp φ (eval x env) s G' (fun f p z => c.VR f p v z)
noncomputable def TvG (c : CX) (A : Around) (fix kp : Kp) (φ : List Addr) (x : PySem.Expr) (env : Env) (s : Shared) (G' : GH) (v : MV) : Prop := RowG c A fix kp φ (isTrue x env (eval x env)) s G' v
theorem tOf {e : ME} (h : ∀ {sc : Sp} {nm : Nm} {ρ : Lo} {env : Env} {A : Around} {fix kp : Kp} {φ : List Addr} {G G' : GH} {s : Shared} {x : PySem.Expr} {v : MV}, chkT c.S e sc nm x = true → mE X e ρ G = some (v, G') → EnvOk c sc nm ρ env fix kp φ → St c fix kp φ G s → AOk A d → TvG c A fix kp φ x env s G' v) : TOk c X d e :=
  fun hc hm V S hA E Q q => h hc hm V S hA E Q fun f p z s1 l q1 S1 r => q f p z s1 l q1 S1 (MV.bool.inj r)
theorem evN {t : Sem Value} {A : Around} {fix kp : Kp} {φ : List Addr} {G : GH} {s : Shared} {v : MV} (S : St c fix kp φ G s) (h : Same c A fix φ s v t) : Ev c A fix kp φ t s G (fun f p z => c.VR f p v z) := Ev.same S h
theorem k_kN : EK c X d .kN := ⟨fun {sc nm ρ env A fix kp φ G G' s x v} hc hm V S hA => cE_kN (P := fun x => EvG c A fix kp φ x env s G' v) hc fun k p => opk (P := fun v G' => EvG c A fix kp φ (.Constant .none k p) env s G' v) hm (evN S fun E Q q => wpAny_Constant_none (q _ _ .none)), noT fun _ _ _ _ => rfl⟩
theorem k_kB (b : Bool) : EK c X d (.kB b) := ⟨fun {sc nm ρ env A fix kp φ G G' s x v} hc hm V S hA => cE_kB (P := fun x => EvG c A fix kp φ x env s G' v) hc fun k p => opk (P := fun v G' => EvG c A fix kp φ (.Constant (.bool b) k p) env s G' v) hm (evN S fun E Q q => wpAny_Constant_bool (q _ _ (.bool _))), noT fun _ _ _ _ => rfl⟩
theorem k_kI (i : Int) : EK c X d (.kI i) := ⟨fun {sc nm ρ env A fix kp φ G G' s x v} hc hm V S hA => cE_kI (P := fun x => EvG c A fix kp φ x env s G' v) hc fun k p => opk (P := fun v G' => EvG c A fix kp φ (.Constant (.int i) k p) env s G' v) hm (evN S fun E Q q => wpAny_Constant_int (q _ _ (.int _ _))), noT fun _ _ _ _ => rfl⟩
theorem k_kS (k : Nat) : EK c X d (.kS k) := ⟨fun {sc nm ρ env A fix kp φ G G' s x v} hc hm V S hA => cE_kS (P := fun x => EvG c A fix kp φ x env s G' v) hc fun n k' p h => opk (P := fun v G' => EvG c A fix kp φ (.Constant (.str n) k' p) env s G' v) hm (evN S fun E Q q => wpAny_Constant_str (q _ _ (.str _ h))), noT fun _ _ _ _ => rfl⟩
theorem k_loc (i : Nat) : EK c X d (.loc i) := ⟨fun {sc nm ρ env A fix kp φ G G' s x v} hc hm V S hA => cE_loc (P := fun x => EvG c A fix kp φ x env s G' v) hc fun _ _ c1 c2 c3 => (iE_loc hm).2 ▸ name_ok V S c1 (iE_loc hm).1 c3, noT fun _ _ _ _ => rfl⟩
theorem k_gI (O : c.Ok) (k : Nat) (i : Int) : EK c X d (.gI k i) := ⟨fun {sc nm ρ env A fix kp φ G G' s x v} hc hm V S hA => cE_gI (P := fun x => EvG c A fix kp φ x env s G' v) hc fun n p c1 c2 => opk (P := fun v G' => EvG c A fix kp φ (.Name n p) env s G' v) hm ((O.gint _ _ c2).elim fun t ht E Q q => glob_ok O V S c1 (.inl ht) (q fix φ _ _ (Le.refl _) (List.prefix_refl _) S (.int _ _))), noT fun _ _ _ _ => rfl⟩
theorem k_attr (O : c.Ok) (hX : XOk c X) {a : ME} {k : Nat} (ha : EK c X d a) : EK c X d (.attr a k) := ⟨fun {sc nm ρ env A fix kp φ G G' s x v} hc hm V S hA => cE_attr (P := fun x => EvG c A fix kp φ x env s G' v) hc fun _ _ _ c1 c2 c3 => iE_attr hm fun v1 h1 h2 E Q q =>
  Attribute_any_ (ha.1 c1 h1 V S hA E _ fun f1 p1 y s1 l1 q1 S1 r1 => aGet_ok O hX.atr c2 h2 S1 r1 E _ fun f2 p2 z s2 l2 q2 S2 r2 => q f2 p2 z s2 (l1.trans l2) (q1.trans q2) S2 r2) ((arm_eval_Attribute _ _ _ _).trans (by rw [noSup_base c3])), noT fun _ _ _ _ => rfl⟩
theorem k_sub (O : c.Ok) {a i : ME} (ha : EK c X d a) (hi : EK c X d i) : EK c X d (.sub a i) := ⟨fun {sc nm ρ env A fix kp φ G G' s x v} hc hm V S hA => cE_sub (P := fun x => EvG c A fix kp φ x env s G' v) hc fun _ _ _ c1 c2 => iE_sub hm fun v1 G1 w1 h1 h2 h3 E Q q =>
  Subscript_ (ha.1 c1 h1 V S hA E _ fun f1 p1 y s1 l1 q1 S1 r1 => hi.1 c2 h2 (V.mono l1 q1) S1 hA E _ fun f2 p2 z s2 l2 q2 S2 r2 => subO_ok O.tabN h3 S2 (r1.mono l2 q2) r2 E _ fun f3 p3 u s3 l3 q3 S3 r3 => q f3 p3 u s3 ((l1.trans l2).trans l3) ((q1.trans q2).trans q3) S3 r3), noT fun _ _ _ _ => rfl⟩
theorem k_bin {o : B2} {a b : ME} (ha : EK c X d a) (hb : EK c X d b) : EK c X d (.bin o a b) := ⟨fun {sc nm ρ env A fix kp φ G G' s x v} hc hm V S hA => cE_bin (P := fun x => EvG c A fix kp φ x env s G' v) hc fun _ _ _ _ c0 c1 c2 => iE_bin hm fun v1 G1 w1 h1 h2 h3 E Q q =>
  wpAny_BinOp (ha.1 c1 h1 V S hA E _ fun f1 p1 y s1 l1 q1 S1 r1 => hb.1 c2 h2 (V.mono l1 q1) S1 hA E _ fun f2 p2 z s2 l2 q2 S2 r2 => binO_ok h3 c0 S2 (r1.mono l2 q2) r2 E _ fun f3 p3 u s3 l3 q3 S3 r3 => q f3 p3 u s3 ((l1.trans l2).trans l3) ((q1.trans q2).trans q3) S3 r3), noT fun _ _ _ _ => rfl⟩
theorem k_neg {a : ME} (ha : EK c X d a) : EK c X d (.neg a) := ⟨fun {sc nm ρ env A fix kp φ G G' s x v} hc hm V S hA => cE_neg (P := fun x => EvG c A fix kp φ x env s G' v) hc fun _ _ c1 => iE_neg hm fun v1 h1 h2 E Q q =>
  wpAny_UnaryOp (ha.1 c1 h1 V S hA E _ fun f1 p1 y s1 l1 q1 S1 r1 => negO_ok h2 S1 r1 E _ fun f2 p2 z s2 l2 q2 S2 r2 => q f2 p2 z s2 (l1.trans l2) (q1.trans q2) S2 r2), noT fun _ _ _ _ => rfl⟩

theorem noSetT : ∀ {S : Sta} {e : ME} {sc : Sp} {nm : Nm} {l : List PySem.Expr} {k : Nat} {p : Pos}, chkE S e sc nm (.Set l k p) = false := fun {S e sc nm l k p} => by cases e <;> first | rfl | exact Bool.and_false _
theorem notSet {S : Sta} {e : ME} {sc : Sp} {nm : Nm} {x : PySem.Expr} (h : chkE S e sc nm x = true) (op : CmpOp) : behindInMarks op x = false := by
  cases x with
  | Set l k p => rw [noSetT] at h; exact ft h
  | _ => rfl

theorem k_cmp {o : C2} {a b : ME} (ha : EK c X d a) (hb : EK c X d b) : EK c X d (.cmp o a b) := ⟨
  fun {sc nm ρ env A fix kp φ G G' s x v} hc hm V S hA => cE_cmp (P := fun x => EvG c A fix kp φ x env s G' v) hc fun l op r p c0 c1 c2 => iE_cmp (Px := fun v => EvG c A fix kp φ (.Compare l [op] [r] p) env s G' v) hm fun v1 G1 w1 r h1 h2 h3 E Q q =>
    wpAny_Compare1 (ha.1 c1 h1 V S hA E _ fun f1 p1 y s1 l1 q1 S1 r1 => hb.1 c2 h2 (V.mono l1 q1) S1 hA E _ fun f2 p2 z s2 l2 q2 S2 r2 => cmpO_ok h3 c0 S2 (r1.mono l2 q2) r2 hA E _ (q f2 p2 _ s2 (l1.trans l2) (q1.trans q2) S2 (.bool _))) (notSet c2 _),
  tOf fun {sc nm ρ env A fix kp φ G G' s x v} hc hm V S hA => cT_cmp (P := fun x => TvG c A fix kp φ x env s G' v) hc fun l op r p c0 c1 c2 => iE_cmp (Px := fun v => TvG c A fix kp φ (.Compare l [op] [r] p) env s G' v) hm fun v1 G1 w1 r h1 h2 h3 E Q q =>
    wpAny_isTrue_Compare1 (ha.1 c1 h1 V S hA E _ fun f1 p1 y s1 l1 q1 S1 r1 => hb.1 c2 h2 (V.mono l1 q1) S1 hA E _ fun f2 p2 z s2 l2 q2 S2 r2 => cmpO_ok h3 c0 S2 (r1.mono l2 q2) r2 hA E _ (wpAny_truthy_bool (q f2 p2 _ s2 (l1.trans l2) (q1.trans q2) S2 rfl))) (notSet c2 _)⟩
theorem k_cmp2 {o1 o2 : C2} {a b e : ME} (ha : EK c X d a) (hb : EK c X d b) (he : EK c X d e) : EK c X d (.cmp2 o1 o2 a b e) := ⟨noE fun _ _ _ _ => rfl, tOf fun {sc nm ρ env A fix kp φ G G' s x v} hc hm V S hA =>
  cT_cmp2 (P := fun x => TvG c A fix kp φ x env s G' v) hc fun l op1 op2 r1 r2 p ho1 ho2 hca hcb hce => iE_cmp2 (Px := fun v => TvG c A fix kp φ (.Compare l [op1, op2] [r1, r2] p) env s G' v) hm
    (fun v1 G1 w1 G2 x1 r h1 h2 h3 h4 h5 E Q q => isTrue_chain (ha.1 hca h1 V S hA E _ fun f1 p1 y s1 l1 q1 S1 r1 => test_link (hb.1 hcb h2 (V.mono l1 q1) S1 hA E _ fun f2 p2 z s2 l2 q2 S2 r2 => cmpO_ok h3 ho1 S2 (r1.mono l2 q2) r2 hA E _ (wpAny_truthy_bool (by
      rw [if_pos rfl]
      exact test_last (he.1 hce h4 ((V.mono l1 q1).mono l2 q2) S2 hA E _ fun f3 p3 u s3 l3 q3 S3 r3 => cmpO_ok h5 ho2 S3 (r2.mono l3 q3) r3 hA E _ (wpAny_truthy_bool (q f3 p3 _ s3 ((l1.trans l2).trans l3) ((q1.trans q2).trans q3) S3 rfl))))))) (notSet hce _))
    (fun v1 G1 w1 h1 h2 h3 E Q q => isTrue_chain (ha.1 hca h1 V S hA E _ fun f1 p1 y s1 l1 q1 S1 r1 => test_link (hb.1 hcb h2 (V.mono l1 q1) S1 hA E _ fun f2 p2 z s2 l2 q2 S2 r2 => cmpO_ok h3 ho1 S2 (r1.mono l2 q2) r2 hA E _ (wpAny_truthy_bool (by
      rw [if_neg (by decide)]
      exact q f2 p2 _ s2 (l1.trans l2) (q1.trans q2) S2 rfl)))) (notSet hce _))⟩
theorem k_no {a : ME} (ha : EK c X d a) : EK c X d (.no a) := ⟨noE fun _ _ _ _ => rfl, tOf fun {sc nm ρ env A fix kp φ G G' s x v} hc hm V S hA => cT_no (P := fun x => TvG c A fix kp φ x env s G' v) hc fun y p c1 => iE_no (Px := fun v => TvG c A fix kp φ (.UnaryOp .Not y p) env s G' v) hm fun b h1 E Q q =>
  wpAny_isTrue_Not (ha.2 c1 h1 V S hA E _ fun f1 p1 y s1 l1 q1 S1 r1 => q f1 p1 _ s1 l1 q1 S1 (r1 ▸ rfl))⟩
theorem k_and {es : List ME} (h : AllK c X d es) : EK c X d (.and_ es) := ⟨noE fun _ _ _ _ => rfl, tOf fun {sc nm ρ env A fix kp φ G G' s x v} hc hm V S hA => cT_and (P := fun x => TvG c A fix kp φ x env s G' v) hc fun _ _ c1 E Q q => wpAny_isTrue_BoolOp (row_ok row_and hA h c1 hm V S E Q q)⟩
theorem k_or {es : List ME} (h : AllK c X d es) : EK c X d (.or_ es) := ⟨noE fun _ _ _ _ => rfl, tOf fun {sc nm ρ env A fix kp φ G G' s x v} hc hm V S hA => cT_or (P := fun x => TvG c A fix kp φ x env s G' v) hc fun _ _ c1 E Q q => wpAny_isTrue_BoolOp (row_ok row_or hA h c1 hm V S E Q q)⟩
theorem plainT_eq {e : PySem.Expr} {env : Env} {t : Sem Value} (h : plainT e = true) : isTrue e env t = (do let v ← t; standAt e.pos; holding [v] (truthy v)) := by
  cases e <;> first | rfl | exact ft h
theorem k_truth {a : ME} (ha : EK c X d a) : EK c X d (.truth a) := ⟨noE fun _ _ _ _ => rfl, tOf fun {sc nm ρ env A fix kp φ G G' s x v} hc hm V S hA => iE_truth (Px := fun v => TvG c A fix kp φ x env s G' v) hm fun b h1 E Q q =>
  wpAny_isTrue_value (ha.1 (cT_truth hc).1 h1 V S hA E _ fun f1 p1 y s1 l1 q1 S1 r1 => boolV (P := fun y => wpAny c.M A (truthy y) Q E s1) r1 (wpAny_truthy_bool (q f1 p1 _ s1 l1 q1 S1 rfl))) (plainT_eq (cT_truth hc).2)⟩
theorem k_ite {t a b : ME} (ht : EK c X d t) (ha : EK c X d a) (hb : EK c X d b) : EK c X d (.ite t a b) := ⟨fun {sc nm ρ env A fix kp φ G G' s x v} hc hm V S hA => cE_ite (P := fun x => EvG c A fix kp φ x env s G' v) hc fun _ _ _ _ c1 c2 c3 => iE_ite hm
  (fun G1 h1 h2 E Q q => wpAny_IfExp (ht.2 c1 h1 V S hA E _ fun f1 p1 y s1 l1 q1 S1 r1 => by
    rw [if_pos r1]
    exact ha.1 c2 h2 (V.mono l1 q1) S1 hA E _ fun f2 p2 z s2 l2 q2 S2 r2 => q f2 p2 z s2 (l1.trans l2) (q1.trans q2) S2 r2))
  (fun G1 h1 h2 E Q q => wpAny_IfExp (ht.2 c1 h1 V S hA E _ fun f1 p1 y s1 l1 q1 S1 r1 => by
    rw [if_neg (r1 ▸ Bool.false_ne_true)]
    exact hb.1 c3 h2 (V.mono l1 q1) S1 hA E _ fun f2 p2 z s2 l2 q2 S2 r2 => q f2 p2 z s2 (l1.trans l2) (q1.trans q2) S2 r2)), noT fun _ _ _ _ => rfl⟩
end
end Mine
end
section
set_option autoImplicit false
set_option linter.unusedSectionVars false
set_option linter.unusedVariables false
namespace Mine
open PySem PySem.W PyProof.Rows PySem.Calls

section
variable {c : CX} {X : Ctx} {d : Nat}

theorem three_ok {a b e : Value} : PySem.sizeOk (.fields #[a, b, e]) := Nat.le_trans (sizeLine_ge (by decide : 3 ≤ 8192)) (Nat.le_add_right _ 2)
theorem mEs_len {X : Ctx} {ρ : Lo} : ∀ {es : List ME} {vs : List MV} {G G' : GH}, mEs X es ρ G = some (vs, G') → vs.length = es.length
  | [], vs, G, G', h => (osome h).1 ▸ rfl
  | e :: es, vs, G, G', h => iEs (Pv := fun vs => vs.length = es.length + 1) h fun v G1 ws h1 h2 => congrArg Nat.succ (mEs_len h2)
theorem le64 {n m : Nat} (h : n = m) (h2 : m ≤ 64) : n ≤ 4096 := h ▸ Nat.le_trans h2 (by decide)
theorem k_tup {es : List ME} (hK : AllK c X d es) : EK c X d (.tup es) := ⟨fun {sc nm ρ env A fix kp φ G G' s x v} hc hm V S hA => cE_tup (P := fun x => EvG c A fix kp φ x env s G' v) hc fun xs k p c1 c2 => iE_tup (Px := fun v => EvG c A fix kp φ (.Tuple xs k p) env s G' v) hm fun vs h1 E Q q => by
  refine wpAny_Tuple (es_ok hK c1 h1 V S hA _ E _ fun f1 p1 ys s1 l1 q1 S1 r1 => ⟨sizeLine_ge (Nat.le_trans (le64 (r1.length.symm.trans (mEs_len h1)) c2) (by decide)), ?_⟩)
  obtain ⟨fix', le, hf, st⟩ := S1.frzPush (o := ⟨.type "tuple", none, .seq ys.toArray 0, #[]⟩) rfl
  exact q fix' p1 _ _ (l1.trans le) q1 (st s1.toks) (VR.tup hf (r1.mono le (List.prefix_refl _)) (le64 (mEs_len h1) c2)), noT fun _ _ _ _ => rfl⟩
theorem k_lst {m : Bool} {es : List ME} (hK : AllK c X d es) : EK c X d (.lst m es) := ⟨fun {sc nm ρ env A fix kp φ G G' s x v} hc hm V S hA => cE_lst (P := fun x => EvG c A fix kp φ x env s G' v) hc fun xs p c1 c2 => iE_lst hm fun vs G1 h1 hm' E Q q => by
  refine wpAny_List (es_ok hK c1 h1 V S hA _ E _ fun f1 p1 ys s1 l1 q1 S1 r1 => ⟨sizeLine_ge (Nat.le_trans (le64 (r1.length.symm.trans (mEs_len h1)) c2) (by decide)), ?_⟩)
  obtain ⟨fix', φ', le, pre, st, vr⟩ := mkPush m S1 r1 (le64 (mEs_len h1) c2)
  rw [← hm'] at st vr
  exact q fix' φ' _ _ (l1.trans le) (q1.trans pre) (st s1.toks) vr, noT fun _ _ _ _ => rfl⟩

theorem isKN_eq {e : ME} (h : isKN e = true) : e = .kN := ME.kN.elim (motive_1 := fun e => e = .kN) e (beq_ok (α := Nat) h) rfl
theorem part_ok {e : ME} {l : Option PySem.Expr} (he : EK c X d e) {sc : Sp} {nm : Nm} {ρ : Lo} {env : Env} {A : Around} {fix kp : Kp} {φ : List Addr} {G G' : GH} {s : Shared} {v : MV}
    (hc : (match l with | none => isKN e | some y => chkE c.S e sc nm y) = true) (hm : mE X e ρ G = some (v, G')) (V : EnvOk c sc nm ρ env fix kp φ) (S : St c fix kp φ G s) (hA : AOk A d) :
    Ev c A fix kp φ (valueOrNone (evalOpt l env)) s G' (fun f p z => c.VR f p v z) := by
  cases l with
  | none =>
    rw [isKN_eq hc] at hm
    exact opk (P := fun v G' => Ev c A fix kp φ (valueOrNone (evalOpt none env)) s G' (fun f p z => c.VR f p v z)) hm fun E Q q => wpAny_pure (q fix φ _ _ (Le.refl _) (List.prefix_refl _) S .none)
  | some y => exact he.1 hc hm V S hA

theorem k_slc {a lo hi : ME} (ha : EK c X d a) (hlo : EK c X d lo) (hhi : EK c X d hi) : EK c X d (.slc a lo hi) := ⟨fun {sc nm ρ env A fix kp φ G G' s x v} hc hm V S hA => cE_slc (P := fun x => EvG c A fix kp φ x env s G' v) hc fun _ _ _ _ _ c1 c2 c3 => iE_slc hm fun v1 G1 w1 G2 w2 h1 h2 h3 h4 E Q q =>
  Subscript_ (ha.1 c1 h1 V S hA E _ fun f1 p1 y s1 l1 q1 S1 r1 => by
    rw [arm_eval_Slice]
    refine wpAny_bind (part_ok hlo c2 h2 (V.mono l1 q1) S1 hA E _ fun f2 p2 z s2 l2 q2 S2 r2 => wpAny_bind (wpAny_holding (part_ok hhi c3 h3 (V.mono (l1.trans l2) (q1.trans q2)) S2 hA E _ fun f3 p3 u s3 l3 q3 S3 r3 => ?_)))
    exact wpAny_bind (wpAny_holding (wpAny_pure (wpAny_newObj_type (slcO_ok h4 S3 (r1.mono (l2.trans l3) (q2.trans q3)) (r2.mono l3 q3) r3 E _ fun f4 p4 w s4 l4 q4 S4 r4 => q f4 p4 w s4 (((l1.trans l2).trans l3).trans l4) (((q1.trans q2).trans q3).trans q4) S4 r4) three_ok)))), noT fun _ _ _ _ => rfl⟩
theorem k_rev {a : ME} (ha : EK c X d a) : EK c X d (.rev a) := ⟨fun {sc nm ρ env A fix kp φ G G' s x v} hc hm V S hA => cE_rev (P := fun x => EvG c A fix kp φ x env s G' v) hc fun _ _ _ _ _ _ c1 => iE_rev hm fun v1 h1 h4 E Q q =>
  Subscript_ (ha.1 c1 h1 V S hA E _ fun f1 p1 y s1 l1 q1 S1 r1 => by
    rw [arm_eval_Slice]
    refine wpAny_bind (wpAny_pure (wpAny_bind (wpAny_holding (wpAny_pure (wpAny_bind (wpAny_holding (wpAny_UnaryOp (wpAny_Constant_int (neg_int (wpAny_newObj_type ?_ three_ok))))))))))
    exact revO_ok (s := { s1 with toks := s1.toks + 1 + 1 }) h4 (S1.toks _) r1 E _ fun f4 p4 w s4 l4 q4 S4 r4 => q f4 p4 w s4 (l1.trans l4) (q1.trans q4) S4 r4), noT fun _ _ _ _ => rfl⟩
theorem St.newAt {kp : Kp} {fix : Kp} {φ : List Addr} {G : GH} {s : Shared} (S : St c fix kp φ G s) (a : Addr) : (φ ++ [a])[G.length]? = some a := by
  rw [← S.1.len, List.getElem?_append_right (Nat.le_refl _), Nat.sub_self]; rfl
theorem k_dct0 : EK c X d .dct0 := ⟨fun {sc nm ρ env A fix kp φ G G' s x v} hc hm V S hA => cE_dct0 (P := fun x => EvG c A fix kp φ x env s G' v) hc fun p => opk (P := fun v G' => EvG c A fix kp φ (.Dict [] [] p) env s G' v) hm fun E Q q =>
  wpAny_Dict_empty (q fix (φ ++ [s.heap.objs.size]) _ _ (Le.refl _) (List.prefix_append _ _) ⟨(S.1.push _).grow (Heap.get?_push_size _ rfl) (S.1.fixLt (Nat.le_refl _)) (S.1.kpLt (Nat.le_refl _)) (fun m => Nat.lt_irrefl _ (S.1.lt m)) ⟨[], rfl, .nil, List.nodup_nil, Nat.zero_le _⟩ (S.1.size (Nat.le_refl _)), S.2⟩ (.ref (S.newAt _))), noT fun _ _ _ _ => rfl⟩
inductive KVs (tab : List Str) (fix : Kp) (φ : List Addr) : List Nat → List MV → List (Value × Value) → Prop
  | nil : KVs tab fix φ [] [] []
  | cons {k : Nat} {v : MV} {x : Str} {t : Tok} {y : Value} {ks : List Nat} {vs : List MV} {ps : List (Value × Value)} : tab[k]? = some x → VR tab fix φ v y → KVs tab fix φ ks vs ps → KVs tab fix φ (k :: ks) (v :: vs) ((.str x t, y) :: ps)

section
variable {sc : Sp} {nm : Nm} {ρ : Lo} {env : Env} {A : Around} {kp fix : Kp} {pos : Pos} {ks : List Nat} {keys : List (Option PySem.Expr)} {xs : List PySem.Expr} {vs : List MV} {G G' : GH} {φ : List Addr} {s : Shared}
noncomputable def PairG (c : CX) (A : Around) (fix kp : Kp) (φ : List Addr) (env : Env) (pos : Pos) (keys : List (Option PySem.Expr)) (xs : List PySem.Expr) (s : Shared) (G' : GH) (ks : List Nat) (vs : List MV) : Prop := Ev c A fix kp φ (evalPairs (pairTrees keys xs env pos)) s G' (fun f p z => KVs c.S.tab f p ks vs z)
noncomputable def PairsOk (c : CX) (X : Ctx) (d : Nat) (es : List ME) : Prop := ∀ {sc : Sp} {nm : Nm} {ρ : Lo} {env : Env} {A : Around} {kp fix : Kp} {pos : Pos} {ks : List Nat} {keys : List (Option PySem.Expr)} {xs : List PySem.Expr} {vs : List MV} {G G' : GH} {φ : List Addr} {s : Shared}, keysE c.S ks keys = true → ks.length = es.length → chkEs c.S es sc nm xs = true → mEs X es ρ G = some (vs, G') → EnvOk c sc nm ρ env fix kp φ → St c fix kp φ G s → AOk A d → PairG c A fix kp φ env pos keys xs s G' ks vs
theorem pairs_nil (hk : keysE c.S ks keys = true) (hl : ks.length = 0) (hc : chkEs c.S [] sc nm xs = true) (hm : mEs X [] ρ G = some (vs, G')) (S : St c fix kp φ G s) : PairG c A fix kp φ env pos keys xs s G' ks vs := by
  rw [List.length_eq_zero_iff.mp hl] at hk ⊢
  exact k0 (P := fun keys => PairG c A fix kp φ env pos keys xs s G' [] vs) hk (cEs_nil (P := fun xs => PairG c A fix kp φ env pos [] xs s G' [] vs) hc (opk (P := fun vs G' => PairG c A fix kp φ env pos [] [] s G' [] vs) hm fun E Q q => wpAny_pure (q fix φ _ _ (Le.refl _) (List.prefix_refl _) S .nil)))
theorem keysE_k {S : Sta} {k : Nat} {ks : List Nat} {keys : List (Option PySem.Expr)} {P : List (Option PySem.Expr) → Prop} (h : keysE S (k :: ks) keys = true) (g : ∀ x a p t, S.tab[k]? = some x → keysE S ks t = true → P (some (.Constant (.str x) a p) :: t)) : P keys := match keys, h with
  | o :: t, h => keysE_cons (P := fun o => P (o :: t)) h fun x a p h1 h2 => g x a p t h1 h2
theorem pairs_cons {e : ME} {es : List ME} (hE : EK c X d e) (ih : PairsOk c X d es) (hk : keysE c.S ks keys = true) (hl : ks.length = es.length + 1) (hc : chkEs c.S (e :: es) sc nm xs = true) (hm : mEs X (e :: es) ρ G = some (vs, G')) (V : EnvOk c sc nm ρ env fix kp φ) (S : St c fix kp φ G s) (hA : AOk A d) : PairG c A fix kp φ env pos keys xs s G' ks vs := match ks, hl, hk with
  | k :: ks, hl, hk => keysE_k (P := fun keys => PairG c A fix kp φ env pos keys xs s G' (k :: ks) vs) hk fun kx a p keys hk1 hk2 => cEs_k (P := fun xs => PairG c A fix kp φ env pos (some (.Constant (.str kx) a p) :: keys) xs s G' (k :: ks) vs) hc fun x xs hx hc =>
      iEs (Pv := fun vs => PairG c A fix kp φ env pos (some (.Constant (.str kx) a p) :: keys) (x :: xs) s G' (k :: ks) vs) hm fun v G1 ws h1 h2 E Q q => by
        show wpAny _ A (evalPairs ((eval _ env, do let x ← eval x env; standAt pos; pure x) :: pairTrees keys xs env pos)) _ _ _
        rw [evalPairs]
        refine wpAny_bind (wpAny_Constant_str (wpAny_bind (wpAny_holding (wpAny_bind (hE.1 hx h1 V (S.toks _) hA E _ fun f1 p1 y s1 l1 q1 S1 r1 => ?_)))))
        exact wpAny_bind (wpAny_standAt (wpAny_pure (wpAny_bind (wpAny_holding (ih hk2 (Nat.succ.inj hl) hc h2 (V.mono l1 q1) S1 hA E _ fun f2 p2 ys s2 l2 q2 S2 r2 => wpAny_pure (q f2 p2 _ s2 (l1.trans l2) (q1.trans q2) S2 (.cons hk1 (r1.mono l2 q2) r2)))))))
theorem pairs_ok : ∀ {es : List ME} (hK : AllK c X d es), PairsOk c X d es := fun {es} => List.rec (motive := fun es => AllK c X d es → PairsOk c X d es) (fun _ => fun hk hl hc hm _ S _ => pairs_nil hk hl hc hm S) (fun e es ih hK => fun hk hl hc hm V S hA => pairs_cons (hK e (.head _)) (ih fun e' he => hK e' (.tail _ he)) hk hl hc hm V S hA) es
end

theorem setL_new {κ : Type} [DecidableEq κ] {k : κ} {v : MV} : ∀ {l : List (κ × MV)}, k ∉ l.map (·.1) → setL l k v = l ++ [(k, v)]
  | [], _ => rfl
  | p :: l, h => by
    rw [List.map_cons, List.mem_cons, not_or] at h
    rw [setL, if_neg (Ne.symm h.1), setL_new h.2]; rfl
noncomputable def StoredG (c : CX) (A : Around) (fix kp : Kp) (φ : List Addr) (G : GH) (a : Addr) (l : List (Nat × MV)) (ps : List (Value × Value)) (s : Shared) : Prop := ∀ (E : Value → Shared → Prop) (Q : PUnit → Shared → Prop), (∀ es' n' kp' s', St c fix kp' φ G s' → (∀ b, b ≠ a → kp' b = kp b) → kp' a = some ⟨.type "dict", none, .dict es'.toArray n', #[]⟩ → SDs c.prog c.w c.S.tab fix φ l es' → Q ⟨⟩ s') → wpAny c.M A (storeAll a ps) Q E s
theorem storeAll_ok (hT : c.S.tab.Nodup) {A : Around} {fix : Kp} {φ : List Addr} {G : GH} {a : Addr} {ks : List Nat} {vs : List MV} {ps : List (Value × Value)} (hkv : KVs c.S.tab fix φ ks vs ps) : ∀ {l : List (Nat × MV)} {es : List DictEntry} {n : Nat} {kp : Kp} {s : Shared}, St c fix kp φ G s →
    kp a = some ⟨.type "dict", none, .dict es.toArray n, #[]⟩ → SDs c.prog c.w c.S.tab fix φ l es → (l.map (·.1) ++ ks).Nodup → l.length + ks.length ≤ 4096 → StoredG c A fix kp φ G a (l ++ ks.zip vs) ps s := by
  induction hkv with
  | nil =>
    intro l es n kp s S ha hr hn hz E Q q
    unfold storeAll
    rw [List.forIn_nil]
    exact wpAny_pure (q es n kp s S (fun _ _ => rfl) ha (by rw [List.zip_nil_left, List.append_nil]; exact hr))
  | @cons k v x t y ks vs ps hk hv hr' ih =>
    intro l es n kp s S ha hr hn hz E Q q
    unfold storeAll
    rw [List.forIn_cons]
    have hnk : k ∉ l.map (·.1) := fun m => (List.nodup_append.mp hn).2.2 k m k (.head _) rfl
    refine wpAny_bind (wpAny_bind (dictSet_ex (knd := strKind c.prog c.w) strIs (S.1.kpK _ _ ha) (fun e he => EDs.keysOf hr e (memA he)) (sizeLine_ge (Nat.le_trans (by rw [← EDs.length hr]; exact Nat.le_trans (Nat.le_add_right _ _) hz) (by decide))) (fun j h' hj hs he => ?_) fun h' hj hs he => wpAny_pure ?_))
    · have a3 := (EDs.setSome (krS_inj hT) krS_fn hk hv hr hj).2.2
      rw [setL_new hnk, List.map_append] at a3
      have := congrArg List.length a3
      rw [List.length_append] at this
      exact absurd this (Nat.succ_ne_self _)
    · have a1 := (EDs.setNone (key := .str x t) (krS_inj hT) krS_fn hk strIs hv hr hj).1
      rw [setL_new hnk] at a1
      refine ih (s := { s with heap := h', toks := s.toks + 1 }) (kp := upd kp a (some ⟨.type "dict", none, .dict (es ++ [(⟨(strKind c.prog c.w).hash x, .str x t, y⟩ : DictEntry)]).toArray (n + 1), #[]⟩)) ⟨S.1.setKp ha (fun b hb z e => (hs.2 b hb).trans e) he, S.2⟩ (upd_self _ _ _) a1 (by rw [List.map_append, List.append_assoc]; exact hn) (by rw [List.length_append, List.length_singleton, Nat.add_assoc, Nat.add_comm 1]; exact hz) E Q fun es' n' kp' s' S' hk' ha' hr'' => ?_
      exact q es' n' kp' s' S' (fun b hb => (hk' b hb).trans (upd_ne _ _ hb)) ha' (by rw [List.append_assoc] at hr''; exact hr'')

theorem k_dct (O : c.Ok) {ks : List Nat} {es : List ME} (hK : AllK c X d es) : EK c X d (.dct ks es) := ⟨fun {sc nm ρ env A fix kp φ G G' s x v} hc hm V S hA => cE_dct (P := fun x => EvG c A fix kp φ x env s G' v) hc fun keys xs pos hk hce h3 hnd => iE_dct hm fun vs G1 h1 hlen hm' => by
  refine pairK (P := fun v G' => EvG c A fix kp φ (.Dict keys xs pos) env s G' v) hm'.symm fun E Q q => ?_
  have k1 := keysLen hk
  have k3 := xsLen hce
  have hz : ks.length ≤ 4096 := Nat.le_trans h3.2.1 (by decide)
  refine wpAny_Dict_any k1.1 (by rw [k1.2, k3]; exact h3.2.2) (fun e => absurd h3.1 (by rw [← k1.2, e]; decide)) (by rw [k1.2]; exact h3.2.1) ?_
  have hkn : kp s.heap.objs.size = none := S.1.kpLt (Nat.le_refl _)
  have ne : ∀ {b : Addr} {o : Obj}, kp b = some o → b ≠ s.heap.objs.size := fun e q => noS ((q ▸ hkn).symm.trans e)
  have S0 : St c fix (upd kp s.heap.objs.size (some ⟨.type "dict", none, .dict #[] 0, #[]⟩)) φ G { s with heap := s.heap.push { cls := .type "dict", data := .dict #[] } } :=
    ⟨(S.1.push _).hold (Heap.get?_push_size _ rfl) (S.1.fixLt (Nat.le_refl _)) (fun m => Nat.lt_irrefl _ (S.1.lt m)), S.2⟩
  have V0 : EnvOk c sc nm ρ env fix (upd kp s.heap.objs.size (some ⟨.type "dict", none, .dict #[] 0, #[]⟩)) φ :=
    V.at (V.frame.elim fun o h => h.elim fun es h => h.elim fun ep h => upd_ne _ _ (ne h.1)) fun x a hne hx ha => (V.cells x hne hx).elim fun b h => h.2.elim fun o h2 => h2.elim fun v h3 => upd_ne _ _ (ne (Option.some.inj (ha.symm.trans h.1) ▸ h3.1))
  refine pairs_ok hK hk h3.2.2 hce h1 V0 S0 hA E _ fun f1 p1 ps s1 l1 q1 S1 r1 => ?_
  refine storeAll_ok O.tabN (l := []) (es := []) (n := 0) r1 S1 (upd_self _ _ _) .nil hnd (by rw [List.length_nil, Nat.zero_add]; exact hz) E _ fun es' n' kp' s' S' hk' ha' hr' => ?_
  have hkp' : Le kp kp' := fun b o e => by rw [hk' b (ne e), upd_ne _ _ (ne e)]; exact e
  refine q f1 (p1 ++ [s.heap.objs.size]) _ s' l1 (q1.trans (List.prefix_append _ _)) ⟨?_, S'.2⟩ (.ref (S'.newAt _))
  exact (S'.1.less hkp').grow (S'.1.kpK _ _ ha') (S'.1.dj _ _ ha') hkn (fun m => noS ((S'.1.out _ m).2.symm.trans ha')) ⟨es', n', rfl, EDs.mono (Le.refl _) (List.prefix_append _ _) hr', by
    show ((ks.zip vs).map (·.1)).Nodup
    rw [List.map_fst_zip (Nat.le_of_eq hlen)]; exact hnd, by
    show (ks.zip vs).length ≤ 4096
    rw [List.length_zip]; exact Nat.le_trans (Nat.min_le_left _ _) hz⟩ (S.1.size (Nat.le_refl _)), noT fun _ _ _ _ => rfl⟩
end
end Mine
end
section
set_option autoImplicit false
set_option linter.unusedSectionVars false
set_option linter.unusedVariables false
namespace Mine
open PySem PySem.W PyProof.Rows PySem.Calls

noncomputable def CallOk (c : CX) (X : Ctx) (d : Nat) : Prop := ∀ {f : Nat} {vs : List MV} {G G' : GH} {v : MV}, X.call f vs G = some (v, G') → ∀ {A : Around} {fix kp : Kp} {φ : List Addr} {s : Shared} {ys : List Value}, St c fix kp φ G s → c.VRs fix φ vs ys → AOkC A d →
  ∀ {R : Result → Shared → Prop}, (∀ fix' φ' y s', Le fix fix' → φ <+: φ' → St c fix' kp φ' G' s' → c.VR fix' φ' v y → R (.ok (.ret y)) s') → codeAny c.M A (.call (.ref f) ⟨ys, []⟩) R s

section
variable {c : CX} {X : Ctx} {d : Nat}

theorem under_type {A : Around} {args : Args} (h : AOk A d) : AOkC (A.under (.builtin "type.__call__" args)) d := by
  have hw : Code.weight (.builtin "type.__call__" args) ≤ 2 := by
    unfold Code.weight
    have h1 : Code.frames (.builtin "type.__call__" args) = 0 := rfl
    have h2 : Code.isCaller (.builtin "type.__call__" args) = false := rfl
    rw [h1, h2]
    split <;> split <;> simp
  have hu : Code.cUnits (.builtin "type.__call__" args) = 1 := rfl
  refine ⟨h.handled, ?_, ?_⟩
  · have := h.depth
    show A.depth + Code.weight _ + _ < _
    omega
  · have := h.units
    show A.units + Code.cUnits _ + 20 * (d + 1) + 80 < _
    rw [hu]; omega

theorem k_call (O : c.Ok) (hC : CallOk c X d) {f : Nat} {es : List ME} (hK : AllK c X d es) : EK c X d (.call f es) := ⟨fun {sc nm ρ env A fix kp φ G G' s x v} hc hm V S hA => cE_call (P := fun x => EvG c A fix kp φ x env s G' v) hc fun _ _ _ _ hg hf hce hlen => iE_call hm fun vs G1 h1 hm E Q q =>
  wpAny_Call_Name_kw (glob_ok O V S hg (.inl (O.glob _ _ hf).1) (callK O (first := []) S (O.glob _ _ hf).2 hce (es_ok hK hce h1 V S hA _) fun f1 p1 ys s1 l1 q1 S1 r1 =>
    wpAny_call (hC hm S1 r1 hA.call fun f2 p2 y s2 l2 q2 S2 r2 => q f2 p2 y s2 (l1.trans l2) (q1.trans q2) S2 r2))), noT fun _ _ _ _ => rfl⟩

theorem initIn_k {K : Frag} {C f : Addr} {P : Prop} (h : initIn K C f = true) (g : makesIn K C = true → findIn K (.ref C) "__init__" = some (some (.ref f)) → typeIn K (.ref f) = some (.type "function") → keepIn K (.ref C) = true → P) : P :=
  ak h fun h h4 => ak h fun h h3 => ak h fun h1 h2 => g h1 (eq_of_beq h2) (eq_of_beq h3) h4
theorem newInst {C : Addr} {kp fix : Kp} {φ : List Addr} {G : GH} {s : Shared} (S : St c fix kp φ G s) {P : Prop} (g : ∀ fix', Le fix fix' → St c fix' kp (φ ++ [s.heap.objs.size]) (G ++ [.sd []]) { s with heap := (s.heap.push emptyDict).push (instObj C s.heap.objs.size) } → fix' (s.heap.objs.size + 1) = some (instObj C s.heap.objs.size) → P) : P := by
  have hsz : (s.heap.push emptyDict).objs.size = s.heap.objs.size + 1 := Heap.size_push ..
  have hx : ((s.heap.push emptyDict).push (instObj C s.heap.objs.size)).get? (s.heap.objs.size + 1) = some (instObj C s.heap.objs.size) := hsz ▸ Heap.get?_push_size (s.heap.push emptyDict) (o := instObj C s.heap.objs.size) rfl
  have newD := newFree S (Nat.le_refl _)
  have newX := newFree S (Nat.le_succ _)
  have R3 := ((S.1.push emptyDict).push (instObj C s.heap.objs.size)).grow (Heap.get?_push_of_some _ (Heap.get?_push_size _ rfl)) newD.1 newD.2.1 newD.2.2 (g := .sd []) ⟨[], 0, rfl, .nil, List.nodup_nil, Nat.zero_le _⟩ (S.1.size (Nat.le_refl _))
  obtain ⟨R4, l4⟩ := R3.freeze hx newX.2.1 (fun m => (List.mem_append.mp m).elim newX.2.2 fun m => Nat.succ_ne_self _ (List.mem_singleton.mp m)) newX.1
  exact g _ l4 ⟨R4, S.2⟩ (upd_self _ _ _)
theorem k_new (O : c.Ok) (hX : XOk c X) (hC : CallOk c X d) {C : Nat} {es : List ME} (hK : AllK c X d es) : EK c X d (.new C es) := ⟨fun {sc nm ρ env A fix kp φ G G' s x v} hc hm V S hA => cE_new (P := fun x => EvG c A fix kp φ x env s G' v) hc fun n pn xs p hg hf hce hlen => iE_new (Px := fun v => EvG c A fix kp φ (.Call (.Name n pn) xs [] p) env s G' v) hm fun vs G1 f h1 hi h2 E Q q =>
  initIn_k (O.init C f (hX.init ▸ hi)) fun i1 i2 i3 _ => wpAny_Call_Name_kw (glob_ok O V S hg (.inl (O.glob _ _ hf).1) (callK O (first := []) S (O.glob _ _ hf).2 hce (es_ok hK hce h1 V S hA _) fun f1 p1 ys s1 l1 q1 S1 r1 => wpAny_call (by
    obtain ⟨hh, g, dr, t, os⟩ := s1
    have K1 := S1.1.K O
    refine make_core (makes_of K1 i1) (looks_findIn K1 i2) (fun self => bind_fn K1 self i3) (.inl rfl) ?_
    refine newInst (C := C) S1 fun f4 l4 S4 hx => ?_
    have vo : ∀ {φ' : List Addr} {f2 : Kp}, Le f4 f2 → (p1 ++ [hh.objs.size]) <+: φ' → c.VR f2 φ' (.obj C G1.length) (.ref (hh.objs.size + 1)) := fun lf pf => VR.mono lf pf (.obj hx (S1.newAt _))
    refine hC h2 S4 (.cons (vo (Le.refl _) (List.prefix_refl _)) (r1.mono l4 (List.prefix_append _ _))) (under_type hA) fun f2 p2 y s2 l2 q2 S2 r2 => ?_
    exact ⟨noneV (P := fun y => y = .none) r2 rfl, q f2 p2 _ s2 ((l1.trans l4).trans l2) ((q1.trans (List.prefix_append _ _)).trans q2) S2 (vo l2 q2)⟩))), noT fun _ _ _ _ => rfl⟩

theorem methIn_k {K : Frag} {C : Addr} {x : Str} {f : Addr} {P : Prop} (h : methIn K C x f = true) (g : plainGet K C x = true → findIn K (.ref C) x = some (some (.ref f)) → isFn K (.ref f) = true → keepIn K (.ref f) = true → P) : P :=
  ak h fun h h4 => ak h fun h h3 => ak h fun h1 h2 => g h1 (eq_of_beq h2) h3 h4
theorem k_meth (O : c.Ok) (hX : XOk c X) (hC : CallOk c X d) {a : ME} {m : Nat} {es : List ME} (ha : EK c X d a) (hK : AllK c X d es) : EK c X d (.meth a m es) := ⟨fun {sc nm ρ env A fix kp φ G G' s x v} hc hm V S hA => cE_meth (P := fun x => EvG c A fix kp φ x env s G' v) hc fun _ n _ _ _ hca hk hns hce hlen hline => iE_meth hm fun C i G1 f l vs G2 h1 hmth hg hnone h2 hm E Q q =>
  methTree hns hline hlen (starNo hce).2 (ha.1 hca h1 V S hA E _ fun f1 p1 y s1 l1 q1 S1 r1 pl => by
    have hmi : methIn c.K C n f = true := (O.mth C m f (hX.mth ▸ hmth)).elim fun n' h => Option.some.inj (hk.symm.trans h.1) ▸ h.2
    refine methIn_k hmi fun m1 m2 m3 m4 => ?_
    refine objV (P := fun y => wpAny c.M A (getMethod y n pl) _ E s1) r1 fun xa dx hf hp => ?_
    refine S1.gd hp hg fun es' nn ho hr hnd z => ?_
    refine method_fn (od := some (dictOf es' nn)) (S1.1.K O) (instAt (S1.1.fixK _ _ hf) ho) (plainGet_of m1).1 (plainGet_of m1).2 m2 (eq_of_beq m3) (by show (lookIn n (dictOf es' nn)).map _ = _; rw [lookIn_dict, sdGetN O.tabN hk hr hnone]; rfl) ?_
    refine callK O (first := [.ref xa]) S1 m4 hce (es_ok hK hce h2 (V.mono l1 q1) S1 hA _) fun f2 p2 ys s2 l2 q2 S2 r2 => ?_
    exact wpAny_call (hC hm S2 (.cons (VR.mono l2 q2 (.obj hf hp)) r2) hA.call fun f3 p3 y s3 l3 q3 S3 r3 => q f3 p3 y s3 ((l1.trans l2).trans l3) ((q1.trans q2).trans q3) S3 r3)), noT fun _ _ _ _ => rfl⟩

theorem blt_boot (b : Bl) : bootBuiltins (blN b) = some (bltV b) := by cases b <;> rfl

theorem blt_call {M : Model} {A : Around} {E : Value → Shared → Prop} {s : Shared} {t : Sem Value} {pos : Pos} {Q : Value → Shared → Prop} (b : Bl) (h : wpAny M A t (fun v s₁ => wpAny M A (call (bltV b) [v]) Q E s₁) E s) : wpAny M A (callWith pos (bltV b) [] [(false, t)] []) Q E s :=
  match b with
  | .len => PySem.callWith_builtin1 h
  | .abs => PySem.callWith_builtin1 h
  | .int => PySem.callWith_type1 h
  | .list _ => PySem.callWith_type1 h
  | .tuple => PySem.callWith_type1 h
  | .sorted => PySem.callWith_builtin1 h

theorem k_blt (O : c.Ok) {b : Bl} {a : ME} (ha : EK c X d a) : EK c X d (.blt b a) := ⟨fun {sc nm ρ env A fix kp φ G G' s x v} hc hm V S hA => cE_blt (P := fun x => EvG c A fix kp φ x env s G' v) hc fun _ y _ hb hca => iE_blt hm fun v1 G1 h1 hm E Q q =>
  wpAny_Call_Name_kw (blt_ok O V S hb (blt_boot b) (by
    rw [starCons hca]
    exact blt_call b (ha.1 hca h1 V S hA E _ fun f1 p1 y s1 l1 q1 S1 r1 => bltO_ok hm S1 r1 E _ fun f2 p2 z s2 l2 q2 S2 r2 => q f2 p2 z s2 (l1.trans l2) (q1.trans q2) S2 r2))), noT fun _ _ _ _ => rfl⟩
theorem noDict {h : Heap} {a : Addr} {o : Obj} (e : h.get? a = some o) (hd : o.dict = none) : ∀ b, Value.ref a = .ref b → ∃ o, h.get? b = some o ∧ o.dict = none := fun b q => by cases q; exact ⟨o, e, hd⟩

theorem k_app (O : c.Ok) {a b : ME} (ha : EK c X d a) (hb : EK c X d b) : EK c X d (.app a b) := ⟨fun {sc nm ρ env A fix kp φ G G' s x v} hc hm V S hA => cE_app (P := fun x => EvG c A fix kp φ x env s G' v) hc fun y ap z p hns hca hcb hline => iE_app (Px := fun v => EvG c A fix kp φ (.Call (.Attribute y "append" ap) [z] [] p) env s G' v) hm fun v1 G1 x1 G2 h1 hls h2 h3 E Q q =>
  methTree hns hline (Nat.lt_of_sub_pos (by decide : 0 < 28 - 1)) (starNo (cEs1 hcb)).2 (ha.1 hca h1 V S hA E _ fun f1 p1 yo s1 l1 q1 S1 r1 pl => (Option.isSome_iff_exists.mp hls).elim fun l hl => by
    refine lstK (P := fun yo => c.VR f1 p1 v1 yo → wpAny c.M A (getMethod yo "append" pl) _ E s1) S1 r1 hl (fun D xs n ho _ _ r1 => ?_) r1
    refine getMethod_builtin ⟨_, ho, rfl⟩ PySem.F.plainAttrs_list PySem.F.slot_list_append PySem.F.type_list_append (noDict ho rfl) ?_
    rw [starCons hcb, backCons]
    exact callWith_builtin rfl (evalArgs_plain (spliced_cons (hb.1 hcb h2 (V.mono l1 q1) S1 hA E _ fun f2 p2 z s2 l2 q2 S2 r2 => spliced_nil (appO_ok h3 S2 (r1.mono l2 q2) r2 E _ fun f3 p3 u s3 l3 q3 S3 r3 => q f3 p3 u s3 ((l1.trans l2).trans l3) ((q1.trans q2).trans q3) S3 r3))))), noT fun _ _ _ _ => rfl⟩

theorem k_pop (O : c.Ok) {a : ME} (ha : EK c X d a) : EK c X d (.pop a) := ⟨fun {sc nm ρ env A fix kp φ G G' s x v} hc hm V S hA => cE_pop (P := fun x => EvG c A fix kp φ x env s G' v) hc fun _ _ _ hns hca hline => iE_pop hm fun v1 G1 h1 hm E Q q =>
  methTree hns hline (by decide) rfl (ha.1 hca h1 V S hA E _ fun f1 p1 yo s1 l1 q1 S1 r1 pl => by
    have H := popO_ok (A := A) hm S1 r1
    refine rL_k (P := fun v1 => c.VR f1 p1 v1 yo → wpAny c.M A (getMethod yo "pop" pl) _ E s1) hm (fun i l hg _ r1 => ?_) r1
    revert H
    refine refV (P := fun yo => Ev c A f1 kp p1 (call (.builtin "list.pop") [yo]) s1 G' _ → wpAny c.M A (getMethod yo "pop" pl) _ E s1) r1 fun D hp H => ?_
    refine S1.go hp hg fun xs n ho _ _ => ?_
    refine getMethod_builtin ⟨_, ho, rfl⟩ PySem.F.plainAttrs_list PySem.F.slot_list_pop PySem.F.type_list_pop (noDict ho rfl) ?_
    exact callWith_builtin rfl (evalArgs_nilG (spliced_nil (H E _ fun f3 p3 u s3 l3 q3 S3 r3 => q f3 p3 u s3 (l1.trans l3) (q1.trans q3) S3 r3)))), noT fun _ _ _ _ => rfl⟩

theorem k_get (O : c.Ok) {a b e : ME} (ha : EK c X d a) (hb : EK c X d b) (he : EK c X d e) : EK c X d (.get a b e) := ⟨fun {sc nm ρ env A fix kp φ G G' s x v} hc hm V S hA => cE_get (P := fun x => EvG c A fix kp φ x env s G' v) hc fun _ _ _ _ _ hns hca hcb hce' hline => iE_get hm fun v1 G1 k1 G2 d1 h1 hnd h2 h3 h4 E Q q =>
  methTree hns hline (Nat.lt_of_sub_pos (by decide : 0 < 28 - 2)) (starNo (cEs2 hcb hce')).2 (ha.1 hca h1 V S hA E _ fun f1 p1 yo s1 l1 q1 S1 r1 pl => by
    obtain ⟨pn, hpn⟩ := Option.isSome_iff_exists.mp hnd
    obtain ⟨k0, hk0, h4⟩ := Option.bind_eq_some_iff.mp h4
    obtain ⟨pn', hpn', h4⟩ := Option.map_eq_some_iff.mp h4
    refine rN_k (P := fun v1 => c.VR f1 p1 v1 yo → rN G' v1 = some pn' → wpAny c.M A (getMethod yo "get" pl) _ E s1) hpn (fun hg r1 hpn' => ?_) r1 hpn'
    have hg' : G'[pn.1]? = some (.nd pn'.2.1 pn'.2.2) := rN_k (P := fun v => v = .ref pn.1 → _) hpn' (fun h e => MV.ref.inj e ▸ h) rfl
    refine refV (P := fun yo => wpAny c.M A (getMethod yo "get" pl) _ E s1) r1 fun D hp => ?_
    refine S1.gn hp hg fun es ho hr _ _ => ?_
    refine getMethod_builtin ⟨_, ho, rfl⟩ PySem.F.plainAttrs_dict PySem.F.slot_dict_get PySem.F.type_dict_get (noDict ho rfl) ?_
    rw [starCons hcb, starCons hce', backCons, backCons]
    refine wpAny_dict_get2 (knd := intKind c.prog c.w) (beq_eq_false_iff_ne.mpr (Nat.ne_of_gt (S1.1.lo _ (List.mem_of_getElem? hp)))) ?_
    refine hb.1 hcb h2 (V.mono l1 q1) S1 hA E _ fun f2 p2 z2 s2 l2 q2 S2 r2 => he.1 hce' h3 (V.mono (l1.trans l2) (q1.trans q2)) S2 hA E _ fun f3 p3 z3 s3 l3 q3 S3 r3 => ?_
    refine iInt_k (P := fun k1 => c.VR f2 p2 k1 z2 → _) hk0 (fun r2 => ?_) r2
    refine intV (P := fun z2 => ∃ k m, (intKind c.prog c.w).is k z2 = true ∧ Heap.MapOf (intKind c.prog c.w) s3.heap D m ∧ Q ((m k).getD z3) { s3 with toks := s3.toks + 1 }) r2 fun t => ?_
    refine S3.gn (pre_get q3 (pre_get q2 hp)) hg' fun es' ho hr' _ _ => ⟨k0, _, intIs, ndMap ho hr', ?_⟩
    refine q f3 p3 _ _ ((l1.trans l2).trans l3) ((q1.trans q2).trans q3) (S3.toks _) ?_
    rw [← h4]
    cases hl : pn'.2.2.lookup k0 with
    | none => rw [EDs.findN krI_inj krI_fn (rfl : krI k0 k0) hr' hl]; exact r3
    | some v => obtain ⟨en, he1, he2⟩ := EDs.findS krI_inj krI_fn (rfl : krI k0 k0) hr' hl; rw [he1]; exact he2), noT fun _ _ _ _ => rfl⟩
end
end Mine
end
section
set_option autoImplicit false
set_option linter.unusedSectionVars false
set_option linter.unusedVariables false
namespace Mine
open PySem PySem.W PyProof.Rows PySem.Calls

section
variable {c : CX} {X : Ctx} {d : Nat}

theorem small_range {a b : Int} (h0 : 0 ≤ a) (h1 : a < 4096) (h2 : 0 ≤ b) (h3 : b < 4096) : Builtin.Range.small a b 1 = true := by
  have hs : Builtin.Range.rangeSize a b 1 = if a < b then b - a else 0 := rangeSize_one a b
  have fit : ∀ i : Int, -10000 ≤ i → i < 10000 → Builtin.Range.rangeFitsLong i = true := fun i q1 q2 => by
    unfold Builtin.Range.rangeFitsLong
    simp only [Bool.and_eq_true, decide_eq_true_eq]
    omega
  unfold Builtin.Range.small
  rw [hs, fit a (by omega) (by omega), fit b (by omega) (by omega), fit 1 (by omega) (by omega), fit _ (by split <;> omega) (by split <;> omega), if_pos (show (1 : Int) > 0 by decide), fit (b + (1 - 1)) (by omega) (by omega)]
  simp

theorem foldedSet_ok {e : PySem.Expr} {env : Env} (h : ∀ es k p, e ≠ .Set es k p) (x : Value) : foldedSetIterable e env x = pure x := by
  cases e <;> first | rfl | exact absurd rfl (h _ _ _)

theorem srcSet {S : Sta} {k : SK} {srcs : List ME} {sc : Sp} {nm : Nm} {e : PySem.Expr} (h : chkSrc S k srcs sc nm e = true) : ∀ es k' p, e ≠ .Set es k' p := by
  intro es k' p q
  rw [q] at h
  match srcs, h with
  | [], h => exact ft h
  | [a], h => cases k with
    | vals => exact ft (noSetT.symm.trans (show chkE S a sc nm (.Set es k' p) = true from h))
    | _ => exact ft h
  | a :: b :: r, h =>
    have h := (ott (show (r.isEmpty && _) = true from h)).2
    cases k <;> exact ft h

section
variable {G G' : GH} {v w : MV} {gd : Gd} {items : List Itm} {vs : List MV} {P : MV → Gd → List Itm → Prop} {P2 : MV → MV → Gd → List Itm → Prop}
theorem rngO1 (h : srcO G .rng [v] = some (gd, items)) (g : ∀ b, 0 ≤ b ∧ b < 4096 → P (.int b) .no (rangeO 0 b 1)) : P v gd items :=
  obk (o := iInt v) (f := fun b => if 0 ≤ b ∧ b < 4096 then some (Gd.no, rangeO 0 b 1) else none) h fun b h1 h => oif h fun h2 h => iInt_k (P := fun v => P v gd items) h1 (opk (P := P (.int b)) h (g b h2))
theorem rngO2 (h : srcO G .rng [v, w] = some (gd, items)) (g : ∀ a b, 0 ≤ a ∧ a < 4096 ∧ 0 ≤ b ∧ b < 4096 → P2 (.int a) (.int b) .no (rangeO a b 1)) : P2 v w gd items :=
  i2_k (k := fun a b => if 0 ≤ a ∧ a < 4096 ∧ 0 ≤ b ∧ b < 4096 then some (Gd.no, rangeO a b 1) else none) (P := fun v w => P2 v w gd items) h fun a b h => oif h fun h1 h => opk (P := P2 (.int a) (.int b)) h (g a b h1)
theorem enumO (h : srcO G .enum [v] = some (gd, items)) (g : ∀ l, P (.lst l) .no (enumT 0 l)) : P v gd items :=
  (Option.map_eq_some_iff.mp (show (iLst v).map (fun l => (Gd.no, enumT 0 l)) = some (gd, items) from h)).elim fun l h => iLst_k (P := fun v => P v gd items) h.1 (opk (P := P (.lst l)) (congrArg some h.2) (g l))
theorem zipO (h : srcO G .zip [v, w] = some (gd, items)) (g : ∀ a b, P2 (.lst a) (.lst b) .no (zipT a b)) : P2 v w gd items :=
  obk (o := iLst v) (f := fun a => (iLst w).map fun b => (Gd.no, zipT a b)) h fun a h1 h => (Option.map_eq_some_iff.mp h).elim fun b h => iLst_k (P := fun v => P2 v w gd items) h1 (iLst_k (P := fun w => P2 (.lst a) w gd items) h.1 (opk (P := P2 (.lst a) (.lst b)) (congrArg some h.2) (g a b)))
variable {ρ : Lo} {a b : ME} {Pv : List MV → Prop}
theorem iEs1 (h : mEs X [a] ρ G = some (vs, G')) (g : ∀ v, mE X a ρ G = some (v, G') → Pv [v]) : Pv vs :=
  iEs h fun v G1 ws h1 h2 => opk (P := fun ws G' => (∀ v, mE X a ρ G = some (v, G') → Pv [v]) → Pv (v :: ws)) h2 (fun g => g v h1) g
theorem iEs2 (h : mEs X [a, b] ρ G = some (vs, G')) (g : ∀ v w G2, mE X a ρ G = some (v, G2) → mE X b ρ G2 = some (w, G') → Pv [v, w]) : Pv vs :=
  iEs h fun v G1 ws h1 h2 => iEs1 (Pv := fun ws => Pv (v :: ws)) h2 fun w h3 => g v w G1 h1 h3
end
section
variable {k : SK} {sc : Sp} {nm : Nm} {ρ : Lo} {env : Env} {A : Around} {fix kp : Kp} {φ : List Addr} {G G1 : GH} {s : Shared} {e : PySem.Expr} {vs : List MV} {gd : Gd} {items : List Itm} {E : Value → Shared → Prop} {Q : Value → Shared → Prop} {a b : ME}
noncomputable def SrcQ (c : CX) (fix kp : Kp) (φ : List Addr) (G1 : GH) (k : SK) (gd : Gd) (items : List Itm) (Q : Value → Shared → Prop) : Prop := ∀ fix' φ' it s' fp, Le fix fix' → φ <+: φ' → St c fix' kp φ' G1 s' → ItOk c fix' kp φ' s'.heap it gd items fp → (kOne k true = true → fp.length = 1) → Q it s'
noncomputable def SrcG (c : CX) (A : Around) (fix kp : Kp) (φ : List Addr) (G1 : GH) (k : SK) (E : Value → Shared → Prop) (Q : Value → Shared → Prop) (e : PySem.Expr) (env : Env) (s : Shared) (gd : Gd) (items : List Itm) : Prop := SrcQ c fix kp φ G1 k gd items Q → wpAny c.M A (eval e env) (fun x s₁ => wpAny c.M A (pyIter x) Q E s₁) E s
theorem src_rng1 (O : c.Ok) (ha : EK c X d a) {v : MV} (hc : chkSrc c.S .rng [a] sc nm e = true) (h1 : mE X a ρ G = some (v, G1)) (hs : srcO G1 .rng [v] = some (gd, items)) (V : EnvOk c sc nm ρ env fix kp φ) (S : St c fix kp φ G s) (hA : AOk A d) : SrcG c A fix kp φ G1 .rng E Q e env s gd items :=
  cR_rng1 (P := fun e => SrcG c A fix kp φ G1 .rng E Q e env s gd items) hc fun nq y p hb hca => rngO1 (P := fun v gd items => mE X a ρ G = some (v, G1) → SrcG c A fix kp φ G1 .rng E Q (.Call (.Name "range" nq) [y] [] p) env s gd items) hs (fun b hb4 h1 q =>
    wpAny_Call_Name_kw (blt_ok O V S hb (y := .type "range") rfl (by
      rw [starCons hca]
      refine PySem.callWith_type1 (ha.1 hca h1 V S hA E _ fun f1 p1 y s1 l1 q1 S1 r1 => intV (P := fun y => wpAny c.M A (call (.type "range") [y]) _ E s1) r1 fun t => call_range_1 ?_)
      exact it_range (s := { s1 with heap := s1.heap.push _, toks := s1.toks + 1 + 1 }) ⟨S1.1.push _, S1.2⟩ (IsRange.new _ _ _ _ _ _ _) (fun it s' fp S' I hl => q f1 p1 it s' fp l1 q1 S' I fun _ => hl) (small_range (by decide) (by decide) hb4.1 hb4.2)))) h1
theorem src_enum (O : c.Ok) (ha : EK c X d a) {v : MV} (hc : chkSrc c.S .enum [a] sc nm e = true) (h1 : mE X a ρ G = some (v, G1)) (hs : srcO G1 .enum [v] = some (gd, items)) (V : EnvOk c sc nm ρ env fix kp φ) (S : St c fix kp φ G s) (hA : AOk A d) : SrcG c A fix kp φ G1 .enum E Q e env s gd items :=
  cR_enum (P := fun e => SrcG c A fix kp φ G1 .enum E Q e env s gd items) hc fun nq y p hb hca => enumO (P := fun v gd items => mE X a ρ G = some (v, G1) → SrcG c A fix kp φ G1 .enum E Q (.Call (.Name "enumerate" nq) [y] [] p) env s gd items) hs (fun l h1 q =>
    wpAny_Call_Name_kw (blt_ok O V S hb (y := .type "enumerate") rfl (by
      rw [starCons hca]
      exact PySem.callWith_type1 (ha.1 hca h1 V S hA E _ fun f1 p1 y s1 l1 q1 S1 r1 => it_enum O S1 r1 fun it s' fp S' I => q f1 p1 it s' fp l1 q1 S' I fun h => nomatch h)))) h1
theorem src_rng2 (O : c.Ok) (ha : EK c X d a) (hb : EK c X d b) {v w : MV} {G2 : GH} (hc : chkSrc c.S .rng [a, b] sc nm e = true) (h1 : mE X a ρ G = some (v, G2)) (h2 : mE X b ρ G2 = some (w, G1)) (hs : srcO G1 .rng [v, w] = some (gd, items)) (V : EnvOk c sc nm ρ env fix kp φ) (S : St c fix kp φ G s) (hA : AOk A d) : SrcG c A fix kp φ G1 .rng E Q e env s gd items :=
  cR_rng2 (P := fun e => SrcG c A fix kp φ G1 .rng E Q e env s gd items) hc fun nq y z p hbl hca hcb => rngO2 (P2 := fun v w gd items => mE X a ρ G = some (v, G2) → mE X b ρ G2 = some (w, G1) → SrcG c A fix kp φ G1 .rng E Q (.Call (.Name "range" nq) [y, z] [] p) env s gd items) hs (fun i j hb4 h1 h2 q =>
    wpAny_Call_Name_kw (blt_ok O V S hbl (y := .type "range") rfl (by
      rw [starCons hca, starCons hcb, backCons, backCons]
      refine PySem.callWith_type rfl (evalArgs_plain (spliced_cons (ha.1 hca h1 V S hA E _ fun f1 p1 y s1 l1 q1 S1 r1 => spliced_cons (hb.1 hcb h2 (V.mono l1 q1) S1 hA E _ fun f2 p2 z s2 l2 q2 S2 r2 => spliced_nil ?_))))
      refine intV (P := fun y => wpAny c.M A (call (.type "range") [y, z]) _ E s2) (r1.mono l2 q2) fun t => intV (P := fun z => wpAny c.M A (call (.type "range") [.int i t, z]) _ E s2) r2 fun u => call_range_2 ?_
      exact it_range (s := { s2 with heap := s2.heap.push _, toks := s2.toks + 1 }) ⟨S2.1.push _, S2.2⟩ (IsRange.new _ _ _ _ _ _ _) (fun it s' fp S' I hl => q f2 p2 it s' fp (l1.trans l2) (q1.trans q2) S' I fun _ => hl) (small_range hb4.1 hb4.2.1 hb4.2.2.1 hb4.2.2.2)))) h1 h2
theorem src_zip (O : c.Ok) (ha : EK c X d a) (hb : EK c X d b) {v w : MV} {G2 : GH} (hc : chkSrc c.S .zip [a, b] sc nm e = true) (h1 : mE X a ρ G = some (v, G2)) (h2 : mE X b ρ G2 = some (w, G1)) (hs : srcO G1 .zip [v, w] = some (gd, items)) (V : EnvOk c sc nm ρ env fix kp φ) (S : St c fix kp φ G s) (hA : AOk A d) : SrcG c A fix kp φ G1 .zip E Q e env s gd items :=
  cR_zip (P := fun e => SrcG c A fix kp φ G1 .zip E Q e env s gd items) hc fun nq y z p hbl hca hcb => zipO (P2 := fun v w gd items => mE X a ρ G = some (v, G2) → mE X b ρ G2 = some (w, G1) → SrcG c A fix kp φ G1 .zip E Q (.Call (.Name "zip" nq) [y, z] [] p) env s gd items) hs (fun i j h1 h2 q =>
    wpAny_Call_Name_kw (blt_ok O V S hbl (y := .type "zip") rfl (by
      rw [starCons hca, starCons hcb, backCons, backCons]
      exact PySem.callWith_type rfl (evalArgs_plain (spliced_cons (ha.1 hca h1 V S hA E _ fun f1 p1 y s1 l1 q1 S1 r1 => spliced_cons (hb.1 hcb h2 (V.mono l1 q1) S1 hA E _ fun f2 p2 z s2 l2 q2 S2 r2 => spliced_nil
        (it_zip O S2 (r1.mono l2 q2) r2 fun it s' fp S' I => q f2 p2 it s' fp (l1.trans l2) (q1.trans q2) S' I fun h => nomatch h))))))) ) h1 h2
theorem src_ok (O : c.Ok) {srcs : List ME} (hK : AllK c X d srcs)
    (hc : chkSrc c.S k srcs sc nm e = true) (hm : mEs X srcs ρ G = some (vs, G1)) (hs : srcO G1 k vs = some (gd, items)) (V : EnvOk c sc nm ρ env fix kp φ) (S : St c fix kp φ G s) (hA : AOk A d) : SrcG c A fix kp φ G1 k E Q e env s gd items := by
  match srcs, hK, hc, hm with
  | [], _, hc, _ => exact ft hc
  | [a], hK, hc, hm =>
    have ha := hK a (.head _)
    refine iEs1 (Pv := fun vs => srcO G1 k vs = some (gd, items) → SrcG c A fix kp φ G1 k E Q e env s gd items) hm (fun v h1 hs => ?_) hs
    cases k with
    | vals => exact fun q => ha.1 hc h1 V S hA E _ fun f1 p1 y s1 l1 q1 S1 r1 => it_vals (v := v) hs S1 r1 fun it s' fp S' I hl => q f1 p1 it s' fp l1 q1 S' I fun _ => hl
    | zip => exact ft hc
    | rng => exact src_rng1 O ha hc h1 hs V S hA
    | enum => exact src_enum O ha hc h1 hs V S hA
  | a :: b :: r, hK, hc, hm =>
    have ha := hK a (.head _)
    have hb := hK b (.tail _ (.head _))
    have hr := (ott (show (r.isEmpty && _) = true from hc)).1
    rw [List.isEmpty_iff.mp hr] at hc hm
    refine iEs2 (Pv := fun vs => srcO G1 k vs = some (gd, items) → SrcG c A fix kp φ G1 k E Q e env s gd items) hm (fun v w G2 h1 h2 hs => ?_) hs
    cases k with
    | vals => exact ft hc
    | enum => exact ft hc
    | rng => exact src_rng2 O ha hb hc h1 h2 hs V S hA
    | zip => exact src_zip O ha hb hc h1 h2 hs V S hA
end
end
end Mine
end
section
set_option autoImplicit false
set_option linter.unusedSectionVars false
set_option linter.unusedVariables false
namespace Mine
open PySem PySem.W PyProof.Rows PySem.Calls

noncomputable abbrev lstObj (xs : List Value) (n : Nat) : Obj := ⟨.type "list", none, .seq xs.toArray n, #[]⟩

structure CSt (c : CX) (fix kp0 kp : Kp) (φ : List Addr) (G : GH) (s : Shared) (sc : Sp) (nm : Nm) (ρ : Lo) (env : Env) (D : Addr) (acc : List MV) : Prop where
  le : Le kp0 kp
  st : St c fix kp φ G s
  env : EnvOk c sc nm ρ env fix kp φ
  acc : ∃ xs n, Free fix kp φ s.heap [(D, lstObj xs n)] ∧ c.VRs fix φ acc xs ∧ acc.length ≤ 4096

section
variable {c : CX} {X : Ctx} {d nb : Nat} {A : Around} {fix kp kp0 fix' kp' : Kp} {φ φ' : List Addr} {G G' : GH} {s s' : Shared} {h h' : Heap} {sc : Sp} {nm : Nm} {ρ ρ' : Lo} {env : Env} {fp : List (Addr × Obj)} {D : Addr} {acc acc' : List MV}

theorem Free.less (F : Free fix kp φ h fp) (l : Le kp' kp) : Free fix kp' φ h fp := fun p hp => ⟨(F p hp).1, (F p hp).2.1, by
  cases e : kp' p.1 with
  | none => exact ⟨rfl, (F p hp).2.2.2⟩
  | some o => have := l _ _ e; rw [(F p hp).2.2.1] at this; cases this⟩
theorem Free.kpN (F : Free fix kp φ h fp) : ∀ p ∈ fp, kp p.1 = none := fun p hp => (F p hp).2.2.1

theorem CSt.openK (C : CSt c fix kp0 kp φ G s sc nm ρ env D acc) {P : Prop} (g : ∀ o, St c fix (holdL kp [(D, o)]) φ G s → EnvOk c sc nm ρ env fix (holdL kp [(D, o)]) φ → Le (holdL kp0 [(D, o)]) (holdL kp [(D, o)]) → (Own sc nm nb env kp0 → Own sc nm nb env (holdL kp0 [(D, o)])) → Free fix kp φ s.heap [(D, o)] →
    (∀ {fix' kp' φ' G' s' ρ'}, Le fix fix' → φ <+: φ' → Le (holdL kp0 [(D, o)]) kp' → St c fix' kp' φ' G' s' → EnvOk c sc nm ρ' env fix' kp' φ' → CSt c fix' kp0 (cut kp' [(D, o)]) φ' G' s' sc nm ρ' env D acc) → P) : P :=
  C.acc.elim fun xs a => a.elim fun n a => g (lstObj xs n) ⟨(a.1.hold C.st.1).1, C.st.2⟩ (C.env.hold a.1.kpN) (a.1.holdLe C.le) (fun W => W.hold C.env a.1.kpN) a.1
    fun lf lp lk S' V' => ⟨a.1.le C.le lk, ⟨(a.1.back lk S'.1).2, S'.2⟩, C.env.cut a.1.kpN V', xs, n, (a.1.back lk S'.1).1, a.2.1.mono lf lp, a.2.2⟩
theorem CSt.holdI (C : CSt c fix kp0 kp φ G s sc nm ρ env D acc) (F : Free fix kp φ s.heap fp) (hD : ∀ p ∈ fp, p.1 ≠ D) : CSt c fix (holdL kp0 fp) (holdL kp fp) φ G s sc nm ρ env D acc :=
  C.acc.elim fun xs a => a.elim fun n a => ⟨F.holdLe C.le, ⟨(F.hold C.st.1).1, C.st.2⟩, C.env.hold F.kpN, xs, n, allOne ⟨(a.1 _ (.head _)).1, (a.1 _ (.head _)).2.1, (holdL_out hD).trans (a.1 _ (.head _)).2.2.1, (a.1 _ (.head _)).2.2.2⟩, a.2⟩
theorem CSt.dropI (C : CSt c fix' (holdL kp0 fp) kp' φ' G' s' sc nm ρ' env D acc) (F : Free fix kp φ h fp) (V : EnvOk c sc nm ρ env fix kp φ) (l0 : Le kp0 kp) : CSt c fix' kp0 (cut kp' fp) φ' G' s' sc nm ρ' env D acc ∧ Free fix' (cut kp' fp) φ' s'.heap fp :=
  C.acc.elim fun xs a => a.elim fun n a => ⟨⟨F.le l0 C.le, ⟨(F.back C.le C.st.1).2, C.st.2⟩, V.cut F.kpN C.env, xs, n, a.1.less cut_le, a.2⟩, (F.back C.le C.st.1).1⟩
theorem CSt.lower (C : CSt c fix kp0 kp φ G s sc nm ρ' env D acc) (h : ∀ (i : Nat) (v : MV), ρ[i]? = some (some v) → ρ'[i]? = some (some v)) : CSt c fix kp0 kp φ G s sc nm ρ env D acc := ⟨C.le, C.st, C.env.lower h, C.acc⟩

noncomputable def compBody (elt : PySem.Expr) (gens : List Comprehension) (scope : Scope) (pos : Pos) (dp : Nat) (acc : Value) (env : Env) (k : Sem PySem.Fin) : Sem PySem.Fin :=
  match gens[dp]? with
  | some g' => do
    let x ← eval g'.iter env
    standAt g'.iter.pos
    let x ← if g'.is_async != 0 then foldedIterable g'.iter x else foldedSetIterable g'.iter env x
    let _ ← runOwn (.compStart (.ListComp elt gens scope pos) dp (← holding [x] (if g'.is_async != 0 then asyncIter x else pyIter x)) acc env) env
    k
  | none => do
    (do let _ ← call (.builtin "list.append") [acc, ← eval elt env])
    k

theorem compTurn_eq {elt : PySem.Expr} {gens : List Comprehension} {scope : Scope} {pos : Pos} {dp : Nat} {it acc : Value} {env : Env} {g : Comprehension} (hg : gens[dp]? = some g) (ha : g.is_async = 0) :
    compTurn (.ListComp elt gens scope pos) dp it acc env = (do
      standAt g.iter.pos
      match ← pyNext it with
      | none => pure (.done .next)
      | some v =>
        letOwnedTupleGo g.target it v
        assign g.target env v
        let ok ← ifsT env g.ifs true
        if ok then compBody elt gens scope pos (dp + 1) acc env (again (.compLoop (.ListComp elt gens scope pos) dp it acc env))
        else again (.compLoop (.ListComp elt gens scope pos) dp it acc env)) := by
  unfold compTurn compBody ifsT
  simp only [hg, ha, bne_self_eq_false, Bool.false_eq_true, if_false]
  rfl

theorem compStart_ok {elt : PySem.Expr} {gens : List Comprehension} {scope : Scope} {pos : Pos} {dp : Nat} {it acc : Value} {env : Env} {g : Comprehension} {R : Result → Shared → Prop} (hg : gens[dp]? = some g) (ha : g.is_async = 0)
    (h0 : codeAny c.M A (.compLoop (.ListComp elt gens scope pos) dp it acc env) R s)
    (h : ∀ E, wpAny c.M A (pyIter it) (fun it' s' => codeAny c.M A (.compLoop (.ListComp elt gens scope pos) dp it' acc env) R s') E s) :
    codeAny c.M A (.compStart (.ListComp elt gens scope pos) dp it acc env) R s := by
  refine codeAny_of_tree ?_
  show wpAny _ A ((compStart (.ListComp elt gens scope pos) dp it acc env).onRaise (fun x => do noteFrame x env; standAt theWindowsPlace)) _ _ s
  refine wpAny_notedAt ?_
  unfold compStart
  have e : (clausesOf (.ListComp elt gens scope pos))[dp]? = some g := hg
  rw [e]
  have e2 : (some g).elim false (fun x : Comprehension => x.is_async != 0) = false := by rw [Option.elim_some, ha]; rfl
  rw [e2]
  simp only [Bool.false_eq_true, if_false]
  refine wpAny_bind (wpAny_askSetting ?_)
  split
  · first
      | exact wpAny_bind (wpAny_pure (wpAny_pure (And.intro rfl h0)))
      | exact wpAny_pure (And.intro rfl h0)
  · refine wpAny_bind (wpAny_rule (wpAny_bind (wpAny_standAt (wpAny_bind (wpAny_mono (h _) (fun it' s' h' => wpAny_pure (And.intro rfl h')) fun _ _ x => x)))))
end
end Mine
end
section
set_option autoImplicit false
set_option linter.unusedSectionVars false
set_option linter.unusedVariables false
namespace Mine
open PySem PySem.W PyProof.Rows PySem.Calls

noncomputable def BodyOk (c : CX) (X : Ctx) (d : Nat) (gs : List MG) (eltM : ME) : Prop :=
  ∀ {sc0 : Sp} {nm0 : Nm} {sc : Sp} {nm : Nm} {nb : Nat} {ρ : Lo} {env : Env} {A : Around} {fix kp0 kp : Kp} {φ : List Addr} {G G' : GH} {s : Shared} {D : Addr} {acc acc' : List MV} {elt : PySem.Expr} {gens : List Comprehension} {scope : Scope} {pos : Pos} {dp : Nat} {k : Sem PySem.Fin},
  chkGs c.S gs false sc0 nm0 sc nm nb (gens.drop dp) = true → chkE c.S eltM sc nm elt = true → mC X gs (fun ρ' G' => mE X eltM ρ' G') ρ G acc = some (acc', G') → (∀ i ∈ gs.flatMap tgtG, ∀ v, ρ[i]? ≠ some (some v)) → (gs.flatMap tgtG).Nodup →
  Own sc nm nb env kp0 → CSt c fix kp0 kp φ G s sc nm ρ env D acc → AOk A d → ∀ {E : Value → Shared → Prop} {Q : PySem.Fin → Shared → Prop},
  (∀ fix' kp' φ' s', Le fix fix' → φ <+: φ' → CSt c fix' kp0 kp' φ' G' s' sc nm ρ env D acc' → wpAny c.M A k Q E s') → wpAny c.M A (compBody elt gens scope pos dp (.ref D) env k) Q E s

section
variable {c : CX} {X : Ctx} {d nb : Nat} {A : Around} {fix kp kp0 fix' kp' : Kp} {φ φ' : List Addr} {G G' : GH} {s s' : Shared} {sc : Sp} {nm : Nm} {ρ ρ' : Lo} {env : Env} {fp : List (Addr × Obj)} {D : Addr} {acc acc' : List MV}

theorem setAll_spec : ∀ {is : List Nat} {vs : List MV} {ρ ρ' : Lo}, setAll ρ is vs = some ρ' → ∀ j, j ∉ is → ρ'[j]? = ρ[j]?
  | [], vs, ρ, ρ', h, j, _ => setAll_nil (P := fun _ => ρ'[j]? = ρ[j]?) h fun e => e ▸ rfl
  | i :: is, vs, ρ, ρ', h, j, hj => setAll_cons (P := fun _ => ρ'[j]? = ρ[j]?) h fun v r ρ1 h1 h2 => (setAll_spec h2 j fun m => hj (.tail _ m)).trans ((set1_get (j := j) h1).2.2 fun e => hj (e ▸ .head _))
theorem asgO_spec {one : Bool} {tgt : List Nat} {v : MV} (h : asgO one tgt v ρ = some ρ') (j : Nat) (hj : j ∉ tgt) : ρ'[j]? = ρ[j]? := match one, h with
  | true, h => asgO_one (P := fun tgt => j ∉ tgt → ρ'[j]? = ρ[j]?) h (fun i h hj => (set1_get (j := j) h).2.2 fun e => hj (e ▸ .head _)) hj
  | false, h => asgO_tup (P := fun _ => ρ'[j]? = ρ[j]?) h fun l h => setAll_spec h j hj
theorem tgtE_fit {one : Bool} {tgt : List Nat} {t : PySem.Expr} (h : tgtE sc nm one tgt t = true) : tgtFit one t := match one, h with
  | true, h => kENam (P := tgtFit true) (k := fun x _ => q1 tgt fun i => tgtOk sc nm i x) h fun _ _ _ => ⟨_, _, rfl⟩
  | false, h => kETup (P := tgtFit false) (k := fun ts _ _ => tgtsOk sc nm tgt ts) h fun _ _ _ _ => ⟨_, _, _, rfl⟩

noncomputable def stepC (X : Ctx) (one : Bool) (tgt : List Nat) (ifs : List ME) (gs : List MG) (eltM : ME) (ρ : Lo) : MV → GH → List MV → Option (List MV × GH) := fun v G acc => (asgO one tgt v ρ).bind fun ρ' =>
  onB (mAnd X ifs ρ' G) (fun G2 => mC X gs (fun ρ' G' => mE X eltM ρ' G') ρ' G2 acc) fun G2 => some (acc, G2)
theorem loopC_nil {gd : Gd} {st : MV → GH → List MV → Option (List MV × GH)} {r : List MV × GH} {P : List MV × GH → Prop} (h : loopC gd st [] G acc = some r) (g : gdOk G gd = true → P (acc, G)) : P r :=
  oif (p := gdOk G gd = true) h fun h1 h => Option.some.inj h ▸ g h1
theorem loopC_k {gd : Gd} {st : MV → GH → List MV → Option (List MV × GH)} {x : Itm} {l : List Itm} {r : List MV × GH} {P : Prop} (h : loopC gd st (x :: l) G acc = some r) (g : ∀ v acc2 G2, gdOk G gd = true → fetch G gd x = some v → st v G acc = some (acc2, G2) → loopC gd st l G2 acc2 = some r → P) : P :=
  oif (p := gdOk G gd = true) h fun h1 h => obk (o := fetch G gd x) h fun v h2 h => obk (o := st v G acc) h fun p h3 h => g v p.1 p.2 h1 h2 h3 h
theorem stepC_k {one : Bool} {tgt : List Nat} {ifs : List ME} {gs : List MG} {eltM : ME} {v : MV} {r : List MV} {P : Prop} (h : stepC X one tgt ifs gs eltM ρ v G acc = some (r, G')) (g1 : ∀ ρ1 G3, asgO one tgt v ρ = some ρ1 → mAnd X ifs ρ1 G = some (.bool true, G3) → mC X gs (fun ρ' G' => mE X eltM ρ' G') ρ1 G3 acc = some (r, G') → P)
    (g2 : ∀ ρ1, asgO one tgt v ρ = some ρ1 → mAnd X ifs ρ1 G = some (.bool false, G') → r = acc → P) : P :=
  obk (o := asgO one tgt v ρ) h fun ρ1 h1 h => onBk h (fun G3 h2 h => g1 ρ1 G3 h1 h2 h) fun G3 h2 h => opk (P := fun r G' => (mAnd X ifs ρ1 G = some (.bool false, G') → r = acc → P) → P) h (fun g => g h2 rfl) (g2 ρ1 h1)

inductive CInv (c : CX) (fix : Kp) (kp0 : Kp) (φ : List Addr) (G' : GH) (sc : Sp) (nm : Nm) (ρ : Lo) (env : Env) (D : Addr) (acc' : List MV) (gd : Gd) (st : MV → GH → List MV → Option (List MV × GH)) (it : Value) (one : Bool) (n : Nat) (s : Shared) : Prop
  | mk {fix1 kp1 : Kp} {φ1 : List Addr} {G1 : GH} {acc1 : List MV} {items1 : List Itm} {fp1 : List (Addr × Obj)} : Le fix fix1 → φ <+: φ1 → loopC gd st items1 G1 acc1 = some (acc', G') → CSt c fix1 kp0 kp1 φ1 G1 s sc nm ρ env D acc1 → ItOk c fix1 kp1 φ1 s.heap it gd items1 fp1 → (∀ p ∈ fp1, p.1 ≠ D) → (one = true → fp1.length = 1) → items1.length = n →
      CInv c fix kp0 φ G' sc nm ρ env D acc' gd st it one n s
structure LpF (c : CX) (X : Ctx) (d : Nat) (gs : List MG) (eltM : ME) (tgt : List Nat) (one : Bool) (ifs : List ME) (sc0 : Sp) (nm0 : Nm) (sc : Sp) (nm : Nm) (nb : Nat) (ρ : Lo) (elt : PySem.Expr) (gens : List Comprehension) (dp : Nat) (g : Comprehension) : Prop where
  hB : BodyOk c X d gs eltM
  hI : AllK c X d ifs
  hg : gens[dp]? = some g
  ha : g.is_async = 0
  ht : tgtE sc nm one tgt g.target = true
  hnb : ∀ i ∈ tgt, nb ≤ i
  hci : chkTs c.S ifs sc nm g.ifs = true
  hcg : chkGs c.S gs false sc0 nm0 sc nm nb (gens.drop (dp + 1)) = true
  hce : chkE c.S eltM sc nm elt = true
  hnd : (tgt ++ gs.flatMap tgtG).Nodup
  hfree : ∀ i ∈ tgt ++ gs.flatMap tgtG, ∀ v, ρ[i]? ≠ some (some v)

section
variable {gs : List MG} {eltM : ME} {tgt : List Nat} {one : Bool} {ifs : List ME} {sc0 : Sp} {nm0 : Nm} {elt : PySem.Expr} {gens : List Comprehension} {scope : Scope} {pos : Pos} {dp : Nat} {g : Comprehension} {it : Value} {gd : Gd} {items : List Itm} {E : Value → Shared → Prop}
theorem comp_one (F : LpF c X d gs eltM tgt one ifs sc0 nm0 sc nm nb ρ elt gens dp g) (W : Own sc nm nb env kp0) (hA : AOk A d) {v : MV} {y : Value} (hst : stepC X one tgt ifs gs eltM ρ v G acc = some (acc', G')) (C : CSt c fix kp0 kp φ G s sc nm ρ env D acc) (vy : c.VR fix φ v y) {k : Sem PySem.Fin} {Q : PySem.Fin → Shared → Prop}
    (q : ∀ fix' kp' φ' s', Le fix fix' → φ <+: φ' → CSt c fix' kp0 kp' φ' G' s' sc nm ρ env D acc' → wpAny c.M A k Q E s') :
    wpAny c.M A (assign g.target env y) (fun _ s' => wpAny c.M A (do let ok ← ifsT env g.ifs true; if ok then compBody elt gens scope pos (dp + 1) (.ref D) env k else k) Q E s') E s := by
  refine C.openK (nb := nb) fun o S2 V2 le2 own2 FD close => ?_
  have key : ∀ {ρ1 : Lo}, asgO one tgt v ρ = some ρ1 → (∀ fix' kp' φ' s' b G3, mAnd X ifs ρ1 G = some (.bool b, G3) → Le fix fix' → φ <+: φ' → CSt c fix' kp0 kp' φ' G3 s' sc nm ρ1 env D acc → wpAny c.M A (if b then compBody elt gens scope pos (dp + 1) (.ref D) env k else k) Q E s') → ∀ {b : Bool} {G3 : GH}, mAnd X ifs ρ1 G = some (.bool b, G3) →
      wpAny c.M A (assign g.target env y) (fun _ s' => wpAny c.M A (do let ok ← ifsT env g.ifs true; if ok then compBody elt gens scope pos (dp + 1) (.ref D) env k else k) Q E s') E s := fun has h b G3 hand =>
    target_ok hA.handled V2 S2 (own2 W) le2 F.hnb F.ht has vy fun kp6 s6 le6 S6 V6 => wpAny_bind (row_ok row_ifs hA F.hI F.hci hand V6 S6 E _ fun fix7 φ7 b' s7 l7 p7 S7 hb => by
      rw [MV.bool.inj hb]
      exact h fix7 _ φ7 s7 b G3 hand l7 p7 (close l7 p7 le6 S7 (V6.mono l7 p7)))
  have hlow : ∀ {ρ1 : Lo}, asgO one tgt v ρ = some ρ1 → ∀ (i : Nat) (v : MV), ρ[i]? = some (some v) → ρ1[i]? = some (some v) := fun has i v e => (asgO_spec has i fun m => F.hfree i (List.mem_append_left _ m) v e).trans e
  refine stepC_k hst (fun ρ1 G3 has hand hmc => key has (fun fix7 kp7 φ7 s7 b G4 hb l7 p7 C7 => ?_) hand) fun ρ1 has hand hr => key has (fun fix7 kp7 φ7 s7 b G4 hb l7 p7 C7 => ?_) hand
  · obtain ⟨e1, e2⟩ := osome (hb.symm.trans hand)
    rw [MV.bool.inj e1, if_pos rfl]
    rw [e2] at C7
    have hn := List.nodup_append.mp F.hnd
    exact F.hB F.hcg F.hce hmc (fun i m v e => F.hfree i (List.mem_append_right _ m) v ((asgO_spec has i fun m' => hn.2.2 i m' i m rfl).symm.trans e)) hn.2.1 W C7 hA fun fix8 kp8 φ8 s8 l8 p8 C8 => q fix8 kp8 φ8 s8 (l7.trans l8) (p7.trans p8) (C8.lower (hlow has))
  · obtain ⟨e1, e2⟩ := osome (hb.symm.trans hand)
    rw [MV.bool.inj e1, if_neg (by decide)]
    rw [e2] at C7
    rw [hr] at q
    exact q fix7 kp7 φ7 s7 l7 p7 (C7.lower (hlow has))
theorem comp_loop (F : LpF c X d gs eltM tgt one ifs sc0 nm0 sc nm nb ρ elt gens dp g) (W : Own sc nm nb env kp0) (hA : AOk A d)
    (hl : loopC gd (stepC X one tgt ifs gs eltM ρ) items G acc = some (acc', G')) (C : CSt c fix kp0 kp φ G s sc nm ρ env D acc) (I : ItOk c fix kp φ s.heap it gd items fp) (hfp : one = true → fp.length = 1) (hfD : ∀ p ∈ fp, p.1 ≠ D) {R : Result → Shared → Prop}
    (hR : ∀ fix' kp' φ' s', Le fix fix' → φ <+: φ' → CSt c fix' kp0 kp' φ' G' s' sc nm ρ env D acc' → R (.ok .next) s') : codeAny c.M A (.compLoop (.ListComp elt gens scope pos) dp it (.ref D) env) R s := by
  refine codeAny_loop rfl (CInv c fix kp0 φ G' sc nm ρ env D acc' gd (stepC X one tgt ifs gs eltM ρ) it one) ?_ items.length (.mk (Le.refl _) (List.prefix_refl _) hl C I hfD hfp rfl)
  intro n s1 inv
  cases inv with
  | @mk fix1 kp1 φ1 G1 acc1 items1 fp1 le1 pre1 hl1 C1 I1 hfD1 hfp1 hn =>
  clear hl C I hfp hfD
  show wpAny _ A ((compTurn (.ListComp elt gens scope pos) dp it (.ref D) env).onRaise (fun x => do noteFrame x env; theTreesLotGoes x)) _ _ s1
  refine wpAny_noted ?_
  rw [compTurn_eq F.hg F.ha]
  refine wpAny_bind (wpAny_standAt ?_)
  refine C1.openK (nb := nb) fun o S2 V2 le2 own2 FD close => ?_
  have hkD : ∀ {fp : List (Addr × Obj)}, (∀ p ∈ fp, holdL kp1 [(D, o)] p.1 = none) → ∀ p ∈ fp, p.1 ≠ D := fun h p hp e => noS ((h p hp).symm.trans ((congrArg (holdL kp1 [(D, o)]) e).trans (FD.holdAt (.head _))))
  have I2 : ItOk c fix1 (holdL kp1 [(D, o)]) φ1 s1.heap it gd items1 fp1 := .of I1.d fun p hp => ⟨(I1.Free p hp).1, (I1.Free p hp).2.1, (holdL_out (allOne (Ne.symm (hfD1 p hp)))).trans (I1.Free p hp).2.2.1, (I1.Free p hp).2.2.2⟩
  clear I1 hfD1
  cases items1 with
  | nil =>
    refine loopC_nil (P := fun r => r = (acc', G') → _) hl1 (fun hgd e => ?_) rfl
    refine wpAny_bind (it_end I2 S2 hgd hA.handled fun s2 S3 => wpAny_pure (hR _ (cut (holdL kp1 [(D, o)]) [(D, o)]) _ _ le1 pre1 ?_))
    exact pairK' (P := fun acc' G' => CSt c fix1 kp0 (cut (holdL kp1 [(D, o)]) [(D, o)]) φ1 G' s2 sc nm ρ env D acc') e (close (Le.refl _) (List.prefix_refl _) le2 S3 V2)
  | cons x items2 =>
    refine loopC_k hl1 fun v acc2 G2 hgd hv hst hl2 => ?_
    refine wpAny_bind (it_step I2 S2 hgd hv (tgtE_fit F.ht) hfp1 fun fix2 y s2 fp2 l2 S3 vy I3 hlen => wpAny_bind ?_)
    have C3 := close l2 (List.prefix_refl _) le2 S3 (V2.mono l2 (List.prefix_refl _))
    have hfD2 := hkD fun p hp => (I3.Free p hp).2.2.1
    have I4 : Free fix2 (cut (holdL kp1 [(D, o)]) [(D, o)]) φ1 s2.heap fp2 := I3.Free.less cut_le
    exact comp_one F (W.hold C3.env I4.kpN) hA hst (C3.holdI I4 hfD2) vy fun fix8 kp8 φ8 s8 l8 p8 C8 => wpAny_pure ⟨rfl, items2.length, hn ▸ Nat.lt_succ_self _,
        .mk ((le1.trans l2).trans l8) (pre1.trans p8) hl2 (C8.dropI I4 C3.env C3.le).1 (.of (I3.d.mono l8 p8) (C8.dropI I4 C3.env C3.le).2) hfD2 (fun h => hlen.trans (hfp1 h)) rfl⟩
end
end
end Mine
end
section
set_option autoImplicit false
set_option linter.unusedSectionVars false
set_option linter.unusedVariables false
namespace Mine
open PySem PySem.W PyProof.Rows PySem.Calls

noncomputable def GK (c : CX) (X : Ctx) (d : Nat) : MG → Prop
  | .mk _ _ _ srcs ifs => AllK c X d srcs ∧ AllK c X d ifs

section
variable {c : CX} {X : Ctx} {d : Nat}

theorem drop_nil {α : Type} {l : List α} {n : Nat} (h : l.drop n = []) : l[n]? = none := List.getElem?_eq_none_iff.mpr (List.drop_eq_nil_iff.mp h)

section
variable {sc0 : Sp} {nm0 : Nm} {sc : Sp} {nm : Nm} {nb : Nat} {ρ : Lo} {env : Env} {A : Around} {fix kp0 kp : Kp} {φ : List Addr} {G G' : GH} {s : Shared} {D : Addr} {acc acc' : List MV} {elt : PySem.Expr} {gens : List Comprehension} {scope : Scope} {pos : Pos} {dp : Nat} {k : Sem PySem.Fin} {E : Value → Shared → Prop}
theorem app_ok {v : MV} {y : Value}
    (C : CSt c fix kp0 kp φ G s sc nm ρ env D acc) (vy : c.VR fix φ v y) (hz : acc.length < 4096) {Q : Value → Shared → Prop}
    (q : ∀ s' z, CSt c fix kp0 kp φ G s' sc nm ρ env D (acc ++ [v]) → Q z s') : wpAny c.M A (call (.builtin "list.append") [.ref D, y]) Q E s :=
  C.acc.elim fun xs a => a.elim fun n a => by
    have f := a.1 _ (.head _)
    refine wpAny_list_append_plain (hsz := sizeLine_ge (by rw [List.size_toArray, ← a.2.1.length]; exact Nat.le_trans (Nat.le_of_lt hz) (by decide))) ⟨n, f.1⟩ fun h' hp hs => hp.elim fun n' hn' => ?_
    refine q _ _ ⟨C.le, ⟨C.st.1.heap fun a o ha e => (hs.2 a fun q => ?_).trans e, C.st.2⟩, C.env, xs ++ [y], n', allOne ⟨?_, f.2⟩, a.2.1.append (.one vy), by rw [List.length_append]; exact hz⟩
    · rw [q] at ha
      rcases ha with ha | ha | ha
      · rw [f.2.1] at ha; exact noF ha
      · rw [f.2.2.1] at ha; exact noF ha
      · exact f.2.2.2 ha
    · show h'.get? D = some (lstObj (xs ++ [y]) n')
      rw [hn', List.push_toArray]
noncomputable def BodyG (c : CX) (A : Around) (E : Value → Shared → Prop) (elt : PySem.Expr) (gens : List Comprehension) (scope : Scope) (pos : Pos) (dp : Nat) (D : Addr) (env : Env) (k : Sem PySem.Fin) (fix kp0 : Kp) (φ : List Addr) (s : Shared) (sc : Sp) (nm : Nm) (ρ : Lo) (acc' : List MV) (G' : GH) : Prop :=
  ∀ {Q : PySem.Fin → Shared → Prop}, (∀ fix' kp' φ' s', Le fix fix' → φ <+: φ' → CSt c fix' kp0 kp' φ' G' s' sc nm ρ env D acc' → wpAny c.M A k Q E s') → wpAny c.M A (compBody elt gens scope pos dp (.ref D) env k) Q E s
theorem body_nil {eltM : ME} (hE : EK c X d eltM) (hcg : chkGs c.S [] false sc0 nm0 sc nm nb (gens.drop dp) = true) (hce : chkE c.S eltM sc nm elt = true) (hm : mC X [] (fun ρ' G' => mE X eltM ρ' G') ρ G acc = some (acc', G')) (C : CSt c fix kp0 kp φ G s sc nm ρ env D acc) (hA : AOk A d) :
    BodyG c A E elt gens scope pos dp D env k fix kp0 φ s sc nm ρ acc' G' :=
  iC_nil hm fun v G1 h1 hz e => pairK' (P := fun acc' G' => BodyG c A E elt gens scope pos dp D env k fix kp0 φ s sc nm ρ acc' G') e.symm fun q => by
    unfold compBody
    rw [drop_nil (List.isEmpty_iff.mp hcg)]
    exact C.openK (nb := nb) fun o S2 V2 le2 _ FD close => wpAny_bind (wpAny_bind (hE.1 hce h1 V2 S2 hA E _ fun f1 p1 y s1 l1 q1 S1 r1 => wpAny_bind (app_ok (close l1 q1 le2 S1 (V2.mono l1 q1)) r1 hz fun s' z C' => wpAny_pure (q _ _ _ _ l1 q1 C'))))
theorem cGs_k {g : MG} {r : List MG} {b : Bool} {S : Sta} {ys : List Comprehension} {P : Prop} (h : chkGs S (g :: r) b sc0 nm0 sc nm nb ys = true) (k : ∀ y t, ys = y :: t → chkG S g b sc0 nm0 sc nm nb y = true → chkGs S r false sc0 nm0 sc nm nb t = true → P) : P := match ys, h with
  | y :: t, h => k y t rfl (ott h).1 (ott h).2
theorem body_cons (O : c.Ok) {eltM : ME} {tgt : List Nat} {one : Bool} {sk : SK} {srcs ifs : List ME} {gs : List MG} (hB : BodyOk c X d gs eltM) (hG : GK c X d (.mk tgt one sk srcs ifs)) (hcg : chkGs c.S (.mk tgt one sk srcs ifs :: gs) false sc0 nm0 sc nm nb (gens.drop dp) = true) (hce : chkE c.S eltM sc nm elt = true)
    (hm : mC X (.mk tgt one sk srcs ifs :: gs) (fun ρ' G' => mE X eltM ρ' G') ρ G acc = some (acc', G')) (hfree : ∀ i ∈ (MG.mk tgt one sk srcs ifs :: gs).flatMap tgtG, ∀ v, ρ[i]? ≠ some (some v)) (hnd : ((MG.mk tgt one sk srcs ifs :: gs).flatMap tgtG).Nodup) (W : Own sc nm nb env kp0) (C : CSt c fix kp0 kp φ G s sc nm ρ env D acc) (hA : AOk A d) :
    BodyG c A E elt gens scope pos dp D env k fix kp0 φ s sc nm ρ acc' G' := fun {Q} q =>
  cGs_k hcg fun g gt hdr hc1 hrest => cG_one hc1 fun ha' hk1 ht hnb' hsrc hci => iC_cons hm fun vs G1 gd items h1 hs hm => by
    have hg := dropCons hdr
    unfold compBody
    rw [hg.1]
    simp only [ha', bne_self_eq_false, Bool.false_eq_true, if_false]
    refine C.openK (nb := nb) fun o S2 V2 le2 _ FD close => ?_
    refine wpAny_bind (wpAny_mono (src_ok O hG.1 hsrc h1 hs V2 S2 hA (E := E) (Q := fun it s2 => wpAny c.M A (runOwn (.compStart (.ListComp elt gens scope pos) dp it (.ref D) env) env) (fun _ s' => wpAny c.M A k Q E s') E s2) fun f1 p1 it s2 fp l1 q1 S1 I hfp => ?_) (fun x s1 hx => ?_) fun _ _ e => e)
    · have C1 := close l1 q1 le2 S1 (V2.mono l1 q1)
      have hfD : ∀ p ∈ fp, p.1 ≠ D := fun p hp e => noS ((I.Free p hp).2.2.1.symm.trans ((congrArg (holdL kp [(D, o)]) e).trans (FD.holdAt (.head _))))
      have I1 : ItOk c f1 (cut (holdL kp [(D, o)]) [(D, o)]) p1 s2.heap it gd items fp := .of I.d (I.Free.less cut_le)
      have F : LpF c X d gs eltM tgt one ifs sc0 nm0 sc nm nb ρ elt gens dp g := ⟨hB, hG.2, hg.1, ha', ht, hnb', hci, hg.2.symm ▸ hrest, hce, hnd, hfree⟩
      have loop := comp_loop (scope := scope) (pos := pos) (R := fun r s' => match r with | .ok f => wpAny c.M A k Q E s' | .error e => cameBackBy c.M A env E e s') F W hA hm C1 I1 (fun h => hfp (h ▸ hk1)) hfD
        fun f3 k3 p3 s3 l3 q3 C3 => q f3 k3 p3 s3 (l1.trans l3) (q1.trans q3) C3
      exact wpAny_runOwn (compStart_ok hg.1 ha' loop fun E' => it_self I1 loop)
    · exact wpAny_bind (wpAny_standAt (wpAny_bind (wpAny_of_eq (foldedSet_ok (srcSet hsrc) x) (wpAny_bind (wpAny_holding (wpAny_mono hx (fun it s2 hi => wpAny_bind hi) fun _ _ e => e))))))
end
theorem body_ok (O : c.Ok) {eltM : ME} (hE : EK c X d eltM) : ∀ {gs : List MG} (hG : ∀ g ∈ gs, GK c X d g), BodyOk c X d gs eltM := fun {gs} => List.rec (motive := fun gs => (∀ g ∈ gs, GK c X d g) → BodyOk c X d gs eltM)
  (fun _ => fun hcg hce hm _ _ _ C hA _ _ q => body_nil hE hcg hce hm C hA q)
  (fun g gs ih hG => match g, hG with
    | .mk _ _ _ _ _, hG => fun hcg hce hm hfree hnd W C hA _ _ q => body_cons O (ih fun g hg => hG g (.tail _ hg)) (hG _ (.head _)) hcg hce hm hfree hnd W C hA q) gs
end
end Mine
end
section
set_option autoImplicit false
set_option linter.unusedSectionVars false
set_option linter.unusedVariables false
namespace Mine
open PySem PySem.W PyProof.Rows PySem.Calls

section
variable {c : CX} {X : Ctx} {d : Nat}

theorem lookup_of_mem {α : Type} : ∀ {l : List (Str × α)} {n : Str} {k : α}, (l.map (·.1)).Nodup → (n, k) ∈ l → l.lookup n = some k
  | (m, j) :: r, n, k, hn, h0 => by
    have hn := List.nodup_cons.mp (show (m :: r.map (·.1)).Nodup from hn)
    rcases List.mem_cons.mp h0 with e | h
    · rw [← e, List.lookup_cons, beq_self_eq_true]
    · rw [List.lookup_cons, beq_eq_false_iff_ne.mpr fun (e : n = m) => hn.1 (List.mem_map.mpr ⟨(n, k), h, e⟩)]
      exact lookup_of_mem hn.2 h
theorem chkGs_nb {S : Sta} {sc0 sc : Sp} {nm0 nm : Nm} {nb : Nat} : ∀ {gs : List MG} {b : Bool} {xs : List Comprehension}, chkGs S gs b sc0 nm0 sc nm nb xs = true → ∀ i ∈ gs.flatMap tgtG, nb ≤ i
  | [], _, _, _, i, hi => absurd hi List.not_mem_nil
  | .mk tgt one k srcs ifs :: gs, b, xs, h, i, hi => cGs_k h fun _ _ _ h1 h2 => by
    rw [List.flatMap_cons, List.mem_append] at hi
    exact hi.elim (fun hi => cG_one h1 fun _ _ _ h4 _ _ => h4 i hi) fun hi => chkGs_nb h2 i hi

section
variable {sc : Sp} {nm : Nm} {ρ : Lo} {env : Env} {A : Around} {fix kp : Kp} {φ : List Addr} {G G' : GH} {s : Shared} {elt : PySem.Expr} {gens : List Comprehension} {scope : Scope} {pos p : Pos} {v : MV} {use : Option (Value → Sem Unit)} {E : Value → Shared → Prop} {Q : Value → Shared → Prop}
noncomputable def CompQ (c : CX) (A : Around) (fix kp : Kp) (φ : List Addr) (G' : GH) (v : MV) (E : Value → Shared → Prop) (use : Option (Value → Sem Unit)) (Q : Value → Shared → Prop) : Prop :=
  ∀ fix' kp' φ' y C s', Le fix fix' → φ <+: φ' → Le kp kp' → St c fix' kp' φ' G' s' → c.VR fix' φ' v y → kp C = none → (∃ o es ep, kp' C = some o ∧ o.data = .dict es ep ∧ StrKeys es) → compPost c.M A E use Q y C (.ok .next) s'
theorem comp_fin {m : Bool} {f1 k5 kp : Kp} {p1 : List Addr} {l : List MV} {G1 : GH} {s5 : Shared} {sc5 : Sp} {nm5 : Nm} {ρ5 : Lo} {env5 : Env} {kp0 : Kp} {D C : Addr} (h : (v, G') = mkL m l G1) (C5 : CSt c f1 kp0 k5 p1 G1 s5 sc5 nm5 ρ5 env5 D l) (l1 : Le fix f1) (q1 : φ <+: p1) (hD : sysModules < D) (hkC : kp C = none) (hk : Le kp k5) (fr : ∃ o es ep, k5 C = some o ∧ o.data = .dict es ep ∧ StrKeys es) (q : CompQ c A fix kp φ G' v E use Q) : compPost c.M A E use Q (.ref D) C (.ok .next) s5 :=
  C5.acc.elim fun xs a => a.elim fun n a => by
    have e := a.1 _ (.head _)
    cases m with
    | false =>
      refine pairK' (P := fun v G' => CompQ c A fix kp φ G' v E use Q → _) h.symm (fun q => ?_) q
      obtain ⟨R', l'⟩ := C5.st.1.freeze e.1 e.2.2.1 e.2.2.2 e.2.1
      exact q _ k5 p1 _ _ s5 (l1.trans l') q1 hk ⟨R', C5.st.2⟩ (.lst (upd_self _ _ _) (a.2.1.mono l' (List.prefix_refl _)) a.2.2) hkC fr
    | true =>
      refine pairK' (P := fun v G' => CompQ c A fix kp φ G' v E use Q → _) h.symm (fun q => ?_) q
      have R' := C5.st.1.grow e.1 e.2.1 e.2.2.1 e.2.2.2 (g := .lst l) ⟨xs, n, rfl, a.2.1.mono (Le.refl _) (List.prefix_append _ _), a.2.2⟩ hD
      exact q _ k5 _ _ _ s5 l1 (q1.trans (List.prefix_append _ _)) hk ⟨R', C5.st.2⟩ (.ref (C5.st.newAt _)) hkC fr
theorem comp_core (O : c.Ok) {m : Bool} {k : Nat} {eltM : ME} {gs : List MG} (hE : EK c X d eltM) (hG : ∀ g ∈ gs, GK c X d g)
    (hc : chkE c.S (.comp m k eltM gs) sc nm (.ListComp elt gens scope pos) = true) (hm : mE X (.comp m k eltM gs) ρ G = some (v, G')) (V : EnvOk c sc nm ρ env fix kp φ) (S : St c fix kp φ G s) (hA : AOk A d)
    (q : CompQ c A fix kp φ G' v E use Q) :
    wpAny c.M A (comprehension (.ListComp elt gens scope pos) scope env p (newList []) false (firstIter gens env) use) Q E s :=
  cC_facts hc fun hkind hso hlen hun hfst hnf hnd hcg hce => match gs, hcg, hG, hnd, hm with
  | [], hcg, _, _, _ => by
    cases gens with
    | nil => exact ft hfst
    | cons g gt => exact ft hcg
  | .mk tgt one sk srcs ifs :: gs, hcg, hG, hnd, hm => cGs_k hcg fun g gt hgens hc1 hrest => cG_one hc1 fun ha' hk1 ht hnb' hsrc hci => iE_comp hm fun l G1 hmc hl4 hmk => iC_cons hmc fun vs G2 gd items h1 hs hmc => by
    have hGK := hG _ (.head _)
    have V0 : EnvOk c sc nm (ρ ++ List.replicate k none) env fix kp φ := V.lower fun i v e => rep_none e
    have hfree : ∀ i ∈ (MG.mk tgt one sk srcs ifs :: gs).flatMap tgtG, ∀ v, (ρ ++ List.replicate k none)[i]? ≠ some (some v) := fun i hi v e => absurd (V0.len i v e) (Nat.not_lt.mpr (chkGs_nb hcg i hi))
    obtain ⟨cl, hclo, hcl⟩ := closureFor_ok V hso
    rw [hgens] at hlen hun hnf hrest hc1 ht hci hce ⊢
    refine wpAny_comprehension_free (g := g) (gs := gt) rfl (foldedSet_ok (srcSet hsrc)) hclo hkind (fun x hx hl => hl ▸ lookup_of_mem (of_decide_eq_true (ott hso).1) hx) ?_
    rw [show firstIter (g :: gt) env = eval g.iter env by cases g; rfl]
    refine src_ok O hGK.1 hsrc h1 hs V0 S hA fun f1 p1 it s1 fp l1 q1 S1 I hfp => ?_
    have V1 := V.mono l1 q1
    refine wpAny_newObj_type ?_ (show ([] : List Value).toArray.size ≤ sizeLine from Nat.zero_le _)
    have S2 : St c f1 kp p1 G2 { s1 with heap := s1.heap.push { cls := .type "list", dict := none, data := .seq ([] : List Value).toArray } } := ⟨S1.1.push _, S1.2⟩
    have nD := newFree S1 (Nat.le_refl _)
    refine newComp_ok V1 S2 hkind hso hun hnf hcl fun cenv s4 kp4 hCl l4 S4 V4 W4 hkpo hkeep => ?_
    have hsz : (s1.heap.push { cls := .type "list", dict := none, data := .seq ([] : List Value).toArray }).objs.size = s1.heap.objs.size + 1 := Heap.size_push ..
    have hDat : s4.heap.get? s1.heap.objs.size = some (lstObj [] 0) := hkeep _ _ (Heap.get?_push_size _ rfl)
    have hkD : kp4 s1.heap.objs.size = none := (hkpo _ (hsz ▸ Nat.lt_succ_self _)).trans nD.2.1
    have C0 : CSt c f1 kp kp4 p1 G2 s4 (relN sc scope.names) (maskN nm scope.names ++ (namesG (g :: gt)).map some) (ρ ++ List.replicate k none) { cenv with scope := relabel scope env } s1.heap.objs.size [] :=
      ⟨l4, S4, hlen ▸ V4, [], 0, allOne ⟨hDat, nD.1, hkD, nD.2.2⟩, .nil, Nat.zero_le _⟩
    have hlt : ∀ p ∈ fp, p.1 < s1.heap.objs.size := fun p hp => Heap.lt_size (I.Free p hp).1
    have I4 : ItOk c f1 kp4 p1 s4.heap it gd items fp := .of I.d fun p hp => ⟨hkeep _ _ (Heap.get?_push_of_some _ (I.Free p hp).1), (I.Free p hp).2.1, (hkpo _ (hsz ▸ Nat.lt_succ_of_lt (hlt p hp))).trans (I.Free p hp).2.2.1, (I.Free p hp).2.2.2⟩
    have F : LpF c X d gs eltM tgt one ifs sc nm (relN sc scope.names) (maskN nm scope.names ++ (namesG (g :: gt)).map some) nm.length (ρ ++ List.replicate k none) elt (g :: gt) 0 g := ⟨body_ok O hE (gs := gs) fun g hg => hG g (.tail _ hg), hGK.2, rfl, ha', ht, hnb', hci, hrest, hce, hnd, hfree⟩
    have loop := comp_loop (scope := scope) (pos := pos) (R := compPost c.M A E use Q (.ref s1.heap.objs.size) cenv.locals) F W4 hA hmc C0 I4 (fun h => hfp (h ▸ hk1)) (fun p hp => Nat.ne_of_lt (hlt p hp))
      fun f5 k5 p5 s5 l5 q5 C5 => comp_fin hmk C5 (l1.trans l5) (q1.trans q5) (S1.1.size (Nat.le_refl _)) W4.loc C5.le C5.env.frame q
    exact compStart_ok (g := g) rfl ha' loop fun E' => it_self I4 loop
end
end
end Mine
end
section
set_option autoImplicit false
set_option linter.unusedSectionVars false
set_option linter.unusedVariables false
namespace Mine
open PySem PySem.W PyProof.Rows PySem.Calls

section
variable {c : CX} {X : Ctx} {d : Nat}

theorem firstAsync_no {m : Bool} {k : Nat} {eltM : ME} {gs : List MG} {sc : Sp} {nm : Nm} {elt : PySem.Expr} {gens : List Comprehension} {scope : Scope} {pos : Pos}
    (hc : chkE c.S (.comp m k eltM gs) sc nm (.ListComp elt gens scope pos) = true) : firstAsync gens = false :=
  cC_facts hc fun _ _ _ _ hfst _ _ hcg _ => match gens, gs, hfst, hcg with
  | [], _, h, _ => ft h
  | _ :: _, [], _, h => ft h
  | ⟨t, i, f, a⟩ :: _, .mk _ _ _ _ _ :: _, _, h => cG_one (cG_cons h).1 fun (ha : a = 0) _ _ _ _ _ => ha ▸ rfl

theorem St.dropC {fix kp kp' : Kp} {φ : List Addr} {G : GH} {s : Shared} {C : Addr} {h' : Heap} (S : St c fix kp' φ G s) (l : Le kp kp') (hkC : kp C = none) {o : Obj} (h1 : kp' C = some o) (hs : Heap.SameBut C s.heap h') : St c fix kp φ G { s with heap := h' } := by
  refine ⟨(S.1.less l).heap fun a x ha e => (hs.2 a fun q => ?_).trans e, S.2⟩
  rw [q] at ha
  rcases ha with ha | ha | ha
  · rw [S.1.dj _ _ h1] at ha; exact noF ha
  · rw [hkC] at ha; exact noF ha
  · exact noS ((S.1.out _ ha).2.symm.trans h1)

theorem k_comp (O : c.Ok) {m : Bool} {k : Nat} {eltM : ME} {gs : List MG} (hE : EK c X d eltM) (hG : ∀ g ∈ gs, GK c X d g) : EK c X d (.comp m k eltM gs) := ⟨fun {sc nm ρ env A fix kp φ G G' s x v} hc hm V S hA => cE_comp (P := fun x => EvG c A fix kp φ x env s G' v) hc fun elt gens scope pos hc E Q q => by
  rw [eval_ListComp, firstAsync_no hc]
  exact comp_core O hE hG hc hm V S hA (use := none) fun f1 k1 p1 y C s1 l1 q1 lk S1 vy hkC fr => fr.elim fun o fr => fr.elim fun es fr => fr.elim fun ep h =>
    ⟨fun n => nsFind es n, ⟨o, es, ep, S1.1.kpK _ _ h.1, h.2.1, h.2.2, fun _ => rfl⟩, fun h' hs => q f1 p1 y _ l1 q1 (S1.dropC lk hkC h.1 hs) vy⟩, noT fun _ _ _ _ => rfl⟩

noncomputable def SrtOk (c : CX) (X : Ctx) (d : Nat) : Prop := ∀ a e m, EK c X d a → EK c X d e → EK c X d (.srtK a e m)

theorem eK (O : c.Ok) (hX : XOk c X) (hC : CallOk c X d) (hS : SrtOk c X d) (e : ME) : EK c X d e :=
  ME.rec (motive_1 := EK c X d) (motive_2 := GK c X d) (motive_3 := AllK c X d) (motive_4 := fun gs => ∀ g ∈ gs, GK c X d g)
    k_kN k_kB k_kI k_kS k_loc (k_gI O) (fun _ _ h => k_attr O hX h) (fun _ _ a b => k_sub O a b) (fun _ _ _ a b e => k_slc a b e) (fun _ a => k_rev a) (fun _ _ _ a b => k_bin a b) (fun _ a => k_neg a) (fun _ a => k_no a) (fun _ h => k_and h) (fun _ h => k_or h) (fun _ a => k_truth a)
    (fun _ _ _ a b => k_cmp a b) (fun _ _ _ _ _ a b e => k_cmp2 a b e) (fun _ _ _ a b e => k_ite a b e) (fun _ h => k_tup h) (fun _ _ h => k_lst h) (fun _ _ h => k_dct O h) k_dct0 (fun _ _ _ _ h hg => k_comp O h hg) (fun _ _ h => k_call O hC h) (fun _ _ h => k_new O hX hC h) (fun _ _ _ a h => k_meth O hX hC a h)
    (fun _ _ a => k_blt O a) (fun _ _ a b => k_app O a b) (fun _ a => k_pop O a) (fun _ _ _ a b e => k_get O a b e) (fun a e m ha he => hS a e m ha he) (fun _ _ _ _ => ⟨noE fun _ _ _ _ => rfl, noT fun _ _ _ _ => rfl⟩)
    (fun _ _ _ _ _ a b => ⟨a, b⟩) allNil (fun _ _ a b => allCons a b) allNil (fun _ _ a b => allCons a b) e
theorem esK (O : c.Ok) (hX : XOk c X) (hC : CallOk c X d) (hS : SrtOk c X d) (es : List ME) : AllK c X d es := fun e _ => eK O hX hC hS e
theorem gK (O : c.Ok) (hX : XOk c X) (hC : CallOk c X d) (hS : SrtOk c X d) : ∀ g : MG, GK c X d g
  | .mk _ _ _ srcs ifs => ⟨esK O hX hC hS srcs, esK O hX hC hS ifs⟩
theorem gsK (O : c.Ok) (hX : XOk c X) (hC : CallOk c X d) (hS : SrtOk c X d) (gs : List MG) : ∀ g ∈ gs, GK c X d g := fun g _ => gK O hX hC hS g
end
end Mine
end
section
set_option autoImplicit false
set_option linter.unusedSectionVars false
set_option linter.unusedVariables false
namespace Mine
open PySem PySem.W PyProof.Rows PySem.Calls

inductive FlR (c : CX) (fix : Kp) (φ : List Addr) : Fl → Flow → Prop
  | next : FlR c fix φ .next .next
  | brk : FlR c fix φ .brk .brk
  | cont : FlR c fix φ .cont .cont
  | ret {v : MV} {y : Value} : c.VR fix φ v y → FlR c fix φ (.ret v) (.ret y)
theorem FlR.mono {c : CX} {fix fix' : Kp} {φ φ' : List Addr} {a : Fl} {b : Flow} (h : FlR c fix φ a b) (l : Le fix fix') (p : φ <+: φ') : FlR c fix' φ' a b := by
  cases h with
  | next => exact .next
  | brk => exact .brk
  | cont => exact .cont
  | ret h => exact .ret (h.mono l p)

structure FSt (c : CX) (fix kp0 kp : Kp) (φ : List Addr) (G : GH) (s : Shared) (sc : Sp) (nm : Nm) (ρ : Lo) (env : Env) : Prop where
  le : Le kp0 kp
  st : St c fix kp φ G s
  env : EnvOk c sc nm ρ env fix kp φ

noncomputable def SQ (c : CX) (fix kp0 : Kp) (φ : List Addr) (G' : GH) (sc : Sp) (nm : Nm) (ρ' : Lo) (env : Env) (fl : Fl) (Q : Flow → Shared → Prop) : Prop := ∀ fix' kp' φ' f s', Le fix fix' → φ <+: φ' → FSt c fix' kp0 kp' φ' G' s' sc nm ρ' env → FlR c fix' φ' fl f → Q f s'
noncomputable def SG (c : CX) (A : Around) (fix kp0 : Kp) (φ : List Addr) (s : Shared) (sc : Sp) (nm : Nm) (env : Env) (G' : GH) (E : Value → Shared → Prop) (Q : Flow → Shared → Prop) (st : Stmt) (fl : Fl) (ρ' : Lo) : Prop := SQ c fix kp0 φ G' sc nm ρ' env fl Q → wpAny c.M A (exec st env) Q E s
noncomputable def SsG (c : CX) (A : Around) (fix kp0 : Kp) (φ : List Addr) (s : Shared) (sc : Sp) (nm : Nm) (env : Env) (E : Value → Shared → Prop) (Q : Flow → Shared → Prop) (sts : List Stmt) (fl : Fl) (ρ' : Lo) (G' : GH) : Prop := SQ c fix kp0 φ G' sc nm ρ' env fl Q → wpAny c.M A (execs sts env) Q E s
noncomputable def SOk (c : CX) (X : Ctx) (d : Nat) (x : MS) : Prop := ∀ {sc : Sp} {nm : Nm} {ρ ρ' : Lo} {env : Env} {A : Around} {fix kp0 kp : Kp} {φ : List Addr} {G G' : GH} {s : Shared} {st : Stmt} {fl : Fl},
  chkS c.S x sc nm st = true → mS X x ρ G = some (fl, ρ', G') → Own sc nm 0 env kp0 → FSt c fix kp0 kp φ G s sc nm ρ env → AOk A d → ∀ {E : Value → Shared → Prop} {Q : Flow → Shared → Prop}, SG c A fix kp0 φ s sc nm env G' E Q st fl ρ'
noncomputable def SsOk (c : CX) (X : Ctx) (d : Nat) (xs : List MS) : Prop := ∀ {sc : Sp} {nm : Nm} {ρ ρ' : Lo} {env : Env} {A : Around} {fix kp0 kp : Kp} {φ : List Addr} {G G' : GH} {s : Shared} {sts : List Stmt} {fl : Fl},
  chkSs c.S xs sc nm sts = true → mSs X xs ρ G = some (fl, ρ', G') → Own sc nm 0 env kp0 → FSt c fix kp0 kp φ G s sc nm ρ env → AOk A d → ∀ {E : Value → Shared → Prop} {Q : Flow → Shared → Prop}, SsG c A fix kp0 φ s sc nm env E Q sts fl ρ' G'

section
variable {c : CX} {X : Ctx} {d : Nat}

theorem iSs {X : Ctx} {x : MS} {r : List MS} {ρ ρ' : Lo} {G G' : GH} {fl : Fl} {P : Prop} (h : mSs X (x :: r) ρ G = some (fl, ρ', G')) (g1 : ∀ ρ1 G1, mS X x ρ G = some (.next, ρ1, G1) → mSs X r ρ1 G1 = some (fl, ρ', G') → P) (g2 : fl ≠ .next → mS X x ρ G = some (fl, ρ', G') → P) : P :=
  obk (o := mS X x ρ G) h fun o h1 h => by
    obtain ⟨f, ρ1, G1⟩ := o
    cases f with
    | next => exact g1 ρ1 G1 h1 h
    | brk => exact opk3 (P := fun fl ρ' G' => (fl ≠ .next → mS X x ρ G = some (fl, ρ', G') → P) → P) h (fun g => g nofun h1) g2
    | cont => exact opk3 (P := fun fl ρ' G' => (fl ≠ .next → mS X x ρ G = some (fl, ρ', G') → P) → P) h (fun g => g nofun h1) g2
    | ret v => exact opk3 (P := fun fl ρ' G' => (fl ≠ .next → mS X x ρ G = some (fl, ρ', G') → P) → P) h (fun g => g nofun h1) g2
theorem FlR.isNext {fix : Kp} {φ : List Addr} {f : Flow} (h : FlR c fix φ .next f) : f = .next := by cases h; rfl
theorem FlR.stop {fix : Kp} {φ : List Addr} {a : Fl} {f : Flow} (h : FlR c fix φ a f) (hn : a ≠ .next) : f ≠ .next := by
  cases h with
  | next => exact absurd rfl hn
  | _ => nofun
section
variable {sc : Sp} {nm : Nm} {ρ ρ' : Lo} {env : Env} {A : Around} {fix kp0 kp : Kp} {φ : List Addr} {G G' : GH} {s : Shared} {E : Value → Shared → Prop} {Q : Flow → Shared → Prop} {sts : List Stmt} {fl : Fl}
theorem ss_nil (hc : chkSs c.S [] sc nm sts = true) (hm : mSs X [] ρ G = some (fl, ρ', G')) (F : FSt c fix kp0 kp φ G s sc nm ρ env) : SsG c A fix kp0 φ s sc nm env E Q sts fl ρ' G' :=
  k0 (P := fun sts => SsG c A fix kp0 φ s sc nm env E Q sts fl ρ' G') hc (opk3 (P := SsG c A fix kp0 φ s sc nm env E Q []) hm fun q => wpAny_execs_nil (q fix kp φ _ s (Le.refl _) (List.prefix_refl _) F .next))
theorem cSs_k {S : Sta} {x : MS} {r : List MS} {P : List Stmt → Prop} (h : chkSs S (x :: r) sc nm sts = true) (g : ∀ y t, chkS S x sc nm y = true → chkSs S r sc nm t = true → P (y :: t)) : P sts := match sts, h with
  | y :: t, h => g y t (ott h).1 (ott h).2
theorem notNext {fo : Flow} {T : Prop} {s1 : Shared} (h : fo ≠ .next) (hq : Q fo s1) : (match (generalizing := false) fo with | .next => T | f => Q f s1 : Prop) := by
  cases fo with
  | next => exact absurd rfl h
  | _ => exact hq
theorem ss_cons {x : MS} {xs : List MS} (hx : SOk c X d x) (ih : SsOk c X d xs) (hc : chkSs c.S (x :: xs) sc nm sts = true) (hm : mSs X (x :: xs) ρ G = some (fl, ρ', G')) (W : Own sc nm 0 env kp0) (F : FSt c fix kp0 kp φ G s sc nm ρ env) (hA : AOk A d) : SsG c A fix kp0 φ s sc nm env E Q sts fl ρ' G' :=
  cSs_k (P := fun sts => SsG c A fix kp0 φ s sc nm env E Q sts fl ρ' G') hc fun st sts hc1 hc2 q => wpAny_execs_cons (iSs hm
    (fun ρ1 G1 h1 hm => hx hc1 h1 W F hA fun f1 k1 p1 fo s1 l1 q1 F1 r1 => by
      rw [r1.isNext]
      exact ih hc2 hm W F1 hA fun f2 k2 p2 fo2 s2 l2 q2 F2 r2 => q f2 k2 p2 fo2 s2 (l1.trans l2) (q1.trans q2) F2 r2)
    fun hne hm => hx hc1 hm W F hA fun f1 k1 p1 fo s1 l1 q1 F1 r1 => notNext (r1.stop hne) (q _ _ _ _ _ l1 q1 F1 r1))
theorem ss_ok : ∀ {xs : List MS} (h : ∀ x ∈ xs, SOk c X d x), SsOk c X d xs := fun {xs} => List.rec (motive := fun xs => (∀ x ∈ xs, SOk c X d x) → SsOk c X d xs) (fun _ => fun hc hm _ F _ => ss_nil hc hm F) (fun x xs ih h => fun hc hm W F hA => ss_cons (h x (.head _)) (ih fun y hy => h y (.tail _ hy)) hc hm W F hA) xs
end
section
variable {sc : Sp} {nm : Nm} {ρ ρ' : Lo} {env : Env} {A : Around} {fix kp0 kp : Kp} {φ : List Addr} {G G' : GH} {s : Shared}
theorem interactive_no (V : EnvOk c sc nm ρ env fix kp φ) : interactive env = false := by
  unfold interactive; rw [V.kind]; rfl

theorem notComp {x : PySem.Expr} {l : Nat} (h : isComp x = false) : swapsWith x none l env = pure false := by
  cases x <;> first | rfl | exact nomatch h
theorem s_expr {a : ME} (ha : EK c X d a) : SOk c X d (.expr a) := by
  intro sc nm ρ ρ' env A fix kp0 kp φ G G' s st fl hc hm W F hA E Q
  exact cS_expr (P := fun st => SG c A fix kp0 φ s sc nm env G' E Q st fl ρ') hc fun x pos c1 c2 => iS_expr (Pl := fun fl ρ' => SG c A fix kp0 φ s sc nm env G' E Q (.Expr x pos) fl ρ') hm fun v h1 q =>
    wpAny_Expr_any (ha.1 c1 h1 F.env F.st hA E _ fun f1 p1 y s1 l1 q1 S1 r1 => q f1 kp p1 _ s1 l1 q1 ⟨F.le, S1, F.env.mono l1 q1⟩ .next) (interactive_no F.env) (notComp c2)
theorem swaps_attr {value o : PySem.Expr} {n : Str} {p : Pos} {l : Nat} : swapsWith value (some (.Attribute o n p)) l env = pure false := by cases value <;> rfl
theorem swaps_sub {value o i : PySem.Expr} {p : Pos} {l : Nat} : swapsWith value (some (.Subscript o i p)) l env = pure false := by cases value <;> rfl
theorem swaps_tup {value : PySem.Expr} {ts : List PySem.Expr} {k : Nat} {p : Pos} {l : Nat} : swapsWithSole [.Tuple ts k p] value l env = pure false := by cases value <;> rfl

theorem s_asgA (O : c.Ok) (hX : XOk c X) {o a : ME} {k : Nat} (ho : EK c X d o) (ha : EK c X d a) : SOk c X d (.asgA o k a) := by
  intro sc nm ρ ρ' env A fix kp0 kp φ G G' s st fl hc hm W F hA E Q
  exact cS_asgA (P := fun st => SG c A fix kp0 φ s sc nm env G' E Q st fl ρ') hc fun y n p v pos c1 c2 c3 => iS_asgA (Pl := fun fl ρ' => SG c A fix kp0 φ s sc nm env G' E Q (.Assign [.Attribute y n p] v pos) fl ρ') hm fun x1 G1 v1 G2 h1 h2 h3 q =>
    plainObj_wpAny_Assign_Attribute (ha.1 c1 h1 F.env F.st hA E _ fun f1 p1 y s1 l1 q1 S1 r1 => ho.1 c2 h2 (F.env.mono l1 q1) S1 hA E _ fun f2 p2 z s2 l2 q2 S2 r2 =>
      aSet_ok O hX.atr c3 h3 S2 r2 (r1.mono l2 q2) E _ fun f3 p3 u s3 l3 q3 S3 _ => q f3 kp p3 _ s3 ((l1.trans l2).trans l3) ((q1.trans q2).trans q3) ⟨F.le, S3, F.env.mono ((l1.trans l2).trans l3) ((q1.trans q2).trans q3)⟩ .next) swaps_attr
theorem s_asgS (O : c.Ok) {o i a : ME} (ho : EK c X d o) (hi : EK c X d i) (ha : EK c X d a) : SOk c X d (.asgS o i a) := by
  intro sc nm ρ ρ' env A fix kp0 kp φ G G' s st fl hc hm W F hA E Q
  exact cS_asgS (P := fun st => SG c A fix kp0 φ s sc nm env G' E Q st fl ρ') hc fun y z p v pos c1 c2 c3 => iS_asgS (Pl := fun fl ρ' => SG c A fix kp0 φ s sc nm env G' E Q (.Assign [.Subscript y z p] v pos) fl ρ') hm fun x1 G1 v1 G2 w1 G3 h1 h2 h3 h4 q =>
    wpAny_Assign_Subscript (ha.1 c1 h1 F.env F.st hA E _ fun f1 p1 y s1 l1 q1 S1 r1 => ho.1 c2 h2 (F.env.mono l1 q1) S1 hA E _ fun f2 p2 z s2 l2 q2 S2 r2 => hi.1 c3 h3 (F.env.mono (l1.trans l2) (q1.trans q2)) S2 hA E _ fun f3 p3 u s3 l3 q3 S3 r3 =>
      subSet_ok O.tabN h4 S3 (r2.mono l3 q3) r3 (r1.mono (l2.trans l3) (q2.trans q3)) E _ fun f4 p4 u s4 l4 q4 S4 _ => q f4 kp p4 _ s4 (((l1.trans l2).trans l3).trans l4) (((q1.trans q2).trans q3).trans q4) ⟨F.le, S4, F.env.mono (((l1.trans l2).trans l3).trans l4) (((q1.trans q2).trans q3).trans q4)⟩ .next) swaps_sub
theorem s_if {t : ME} {a b : List MS} (ht : EK c X d t) (ha : SsOk c X d a) (hb : SsOk c X d b) : SOk c X d (.ifS t a b) := by
  intro sc nm ρ ρ' env A fix kp0 kp φ G G' s st fl hc hm W F hA E Q
  exact cS_if (P := fun st => SG c A fix kp0 φ s sc nm env G' E Q st fl ρ') hc fun _ _ _ _ c1 c2 c3 => iS_if hm
    (fun G1 h1 hm q => wpAny_If (ht.2 c1 h1 F.env F.st hA E _ fun f1 p1 y s1 l1 q1 S1 r1 => by
      rw [if_pos r1]
      exact ha c2 hm W ⟨F.le, S1, F.env.mono l1 q1⟩ hA fun f2 k2 p2 z s2 l2 q2 F2 r2 => q f2 k2 p2 z s2 (l1.trans l2) (q1.trans q2) F2 r2))
    (fun G1 h1 hm q => wpAny_If (ht.2 c1 h1 F.env F.st hA E _ fun f1 p1 y s1 l1 q1 S1 r1 => by
      rw [if_neg (r1 ▸ Bool.false_ne_true)]
      exact hb c3 hm W ⟨F.le, S1, F.env.mono l1 q1⟩ hA fun f2 k2 p2 z s2 l2 q2 F2 r2 => q f2 k2 p2 z s2 (l1.trans l2) (q1.trans q2) F2 r2))
theorem s_ret {a : ME} (ha : EK c X d a) : SOk c X d (.ret a) := by
  intro sc nm ρ ρ' env A fix kp0 kp φ G G' s st fl hc hm W F hA E Q
  refine cS_ret (P := fun st => SG c A fix kp0 φ s sc nm env G' E Q st fl ρ') hc (fun x pos c1 => iS_ret (Pl := fun fl ρ' => SG c A fix kp0 φ s sc nm env G' E Q (.Return (some x) pos) fl ρ') hm fun v h1 q =>
    wpAny_Return_some (ha.1 c1 h1 F.env F.st hA E _ fun f1 p1 y s1 l1 q1 S1 r1 => q f1 kp p1 _ s1 l1 q1 ⟨F.le, S1, F.env.mono l1 q1⟩ (.ret r1))) fun pos c1 => iS_ret (Pl := fun fl ρ' => SG c A fix kp0 φ s sc nm env G' E Q (.Return none pos) fl ρ') hm fun v h1 => ?_
  rw [isKN_eq c1] at h1
  exact opk (P := fun v G' => SG c A fix kp0 φ s sc nm env G' E Q (.Return none pos) (.ret v) ρ) h1 fun q => wpAny_Return_none (q fix kp φ _ s (Le.refl _) (List.prefix_refl _) F (.ret .none))
theorem s_pass : SOk c X d .pass := by
  intro sc nm ρ ρ' env A fix kp0 kp φ G G' s st fl hc hm W F hA E Q
  exact cS_pass (P := fun st => SG c A fix kp0 φ s sc nm env G' E Q st fl ρ') hc fun p => opk3 (P := fun fl ρ' G' => SG c A fix kp0 φ s sc nm env G' E Q (.Pass p) fl ρ') hm fun q => wpAny_Pass (q fix kp φ _ s (Le.refl _) (List.prefix_refl _) F .next)
theorem s_cont : SOk c X d .cont := by
  intro sc nm ρ ρ' env A fix kp0 kp φ G G' s st fl hc hm W F hA E Q
  exact cS_cont (P := fun st => SG c A fix kp0 φ s sc nm env G' E Q st fl ρ') hc fun p => opk3 (P := fun fl ρ' G' => SG c A fix kp0 φ s sc nm env G' E Q (.Continue p) fl ρ') hm fun q => wpAny_Continue (q fix kp φ _ s (Le.refl _) (List.prefix_refl _) F .cont)
theorem s_brk : SOk c X d .brk := by
  intro sc nm ρ ρ' env A fix kp0 kp φ G G' s st fl hc hm W F hA E Q
  exact cS_brk (P := fun st => SG c A fix kp0 φ s sc nm env G' E Q st fl ρ') hc fun p => opk3 (P := fun fl ρ' G' => SG c A fix kp0 φ s sc nm env G' E Q (.Break p) fl ρ') hm fun q => wpAny_Break (q fix kp φ _ s (Le.refl _) (List.prefix_refl _) F .brk)
end
end
end Mine
end
section
set_option autoImplicit false
set_option linter.unusedSectionVars false
set_option linter.unusedVariables false
namespace Mine
open PySem PySem.W PyProof.Rows PySem.Calls

section
variable {c : CX} {X : Ctx} {d : Nat}

theorem EnvOk.up {sc : Sp} {nm : Nm} {ρ : Lo} {env : Env} {fix kp kp' : Kp} {φ : List Addr} (V : EnvOk c sc nm ρ env fix kp φ) (l : Le kp kp') : EnvOk c sc nm ρ env fix kp' φ :=
  V.at (by obtain ⟨o, _, _, h, _⟩ := V.frame; rw [h, l _ _ h]) fun x a hne hx ha => by
    obtain ⟨b, hb, o, v, h1, _⟩ := V.cells x hne hx
    rw [ha] at hb; cases hb
    rw [h1, l _ _ h1]

theorem swaps_name {v : PySem.Expr} {x : Str} {p : Pos} {l : Nat} {env : Env} (h : okE v = true) : (∃ elt gens scope pos, v = .ListComp elt gens scope pos) ∨ swapsWith v (some (.Name x p)) l env = pure false := by
  cases v <;> first | exact .inr rfl | exact .inl ⟨_, _, _, _, rfl⟩ | exact ft h
theorem cE_isComp {S : Sta} {a : ME} {sc : Sp} {nm : Nm} {elt : PySem.Expr} {gens : List Comprehension} {scope : Scope} {pos : Pos} (h : chkE S a sc nm (.ListComp elt gens scope pos) = true) : ∃ m k eltM gs, a = .comp m k eltM gs := by
  cases a with
  | comp m k e gs => exact ⟨m, k, e, gs, rfl⟩
  | srtK a e m => exact ft (ott h).2
  | _ => exact ft h
theorem lookS {C : Addr} {o : Obj} : ([(C, o)] : List (Addr × Obj)).lookup C = some o := by rw [List.lookup_cons]; simp
theorem lookN {a C : Addr} {o : Obj} (h : ¬ a = C) : ([(C, o)] : List (Addr × Obj)).lookup a = none := by rw [List.lookup_cons, beq_eq_false_iff_ne.mpr h]; rfl
theorem s_asg (O : c.Ok) {i : Nat} {a : ME} (ha : EK c X d a) (hcp : ∀ m k elt gs, a = .comp m k elt gs → EK c X d elt ∧ ∀ g ∈ gs, GK c X d g) : SOk c X d (.asg i a) := by
  intro sc nm ρ ρ' env A fix kp0 kp φ G G' s st fl hc hm W F hA E Q
  refine cS_asg (P := fun st => SG c A fix kp0 φ s sc nm env G' E Q st fl ρ') hc fun x p v pos htg hca hok => iS_asg (Pf := fun fl => SG c A fix kp0 φ s sc nm env G' E Q (.Assign [.Name x p] v pos) fl ρ') hm fun v1 h1 hs1 q => ?_
  have plain : swapsWith v (some (.Name x p)) pos.line env = pure false → wpAny c.M A (exec (.Assign [.Name x p] v pos) env) Q E s := fun hsw => by
    refine wpAny_Assign_Name ?_ hsw
    refine ha.1 hca h1 F.env F.st hA E _ fun f1 p1 y s1 l1 q1 S1 r1 => ?_
    exact store_ok (F.env.mono l1 q1) S1 W F.le (Nat.zero_le _) htg hs1 r1 fun k2 s2 l2 S2 V2 => q f1 k2 p1 _ s2 l1 q1 ⟨l2, S2, V2⟩ .next
  rcases swaps_name (x := x) (p := p) (l := pos.line) (env := env) hok with ⟨elt, gens, scope, cpos, rfl⟩ | hsw
  rotate_left
  · exact plain hsw
  obtain ⟨b, hb⟩ : ∃ b, swapsWith (.ListComp elt gens scope cpos) (some (.Name x p)) pos.line env = pure b := ⟨_, rfl⟩
  cases b with
  | false => exact plain hb
  | true =>
    obtain ⟨m, k, eltM, gs, rfl⟩ := cE_isComp hca
    obtain ⟨hE, hG⟩ := hcp _ _ _ _ rfl
    rw [exec_Assign_Name_used _ _ _ _ hb]
    refine wpAny_bind (wpAny_standAt (wpAny_bind ?_))
    show wpAny _ A (do let _ ← comprehension (.ListComp elt gens scope cpos) scope env (firstIterPos gens cpos) (newList []) (firstAsync gens) (firstIter gens env) (some (assign (.Name x p) env))) _ _ s
    rw [firstAsync_no hca]
    refine wpAny_bind (wpAny_mono (comp_core O hE hG hca h1 F.env F.st hA (use := some (assign (.Name x p) env)) (Q := fun _ s' => Q .next s') fun f1 k1 p1 y C s1 l1 q1 lk S1 vy hkC fr => ?_) (fun _ s' hq => wpAny_pure (wpAny_pure hq)) fun _ _ e => e)
    obtain ⟨o, es, ep, g1, g2, g3⟩ := fr
    have hCn : ∀ p ∈ [(C, o)], kp p.1 = none := fun p hp => by rw [List.mem_singleton] at hp; subst hp; exact hkC
    have V1 : EnvOk c sc nm ρ env f1 k1 p1 := (F.env.mono l1 q1).up lk
    have hle : Le (holdL kp0 [(C, o)]) k1 := fun a x e => by
      unfold holdL at e
      by_cases hac : a = C
      · subst hac
        rw [lookS] at e
        cases e
        exact g1
      · rw [lookN hac] at e
        exact lk _ _ (F.le _ _ e)
    have hCC : (holdL kp0 [(C, o)]) C = some o := by
      unfold holdL
      rw [lookS]; rfl
    refine wpAny_assign_Name (store_ok V1 S1 (W.hold F.env hCn) hle (Nat.zero_le _) htg hs1 vy fun k2 s2 l2 S2 V2 => ?_)
    have hk2 : k2 C = some o := l2 _ _ hCC
    refine ⟨fun n => nsFind es n, ⟨o, es, ep, S2.1.kpK _ _ hk2, g2, g3, fun _ => rfl⟩, fun h' hsb => ?_⟩
    have le0 : Le kp0 (Mine.cut k2 [(C, o)]) := fun a x e => by
      have hac : ∀ p ∈ [(C, o)], p.1 ≠ a := fun p hp => by
        rw [List.mem_singleton] at hp; subst hp
        rintro rfl
        have := F.le _ _ e; rw [hkC] at this; cases this
      rw [cut_out hac]
      exact l2 _ _ ((holdL_out hac).trans e)
    exact q f1 (Mine.cut k2 [(C, o)]) p1 _ _ l1 q1 ⟨le0, S2.dropC cut_le (cut_in (p := (C, o)) (.head _)) hk2 hsb, F.env.cut hCn V2⟩ .next

theorem swNo_none {sc : Sp} {nm : Nm} {ρ : Lo} {env : Env} {fix kp : Kp} {φ : List Addr} {ts : List PySem.Expr} {k : Nat} {p : Pos} {v : PySem.Expr} (V : EnvOk c sc nm ρ env fix kp φ) (h : swNo sc ts v = true) : swappedStores [.Tuple ts k p] v env = pure none := by
  unfold swappedStores
  cases v with
  | Tuple vs k2 p2 =>
    have h := (Bool.or_eq_true _ _).mp (show (!(ts.length == 2 || ts.length == 3) || !(vs.length == ts.length) || ts.any fun t => match nameO t with | some x => !(sc.lookup x == some .local) | none => true) = true from h)
    dsimp only
    split
    · rfl
    · rename_i hn
      split
      · rfl
      · rw [if_pos]
        simp only [Bool.or_eq_true, not_or, bne, Bool.not_eq_true] at hn
        rcases h with h | h
        · rcases (Bool.or_eq_true _ _).mp h with h | h
          · rw [hn.1.1] at h; cases h
          · rw [hn.1.2] at h; cases h
        · rw [Bool.or_eq_true]
          left
          rw [bne_iff_ne]
          refine Nat.ne_of_lt (List.length_filterMap_lt_length_iff_exists.mpr ?_)
          obtain ⟨t, ht, hq⟩ := List.any_eq_true.mp h
          refine ⟨t, ht, ?_⟩
          clear h ht hn
          cases t <;> first | rfl | skip
          rename_i x px
          have hq : (!(sc.lookup x == some .local)) = true := hq
          show (if (_ && _) = true then _ else _) = none
          rw [V.kindOf]
          rw [if_neg]
          intro q
          rw [Bool.and_eq_true] at q
          rw [q.1] at hq
          cases hq
  | _ => rfl

theorem tgtE_tup {sc : Sp} {nm : Nm} {is : List Nat} {ts : List PySem.Expr} {k : Nat} {p : Pos} (h : tgtsOk sc nm is ts = true) : tgtE sc nm false is (.Tuple ts k p) = true := by
  have e : tgtE sc nm false is (.Tuple ts k p) = tgtsOk sc nm is ts := by kernel_rfl
  exact e.trans h
theorem s_asgT {is : List Nat} {a : ME} (ha : EK c X d a) : SOk c X d (.asgT is a) := by
  intro sc nm ρ ρ' env A fix kp0 kp φ G G' s st fl hc hm W F hA E Q
  refine cS_asgT (P := fun st => SG c A fix kp0 φ s sc nm env G' E Q st fl ρ') hc fun ts k p v pos htg hca hsw => iS_asgT (Pf := fun fl => SG c A fix kp0 φ s sc nm env G' E Q (.Assign [.Tuple ts k p] v pos) fl ρ') hm fun l h1 hs1 q => ?_
  refine Assign_Tuple ?_ swaps_tup (swNo_none F.env hsw)
  refine ha.1 hca h1 F.env F.st hA E _ fun f1 p1 y s1 l1 q1 S1 r1 => ?_
  exact target_ok (one := false) (tgt := is) (t := .Tuple ts _ _) (v := .tup l) (ρ' := ρ') hA.handled (F.env.mono l1 q1) S1 W F.le (fun i _ => Nat.zero_le _) (tgtE_tup htg) hs1 r1 fun k2 s2 l2 S2 V2 => q f1 k2 p1 _ s2 l1 q1 ⟨l2, S2, V2⟩ .next
theorem fm_congr {α β : Type} {f g : α → Option β} : ∀ {l : List α}, (∀ x ∈ l, f x = g x) → l.filterMap f = l.filterMap g
  | [], _ => rfl
  | a :: l, h => by
    rw [List.filterMap_cons, List.filterMap_cons, h a (.head _), fm_congr fun x m => h x (.tail _ m)]
theorem fm_len {α β : Type} {f : α → Option β} : ∀ {l : List α}, (∀ x ∈ l, ∃ y, f x = some y) → (l.filterMap f).length = l.length
  | [], _ => rfl
  | a :: l, h => by
    obtain ⟨y, hy⟩ := h a (.head _)
    rw [List.filterMap_cons, hy, List.length_cons, List.length_cons, fm_len fun x m => h x (.tail _ m)]
theorem tgts_len {sc : Sp} {nm : Nm} : ∀ {is : List Nat} {ts : List PySem.Expr}, tgtsOk sc nm is ts = true → is.length = ts.length
  | [], _, h => k0 (P := fun ts => 0 = ts.length) h rfl
  | i :: is, [], h => nomatch h
  | i :: is, t :: ts, h => congrArg Nat.succ (kENam (P := fun _ => is.length = ts.length) (k := fun x _ => tgtOk sc nm i x && tgtsOk sc nm is ts) h fun x p h => tgts_len (ott h).2)
theorem tn_app {sc : Sp} {nm : Nm} : ∀ {is js : List Nat} {xs ys : List Str}, tnOk sc nm is xs = true → tnOk sc nm js ys = true → tnOk sc nm (is ++ js) (xs ++ ys) = true
  | [], js, xs, ys, h, h2 => k0 (P := fun xs => tnOk sc nm js (xs ++ ys) = true) h h2
  | i :: is, js, [], ys, h, h2 => nomatch h
  | i :: is, js, x :: xs, ys, h, h2 => Bool.and_eq_true_iff.mpr ⟨(ott h).1, tn_app (ott h).2 h2⟩
theorem tn_rev {sc : Sp} {nm : Nm} : ∀ {is : List Nat} {xs : List Str}, tnOk sc nm is xs = true → tnOk sc nm is.reverse xs.reverse = true
  | [], xs, h => k0 (P := fun xs => tnOk sc nm [] xs.reverse = true) h rfl
  | i :: is, [], h => nomatch h
  | i :: is, x :: xs, h => by
    rw [List.reverse_cons, List.reverse_cons]
    exact tn_app (tn_rev (ott h).2) (Bool.and_eq_true_iff.mpr ⟨(ott h).1, rfl⟩)
theorem actsB {M : Model} {env : Env} : ∀ {xs : List Str}, Acts M env (xs.map fun n => bindName env n) xs
  | [] => rfl
  | _ :: _ => ⟨fun h => wpAny_bindName h, actsB⟩

theorem swYes_some {sc : Sp} {nm : Nm} {ρ : Lo} {env : Env} {fix kp : Kp} {φ : List Addr} {ts : List PySem.Expr} {k : Nat} {p : Pos} {v : PySem.Expr} (V : EnvOk c sc nm ρ env fix kp φ) (h : swYes sc ts v = true) : swappedStores [.Tuple ts k p] v env = pure (some (ts.filterMap nameO)) ∧ (ts.filterMap nameO).length = ts.length := by
  refine kETup (P := fun v => swappedStores [.Tuple ts k p] v env = pure (some (ts.filterMap nameO)) ∧ _) h fun vs k2 p2 h => ?_
  refine ak h fun h h7 => ak h fun h h6 => ak h fun h h5 => ak h fun h h4 => ak h fun h h3 => ak h fun h1 h2 => ?_
  have hall : ∀ {P : PySem.Expr → Prop}, (∀ x px, sc.lookup x = some .local → (px.line == lineOf ts) = true → P (.Name x px)) → ∀ t ∈ ts, P t := fun g t ht =>
    kENam (k := fun x p => sc.lookup x == some .local && p.line == lineOf ts) (List.all_eq_true.mp h3 t ht) fun x px h => g x px (beq_ok (ott h).1) (ott h).2
  have hlen : (ts.filterMap nameO).length = ts.length := fm_len (hall fun x px _ _ => ⟨x, rfl⟩)
  refine ⟨?_, hlen⟩
  have h4' : (ts.filterMap nameO).eraseDups.length = ts.length := eq_of_beq h4
  have hn : ∀ {f : PySem.Expr → Option Str}, (∀ x px, sc.lookup x = some .local → (px.line == lineOf ts) = true → f (.Name x px) = some x) → ts.filterMap f = ts.filterMap nameO := fun h => fm_congr (hall h)
  have h7' := (Bool.not_eq_true' _).mp h7
  unfold swappedStores
  dsimp only
  have hb : env.blockKind = .function := by unfold Env.blockKind; rw [V.kind]; rfl
  rw [if_neg (by simp only [h1, bne, h2, hb]; decide)]
  rw [if_neg (fun hq => by have := h7'.symm.trans hq; cases this)]
  rw [hn fun x px g1 g2 => by
    show (if (env.kindOf x == some .local && px.line == (ts.head?.map (·.pos.line)).getD 0) = true then some x else none) = some x
    rw [if_pos]
    rw [V.kindOf, g1, Bool.and_eq_true]
    exact ⟨by decide, g2⟩]
  rw [if_neg (by rw [hlen, h4']; simp)]
  rw [if_neg (by rw [(Bool.not_eq_true' _).mp h5]; decide), if_neg (by rw [(Bool.not_eq_true' _).mp h6]; decide)]

theorem s_asgW {is : List Nat} {a : ME} (ha : EK c X d a) : SOk c X d (.asgW is a) := by
  intro sc nm ρ ρ' env A fix kp0 kp φ G G' s st fl hc hm W F hA E Q
  refine cS_asgW (P := fun st => SG c A fix kp0 φ s sc nm env G' E Q st fl ρ') hc fun ts k p v pos htg hca hsw => iS_asgW (Pf := fun fl => SG c A fix kp0 φ s sc nm env G' E Q (.Assign [.Tuple ts k p] v pos) fl ρ') hm fun l h1 hlen hs1 q => ?_
  obtain ⟨hsome, hnl⟩ := swYes_some (k := _) (p := _) F.env hsw
  refine Assign_Tuple_swapped ?_ swaps_tup hsome
  refine ha.1 hca h1 F.env F.st hA E _ fun f1 p1 y s1 l1 q1 S1 r1 => ?_
  obtain ⟨a, xs, n, rfl, hf, r⟩ := tupIn r1
  have hll := r.length
  have hnt : (ts.filterMap nameO).length = xs.toArray.size := by
    rw [hnl, List.size_toArray, ← hll, ← hlen]
    rw [tgts_len htg]
  rw [hnt]
  refine unpackItems_tuple hA.handled ⟨_, S1.1.fixK _ _ hf, rfl, n, rfl⟩ fun h' hx => ?_
  have S' : St c f1 kp p1 G' { s1 with heap := h' } := ⟨S1.1.heap fun b o hb e => hx b o (fun q => by
    have := Heap.lt_size e
    rw [q] at this
    exact Nat.lt_irrefl _ this) e, S1.2⟩
  exact acts_ok W (fun k2 s2 l2 S2 V2 => q f1 k2 p1 _ s2 l1 q1 ⟨l2, S2, V2⟩ .next) (F.env.mono l1 q1) S' F.le (fun _ _ => Nat.zero_le _) (tn_rev (tgts_of (M := c.M) (env := env) htg).1) actsB hs1 (by simpa using r.reverse)
end
end Mine
end
section
set_option autoImplicit false
set_option linter.unusedSectionVars false
set_option linter.unusedVariables false
namespace Mine
open PySem PySem.W PyProof.Rows PySem.Calls

section
variable {c : CX} {X : Ctx} {d : Nat}

@[elab_as_elim]
theorem FlR.turn {fix : Kp} {φ : List Addr} {fl fl' : Fl} {f : Flow} {ρ ρ' : Lo} {G G' : GH} {k : Lo → GH → Option (Fl × Lo × GH)} {M : Flow → Prop} {P : Lo → GH → Prop} (h : flO (fl, ρ, G) k = some (fl', ρ', G')) (r : FlR c fix φ fl f) (F : P ρ G) (t1 : k ρ G = some (fl', ρ', G') → M .next) (t2 : k ρ G = some (fl', ρ', G') → M .cont)
    (b : P ρ' G' → FlR c fix φ fl' .next → M .brk) (t : ∀ y, P ρ' G' → FlR c fix φ fl' (.ret y) → M (.ret y)) : M f := by
  cases r with
  | next => exact t1 h
  | cont => exact t2 h
  | brk => exact opk3 (P := fun fl' ρ' G' => (P ρ' G' → FlR c fix φ fl' .next → M .brk) → M .brk) h (fun g => g F .next) b
  | ret hv => exact opk3 (P := fun fl' ρ' G' => (∀ y, P ρ' G' → FlR c fix φ fl' (.ret y) → M (.ret y)) → M (.ret _)) h (fun g => g _ F (.ret hv)) t
inductive WInv (c : CX) (fix kp0 : Kp) (φ : List Addr) (sc : Sp) (nm : Nm) (env : Env) (L : Nat → Lo → GH → Prop) (n : Nat) (s : Shared) : Prop
  | mk {fix1 kp1 : Kp} {φ1 : List Addr} {G1 : GH} {ρ1 : Lo} : Le fix fix1 → φ <+: φ1 → L n ρ1 G1 → FSt c fix1 kp0 kp1 φ1 G1 s sc nm ρ1 env → WInv c fix kp0 φ sc nm env L n s
inductive FInv (c : CX) (fix kp0 : Kp) (φ : List Addr) (sc : Sp) (nm : Nm) (env : Env) (L : List Itm → Lo → GH → Prop) (it : Value) (gd : Gd) (one : Bool) (n : Nat) (s : Shared) : Prop
  | mk {fix1 kp1 : Kp} {φ1 : List Addr} {G1 : GH} {ρ1 : Lo} {items : List Itm} {fp : List (Addr × Obj)} : Le fix fix1 → φ <+: φ1 → L items ρ1 G1 → FSt c fix1 kp0 kp1 φ1 G1 s sc nm ρ1 env → ItOk c fix1 kp1 φ1 s.heap it gd items fp → (one = true → fp.length = 1) → n = items.length → FInv c fix kp0 φ sc nm env L it gd one n s

theorem s_while {t : ME} {b : List MS} (ht : EK c X d t) (hb : SsOk c X d b) : SOk c X d (.whileS t b) := by
  intro sc nm ρ ρ' env A fix kp0 kp φ G G' s st fl hc hm W F hA E Q
  refine cS_while (P := fun st => SG c A fix kp0 φ s sc nm env G' E Q st fl ρ') hc fun x y p c1 c2 q => wpAny_While ?_
  refine codeAny_whileLoop (WInv c fix kp0 φ sc nm env fun n ρ G => loopW (fun ρ G => mE X t ρ G) (fun ρ G => mSs X b ρ G) n ρ G = some (fl, ρ', G')) (fun n s1 inv => ?_) X.W (.mk (Le.refl _) (List.prefix_refl _) hm F)
  clear hm F
  cases inv with
  | @mk fix1 kp1 φ1 G1 ρ1 l1 q1 hl F1 =>
  cases n with
  | zero => exact nomatch hl
  | succ n =>
    refine onBk hl (fun G2 h1 hl => ht.2 c1 h1 F1.env F1.st hA _ _ fun f2 p2 y s2 l2 q2 S2 r2 => ?_) fun G2 h1 hl => ht.2 c1 h1 F1.env F1.st hA _ _ fun f2 p2 y s2 l2 q2 S2 r2 => ?_
    · rw [if_pos r2]
      refine obk hl fun o h2 hl => ?_
      exact hb c2 h2 W ⟨F1.le, S2, F1.env.mono l2 q2⟩ hA fun f3 k3 p3 z s3 l3 q3 F3 r3 => by
        exact FlR.turn (P := fun ρ' G' => FSt c f3 kp0 k3 p3 G' s3 sc nm ρ' env) hl r3 F3
          (fun h => ⟨n, Nat.lt_succ_self _, .mk ((l1.trans l2).trans l3) ((q1.trans q2).trans q3) h F3⟩) (fun h => ⟨n, Nat.lt_succ_self _, .mk ((l1.trans l2).trans l3) ((q1.trans q2).trans q3) h F3⟩)
          (fun F3 r => q f3 k3 p3 _ s3 ((l1.trans l2).trans l3) ((q1.trans q2).trans q3) F3 r) fun y F3 r => q f3 k3 p3 _ s3 ((l1.trans l2).trans l3) ((q1.trans q2).trans q3) F3 r
    · rw [if_neg (r2 ▸ Bool.false_ne_true)]
      exact opk3 (P := fun fl ρ' G' => SQ c fix kp0 φ G' sc nm ρ' env fl Q → wpAny c.M A (execs [] env) Q _ s2) hl (fun q => wpAny_execs_nil (q f2 kp1 p2 _ s2 (l1.trans l2) (q1.trans q2) ⟨F1.le, S2, F1.env.mono l2 q2⟩ .next)) q
theorem loopS_k {gd : Gd} {f : MV → Lo → GH → Option (Fl × Lo × GH)} {x : Itm} {l : List Itm} {ρ : Lo} {G : GH} {r : Fl × Lo × GH} {P : Prop} (h : loopS gd f (x :: l) ρ G = some r) (g : ∀ v o, gdOk G gd = true → fetch G gd x = some v → f v ρ G = some o → flO o (fun ρ' G' => loopS gd f l ρ' G') = some r → P) : P :=
  oif (p := gdOk G gd = true) h fun h1 h => obk (o := fetch G gd x) h fun v h2 h => obk (o := f v ρ G) h fun o h3 h => g v o h1 h2 h3 h
theorem it_stepF {A : Around} {fix kp : Kp} {φ : List Addr} {G : GH} {s : Shared} {it : Value} {gd : Gd} {x : Itm} {items : List Itm} {fp : List (Addr × Obj)} {v : MV} {one : Bool} {target : PySem.Expr} {E : Value → Shared → Prop} {B : Value → Shared → Prop} {R : Option Value → Shared → Prop}
    (I : ItOk c fix kp φ s.heap it gd (x :: items) fp) (S : St c fix kp φ G s) (hg : gdOk G gd = true) (hv : fetch G gd x = some v) (ht : tgtFit one target) (hk : one = true → fp.length = 1) (hR : ∀ y s1, wpAny c.M A (letOwnedTupleGo target it y) (fun _ s' => B y s') E s1 → R (some y) s1)
    (q : Nx c fix kp φ G v it gd items fp.length B) : wpAny c.M A (pyNext it) R E s :=
  wpAny_mono (it_next I S hg hv ht hk q) (fun r s1 h => by
    cases r with
    | none => exact h.elim
    | some y => exact hR y s1 h) fun _ _ e => e
theorem s_for (O : c.Ok) {tgt : List Nat} {one : Bool} {k : SK} {srcs : List ME} {b : List MS} (hK : AllK c X d srcs) (hb : SsOk c X d b) : SOk c X d (.forS tgt one k srcs b) := by
  intro sc nm ρ ρ' env A fix kp0 kp φ G G' s st fl hc hm W F hA E Q
  refine cS_for (P := fun st => SG c A fix kp0 φ s sc nm env G' E Q st fl ρ') hc fun tg y bd p hk1 htg hsrc hcb => iS_for hm fun vs G1 gd items h1 hs hm q => wpAny_For ?_ (foldedSet_ok (srcSet hsrc))
  refine src_ok O hK hsrc h1 hs F.env F.st hA fun f1 p1 it s1 fp l1 q1 S1 I hfp => ?_
  refine codeAny_forLoop_any (FInv c fix kp0 φ sc nm env (fun its ρ G => loopS gd (fun v ρ G => (asgO one tgt v ρ).bind fun ρ' => mSs X b ρ' G) its ρ G = some (fl, ρ', G')) it gd one) (fun n s2 inv => ?_) items.length (.mk l1 q1 hm ⟨F.le, S1, F.env.mono l1 q1⟩ I (fun h => hfp (h ▸ hk1)) rfl)
  clear hm F h1 hs S1 I hfp
  cases inv with
  | @mk fix2 kp2 φ2 G2 ρ2 items2 fp2 l2 q2 hl F2 I2 hfp2 hn =>
  cases items2 with
  | nil =>
    refine oif (p := gdOk G2 gd = true) hl fun hgd hl => opk3 (P := fun fl ρ' G' => SQ c fix kp0 φ G' sc nm ρ' env fl Q → _) hl (fun q => it_end I2 F2.st hgd hA.handled fun s3 S3 => wpAny_execs_nil (q fix2 kp2 φ2 _ s3 l2 q2 ⟨F2.le, S3, F2.env⟩ .next)) q
  | cons x items3 =>
    refine loopS_k hl fun v o hgd hv ho hl => obk ho fun ρ3 ha ho => ?_
    refine it_stepF I2 F2.st hgd hv (tgtE_fit htg) hfp2 (fun y s3 h => h) fun fix3 y s3 fp3 l3 S3 vy I3 hlen => ?_
    have F3 := I3.Free
    have V3 := F2.env.mono l3 (List.prefix_refl _)
    refine target_ok hA.handled (V3.hold F3.kpN) ⟨(F3.hold S3.1).1, S3.2⟩ (W.hold V3 F3.kpN) (F3.holdLe F2.le) (fun i _ => Nat.zero_le _) htg ha vy fun kp4 s4' l4 S4 V4 => ?_
    refine hb hcb ho (W.hold V3 F3.kpN) ⟨l4, S4, V4⟩ hA fun f6 k6 p6 z s6 l6 q6 F6 r6 => ?_
    have bk := F3.back F6.le F6.st.1
    have turn : loopS gd (fun v ρ G => (asgO one tgt v ρ).bind fun ρ' => mSs X b ρ' G) items3 o.2.1 o.2.2 = some (fl, ρ', G') → ∃ m, m < n ∧ FInv c fix kp0 φ sc nm env (fun its ρ G => loopS gd (fun v ρ G => (asgO one tgt v ρ).bind fun ρ' => mSs X b ρ' G) its ρ G = some (fl, ρ', G')) it gd one m s6 := fun h =>
      ⟨items3.length, hn ▸ Nat.lt_succ_self _, .mk ((l2.trans l3).trans l6) (q2.trans q6) h ⟨F3.le F2.le F6.le, ⟨bk.2, F6.st.2⟩, V3.cut F3.kpN F6.env⟩ (.of (I3.d.mono l6 q6) bk.1) (fun h => hlen.trans (hfp2 h)) rfl⟩
    exact FlR.turn (P := fun ρ' G' => FSt c f6 kp0 (Mine.cut k6 fp3) p6 G' s6 sc nm ρ' env) hl r6 ⟨F3.le F2.le F6.le, ⟨bk.2, F6.st.2⟩, V3.cut F3.kpN F6.env⟩ turn turn
        (fun B1 r => q f6 _ p6 _ s6 ((l2.trans l3).trans l6) (q2.trans q6) B1 r) fun y B1 r => q f6 _ p6 _ s6 ((l2.trans l3).trans l6) (q2.trans q6) B1 r

mutual
theorem sK (O : c.Ok) (hX : XOk c X) (hC : CallOk c X d) (hS : SrtOk c X d) : ∀ x : MS, SOk c X d x
  | .expr a => s_expr (eK O hX hC hS a)
  | .asg i a => s_asg O (eK O hX hC hS a) fun _ _ elt gs _ => ⟨eK O hX hC hS elt, gsK O hX hC hS gs⟩
  | .asgT is a => s_asgT (eK O hX hC hS a)
  | .asgW is a => s_asgW (eK O hX hC hS a)
  | .asgA o k a => s_asgA O hX (eK O hX hC hS o) (eK O hX hC hS a)
  | .asgS o i a => s_asgS O (eK O hX hC hS o) (eK O hX hC hS i) (eK O hX hC hS a)
  | .ifS t a b => s_if (eK O hX hC hS t) (ss_ok (ssK O hX hC hS a)) (ss_ok (ssK O hX hC hS b))
  | .whileS t b => s_while (eK O hX hC hS t) (ss_ok (ssK O hX hC hS b))
  | .forS tgt one k srcs b => s_for O (esK O hX hC hS srcs) (ss_ok (ssK O hX hC hS b))
  | .ret a => s_ret (eK O hX hC hS a)
  | .cont => s_cont
  | .brk => s_brk
  | .pass => s_pass
theorem ssK (O : c.Ok) (hX : XOk c X) (hC : CallOk c X d) (hS : SrtOk c X d) : ∀ xs : List MS, ∀ x ∈ xs, SOk c X d x
  | [] => fun _ h => by cases h
  | x :: xs => allCons (sK O hX hC hS x) (ssK O hX hC hS xs)
end
end
end Mine
end
section
set_option autoImplicit false
set_option linter.unusedSectionVars false
set_option linter.unusedVariables false
namespace Mine
open PySem PySem.W PyProof.Rows PySem.Calls

section
variable {c : CX} {X : Ctx} {d : Nat} {A : Around} {fix kp kp0 : Kp} {φ : List Addr} {G : GH} {s : Shared}

theorem setAll_fill {k : Nat} : ∀ {vs pre : List MV}, setAll (pre.map some ++ List.replicate (vs.length + k) none) (List.range' pre.length vs.length) vs = some ((pre ++ vs).map some ++ List.replicate k none)
  | [], pre => by simp [setAll]
  | v :: vs, pre => by
    rw [List.length_cons, List.range'_succ, setAll]
    have h1 : set1 (pre.map some ++ List.replicate (vs.length + 1 + k) none) pre.length v = some ((pre ++ [v]).map some ++ List.replicate (vs.length + k) none) := by
      unfold set1
      rw [if_pos (by rw [List.length_append, List.length_map, List.length_replicate]; omega)]
      congr 1
      rw [show vs.length + 1 + k = (vs.length + k) + 1 by omega, List.replicate_succ, List.set_append_right _ _ (by rw [List.length_map]; exact Nat.le_refl _), List.length_map, Nat.sub_self]
      simp
    rw [h1, Option.bind_some]
    have := setAll_fill (k := k) (vs := vs) (pre := pre ++ [v])
    rw [List.length_append, List.length_singleton, List.append_assoc] at this
    exact this

noncomputable def namesOk (sc : Sp) (nms : List Str) : Bool := nms.all (fun x => (sc.lookup x == some .local || sc.lookup x == some .cell) && !(x == ("__class__" : Str)))
theorem tn_range {sc : Sp} {nms : List Str} (h : namesOk sc nms = true) : ∀ {n i : Nat}, i + n ≤ nms.length → tnOk sc (nms.map some) (List.range' i n) ((nms.drop i).take n) = true
  | 0, i, _ => by simp [tnOk]
  | n + 1, i, hi => by
    have hlt : i < nms.length := by omega
    rw [List.range'_succ, List.drop_eq_getElem_cons hlt, List.take_succ_cons, tnOk, tn_range h (by omega), Bool.and_true]
    have := List.all_eq_true.mp h nms[i] (List.getElem_mem hlt)
    rw [Bool.and_eq_true] at this
    unfold tgtOk
    rw [List.getElem?_map, List.getElem?_eq_getElem hlt, this.1]
    simp

theorem frameStores (env : Env) {f : Str × Value → PUnit → Sem (ForInStep PUnit)} (hf : ∀ n v u, f (n, v) u = (do storeName env n v; pure (.yield ⟨⟩))) {sc : Sp} {nm : Nm} : ∀ {is : List Nat} {xs : List Str} {vs : List MV} {ys : List Value} {ρ ρ' : Lo} {kp : Kp} {s : Shared}, EnvOk c sc nm ρ env fix kp φ → St c fix kp φ G s → Own sc nm 0 env kp0 → Le kp0 kp → tnOk sc nm is xs = true → setAll ρ is vs = some ρ' → c.VRs fix φ vs ys →
    ∀ {E : Value → Shared → Prop} {Q : PUnit → Shared → Prop}, (∀ kp' s', Le kp0 kp' → St c fix kp' φ G s' → EnvOk c sc nm ρ' env fix kp' φ → Q ⟨⟩ s') → wpAny c.M A (forIn (xs.zip ys) ⟨⟩ f) Q E s
  | [], [], [], _, ρ, ρ', kp, s, V, S, W, hle, ht, hs, hv, E, Q, q => by
    cases hv; cases hs
    rw [List.zip_nil_left, List.forIn_nil]
    exact wpAny_pure (q _ _ hle S V)
  | i :: is, x :: xs, v :: vs, _, ρ, ρ', kp, s, V, S, W, hle, ht, hs, .cons (x := y) (xs := ys) vy hv, E, Q, q => by
    simp only [tnOk, Bool.and_eq_true] at ht
    simp only [setAll, Option.bind_eq_some_iff] at hs
    obtain ⟨ρ1, h1, h2⟩ := hs
    rw [List.zip_cons_cons, List.forIn_cons, hf]
    refine wpAny_bind (wpAny_bind (store_ok V S W hle (Nat.zero_le _) ht.1 h1 vy fun kp1 s1 l1 S1 V1 => ?_))
    exact wpAny_pure (frameStores env hf V1 S1 W l1 ht.2 h2 hv q)
  | [], _ :: _, _, _, _, _, _, _, _, _, _, _, ht, _, _, _, _, _ => by simp [tnOk] at ht
  | _ :: _, [], _, _, _, _, _, _, _, _, _, _, ht, _, _, _, _, _ => by simp [tnOk] at ht
  | [], [], _ :: _, _, _, _, _, _, _, _, _, _, _, hs, _, _, _, _ => by simp [setAll] at hs
  | _ :: _, _ :: _, [], _, _, _, _, _, _, _, _, _, _, hs, _, _, _, _ => by simp [setAll] at hs

theorem newFn_ok {scope : Scope} {nms : List Str} {k : Nat} {ys : List Value} {vs : List MV} {cl : List (Str × Addr)} {qual : Str} {f : Addr} {code : Value} (S : St c fix kp φ G s) (hk : scope.kind = .function) (hnd : (scope.names.map (·.1)).Nodup) (hnn : nms.Nodup)
    (hnk : namesOk scope.names nms = true) (hlen : nms.length = vs.length + k) (hvs : c.VRs fix φ vs ys) (hfree : ∀ x, scope.names.lookup x = some .free → x = ("__class__" : Str)) (hcl : ∀ x a, cl.lookup x = some a → x = ("__class__" : Str) ∧ a < s.heap.objs.size)
    {E : Value → Shared → Prop} {Q : Env → Shared → Prop}
    (q : ∀ s' kp' env, env = newEnv scope s.heap.objs.size mainGlobals (cellsFrom (s.heap.objs.size + 1) scope.names cl) qual (some f) code none builtinsNs → St c fix kp' φ G s' → Le kp kp' →
      EnvOk c scope.names (nms.map some) (vs.map some ++ List.replicate k none) env fix kp' φ → Own scope.names (nms.map some) 0 env kp → Q env s') :
    wpAny c.M A (newFunctionEnv scope mainGlobals cl ((nms.take vs.length).zip ys) qual (some f) code none builtinsNs) Q E s := by
  simp only [newFunctionEnv, Option.isSome_none, Bool.false_eq_true, if_false]
  refine wpAny_bind (wpAny_alloc ?_)
  refine wpAny_bind (wpAny_layCells _ (fun name kind cells => by cases hkc : kind == NameKind.cell <;> simp) _ _ _ _ ?_)
  have hsz : (s.heap.push { cls := .type "frame", data := .dict #[] }).objs.size = s.heap.objs.size + 1 := Heap.size_push ..
  have ok := cellsFrom_ok scope.names (s.heap.push { cls := .type "frame", data := .dict #[] }) (s.heap.objs.size + 1) [] ⟨fun _ _ hm => (nomatch hm), List.Pairwise.nil⟩ (by rw [hsz]; exact Nat.le_refl _)
  dsimp only
  rw [hsz] at ok ⊢
  generalize hH : pushCells (s.heap.push { cls := .type "frame", data := .dict #[] }) scope.names = H at ok ⊢
  have keep : ∀ a o, s.heap.get? a = some o → H.get? a = some o := fun a o e => by rw [← hH]; exact pushCells_keeps _ _ a o (Heap.get?_push_of_some _ e)
  have hC : H.get? s.heap.objs.size = some { cls := .type "frame", data := .dict #[] } := by rw [← hH]; exact pushCells_keeps _ _ _ _ (Heap.get?_push_size _ rfl)
  have lk := cells_lk scope.names (s.heap.objs.size + 1) cl hnd
  have app := cells_app scope.names (s.heap.objs.size + 1) cl
  have kpOld : ∀ a o, kp a = some o → a < s.heap.objs.size := fun a o e => Heap.lt_size (S.1.kpK a o e)
  have old : ∀ x a, scope.names.lookup x ≠ some .cell → (cellsFrom (s.heap.objs.size + 1) scope.names cl).lookup x = some a → x = ("__class__" : Str) ∧ a < s.heap.objs.size := fun x a h1 h2 => by
    rw [(lk x).2 h1] at h2
    exact hcl x a h2
  have new : ∀ x, scope.names.lookup x = some .cell → ∃ a, s.heap.objs.size + 1 ≤ a ∧ (cellsFrom (s.heap.objs.size + 1) scope.names cl).lookup x = some a ∧ H.IsCell a none ∧ (x, a) ∈ cellsFrom (s.heap.objs.size + 1) scope.names [] := fun x hx => by
    obtain ⟨a, h1, h2⟩ := (lk x).1 hx
    obtain ⟨b, h3, h4⟩ := (cells_lk scope.names (s.heap.objs.size + 1) [] hnd x).1 hx
    have e : b = a := by
      rw [app, List.lookup_append, h4] at h2
      exact Option.some.inj h2
    subst e
    exact ⟨b, h1, h2, (ok.empty _ _ (mem_of_lookup h4)).1, mem_of_lookup h4⟩
  let kp1 : Kp := fun a => if s.heap.objs.size ≤ a then H.get? a else kp a
  have kp1o : ∀ a, a < s.heap.objs.size → kp1 a = kp a := fun a ha => if_neg (Nat.not_le.mpr ha)
  have kp1n : ∀ a, s.heap.objs.size ≤ a → kp1 a = H.get? a := fun a ha => if_pos ha
  have le1 : Le kp kp1 := fun a o e => (kp1o a (kpOld a o e)).trans e
  have R1 : Rel c fix kp1 φ G H := by
    have R0 := S.1.ext keep
    have key : ∀ a o, kp1 a = some o → H.get? a = some o ∧ fix a = none ∧ a ∉ φ := fun a o e => by
      by_cases ha : a < s.heap.objs.size
      · rw [kp1o a ha] at e
        exact ⟨R0.kpK a o e, R0.dj a o e, fun m => by have := (R0.out a m).2; rw [e] at this; cases this⟩
      · rw [kp1n a (Nat.not_lt.mp ha)] at e
        exact ⟨e, S.1.fixLt (Nat.not_lt.mp ha), fun m => ha (S.1.lt m)⟩
    refine ⟨R0.base, R0.fixK, fun a o e => (key a o e).1, fun a o e => (key a o e).2.1, R0.len, R0.nd, fun a m => ⟨(R0.out a m).1, ?_⟩, R0.obj, R0.st, R0.lo⟩
    cases e : kp1 a with
    | none => rfl
    | some o => exact absurd m (key a o e).2.2
  let env := newEnv scope s.heap.objs.size mainGlobals (cellsFrom (s.heap.objs.size + 1) scope.names cl) qual (some f) code none builtinsNs
  have V1 : EnvOk c scope.names (nms.map some) (List.replicate (vs.length + k) none) env fix kp1 φ := by
    refine ⟨hk, rfl, rfl, rfl, fun i v e => ?_, fun i x v e1 e2 => ?_, fun x hne hx => ?_, ?_, fun x a ha => ?_, fun x y a hx hy => ?_, fun i j x hi hj => ?_, fun i x hi => ?_⟩
    · obtain ⟨_, e'⟩ := List.getElem?_eq_some_iff.mp e
      rw [List.getElem_replicate] at e'; cases e'
    · obtain ⟨_, e'⟩ := List.getElem?_eq_some_iff.mp e2
      rw [List.getElem_replicate] at e'; cases e'
    · rcases hx with h1 | h1
      · obtain ⟨a, h2, h3, ⟨o, h4, h5⟩, _⟩ := new x h1
        exact ⟨a, h3, o, _, (kp1n a (Nat.le_of_succ_le h2)).trans h4, h5⟩
      · exact absurd (hfree x h1) hne
    · exact ⟨_, _, _, (kp1n _ (Nat.le_refl _)).trans hC, rfl, by intro e he; simp at he⟩
    · have ha' : (cellsFrom (s.heap.objs.size + 1) scope.names cl).lookup x = some a := ha
      show a ≠ s.heap.objs.size
      by_cases h1 : scope.names.lookup x = some .cell
      · obtain ⟨b, h2, h3, _⟩ := new x h1
        rw [h3] at ha'; cases ha'; exact Nat.ne_of_gt h2
      · exact Nat.ne_of_lt (old x a h1 ha').2
    · have hx' : (cellsFrom (s.heap.objs.size + 1) scope.names cl).lookup x = some a := hx
      have hy' : (cellsFrom (s.heap.objs.size + 1) scope.names cl).lookup y = some a := hy
      by_cases h1 : scope.names.lookup x = some .cell
      · obtain ⟨b, h2, h3, _, hm⟩ := new x h1
        rw [h3] at hx'; cases hx'
        by_cases h1' : scope.names.lookup y = some .cell
        · obtain ⟨b', h2', h3', _, hm'⟩ := new y h1'
          rw [h3'] at hy'; cases hy'
          exact name_of_addr ok.apart hm hm'
        · exact absurd (Nat.lt_of_lt_of_le (old y _ h1' hy').2 (Nat.le_of_succ_le h2)) (Nat.lt_irrefl _)
      · by_cases h1' : scope.names.lookup y = some .cell
        · obtain ⟨b', h2', h3', _, hm'⟩ := new y h1'
          rw [h3'] at hy'; cases hy'
          exact absurd (Nat.lt_of_lt_of_le (old x _ h1 hx').2 (Nat.le_of_succ_le h2')) (Nat.lt_irrefl _)
        · rw [(old x _ h1 hx').1, (old y _ h1' hy').1]
    · rw [List.getElem?_map, Option.map_eq_some_iff] at hi hj
      obtain ⟨x1, hi, e1⟩ := hi
      obtain ⟨x2, hj, e2⟩ := hj
      cases e1; cases e2
      exact (List.getElem?_inj (List.getElem?_eq_some_iff.mp hi).1 hnn).mp (hi.trans hj.symm)
    · rw [List.getElem?_map, Option.map_eq_some_iff] at hi
      obtain ⟨x1, hi, e1⟩ := hi
      cases e1
      have := List.all_eq_true.mp hnk x (List.mem_of_getElem? hi)
      rw [Bool.and_eq_true] at this
      simpa using this.2
  have W1 : Own scope.names (nms.map some) 0 env kp := by
    refine ⟨S.1.kpLt (Nat.le_refl _), fun i x a hi hx ha hkx => ?_⟩
    have ha' : (cellsFrom (s.heap.objs.size + 1) scope.names cl).lookup x = some a := ha
    obtain ⟨b, h2, h3, _⟩ := new x hkx
    rw [h3] at ha'; cases ha'
    exact S.1.kpLt (Nat.le_of_succ_le h2)
  have ht := tn_range hnk (n := vs.length) (i := 0) (by omega)
  rw [List.drop_zero] at ht
  have hsa := setAll_fill (k := k) (vs := vs) (pre := [])
  refine wpAny_bind (frameStores (s := { s with heap := H }) env (fun _ _ _ => rfl) V1 ⟨R1, S.2⟩ W1 le1 ht (by simpa using hsa) hvs fun kp2 s2 l2 S2 V2 => ?_)
  exact wpAny_pure (q s2 kp2 env rfl S2 l2 V2 W1)
end
end Mine
end
section
set_option autoImplicit false
set_option linter.unusedSectionVars false
set_option linter.unusedVariables false
namespace Mine
open PySem PySem.W PyProof.Rows PySem.Calls
theorem zip_lookup {α : Type} : ∀ {ns : List Str} {ys : List α}, ns.length = ys.length → ∀ n ∈ ns, ((ns.zip ys).lookup n).isNone = false
  | [], _, _, n, h => nomatch h
  | m :: ns, [], h, _, _ => nomatch h
  | m :: ns, y :: ys, h, n, hn => by
    rw [List.zip_cons_cons, List.lookup_cons]
    cases q : n == m with
    | true => rfl
    | false => exact zip_lookup (Nat.succ.inj h) n ((List.mem_cons.mp hn).resolve_left (beq_eq_false_iff_ne.mp q))
theorem zip_fm {α : Type} : ∀ {ns : List Str} {ys : List α}, ns.Nodup → ns.length = ys.length → ns.filterMap (fun n => ((ns.zip ys).lookup n).map (n, ·)) = ns.zip ys
  | [], ys, _, _ => rfl
  | m :: ns, [], _, h => nomatch h
  | m :: ns, y :: ys, hn, h => by
    have hn := List.nodup_cons.mp hn
    have e : ns.filterMap (fun n => (((m, y) :: ns.zip ys).lookup n).map (n, ·)) = ns.zip ys := (fm_congr fun n hm => by
      rw [List.lookup_cons, beq_eq_false_iff_ne.mpr fun q : n = m => hn.1 (q ▸ hm)]).trans (zip_fm hn.2 (Nat.succ.inj h))
    have e2 : ((m, y) :: ns.zip ys).lookup m = some y := by rw [List.lookup_cons, beq_self_eq_true]
    show List.filterMap (fun n => (((m, y) :: ns.zip ys).lookup n).map (n, ·)) (m :: ns) = _
    rw [List.filterMap_cons, e, e2]
    rfl
theorem fi0 {α β γ : Type} {L : List α} {s : β} {f : α → β → Sem (ForInStep β)} {k : β → Sem γ} (h : L = []) : (forIn L s f >>= k) = k s := by
  rw [h, List.forIn_nil, pure_bind]
theorem bind0 {fd : FuncData} {ys : List Value} {args : List Arg} {kd : List (Option PySem.Expr)} {ds : List PySem.Expr} (hp : fd.params = ⟨[], args, none, [], kd, none, ds⟩) (h6 : fd.defaults = .none) (hn : (args.map (·.arg)).Nodup) (hl : (args.map (·.arg)).length = ys.length) :
    bindArgs fd ⟨ys, []⟩ = pure ((args.map (·.arg)).zip ys) := by
  obtain ⟨_, _, _, _, _, _, _, _, _⟩ := fd
  cases hp
  cases h6
  refine (if_neg ?_).trans ((if_neg ?_).trans ?_)
  · rw [Bool.and_eq_true]
    exact fun q => Nat.lt_irrefl _ (hl ▸ of_decide_eq_true q.1)
  · show ¬ (!(List.filter (fun n => (((args.map (·.arg)).zip ys).lookup n).isNone) (List.take _ (args.map (·.arg)))).isEmpty) = true
    rw [List.filter_eq_nil_iff.mpr fun n hm => by rw [zip_lookup hl n (List.mem_of_mem_take hm)]; exact Bool.false_ne_true]
    exact Bool.false_ne_true
  refine (fi0 ?_).trans ?_
  · show List.zip _ (List.drop _ ([] : List Value)) = []
    rw [List.drop_nil, List.zip_nil_right]
  · exact congrArg (pure (f := Sem)) ((congrArg (List.filterMap fun n => (((args.map (·.arg)).zip ys).lookup n).map (n, ·)) (List.append_nil (args.map (·.arg)))).trans (zip_fm hn hl))
theorem fi1 {α β γ : Type} {x : α} {s s' : β} {f : α → β → Sem (ForInStep β)} {k : β → Sem γ} (h : f x s = pure (.yield s')) : (forIn [x] s f >>= k) = k s' := by
  rw [List.forIn_cons, h]
  rfl
theorem bind1 {fd : FuncData} {s : Shared} {A B : Arg} {kd : List (Option PySem.Expr)} {ds : List PySem.Expr} {y1 v0 : Value} {T : Addr} {o : Obj} {n : Nat} (hp : fd.params = ⟨[], [A, B], none, [], kd, none, ds⟩) (hab : A.arg ≠ B.arg)
    (hd : fd.defaults = .ref T) (ho : s.heap.get? T = some o) (hs : o.data = .seq #[v0] n) : BindsTo s fd ⟨[y1], []⟩ [(A.arg, y1), (B.arg, v0)] := by
  intro M AA E Q q
  obtain ⟨_, _, _, _, _, _, _, _, _⟩ := fd
  cases hp
  cases hd
  have e1 : ∀ n ∈ [A.arg], ¬ (([(A.arg, y1)] : List (Str × Value)).lookup n).isNone = true := fun n hn => by rw [List.mem_singleton.mp hn, List.lookup_cons, beq_self_eq_true]; exact Bool.false_ne_true
  have e2 : (([(A.arg, y1)] : List (Str × Value)).lookup B.arg).isNone = true := by rw [List.lookup_cons, beq_eq_false_iff_ne.mpr (Ne.symm hab)]; rfl
  refine wpAny_bind (wpAny_pure ?_)
  refine wpAny_bind (wpAny_seqItems ho hs (wpAny_of_eq ((if_neg Bool.false_ne_true).trans ((if_neg ?_).trans ((fi1 (s' := [(A.arg, y1), (B.arg, v0)]) (if_pos e2)).trans ?_))) q))
  · show ¬ (!(List.filter (fun n => (([(A.arg, y1)] : List (Str × Value)).lookup n).isNone) [A.arg]).isEmpty) = true
    rw [List.filter_eq_nil_iff.mpr e1]
    exact Bool.false_ne_true
  · exact congrArg (pure (f := Sem)) (zip_fm (ns := [A.arg, B.arg]) (ys := [y1, v0]) (List.nodup_cons.mpr ⟨fun h => hab (List.mem_singleton.mp h), List.nodup_cons.mpr ⟨nofun, List.nodup_nil⟩⟩) rfl)
end Mine
end
section
set_option autoImplicit false
set_option linter.unusedSectionVars false
set_option linter.unusedVariables false
namespace Mine
open PySem PySem.W PyProof.Rows PySem.Calls

structure SupFacts (c : CX) (C f2 : Addr) (nms : List Str) (params : Arguments) (cl : List (Str × Addr)) (cdv : Value) where
  D : Addr
  cc : Addr
  cda : Addr
  ar : Arg
  vs : Array Value
  file : Str
  tf : Tok
  ccl : Value
  cdd : Option Addr
  ccs : Array (Option Value)
  clo : Value
  cld : Option Addr
  csl : Array (Option Value)
  cdD : ClassData
  args : params.args.head? = some ar
  pos : params.posonlyargs = []
  arn : nms[0]? = some ar.arg
  cle : cl = [(("__class__" : Str), cc)]
  code : cdv = .ref cda
  codeK : c.K.lookup cda = some ⟨ccl, cdd, .fields vs, ccs⟩
  fileK : vs[2]? = some (.str file tf)
  isMain : ((c.prog.main.file : Str) == file) = true
  cell : c.K.lookup cc = some ⟨clo, cld, .cell (some (.ref D)), csl⟩
  cls : clsIn c.K D = some cdD
  sub : mroIn c.K C (.ref D) = some true
  top : (c.prog.main.scope.names.lookup ("super" : Str)).isSome = false
  opq : nsIn c.K cStatics "thirdparty.any" = some none
  meth : ks_superIn c.K C D "__init__" = some (some (.ref f2))
  fn : fnIn c.K f2 = true
  typ : typeIn c.K (.ref f2) = some (.type "function")

section
variable {c : CX} {X : Ctx} {d : Nat}

theorem load_ok {sc : Sp} {nm : Nm} {ρ : Lo} {env : Env} {A : Around} {fix kp : Kp} {φ : List Addr} {G : GH} {s : Shared} {i : Nat} {x : Str} {v : MV} (V : EnvOk c sc nm ρ env fix kp φ) (S : St c fix kp φ G s) (h1 : nm[i]? = some (some x)) (h2 : ρ[i]? = some (some v))
    {E : Value → Shared → Prop} {Q : Value → Shared → Prop} (q : ∀ y, c.VR fix φ v y → Q y s) : wpAny c.M A (loadName env x) Q E s := by
  obtain ⟨y, vy, hl⟩ := V.loads i x v h1 h2
  cases hl with
  | loc hk ho hd hs hf => exact wpAny_loadName_local (m := fun n => nsFind _ n) V.kind hk ⟨_, _, _, S.1.kpK _ _ ho, hd, hs, fun _ => rfl⟩ hf (q _ vy)
  | cell hk hc ho hd => exact wpAny_loadName_cell V.kind hk hc ⟨_, S.1.kpK _ _ ho, hd⟩ (q _ vy)
  | free hk hc ho hd hn => exact wpAny_loadName_free V.kind hk hc ⟨_, S.1.kpK _ _ ho, hd⟩ (q _ vy) (beq_eq_false_iff_ne.mpr hn)

theorem callM (O : c.Ok) {nm : Nm} {sc : Sp} {env : Env} {A : Around} {fix kp : Kp} {φ : List Addr} {G : GH} {s : Shared} {q f2 : Addr} {self : Value} {es : List ME} {xs : List PySem.Expr} {vs : List MV} {G' : GH} {pos : Pos} {E : Value → Shared → Prop} {Q : Value → Shared → Prop} (S : St c fix kp φ G s) (hq : kp q = some (methodObj (.ref f2) self)) (hk : fnIn c.K f2 = true) (hc : chkEs c.S es sc nm xs = true)
    (h : Ev c A fix kp φ (spliced (backTo pos (starEach xs env))) s G' (fun f p z => c.VRs f p vs z))
    (qq : ∀ fix' φ' ys s', Le fix fix' → φ <+: φ' → St c fix' kp φ' G' s' → c.VRs fix' φ' vs ys → wpAny c.M A (call (.ref q) ys) Q E s') :
    wpAny c.M A (callWith pos (.ref q) [] (backTo pos (starEach xs env)) []) Q E s := by
  obtain ⟨a, _⟩ := starNo (env := env) (pos := pos) hc
  refine callWith_of (P := fun h => MethP c.K q f2 self h) (by rw [a]; rfl) (fun h X => keeps_M hk h X) ?_
  cases xs with
  | nil =>
    exact evalArgs_nilG (h E _ fun fix' φ' ys s' le pre S' vr => ⟨⟨S'.1.kpK _ _ hq, S'.1.K O⟩, qq fix' φ' ys s' le pre S' vr⟩)
  | cons x xs =>
    cases es with
    | nil => exact ft hc
    | cons e es =>
      have hc := cEs_cons hc
      rw [starCons hc.1, backCons] at h ⊢
      exact evalArgs_plain (h E _ fun fix' φ' ys s' le pre S' vr => ⟨⟨S'.1.kpK _ _ hq, S'.1.K O⟩, qq fix' φ' ys s' le pre S' vr⟩)

theorem sup_ok (O : c.Ok) (hC : CallOk c X d) {f f2 C : Addr} {es : List ME} (hK : AllK c X d es) {nms : List Str} {params : Arguments} {scope : Scope} {cl : List (Str × Addr)} {cdv : Value} {qual : Str} {L : Addr} (U : SupFacts c C f2 nms params cl cdv)
    {oc : Value} {od : Option Addr} {osl : Array (Option Value)} {fd : FuncData} (here : c.K.lookup f = some ⟨oc, od, .func fd, osl⟩) (hpar : fd.params = params) (hnd : (scope.names.map (·.1)).Nodup)
    {body : List Stmt} {env : Env} (he : env = newEnv scope L mainGlobals (cellsFrom (L + 1) scope.names cl) qual (some f) cdv none builtinsNs)
    {ρ ρ' : Lo} {A : Around} {fix kp0 kp : Kp} {φ : List Addr} {G G' : GH} {s : Shared} {st : Stmt} {fl : Fl}
    (hc : chkSup c.S (.expr (.sup f2 C es)) scope.names (nms.map some) st = true) (hm : mS X (.expr (.sup f2 C es)) ρ G = some (fl, ρ', G')) (F : FSt c fix kp0 kp φ G s scope.names (nms.map some) ρ env) (hA : AOk A d)
    {E : Value → Shared → Prop} {Q : Flow → Shared → Prop} (q : ∀ fix' φ' s', Le fix fix' → φ <+: φ' → FSt c fix' kp0 kp φ' G' s' scope.names (nms.map some) ρ' env → fl = .next → Q .next s') :
    _root_.PySem.wpAt c.M A (.func body env) (exec st env) Q E s := by
  apply cU hc; intro py p1 ap xs p pq hb hcls hsup hce hlen hline
  refine iS_sup (Pl := fun fl ρ' => (∀ fix' φ' s', Le fix fix' → φ <+: φ' → FSt c fix' kp0 kp φ' G' s' scope.names (nms.map some) ρ' env → fl = .next → Q .next s') → _root_.PySem.wpAt c.M A (.func body env) (exec (.Expr (.Call (.Attribute (.Call (.Name "super" py) [] [] p1) "__init__" ap) xs [] p) pq) env) Q E s) hm (fun vs G1 i v1 h2 hρ h1 q => ?_) q
  have V := F.env
  refine ks_wpAt_Expr_any ?_ (interactive_no V) rfl
  rw [arm_eval_Call]
  have hbl := hb
  simp only [bltK, gloK, Bool.and_eq_true, beq_iff_eq, Bool.not_eq_true'] at hbl
  have hks : env.kindOf "super" = some .globalImplicit := (V.kindOf _).trans hbl.1.1
  have hkc : env.kindOf "__class__" = some .free := (V.kindOf _).trans hcls
  obtain ⟨hh, g, dr, t, os⟩ := s
  have K0 : c.K.In hh := F.st.1.K O
  obtain ⟨oD, hD1, hD2⟩ : ∃ oD, hh.get? U.D = some oD ∧ oD.data = .cls U.cdD := by
    have hD := U.cls
    unfold clsIn at hD
    split at hD
    · rename_i c' d' cd' sl ho
      cases hD
      exact ⟨_, K0 _ _ ho, rfl⟩
    · cases hD
  have hcellL : env.cells.lookup ("__class__" : Str) = some U.cc := by
    subst he
    show (cellsFrom (L + 1) scope.names cl).lookup ("__class__" : Str) = some U.cc
    rw [((cells_lk scope.names (L + 1) cl hnd) ("__class__" : Str)).2 (by rw [hcls]; decide)]
    exact (congrArg (fun l => List.lookup ("__class__" : Str) l) U.cle).trans rfl
  have hfu : env.func = some f := by subst he; rfl
  have hco : env.code = .ref U.cda := by subst he; exact U.code
  have hbN : c.mg "super" = none := (O.blt _ (by simpa using hbl.2)).1
  have h00 : (nms.map some)[0]? = some (some U.ar.arg) := by rw [List.getElem?_map, U.arn]; rfl
  refine _root_.PySem.wpAt_bind (ks_wpAt_super_base (env := env) hks hkc (by decide) hfu (K0 _ _ here) rfl (by rw [hpar, U.pos, List.nil_append]; exact U.args) hco (K0 _ _ U.codeK) rfl U.fileK U.isMain U.top ?_)
  refine ks_loadName_global V.kind hks (loadGlobal_builtin (by rw [V.globals]; exact O.g.keeps F.st.1.baseK) hbN (by rw [V.builtins]; exact O.b.keeps F.st.1.baseK) ((O.boot _ (by decide)).trans (show bootBuiltins "super" = some (.type "super") from rfl)) ⟨rfl, ?_⟩)
  refine wpAny_loadName_free V.kind hkc hcellL ⟨_, K0 _ _ U.cell, rfl⟩ ?_
  refine load_ok V F.st h00 hρ fun yv vy => ?_
  cases vy with
  | @obj _ _ xa dx hf hp =>
  have hx : hh.get? xa = some (instObj C dx) := F.st.1.fixK _ _ hf
  refine ks_wpAny_isType_cls hD1 hD2 ⟨rfl, ?_⟩
  refine ks_wpAny_call_super hD1 hD2 hx rfl (fun c e => by cases e) (looks_mroIn K0 U.sub) (fun h' e k => ?_)
  have S1 : St c fix kp φ G ⟨h', g, dr, t, os⟩ := ⟨F.st.1.ext k, F.st.2⟩
  have K1 : c.K.In h' := S1.1.K O
  refine _root_.PySem.wpAt_of_wpAny (wpAny_bind (wpAny_standAt ?_))
  have hform : methodCallForm (xs.length + ([] : List Keyword).length) (backTo p (starEach xs env)) (backToKw p (keywordEach [] env)) = true := by
    unfold methodCallForm
    rw [(starNo (env := env) (pos := p) hce).2]
    simp only [Bool.true_and, Bool.and_eq_true, decide_eq_true_eq]
    exact ⟨rfl, by simp [backToKw, keywordEach]; omega⟩
  have hpos : ∀ o, methodCallPos true o env ap p = pure p := fun o => by unfold methodCallPos; simp [hline]
  unfold methodCall
  rw [hform]
  refine wpAny_bind (wpAny_holding ?_)
  cases hc : clsIn c.K C with
  | none => have := U.meth; unfold ks_superIn at this; rw [hc] at this; cases this
  | some cd =>
  have hmeth := U.meth
  unfold ks_superIn at hmeth
  rw [hc] at hmeth
  obtain ⟨of, hof, hofc⟩ : ∃ of, h'.get? f2 = some of ∧ of.cls = .type "function" := by
    have ht' : (c.K.lookup f2).map (·.cls) = some (.type "function") := U.typ
    cases z : c.K.lookup f2 with
    | none => rw [z] at ht'; cases ht'
    | some of => rw [z] at ht'; exact ⟨of, K1 _ _ z, Option.some.inj ht'⟩
  have hxC : xa ≠ C := by
    rintro rfl
    have hc2 := hc
    unfold clsIn at hc2
    split at hc2
    · rename_i c0 d0 cd0 sl0 ho
      have := K0 _ _ ho
      rw [hx] at this; cases this
    · cases hc2
  refine ks_wpAny_getMethod_super e (looks_opaque K1 U.opq) (l₀ := cd.mro) (fun A Q E s k q => wpAny_bind ((looks_clsIn K1 hc) A _ E s k (wpAny_pure q))) rfl K1 hmeth hof hofc hxC (by decide) ?_
  have hq0 : kp h'.objs.size = none := S1.1.kpLt (Nat.le_refl _)
  have S2 : St c fix (upd kp h'.objs.size (some (methodObj (.ref f2) (.ref xa)))) φ G ⟨h'.push (methodObj (.ref f2) (.ref xa)), g, dr, t + 1, os⟩ :=
    ⟨(S1.1.push _).hold (Heap.get?_push_size _ rfl) (S1.1.fixLt (Nat.le_refl _)) (fun m => Nat.lt_irrefl _ (S1.1.lt m)), S1.2⟩
  have lek : Le kp (upd kp h'.objs.size (some (methodObj (.ref f2) (.ref xa)))) := fun a o ea => by
    have : a ≠ h'.objs.size := by rintro rfl; rw [hq0] at ea; cases ea
    rw [upd_ne _ _ this]; exact ea
  have V2 := V.up lek
  refine wpAny_bind (wpAny_of_eq (hpos _) ?_)
  refine callM O S2 (upd_self _ _ _) U.fn hce (es_ok hK hce h2 V2 S2 hA _) fun f3 p3 ys s3 l3 q3 S3 r3 => ?_
  refine wpAny_call (ks_codeAny_call_bound (S3.1.kpK _ _ (upd_self _ _ _)) ?_)
  refine hC h1 S3 (.cons (VR.mono l3 q3 (.obj hf hp)) r3) hA.call fun f4 p4 y4 s4 l4 q4 S4 r4 => ?_
  exact q f4 p4 s4 (l3.trans l4) (q3.trans q4) ⟨F.le, ⟨S4.1.less lek, S4.2⟩, (V.mono l3 q3).mono l4 q4⟩ rfl
end
end Mine
end
section
set_option autoImplicit false
set_option linter.unusedSectionVars false
set_option linter.unusedVariables false
namespace Mine
open PySem PySem.W PyProof.Rows PySem.Calls

noncomputable def BindsK (c : CX) (mf : MFun) (nms : List Str) (fd : FuncData) : Prop := ∀ vs : List MV, vs.length + mf.dfl.length = mf.n → ∀ {fix : Kp} {φ : List Addr} {ys : List Value} {s : Shared}, c.VRs fix φ vs ys → c.K.In s.heap → ∃ ys', c.VRs fix φ (vs ++ mf.dfl) ys' ∧ BindsTo s fd ⟨ys, []⟩ ((nms.take mf.n).zip ys')
set_option genInjectivity false in
set_option genSizeOf false in
structure FnFull (c : CX) (f : Addr) (mf : MFun) extends FnOk c f mf where
  clo : ∀ x a, cl.lookup x = some a → x = ("__class__" : Str) ∧ (c.K.lookup a).isSome = true
  binds : BindsK c mf nms (fnX name qual params body scope cl dV kV doc pm an cdv ct)
  sup : ∀ f2 C es r, mf.body = .expr (.sup f2 C es) :: r → SupFacts c C f2 nms params cl cdv

section
variable {c : CX} {X : Ctx} {d : Nat}

structure FOk (S : Sta) (f : MFun) (nms : List Str) (ps : Arguments) (scope : Scope) (body : List Stmt) : Prop where
  len : nms.length = f.n + f.k
  free : ∀ x, scope.names.lookup x = some .free → x = ("__class__" : Str)
  nd : nms.Nodup
  args : ps.args.map (·.arg) = nms.take f.n
  pr : ps = ⟨[], ps.args, none, [], ps.kw_defaults, none, ps.defaults⟩
  kind : scope.kind = .function
  gen : scope.isGenerator = false
  cor : scope.isCoroutine = false
  snd : (scope.names.map (·.1)).Nodup
  nok : namesOk scope.names nms = true
  chk : chkB S f.body scope.names (nms.map some) body = true
theorem ps_eq {ps : Arguments} (h1 : ps.posonlyargs.isEmpty = true) (h2 : ps.vararg.isNone = true) (h3 : ps.kwonlyargs.isEmpty = true) (h4 : ps.kwarg.isNone = true) : ps = ⟨[], ps.args, none, [], ps.kw_defaults, none, ps.defaults⟩ := by
  obtain ⟨a, b, c, d, e, f, g⟩ := ps
  obtain rfl : a = [] := List.isEmpty_iff.mp h1
  obtain rfl : c = none := Option.isNone_iff_eq_none.mp h2
  obtain rfl : d = [] := List.isEmpty_iff.mp h3
  obtain rfl : f = none := Option.isNone_iff_eq_none.mp h4
  rfl
theorem bnot {b : Bool} (h : (!b) = true) : b = false := (Bool.not_eq_true' _).mp h
theorem free_of {l : Sp} (h : (l.all fun p => !(p.2 == .free) || p.1 == ("__class__" : Str)) = true) {x : Str} (hx : l.lookup x = some .free) : x = ("__class__" : Str) :=
  (Bool.or_eq_true_iff.mp (List.all_eq_true.mp h _ (mem_of_lookup hx))).elim (fun q => absurd (bnot q) Bool.true_eq_false.mp) eq_of_beq
theorem chkF_ok {S : Sta} {f : MFun} {nms : List Str} {ps : Arguments} {scope : Scope} {body : List Stmt} (h : chkF S f nms ps scope body = true) : FOk S f nms ps scope body :=
  have h15 := ott h
  have h14 := ott h15.1
  have h13 := ott h14.1
  have h12 := ott h13.1
  have h11 := ott h12.1
  have h10 := ott h11.1
  have h9 := ott h10.1
  have h8 := ott h9.1
  have h7 := ott h8.1
  have h6 := ott h7.1
  have h5 := ott h6.1
  have h4 := ott h5.1
  have h3 := ott h4.1
  have h2 := ott h3.1
  ⟨of_decide_eq_true h2.1, fun x hx => free_of h3.2 hx, of_decide_eq_true h4.2, of_decide_eq_true h5.2, ps_eq h6.2 h7.2 h8.2 h9.2, eq_of_beq h10.2, bnot h11.2, bnot h12.2, of_decide_eq_true h13.2, h14.2, h15.2⟩

section
variable {mf : MFun} {nms : List Str} {fd : FuncData} {scope : Scope} {body : List Stmt}
theorem binds_plain (F : FOk c.S mf nms fd.params scope body) (hd : mf.dfl = []) (hdv : fd.defaults = .none) : BindsK c mf nms fd := fun vs hl {fix φ ys s} hv hK => by
  rw [hd, List.length_nil, Nat.add_zero] at hl
  rw [hd, List.append_nil]
  refine ⟨ys, hv, BindsTo.of_eq ?_⟩
  rw [← F.args]
  refine bind0 F.pr hdv ?_ ?_
  · rw [F.args]; exact F.nd.sublist (List.take_sublist _ _)
  · rw [F.args, List.length_take, ← hv.length, F.len]; omega
theorem two {α : Type} {l : List α} (h : l.length = 2) {P : List α → Prop} (g : ∀ a b, P [a, b]) : P l := match l, h with
  | [a, b], _ => g a b
theorem oneMV {vs : List MV} (h : vs.length + 1 = 2) {P : List MV → Prop} (g : ∀ a, P [a]) : P vs := match vs, h with
  | [a], _ => g a
theorem binds_one (F : FOk c.S mf nms fd.params scope body) (hn : mf.n = 2) {v0 : Int} (hd : mf.dfl = [.int v0]) {T : Addr} (hdv : fd.defaults = .ref T) {oc : Value} {od : Option Addr} {osl : Array (Option Value)} {n : Nat} {t : Tok} (hT : c.K.lookup T = some ⟨oc, od, .seq #[.int v0 t] n, osl⟩) : BindsK c mf nms fd := fun vs hl {fix φ ys s} hv hK => by
  rw [hd, hn] at hl
  rw [hd, ← F.args]
  have hz : (nms.take mf.n).length = 2 := by rw [List.length_take, F.len, hn]; omega
  have hnd := F.nd.sublist (List.take_sublist mf.n _)
  rw [← F.args] at hz hnd
  rw [List.length_map] at hz
  refine two hz (P := fun l => fd.params.args = l → (l.map (·.arg)).Nodup → ∃ ys', c.VRs fix φ (vs ++ [.int v0]) ys' ∧ BindsTo s fd ⟨ys, []⟩ ((l.map (·.arg)).zip ys')) (fun A B hA hnd => ?_) rfl hnd
  have hp := F.pr
  rw [hA] at hp
  refine oneMV hl (P := fun vs => c.VRs fix φ vs ys → ∃ ys', c.VRs fix φ (vs ++ [.int v0]) ys' ∧ BindsTo s fd ⟨ys, []⟩ (([A, B].map (·.arg)).zip ys')) (fun v1 hv => ?_) hv
  cases hv with
  | @cons _ y1 _ r vy1 hr =>
  cases hr
  exact ⟨[y1, .int v0 t], .cons vy1 (.one (.int _ _)), bind1 hp (fun q => (List.nodup_cons.mp hnd).1 (List.mem_singleton.mpr q)) hdv (hK _ _ hT) rfl⟩
end

noncomputable def retOf (fo : Flow) : Value := match fo with
  | .ret v => v
  | _ => .none
theorem FlR.done {fix : Kp} {φ : List Addr} {fl : Fl} {ρ : Lo} {G G' : GH} {v : MV} {fo : Flow} {P : GH → Prop} {R : Value → Prop} (r : FlR c fix φ fl fo) (h : outF (fl, ρ, G) = some (v, G')) (F : P G) (q : ∀ y, P G' → c.VR fix φ v y → R y) : R (retOf fo) := by
  cases r with
  | next => exact opk (P := fun v G' => (∀ y, P G' → c.VR fix φ v y → R y) → R .none) h (fun g => g _ F .none) q
  | brk => exact noS h
  | cont => exact noS h
  | ret hy => exact opk (P := fun v G' => (∀ y, P G' → c.VR fix φ v y → R y) → R _) h (fun g => g _ F hy) q
noncomputable def DoneQ (c : CX) (fix kp : Kp) (φ : List Addr) (G' : GH) (v : MV) (R : Result → Shared → Prop) : Prop := ∀ fix' φ' y s', Le fix fix' → φ <+: φ' → St c fix' kp φ' G' s' → c.VR fix' φ' v y → R (.ok (.ret y)) s'
theorem body_in (O : c.Ok) {f : Addr} {mf : MFun} (Fk : FnFull c f mf) (hX : XOk c X) (hC : CallOk c X d) (hS : SrtOk c X d) {ρ : Lo} {G G' : GH} {v : MV} {L : Addr} {A : Around} {fix kp kp1 : Kp} {φ : List Addr} {s : Shared} {env : Env} {x : MS} {r : List MS} {st : Stmt} {sts : List Stmt} {o : Fl × Lo × GH} {qual : Str}
    (hbody : mf.body = x :: r) (hB : chkB c.S (x :: r) Fk.scope.names (Fk.nms.map some) (st :: sts) = true) (hnd : (Fk.scope.names.map (·.1)).Nodup) (he : env = newEnv Fk.scope L mainGlobals (cellsFrom (L + 1) Fk.scope.names Fk.cl) qual (some f) Fk.cdv none builtinsNs)
    (hout : mSs X (x :: r) ρ G = some o) (hm : outF o = some (v, G')) (W : Own Fk.scope.names (Fk.nms.map some) 0 env kp) (F : FSt c fix kp kp1 φ G s Fk.scope.names (Fk.nms.map some) ρ env) (hA : AOk A d) {R : Result → Shared → Prop} (q : DoneQ c fix kp φ G' v R) {bd : List Stmt} {E : Value → Shared → Prop} :
    _root_.PySem.wpAt c.M A (.func bd env) (execs (st :: sts) env) (fun fo s' => R (.ok (.ret (retOf fo))) s') E s := by
  have fin : ∀ fix' kp' φ' fo s', Le fix fix' → φ <+: φ' → FSt c fix' kp kp' φ' o.2.2 s' Fk.scope.names (Fk.nms.map some) o.2.1 env → FlR c fix' φ' o.1 fo → R (.ok (.ret (retOf fo))) s' := fun fix' kp' φ' fo s' l2 q2 F2 r2 =>
    r2.done (P := fun G => St c fix' kp φ' G s') (R := fun y => R (.ok (.ret y)) s') hm ⟨F2.st.1.less F2.le, F2.st.2⟩ fun y S hy => q fix' φ' y s' l2 q2 S hy
  rcases (cB_cons hB).1 with hx | hx
  · exact _root_.PySem.wpAt_of_wpAny (ss_ok (ssK O hX hC hS (x :: r)) (show chkSs c.S (x :: r) Fk.scope.names (Fk.nms.map some) (st :: sts) = true from Bool.and_eq_true_iff.mpr ⟨hx, (cB_cons hB).2⟩) hout W F hA fin)
  · refine cU_expr (P := fun x => mf.body = x :: r → mSs X (x :: r) ρ G = some o → chkSup c.S x Fk.scope.names (Fk.nms.map some) st = true → _) hx (fun f2 C es _ hbody hout hx => ?_) hbody hout hx
    have key : ∀ {fl1 : Fl} {ρ1 : Lo} {G2 : GH}, mS X (.expr (.sup f2 C es)) ρ G = some (fl1, ρ1, G2) → (fl1 = .next → mSs X r ρ1 G2 = some o) → _root_.PySem.wpAt c.M A (.func bd env) (execs (st :: sts) env) (fun fo s' => R (.ok (.ret (retOf fo))) s') E s := fun hm1 hgo =>
      ks_wpAt_execs_cons (sup_ok O hC (esK O hX hC hS es) (Fk.sup f2 C es r hbody) Fk.here rfl hnd he hx hm1 F hA fun f3 p3 s3 l3 q3 F3 hfl =>
        _root_.PySem.wpAt_of_wpAny (ss_ok (ssK O hX hC hS r) (cB_cons hB).2 (hgo hfl) W F3 hA fun f4 k4 p4 z s4 l4 q4 F4 r4 => fin f4 k4 p4 z s4 (l3.trans l4) (q3.trans q4) F4 r4))
    exact iSs hout (fun ρ1 G2 h1 h2 => key h1 fun _ => h2) fun hn h1 => key h1 fun e => absurd e hn
theorem fn_ok (O : c.Ok) {f : Addr} {mf : MFun} (Fk : FnFull c f mf) (hX : XOk c X) (hC : CallOk c X d) (hS : SrtOk c X d) {vs : List MV} {ρ : Lo} {G G' : GH} {v : MV} (hb : bindO mf vs = some ρ) (hm : outO (mSs X mf.body ρ G) = some (v, G'))
    {A : Around} {fix kp : Kp} {φ : List Addr} {s : Shared} {ys : List Value} (S : St c fix kp φ G s) (hv : c.VRs fix φ vs ys) (hA : AOkC A (d + 1)) {R : Result → Shared → Prop}
    (q : DoneQ c fix kp φ G' v R) : codeAny c.M A (.call (.ref f) ⟨ys, []⟩) R s := by
  have F := chkF_ok Fk.chk
  have K0 := S.1.K O
  refine oif hb fun hl hb => (Fk.binds vs hl hv K0).elim fun ys' hq => ?_
  refine codeAny_call_function (by have := hA.depth; omega) (K0 _ _ Fk.here) rfl F.cor F.gen rfl (codeRec_of K0 Fk.code) (hq.2 _ _ _ _ ?_)
  have hcl : ∀ x a, Fk.cl.lookup x = some a → x = ("__class__" : Str) ∧ a < s.heap.objs.size := fun x a e =>
    ⟨(Fk.clo x a e).1, (Option.isSome_iff_exists.mp (Fk.clo x a e).2).elim fun o ho => Heap.lt_size (K0 _ _ ho)⟩
  have hlen : (vs ++ mf.dfl).length = mf.n := by rw [List.length_append]; exact hl
  rw [← hlen]
  refine newFn_ok (k := mf.k) S F.kind F.snd F.nd F.nok (by rw [hlen]; exact F.len) hq.1 F.free hcl fun s1 kp1 env he S1 l1 V1 W1 => ?_
  refine ⟨S1.1.noLimit O, ks_codeAny_funcAt ?_⟩
  rw [Option.some.inj hb] at V1
  refine obk hm fun o hout hm => ?_
  have hB := F.chk
  cases hb1 : mf.body with
  | nil => rw [hb1] at hB; cases hb2 : Fk.body <;> rw [hb2] at hB <;> exact ft hB
  | cons x r =>
  cases hb2 : Fk.body with
  | nil => rw [hb1, hb2] at hB; exact ft hB
  | cons st sts =>
  rw [hb1, hb2] at hB
  rw [hb1] at hout
  exact body_in O Fk hX hC hS hb1 hB F.snd he hout hm W1 ⟨l1, S1, V1⟩ (hA.body env) q

theorem calls_ok (O : c.Ok) (hF : ∀ f mf, c.P.fn f = some mf → Nonempty (FnFull c f mf)) (hS : ∀ X d, XOk c X → CallOk c X d → SrtOk c X d) (W : Nat) : ∀ d, CallOk c (ctx c.P W (mcall c.P W d)) d
  | 0 => fun hm => nomatch (show none = some (_, _) from hm)
  | d + 1 => fun hm {_ _ _ _ _ _} S hv hA {_} q =>
    obk (o := c.P.fn _) hm fun mf hmf h => obk (o := bindO mf _) h fun ρ hb h => (hF _ mf hmf).elim fun Fk => fn_ok O Fk ⟨rfl, rfl, rfl⟩ (calls_ok O hF hS W d) (hS _ _ ⟨rfl, rfl, rfl⟩ (calls_ok O hF hS W d)) hb h S hv hA q
end
end Mine
end
section
set_option autoImplicit false
set_option linter.unusedSectionVars false
set_option linter.unusedVariables false
namespace Mine
open PySem PySem.W PyProof.Rows PySem.Calls

section
variable {α : Type} {P : Prop}
theorem anyk {o : Option α} {p : α → Bool} (h : o.any p = true) (g : ∀ a, o = some a → p a = true → P) : P := match o, h with
  | some a, h => g a rfl h
end
noncomputable def fdD (d : Data) : Option FuncData := match d with | .func fd => some fd | _ => none
noncomputable def fieldsD (d : Data) : Option (Array Value) := match d with | .fields vs => some vs | _ => none
noncomputable def cellD (d : Data) : Option Value := match d with | .cell v => v | _ => none
noncomputable def seqD (d : Data) : Option (Array Value × Nat) := match d with | .seq xs n => some (xs, n) | _ => none
noncomputable def dOf {α : Type} (f : Data → Option α) (o : Option Obj) : Option α := o.bind fun o => f o.data
theorem dOf_k {α : Type} {f : Data → Option α} {o : Option Obj} {x : α} {d' : Data} {P : Option Obj → Prop} (h : dOf f o = some x) (k : ∀ {Q : Data → Prop} {d : Data}, f d = some x → Q d' → Q d) (g : ∀ a b c, P (some ⟨a, b, d', c⟩)) : P o :=
  (Option.bind_eq_some_iff.mp h).elim fun o q => q.1 ▸ k (Q := fun d => P (some ⟨o.cls, o.dict, d, o.slots⟩)) q.2 (g _ _ _)
section
variable {Q : Data → Prop} {d : Data}
theorem fdD_k {fd : FuncData} (h : fdD d = some fd) (g : Q (.func fd)) : Q d := by
  cases d with
  | func w => exact Option.some.inj h ▸ g
  | _ => exact noS h
theorem fieldsD_k {vs : Array Value} (h : fieldsD d = some vs) (g : Q (.fields vs)) : Q d := by
  cases d with
  | fields w => exact Option.some.inj h ▸ g
  | _ => exact noS h
theorem cellD_k {v : Value} (h : cellD d = some v) (g : Q (.cell (some v))) : Q d := by
  cases d with
  | cell w => exact (show w = some v from h) ▸ g
  | _ => exact noS h
theorem seqD_k {p : Array Value × Nat} (h : seqD d = some p) (g : Q (.seq p.1 p.2)) : Q d := by
  cases d with
  | seq xs n => obtain rfl := Option.some.inj h; exact g
  | _ => exact noS h
end
noncomputable def strOf (v : Value) : Option Str := match v with | .str s _ => some s | _ => none
noncomputable def refOf (v : Value) : Option Addr := match v with | .ref a => some a | _ => none
noncomputable def isNoneV (v : Value) : Bool := match v with | .none => true | _ => false
noncomputable def intOf (v : Value) : Option Int := match v with | .int i _ => some i | _ => none
noncomputable def stmtsOf (b : FuncBody) : Option (List Stmt) := match b with | .stmts l => some l | _ => none
section
variable {v : Value} {P : Value → Prop}
theorem strOf_k {s : Str} (h : strOf v = some s) (g : ∀ t, P (.str s t)) : P v := match v, h with
  | .str _ t, h => Option.some.inj h ▸ g t
theorem refOf_k {a : Addr} (h : refOf v = some a) (g : P (.ref a)) : P v := match v, h with
  | .ref _, h => Option.some.inj h ▸ g
theorem isNoneV_k (h : isNoneV v = true) (g : P .none) : P v := match v, h with
  | .none, _ => g
theorem intOf_k {i : Int} (h : intOf v = some i) (g : ∀ t, P (.int i t)) : P v := match v, h with
  | .int _ t, h => Option.some.inj h ▸ g t
end
theorem stmtsOf_k {b : FuncBody} {l : List Stmt} {P : FuncBody → Prop} (h : stmtsOf b = some l) (g : P (.stmts l)) : P b := match b, h with
  | .stmts _, h => Option.some.inj h ▸ g

noncomputable def supIn (K : Frag) (prog : Program) (C f2 : Addr) (nms : List Str) (params : Arguments) (cl : List (Str × Addr)) (cdv : Value) : Bool :=
  cl.head?.any fun p => params.args.head?.any fun ar => (refOf cdv).any fun cda => (dOf fieldsD (K.lookup cda)).any fun vs => vs[2]?.any fun fv => (strOf fv).any fun file => (dOf cellD (K.lookup p.2)).any fun dv => (refOf dv).any fun D => (clsIn K D).any fun _ =>
    decide (cl = [(("__class__" : Str), p.2)]) && (nms[0]? == some ar.arg && (params.posonlyargs.isEmpty && (prog.main.file == file && (mroIn K C (.ref D) == some true && (ks_superIn K C D "__init__" == some (some (.ref f2))
    && (!(prog.main.scope.names.lookup ("super" : Str)).isSome && (nsIn K cStatics "thirdparty.any" == some none && (fnIn K f2 && typeIn K (.ref f2) == some (.type "function")))))))))
noncomputable def oneIn (K : Frag) (v0 : Int) (T : Addr) : Bool := (dOf seqD (K.lookup T)).any fun xs => xs.1[0]?.any fun v => (intOf v).any fun i => decide (xs.1 = #[v]) && i == v0
noncomputable def dflIn (K : Frag) (mf : MFun) (dV : Value) : Bool := match mf.dfl with
  | [] => isNoneV dV
  | v :: r => r.isEmpty && (mf.n == 2 && (iInt v).any fun v0 => (refOf dV).any fun T => oneIn K v0 T)
noncomputable def supOk (K : Frag) (prog : Program) (mf : MFun) (nms : List Str) (fd : FuncData) : Bool := match mf.body with
  | .expr (.sup f2 C _) :: _ => supIn K prog C f2 nms fd.params fd.closure fd.code
  | _ => true
noncomputable def fnChk (K : Frag) (prog : Program) (S : Sta) (f : Addr) (mf : MFun) (nms : List Str) : Bool := (dOf fdD (K.lookup f)).any fun fd => (stmtsOf fd.body).any fun body =>
  chkF S mf nms fd.params fd.scope body && (codeIn K fd.code fd.qualname && (fd.globals == mainGlobals && (fd.builtins == builtinsNs && (isNoneV fd.kwdefaults && (dflIn K mf fd.defaults
      && ((fd.closure.all fun p => p.1 == ("__class__" : Str) && (K.lookup p.2).isSome) && supOk K prog mf nms fd))))))

section
variable {c : CX}
theorem sup_of {C f2 : Addr} {nms : List Str} {params : Arguments} {cl : List (Str × Addr)} {cdv : Value} (h : supIn c.K c.prog C f2 nms params cl cdv = true) : Nonempty (SupFacts c C f2 nms params cl cdv) :=
  anyk h fun p _ h => anyk h fun ar har h => anyk h fun cda hcda h => anyk h fun vs hvs h => anyk h fun fv hfv h => anyk h fun file hfile h => anyk h fun dv hdv h => anyk h fun D hD h => anyk h fun cdD hcd h =>
    ak h fun h1 h => ak h fun h2 h => ak h fun h3 h => ak h fun h4 h => ak h fun h6 h => ak h fun h7 h => ak h fun h8 h => ak h fun h9 h => ak h fun h10 h11 =>
      refOf_k (P := fun cdv => Nonempty (SupFacts c C f2 nms params cl cdv)) hcda (dOf_k (P := fun o => c.K.lookup cda = o → Nonempty (SupFacts c C f2 nms params cl (.ref cda))) hvs fieldsD_k (fun a b s hk =>
        strOf_k (P := fun fv => vs[2]? = some fv → Nonempty (SupFacts c C f2 nms params cl (.ref cda))) hfile (fun tk hv =>
          refOf_k (P := fun dv => dOf cellD (c.K.lookup p.2) = some dv → Nonempty (SupFacts c C f2 nms params cl (.ref cda))) hD (fun hdv =>
            dOf_k (P := fun o => c.K.lookup p.2 = o → Nonempty (SupFacts c C f2 nms params cl (.ref cda))) hdv cellD_k (fun a2 b2 s2 hk2 =>
              ⟨⟨D, p.2, cda, ar, vs, file, tk, a, b, s, a2, b2, s2, cdD, har, List.isEmpty_iff.mp h3, beq_ok h2, of_decide_eq_true h1, rfl, hk, hv, h4, hk2, hcd, beq_ok h6, bnot h8, beq_ok h9, beq_ok h7, h10, beq_ok h11⟩⟩) rfl) hdv) hfv) rfl)
theorem fd_eq {fd : FuncData} {body : List Stmt} (h1 : fd.body = .stmts body) (h2 : fd.globals = mainGlobals) (h3 : fd.builtins = builtinsNs) : fd = fnX fd.name fd.qualname fd.params body fd.scope fd.closure fd.defaults fd.kwdefaults fd.doc fd.pyModule fd.annotations fd.code fd.closureTuple := by
  obtain ⟨_, _, _, _, _, _, _, _, _⟩ := fd
  cases h1
  cases h2
  cases h3
  rfl
theorem dfl_of {mf : MFun} {nms : List Str} {fd : FuncData} {scope : Scope} {body : List Stmt} (F : FOk c.S mf nms fd.params scope body) (h : dflIn c.K mf fd.defaults = true) : BindsK c mf nms fd := by
  unfold dflIn at h
  cases hd : mf.dfl with
  | nil =>
    rw [hd] at h
    exact binds_plain F hd (isNoneV_k (P := fun v => v = .none) h rfl)
  | cons v r =>
    rw [hd] at h
    refine ak h fun h1 h => ak h fun h2 h => anyk h fun v0 hv h => anyk h fun T hT h => anyk h fun xs hxs h => anyk h fun w hw h => anyk h fun i hi h => ak h fun h3 h4 => ?_
    rw [List.isEmpty_iff.mp h1] at hd
    have hd2 : mf.dfl = [.int v0] := iInt_k (P := fun v => mf.dfl = [v] → mf.dfl = [.int v0]) hv id hd
    refine dOf_k (P := fun o => c.K.lookup T = o → BindsK c mf nms fd) hxs seqD_k (fun a b s hk => ?_) rfl
    rw [of_decide_eq_true h3] at hk
    refine intOf_k (P := fun w => c.K.lookup T = some ⟨a, b, .seq #[w] xs.2, s⟩ → BindsK c mf nms fd) hi (fun t hk => ?_) hk
    rw [eq_of_beq h4] at hk
    exact binds_one F (eq_of_beq h2) hd2 (refOf_k (P := fun v => v = .ref T) hT rfl) hk
theorem clo_of {cl : List (Str × Addr)} (h : (cl.all fun p => p.1 == ("__class__" : Str) && (c.K.lookup p.2).isSome) = true) (x : Str) (a : Addr) (e : cl.lookup x = some a) : x = ("__class__" : Str) ∧ (c.K.lookup a).isSome = true :=
  have := ott (List.all_eq_true.mp h _ (mem_of_lookup e))
  ⟨eq_of_beq this.1, this.2⟩
theorem sup_at {mf : MFun} {nms : List Str} {fd : FuncData} (h : supOk c.K c.prog mf nms fd = true) {f2 C : Nat} {es : List ME} {r : List MS} (e : mf.body = .expr (.sup f2 C es) :: r) : Nonempty (SupFacts c C f2 nms fd.params fd.closure fd.code) := by
  unfold supOk at h
  rw [e] at h
  exact sup_of h
theorem fn_of {f : Addr} {mf : MFun} {nms : List Str} (h : fnChk c.K c.prog c.S f mf nms = true) : Nonempty (FnFull c f mf) :=
  anyk h fun fd hfd h => anyk h fun body hb h => ak h fun h1 h => ak h fun h2 h => ak h fun h3 h => ak h fun h4 h => ak h fun h5 h => ak h fun h6 h => ak h fun h7 h8 => by
    have e := fd_eq (stmtsOf_k (P := fun b => b = .stmts body) hb rfl) (eq_of_beq h3) (eq_of_beq h4)
    refine dOf_k (P := fun o => c.K.lookup f = o → Nonempty (FnFull c f mf)) hfd fdD_k (fun oc od osl hk => ?_) rfl
    have hB := dfl_of (chkF_ok h1) h6
    rw [e] at hk hB
    exact ⟨{ nms := nms, here := hk, code := h2, chk := h1, kw := isNoneV_k (P := fun v => v = .none) h5 rfl, clo := clo_of h7, binds := hB, sup := fun f2 C es r e => Classical.choice (sup_at h8 e), .. }⟩
end
end Mine
end
section
set_option autoImplicit false
set_option linter.unusedSectionVars false
set_option linter.unusedVariables false
namespace Mine
open PySem PySem.W PyProof.Rows PySem.Calls

noncomputable def atrsOk (K : Frag) (tab : List Str) (l : List (Nat × Nat)) : Bool := l.all fun p => match tab[p.2]? with | some x => attrIn K p.1 x | none => false
noncomputable def mthsOk (K : Frag) (tab : List Str) (l : List (Nat × Nat × Nat)) : Bool := l.all fun p => match tab[p.2.1]? with | some x => methIn K p.1 x p.2.2 | none => false
noncomputable def initsOk (K : Frag) (l : List (Nat × Nat)) : Bool := l.all fun p => initIn K p.1 p.2
noncomputable def globsOk (K : Frag) (l : List (Str × Nat)) : Bool := l.all fun p => nsIn K mainGlobals p.1 == some (some (.ref p.2)) && keepIn K (.ref p.2)
noncomputable def gintsOk (K : Frag) (l : List (Str × Int)) : Bool := l.all fun p => match nsIn K mainGlobals p.1 with | some (some (.int i _)) => i == p.2 | _ => false
noncomputable def bltsOk (K : Frag) (l : List Str) : Bool := l.all fun x => nsIn K mainGlobals x == some none && !(x == ("__name__" : Str))

theorem mg_at {K : Frag} {h : Heap} {mg : Str → Option Value} {n : Str} {v : Option Value} (X : K.In h) (G : h.Ns mainGlobals mg) (e : nsIn K mainGlobals n = some v) : mg n = v := by
  cases v with
  | none => exact mg_none_of X G e
  | some v => exact mg_of X G e

theorem ok_of {c : CX} (hT : c.S.tab.Nodup) (KX : c.K.In c.hb) (g : c.hb.Ns mainGlobals c.mg) (b : c.hb.Ns builtinsNs c.mb) (boot : ∀ x : Str, x ≠ "__name__" → c.mb x = bootBuiltins x) (nl : c.hb.NoLimit)
    {atrs : List (Nat × Nat)} {mths : List (Nat × Nat × Nat)} {inits : List (Nat × Nat)} (ha : ∀ C k, c.P.atr C k = true → (C, k) ∈ atrs) (hm : ∀ C m f, c.P.mth C m = some f → (C, m, f) ∈ mths) (hi : ∀ C f, c.P.init C = some f → (C, f) ∈ inits)
    (ka : atrsOk c.K c.S.tab atrs = true) (km : mthsOk c.K c.S.tab mths = true) (ki : initsOk c.K inits = true) (kg : globsOk c.K c.S.globs = true) (kn : gintsOk c.K c.S.gints = true) (kb : bltsOk c.K c.S.blts = true) : c.Ok where
  tabN := hT
  Kin := KX
  g := g
  b := b
  boot := boot
  nolimit := nl
  glob x f h := by
    have := List.all_eq_true.mp kg _ (mem_of_lookup h)
    simp only [Bool.and_eq_true, beq_iff_eq] at this
    exact ⟨mg_at KX g this.1, this.2⟩
  gint x i h := by
    have := List.all_eq_true.mp kn _ (mem_of_lookup h)
    dsimp only at this
    split at this
    · rename_i j t e
      obtain rfl := eq_of_beq this
      exact ⟨t, mg_at KX g e⟩
    · cases this
  blt x h := by
    have := List.all_eq_true.mp kb _ h
    simp only [Bool.and_eq_true, beq_iff_eq, Bool.not_eq_true', beq_eq_false_iff_ne] at this
    exact ⟨mg_at KX g this.1, this.2⟩
  atr C k h := by
    have := List.all_eq_true.mp ka _ (ha C k h)
    dsimp only at this
    split at this
    · rename_i x e; exact ⟨x, e, this⟩
    · cases this
  mth C m f h := by
    have := List.all_eq_true.mp km _ (hm C m f h)
    dsimp only at this
    split at this
    · rename_i x e; exact ⟨x, e, this⟩
    · cases this
  init C f h := List.all_eq_true.mp ki _ (hi C f h)

theorem start_ok {c : CX} {s : Shared} (hb : c.hb = s.heap) (hg : c.gs = s.gens) (ho : c.os = s.os) (hs : (s.heap.get? cStatics).isSome = true) : St c (fun a => s.heap.get? a) (fun _ => none) [] [] s :=
  ⟨⟨fun a o e => by rw [hb] at e; exact e, fun a o e => e, fun a o e => (by cases e), fun a o e => (by cases e), rfl, List.Pairwise.nil, fun a h => (by cases h), fun i a g e => (by simp at e), by rw [hb]; exact hs, fun a h => (by cases h)⟩, hg.symm, ho.symm⟩
end Mine
end
section
set_option autoImplicit false
set_option linter.unusedSectionVars false
set_option linter.unusedVariables false
namespace Mine
open PySem PySem.W PyProof.Rows PySem.Calls

theorem srtF {S : Sta} {a e : ME} {m : Nat} {sc : Sp} {nm : Nm} {x : PySem.Expr} (hs : S.skey = false) (h : chkE S (.srtK a e m) sc nm x = true) : False := by
  have key : S.skey = true := (ott h).1
  rw [hs] at key; cases key
theorem srt_no {c : CX} {X : Ctx} {d : Nat} (h : c.S.skey = false) : SrtOk c X d := fun a e m _ _ =>
  ⟨fun {sc nm ρ env A fix kp φ G G' s x v} hc => (srtF h hc).elim, noT fun _ _ _ _ => rfl⟩

theorem law_bool {prog' : Program} {w : World} {S : Sta} {P : Prog} {K : Frag} {s₁ : Shared} {mg mb : Str → Option Value} (O : (CX.mk prog' w S P K s₁.heap mg mb s₁.gens s₁.os).Ok) (hst : (K.lookup cStatics).isSome = true)
    (hF : ∀ f mf, P.fn f = some mf → ∃ nms, fnChk K prog' S f mf nms = true) (hS : ∀ X d, XOk (CX.mk prog' w S P K s₁.heap mg mb s₁.gens s₁.os) X → CallOk (CX.mk prog' w S P K s₁.heap mg mb s₁.gens s₁.os) X d → SrtOk (CX.mk prog' w S P K s₁.heap mg mb s₁.gens s₁.os) X d)
    {W d : Nat} (hd : d ≤ 100) {f : Nat} {ns : List Int} {G' : GH} (hlen : ns.length ≤ 4096) (hm : mcall P W d f [.lst (ns.map .int)] [] = some (.bool true, G')) {l : Addr} {xs : List Value} (hl : s₁.heap.get? l = some { cls := .type "list", data := .seq xs.toArray }) (hx : IntsAre xs ns)
    {R : Result → Shared → Prop} (q : ∀ s', (∀ b o, s₁.heap.get? b = some o → s'.heap.get? b = some o) → s'.gens = s₁.gens → s'.os = s₁.os → R (.ok (.ret (.bool true))) s') : codeAny (model prog' w) callerA (.call (.ref f) ⟨[.ref l], []⟩) R s₁ := by
  have hstat : (s₁.heap.get? cStatics).isSome = true := by
    obtain ⟨o, ho⟩ := Option.isSome_iff_exists.mp hst
    rw [O.Kin _ _ ho]; rfl
  have S0 := start_ok (c := CX.mk prog' w S P K s₁.heap mg mb s₁.gens s₁.os) (s := s₁) rfl rfl rfl hstat
  have hC : CallOk (CX.mk prog' w S P K s₁.heap mg mb s₁.gens s₁.os) (ctx P W (mcall P W d)) d := calls_ok O (fun f mf h => let ⟨nms, e⟩ := hF f mf h; fn_of e) hS W d
  have hv : (CX.mk prog' w S P K s₁.heap mg mb s₁.gens s₁.os).VR (fun a => s₁.heap.get? a) [] (.lst (ns.map .int)) (.ref l) :=
    .lst hl (intsOut (c := CX.mk prog' w S P K s₁.heap mg mb s₁.gens s₁.os) hx) (by rw [List.length_map]; exact hlen)
  refine hC hm S0 (.cons hv .nil) ⟨rfl, ?_, ?_⟩ fun fix' φ' y s' le pre S' vy => ?_
  · show callerA.depth + 4 * (d + 1) < recursionLimit
    have h1 : callerA.depth ≤ 310 := by decide
    have h2 : recursionLimit = 1000 := rfl
    omega
  · show callerA.units + 20 * (d + 1) + 80 < cLine
    have h1 : callerA.units ≤ 10 := by decide
    have h2 : cLine = 9900 := rfl
    omega
  · cases vy
    exact q s' (fun b o e => S'.1.fixK _ _ (le _ _ e)) S'.2.1 S'.2.2

end Mine
end
section
set_option autoImplicit false
set_option linter.unusedVariables false
open PySem PySem.W PyProof.Rows
namespace Mine
noncomputable def runF (st : SharedT → Thread → Option (SharedT × Thread)) (n₀ : Nat) (ann : Option Value) : Nat → SharedT → Thread → Option SharedT
  | 0, _, _ => none
  | n + 1, s, t => match through t with
    | true => some s
    | false => match stepOk n₀ ann t with
      | false => none
      | true => match st s t with
        | some (s', t') => runF st n₀ ann n s' t'
        | none => none
theorem runF_spec {tb : String → Option Builtin} {p : Program} {w : World} {n₀ : Nat} {ann : Option Value} : ∀ {n : Nat} {s r : SharedT} {t : Thread}, runF (stepT (denote tb) p w) n₀ ann n s t = some r → topRun tb p w n₀ ann n s.abs t = some r.abs
  | 0, _, _, _, h => by cases h
  | n + 1, s, r, t, h => by
    unfold runF at h
    unfold topRun
    cases he : through t with
    | true => rw [he] at h; cases h; rfl
    | false =>
      rw [he] at h
      cases hk : stepOk n₀ ann t with
      | false => rw [hk] at h; cases h
      | true =>
        rw [hk] at h
        cases hs : stepT (denote tb) p w s t with
        | none => rw [hs] at h; cases h
        | some x => obtain ⟨s₂, t₂⟩ := x; rw [hs] at h; rw [stepT_spec hs]; exact runF_spec h
noncomputable def convT : List Obj → Nat → BT → Option BT
  | [], _, t => some t
  | o :: r, n, t => match ((t.ins n o).get n).isSome with
    | true => convT r (n + 1) (t.ins n o)
    | false => none
theorem convT_spec {life : Life} : ∀ {l : List Obj} {n : Nat} {t t' : BT}, convT l n t = some t' → absHeap t' (n + l.length) life = ⟨(absHeap t n life).objs ++ l.toArray, life⟩
  | [], n, t, t', h => by
    cases h
    rw [List.length_nil, Nat.add_zero]
    show Heap.mk _ _ = Heap.mk _ _
    simp [absHeap]
  | o :: r, n, t, t', h => by
    unfold convT at h
    cases e : ((t.ins n o).get n).isSome with
    | false => rw [e] at h; cases h
    | true =>
      rw [e] at h
      have := convT_spec (life := life) h
      rw [List.length_cons, show n + (r.length + 1) = n + 1 + r.length by omega, this, absHeap_ins e]
      show Heap.mk _ _ = Heap.mk _ _
      congr 1
      show (absHeap t n life).objs.push o ++ r.toArray = _
      simp
noncomputable def convS (s : Shared) : Option SharedT := match convT s.heap.objs.toList 0 .nil with
  | some t => some ⟨t, s.heap.objs.toList.length, s.heap.life, s.gens, s.drawn, s.toks, s.os⟩
  | none => none
theorem convS_spec {s : Shared} {r : SharedT} (h : convS s = some r) : r.abs = s := by
  obtain ⟨⟨objs, life⟩, gens, drawn, toks, os⟩ := s
  unfold convS at h
  dsimp only at h
  cases e : convT objs.toList 0 .nil with
  | none => rw [e] at h; cases h
  | some t =>
    rw [e] at h
    cases h
    have := convT_spec (life := life) e
    rw [Nat.zero_add] at this
    show Shared.mk (absHeap t objs.toList.length life) _ _ _ _ = _
    rw [this]
    congr 2
    simp [absHeap, BT.list]
noncomputable def tailT (p : Program) (s₀ s₁ : Shared) : Option Shared := match staticsOk (importedModules p.main.body) s₀.heap s₁.heap && namesBound p s₁.heap && gensDone s₁ && laidKept s₀.heap s₁.heap with
  | true => some s₁
  | false => none
noncomputable def fromT (st : SharedT → Thread → Option (SharedT × Thread)) (p : Program) (N : Nat) (s₀ : Shared) : Option SharedT :=
  match s₀.heap.isNs mainGlobals && s₀.gens.size == 0 with
  | true => match convS s₀ with
    | some S₀ => (runF st s₀.heap.objs.size (s₀.heap.nsMap mainGlobals "__annotations__") N S₀ (topStub p)).bind fun S₁ => (tailT p s₀ S₁.abs).map fun _ => S₁
    | none => none
  | false => none
theorem tailT_eq {p : Program} {s₀ s₁ s : Shared} (h : tailT p s₀ s₁ = some s) : s = s₁ := by
  unfold tailT at h
  cases e : (staticsOk (importedModules p.main.body) s₀.heap s₁.heap && namesBound p s₁.heap && gensDone s₁ && laidKept s₀.heap s₁.heap) with
  | false => rw [e] at h; cases h
  | true => rw [e] at h; exact (Option.some.inj h).symm
theorem fromT_spec {tb : String → Option Builtin} {p : Program} {w : World} {N : Nat} {s₀ : Shared} {S : SharedT} (h : fromT (stepT (denote tb) p w) p N s₀ = some S) : topFrom tb p w N s₀ = some S.abs := by
  unfold fromT at h
  unfold topFrom
  cases e : (s₀.heap.isNs mainGlobals && s₀.gens.size == 0) with
  | false => rw [e] at h; cases h
  | true =>
    rw [e] at h
    dsimp only at h ⊢
    cases c : convS s₀ with
    | none => rw [c] at h; cases h
    | some S₀ =>
      rw [c] at h
      dsimp only at h
      rw [Option.bind_eq_some_iff] at h
      obtain ⟨S₁, h1, h2⟩ := h
      obtain ⟨s, h3, rfl⟩ := Option.map_eq_some_iff.mp h2
      have := runF_spec h1
      rw [convS_spec c] at this
      rw [this]
      have h4 := tailT_eq h3
      subst h4
      exact h3
noncomputable def getT (S : SharedT) (a : Nat) : Option Obj := match Nat.blt a S.n with
  | true => PySem.W.alive ((S.tree.get a).getD default)
  | false => none
theorem getT_abs (S : SharedT) (a : Nat) : S.abs.heap.get? a = getT S a := by
  unfold getT
  show (absHeap S.tree S.n S.life).get? a = _
  cases e : Nat.blt a S.n with
  | false => exact abs_get_none fun h => by rw [Nat.blt_eq.mpr h] at e; cases e
  | true =>
    unfold Heap.get?
    rw [absHeap_at, if_pos (Nat.blt_eq.mp e)]
    generalize (S.tree.get a).getD default = o
    show (match some o with | some ⟨_, _, .freed, _⟩ => none | o => o) = PySem.W.alive o
    obtain ⟨c, d, dt, sl⟩ := o
    cases dt <;> rfl
theorem left_of {p q : Program} {loose : List Str} {Xt : Shared → Bool} {K : Params → Frag} {as : List Addr} {e : ∀ P, as = (K P).map (·.1)} {N : Nat}
    (hA : ∀ w : World, ((fencedOpening treeTable p w N).bind (fromT (stepT (denote treeTable) p w) p N)).map (fun S => openSeen q loose (importedModules p.main.body) Xt true S.abs) = some (openGood q loose))
    (hB : ∀ w : World, ((fencedOpening treeTable p w N).bind (fromT (stepT (denote treeTable) p w) p N)).map (fun S => as.map (getT S)) = some ((K w.params).map fun x => some x.2)) : LeftO p q loose Xt (Hook.obs (kHook K as e)) (Hook.val (kHook K as e)) N true := fun w => by
  obtain ⟨S, a, b⟩ := Option.map_eq_some_iff.mp (hA w)
  obtain ⟨S', a', b'⟩ := Option.map_eq_some_iff.mp (hB w)
  rw [a] at a'
  cases a'
  rw [Option.bind_eq_some_iff] at a
  obtain ⟨s₀, a1, a2⟩ := a
  unfold openEnds
  rw [a1, Option.bind_some, fromT_spec a2]
  have c : (kHook K as e).obs S.abs = as.map (getT S) := List.map_congr_left fun x _ => getT_abs S x
  exact congrArg some (Prod.ext b (c.trans b'))
end Mine
end
section
open PySem PySem.W PyProof.Rows
set_option Elab.async false
set_option maxRecDepth 100000
set_option maxHeartbeats 8000000
namespace Mine2
noncomputable def kp : List Nat := [0, 2, 3, 4, 5, 6, 7, 8, 9, 10, 12, 14, 15, 16, 17, 18, 19, 20]
noncomputable def qv : Program := { PySem.Challenge.pw_qz0032_02 with main := { PySem.Challenge.pw_qz0032_02.main with body := kp.filterMap fun i => PySem.Challenge.pw_qz0032_02.main.body[i]? } }
theorem said : PySem.Challenge.rw_qz0032_02.wellSaid = true := by
  unfold OpenLaw.wellSaid OpenRow.wellSaid OpenRow.partSaid looksOpen
  simp only [Bool.and_eq_true]
  repeat' apply And.intro
  all_goals decide +kernel
theorem seenA (w : World) : ((fencedOpening treeTable PySem.Challenge.pw_qz0032_02 w 6034).bind (Mine.fromT (stepT (denote treeTable) PySem.Challenge.pw_qz0032_02 w) PySem.Challenge.pw_qz0032_02 6034)).map (fun S => openSeen Mine2.qv [] (importedModules PySem.Challenge.pw_qz0032_02.main.body) (fun s => xlAt Mine2.qv [] s && recOk (RowW.records (OpenRow.toRowW PySem.Challenge.rw_qz0032_02.row)) s) true S.abs) = some (openGood Mine2.qv []) := by
  delta fencedOpening; rw [PySem.W.Fast.te10274390034422433532, PySem.W.Fast.te1435165496053646825, PySem.W.Fast.te14289696077712309145, PySem.W.Fast.te14364793385576792824, PySem.W.Fast.te11892475500146522536, PySem.W.Fast.te10156331382660048174, PySem.W.Fast.te4187177175401517315]; kernel_rfl
local macro_rules | `(tactic| o_law) => `(tactic| refine holds_law Mine2.said fun said => ?_)
local macro_rules | `(tactic| o_head $H) => `(tactic| (refine holds_open (q := Mine2.qv) (loose := []) (Xt := fun s => xlAt Mine2.qv [] s && recOk (RowW.records (OpenRow.toRowW PySem.Challenge.rw_qz0032_02.row)) s) (XP := XL Mine2.qv []) (Yf := Hook.obs $H) (Ya := Hook.val $H) (YP := Hook.says $H) (N := 6034) ?hl (Hook.of $H) (Hook.keeps $H) (fun s e => xl_of s (Bool.and_eq_true_iff.mp e).1) XL.keeps (by rfl) (by rfl) (by rfl) (fun s e => recFacts_of (Bool.and_eq_true_iff.mp e).2) (by rfl) (by first | assumption | decide +kernel) (by decide +kernel) ⟨rfl, rfl, rfl, rfl, rfl, by decide +kernel⟩ ?hw ?hc; case hl => (refine Mine.left_of Mine2.seenA fun w => ?_; delta fencedOpening; rw [PySem.W.Fast.te10274390034422433532, PySem.W.Fast.te1435165496053646825, PySem.W.Fast.te14289696077712309145, PySem.W.Fast.te14364793385576792824, PySem.W.Fast.te11892475500146522536, PySem.W.Fast.te10156331382660048174]; kernel_rfl)))
open_top hd for PySem.Challenge.rw_qz0032_02
end Mine2
end
section
set_option Elab.async false
set_option maxRecDepth 100000
set_option maxHeartbeats 8000000
open PySem PySem.W PyProof.Rows
namespace Mine
noncomputable abbrev KK (w : World) : Frag := Mine2.hd.heap_1 w.params
noncomputable abbrev rprog : Program := PySem.Challenge.rw_qz0032_02.row.prog
theorem f_tab : sta.tab.Nodup := by decide +kernel
theorem f_atr (w : World) : atrsOk (KK w) sta.tab pAtrs = true := by kernel_rfl
theorem f_mth (w : World) : mthsOk (KK w) sta.tab pMths = true := by kernel_rfl
theorem f_init (w : World) : initsOk (KK w) pInits = true := by kernel_rfl
theorem f_glob (w : World) : globsOk (KK w) sta.globs = true := by kernel_rfl
theorem f_gint (w : World) : gintsOk (KK w) sta.gints = true := by kernel_rfl
theorem f_blt (w : World) : bltsOk (KK w) sta.blts = true := by kernel_rfl
noncomputable def fnsIn (K : Frag) (pr : Program) : Bool := pFns.all fun p => fnChk K pr sta p.1 p.2.1 (p.2.2.map Str.ofString)
theorem f_fns (w : World) : fnsIn (KK w) rprog = true := by kernel_rfl
theorem f_fn (w : World) {f : Nat} {mf : MFun} {l : List String} (h : (f, mf, l) ∈ pFns) : fnChk (KK w) rprog sta f mf (l.map Str.ofString) = true :=
  (List.all_eq_true.mp (show (pFns.all fun p => fnChk (KK w) rprog sta p.1 p.2.1 (p.2.2.map Str.ofString)) = true from f_fns w)) (f, mf, l) h
theorem f_stat (w : World) : ((KK w).lookup cStatics).isSome = true := by kernel_rfl
theorem f_law_at (w : World) : nsIn (KK w) mainGlobals "law" = some (some (.ref f_law)) := by kernel_rfl
theorem p_atr (C k : Nat) (h : pAtr C k = true) : (C, k) ∈ pAtrs := by simpa [pAtr] using h
theorem p_mth (C m f : Nat) (h : pMth C m = some f) : (C, m, f) ∈ pMths := by
  unfold pMth at h
  rw [Option.map_eq_some_iff] at h
  obtain ⟨⟨a, b, g⟩, h1, h2⟩ := h
  have h3 := List.find?_some h1
  simp only [Bool.and_eq_true, beq_iff_eq] at h3
  obtain ⟨rfl, rfl⟩ := h3
  cases h2
  exact List.mem_of_find?_eq_some h1
theorem p_init (C f : Nat) (h : pInit C = some f) : (C, f) ∈ pInits := lookup_mem' h
theorem p_fn (f : Nat) (mf : MFun) (h : pFn f = some mf) : ∃ l, (f, mf, l) ∈ pFns := by
  unfold pFn at h
  rw [Option.map_eq_some_iff] at h
  obtain ⟨⟨a, l⟩, h1, h2⟩ := h
  cases h2
  exact ⟨l, lookup_mem' h1⟩
end Mine
end
section
set_option Elab.async false
set_option maxRecDepth 100000
set_option maxHeartbeats 8000000
open PySem PySem.W PyProof.Rows
namespace Mine
theorem law2 (plain : ∀ ns : List Int, ns.length ≤ 63 → ∃ W d G', d ≤ 100 ∧ mcall prog W d f_law [.lst (ns.map .int)] [] = some (.bool true, G')) : PySem.Challenge.rw_qz0032_02.Holds := Mine2.hd (by
  k_fill
  intro w s₀ s₁ mg mb G Y fa o pm cd doc dV kV ho hd hcd hD hmg hg args vals as hpre hlay hrd hwl hlo
  have KX := kIn_of Y
  refine Ground.open G ?_
  intro T B D TE TW
  wrow_args hpre hlay hrd hwl hlo
  all_goals (first | refine callC_kw (enter_call ?_) | refine enter_call ?_ | refine callC_kw (enter_callW ?_) | refine enter_callW ?_ )
  rename_i ns _ _ _ _ _ _ _ l xs _ hL _ hW _ hI _ hlen _
  have O : (CX.mk rprog w sta prog (KK w) s₁.heap mg mb s₁.gens s₁.os).Ok := ok_of f_tab KX T.g T.b T.builtins T.nolimit p_atr p_mth p_init (f_atr w) (f_mth w) (f_init w) (f_glob w) (f_gint w) (f_blt w)
  have hfa : fa = f_law := by
    have h1 : mg "law" = some (.ref f_law) := mg_at KX T.g (f_law_at w)
    have h2 : mg "law" = some (.ref fa) := hmg
    rw [h1] at h2
    cases h2; rfl
  subst hfa
  obtain ⟨W, d, G', hd', hm⟩ := plain ns (by omega)
  cases hW with
  | @list _ xs2 ds hl2 _ =>
  obtain ⟨o2, ho2, hc2, n2, hd2⟩ := hL
  rw [hl2] at ho2
  cases ho2
  cases hd2
  refine law_bool O (f_stat w) (fun f mf h => ?_) (fun X d _ _ => srt_no rfl) hd' (by omega) hm hl2 hI fun s' hk hgs hos => ?_
  · obtain ⟨nm, hmem⟩ := p_fn f mf h
    exact ⟨nm.map Str.ofString, f_fn w hmem⟩
  · refine ⟨.inl ⟨_, .bool true, [], rfl, raisesW_false ?_, .bool true, ?_, fun _ => ⟨.nil, fun a h => (by cases h)⟩⟩, .of_keep hk, hos, .of_eq (hgs.trans hg)⟩
    · wrow_none_raised
    · kc_post)
end Mine
end
section
set_option autoImplicit false
set_option linter.unusedVariables false
set_option linter.unusedSimpArgs false
set_option linter.unusedSectionVars false
namespace Mine.Law
theorem bnd {α β : Type} {o : Option α} {a : α} {f : α → Option β} {r : Option β} (h : o = some a) (k : f a = r) : o.bind f = r := h ▸ k
theorem mpp {α β : Type} {o : Option α} {a : α} {f : α → β} (h : o = some a) : o.map f = some (f a) := h ▸ rfl
theorem mcall_of {P : Prog} {W d f : Nat} {mf : MFun} {args : List MV} {ρ : Lo} {G : GH} (h1 : P.fn f = some mf) (h2 : bindO mf args = some ρ) : mcall P W (d + 1) f args G = outO (mSs (ctx P W (mcall P W d)) mf.body ρ G) :=
  bnd (o := P.fn f) h1 (bnd (o := bindO mf args) h2 rfl)
section
variable {X : Ctx} {ρ ρ' : Lo} {G G' : GH}
theorem seq_next {x : MS} {r : List MS} (h : mS X x ρ G = some (.next, ρ', G')) : mSs X (x :: r) ρ G = mSs X r ρ' G' := bnd (o := mS X x ρ G) h rfl
theorem seq_stop {x : MS} {r : List MS} {fl : Fl} (h : mS X x ρ G = some (fl, ρ', G')) (hn : fl ≠ .next) : mSs X (x :: r) ρ G = some (fl, ρ', G') :=
  bnd (o := mS X x ρ G) h (by cases fl <;> first | rfl | exact absurd rfl hn)
theorem seq_nil : mSs X [] ρ G = some (.next, ρ, G) := rfl
theorem loc_eq {i : Nat} {v : MV} (h : ρ[i]? = some (some v)) : mE X (.loc i) ρ G = some (v, G) := bnd (o := ρ[i]?) h rfl
theorem es0 : mEs X [] ρ G = some ([], G) := rfl
theorem esC {e : ME} {r : List ME} {v : MV} {vs : List MV} {G2 : GH} (h : mE X e ρ G = some (v, G')) (h2 : mEs X r ρ G' = some (vs, G2)) : mEs X (e :: r) ρ G = some (v :: vs, G2) := bnd (o := mE X e ρ G) h (mpp h2)
theorem es1 {e : ME} {v : MV} (h : mE X e ρ G = some (v, G')) : mEs X [e] ρ G = some ([v], G') := esC h es0
theorem es2 {e e2 : ME} {v v2 : MV} {G2 : GH} (h : mE X e ρ G = some (v, G')) (h2 : mE X e2 ρ G' = some (v2, G2)) : mEs X [e, e2] ρ G = some ([v, v2], G2) := esC h (es1 h2)
theorem es3 {e e2 e3 : ME} {v v2 v3 : MV} {G2 G3 : GH} (h : mE X e ρ G = some (v, G')) (h2 : mE X e2 ρ G' = some (v2, G2)) (h3 : mE X e3 ρ G2 = some (v3, G3)) : mEs X [e, e2, e3] ρ G = some ([v, v2, v3], G3) := esC h (es2 h2 h3)
theorem es4 {e e2 e3 e4 : ME} {v v2 v3 v4 : MV} {G2 G3 G4 : GH} (h : mE X e ρ G = some (v, G')) (h2 : mE X e2 ρ G' = some (v2, G2)) (h3 : mE X e3 ρ G2 = some (v3, G3)) (h4 : mE X e4 ρ G3 = some (v4, G4)) : mEs X [e, e2, e3, e4] ρ G = some ([v, v2, v3, v4], G4) := esC h (es3 h2 h3 h4)
theorem sub_eq {e i : ME} {v w x : MV} {G2 : GH} (h : mE X e ρ G = some (v, G')) (h2 : mE X i ρ G' = some (w, G2)) (h3 : subO G2 v w = some x) : mE X (.sub e i) ρ G = some (x, G2) := bnd (o := mE X e ρ G) h (bnd h2 (mpp h3))
theorem attr_eq {e : ME} {k : Nat} {v x : MV} (h : mE X e ρ G = some (v, G')) (h2 : aGet X G' k v = some x) : mE X (.attr e k) ρ G = some (x, G') := bnd (o := mE X e ρ G) h (mpp h2)
theorem bin_eq {o : B2} {a b : ME} {v w x : MV} {G2 : GH} (h : mE X a ρ G = some (v, G')) (h2 : mE X b ρ G' = some (w, G2)) (h3 : binO G2 o v w = some x) : mE X (.bin o a b) ρ G = some (x, G2) := bnd (o := mE X a ρ G) h (bnd h2 (mpp h3))
theorem cmp_eq {o : C2} {a b : ME} {v w : MV} {x : Bool} {G2 : GH} (h : mE X a ρ G = some (v, G')) (h2 : mE X b ρ G' = some (w, G2)) (h3 : cmpO G2 o v w = some x) : mE X (.cmp o a b) ρ G = some (.bool x, G2) := bnd (o := mE X a ρ G) h (bnd h2 (mpp h3))
theorem kI_eq {i : Int} : mE X (.kI i) ρ G = some (.int i, G) := rfl
theorem gI_eq {k : Nat} {i : Int} : mE X (.gI k i) ρ G = some (.int i, G) := rfl
theorem kN_eq : mE X .kN ρ G = some (.none, G) := rfl
theorem kB_eq {b : Bool} : mE X (.kB b) ρ G = some (.bool b, G) := rfl
theorem blt_eq {b : Bl} {a : ME} {v : MV} {r : MV × GH} (h : mE X a ρ G = some (v, G')) (h2 : bltO G' b v = some r) : mE X (.blt b a) ρ G = some r := bnd (o := mE X a ρ G) h h2
theorem app_eq {e a : ME} {v x : MV} {G1 G2 G3 : GH} (h : mE X e ρ G = some (v, G1)) (hl : (lsO G1 v).isSome = true) (h2 : mE X a ρ G1 = some (x, G2)) (h3 : appO G2 v x = some G3) : mE X (.app e a) ρ G = some (.none, G3) := bnd (o := mE X e ρ G) h ((if_pos hl).trans (bnd h2 (mpp h3)))
theorem asgS_eq {o i e : ME} {x v w : MV} {G1 G2 G3 G4 : GH} (h : mE X e ρ G = some (x, G1)) (h2 : mE X o ρ G1 = some (v, G2)) (h3 : mE X i ρ G2 = some (w, G3)) (h4 : subSet G3 v w x = some G4) : mS X (.asgS o i e) ρ G = some (.next, ρ, G4) := bnd (o := mE X e ρ G) h (bnd (o := mE X o ρ G1) h2 (bnd (o := mE X i ρ G2) h3 (mpp h4)))
theorem and_t {e : ME} {r : List ME} (h : mE X e ρ G = some (.bool true, G')) : mAnd X (e :: r) ρ G = mAnd X r ρ G' := onB_t h
theorem and_f {e : ME} {r : List ME} (h : mE X e ρ G = some (.bool false, G')) : mAnd X (e :: r) ρ G = some (.bool false, G') := onB_f h
theorem or_t {e : ME} {r : List ME} (h : mE X e ρ G = some (.bool true, G')) : mOr X (e :: r) ρ G = some (.bool true, G') := onB_t h
theorem or_f {e : ME} {r : List ME} (h : mE X e ρ G = some (.bool false, G')) : mOr X (e :: r) ρ G = mOr X r ρ G' := onB_f h
theorem and_nil : mAnd X [] ρ G = some (.bool true, G) := rfl
theorem or_nil : mOr X [] ρ G = some (.bool false, G) := rfl
theorem andE {es : List ME} {r : MV × GH} (h : mAnd X es ρ G = some r) : mE X (.and_ es) ρ G = some r := h
theorem orE {es : List ME} {r : MV × GH} (h : mOr X es ρ G = some r) : mE X (.or_ es) ρ G = some r := h
theorem eq_int {a b : Int} : cmpO G .eq (.int a) (.int b) = some (a == b) := rfl
theorem ne_int {a b : Int} : cmpO G .ne (.int a) (.int b) = some (!(a == b)) := rfl
theorem cont_eq : mS X .cont ρ G = some (.cont, ρ, G) := rfl
theorem brk_eq : mS X .brk ρ G = some (.brk, ρ, G) := rfl
theorem ls_nil {st : MV → Lo → GH → Option (Fl × Lo × GH)} : loopS .no st [] ρ G = some (.next, ρ, G) := if_pos rfl
theorem ls_next {st : MV → Lo → GH → Option (Fl × Lo × GH)} {v : MV} {r : List Itm} {fl : Fl} (h : st v ρ G = some (fl, ρ', G')) (hf : fl = .next ∨ fl = .cont) : loopS .no st (.val v :: r) ρ G = loopS .no st r ρ' G' :=
  (if_pos (show gdOk G .no = true from rfl)).trans (bnd (o := st v ρ G) h (hf.elim (fun e => e ▸ rfl) fun e => e ▸ rfl))
theorem ls_ret {st : MV → Lo → GH → Option (Fl × Lo × GH)} {v x : MV} {r : List Itm} (h : st v ρ G = some (.ret x, ρ', G')) : loopS .no st (.val v :: r) ρ G = some (.ret x, ρ', G') :=
  (if_pos (show gdOk G .no = true from rfl)).trans (bnd (o := st v ρ G) h rfl)
theorem asg_eq {i : Nat} {e : ME} {v : MV} (h : mE X e ρ G = some (v, G')) (h2 : set1 ρ i v = some ρ') : mS X (.asg i e) ρ G = some (.next, ρ', G') := bnd (o := mE X e ρ G) h (mpp h2)
theorem expr_eq {e : ME} {v : MV} (h : mE X e ρ G = some (v, G')) : mS X (.expr e) ρ G = some (.next, ρ, G') := mpp (o := mE X e ρ G) h
theorem if_t {e : ME} {a b : List MS} (h : mE X e ρ G = some (.bool true, G')) : mS X (.ifS e a b) ρ G = mSs X a ρ G' := onB_t h
theorem if_f {e : ME} {a b : List MS} (h : mE X e ρ G = some (.bool false, G')) : mS X (.ifS e a b) ρ G = mSs X b ρ G' := onB_f h
theorem ret_eq {e : ME} {v : MV} (h : mE X e ρ G = some (v, G')) : mS X (.ret e) ρ G = some (.ret v, ρ, G') := mpp (o := mE X e ρ G) h
theorem no_eq {a : ME} {b : Bool} (h : mE X a ρ G = some (.bool b, G')) : mE X (.no a) ρ G = some (.bool (!b), G') := bnd (o := mE X a ρ G) h rfl
theorem tr_eq {a : ME} {b : Bool} (h : mE X a ρ G = some (.bool b, G')) : mE X (.truth a) ρ G = some (.bool b, G') := bnd (o := mE X a ρ G) h rfl
theorem while_t {t : Lo → GH → Option (MV × GH)} {st : Lo → GH → Option (Fl × Lo × GH)} {n : Nat} {G1 : GH} (h : t ρ G = some (.bool true, G1)) (h2 : st ρ G1 = some (.next, ρ', G')) : loopW t st (n + 1) ρ G = loopW t st n ρ' G' := (onB_t h).trans (bnd (o := st ρ G1) h2 rfl)
theorem while_b {t : Lo → GH → Option (MV × GH)} {st : Lo → GH → Option (Fl × Lo × GH)} {n : Nat} {G1 : GH} (h : t ρ G = some (.bool true, G1)) (h2 : st ρ G1 = some (.brk, ρ', G')) : loopW t st (n + 1) ρ G = some (.next, ρ', G') := (onB_t h).trans (bnd (o := st ρ G1) h2 rfl)
theorem while_f {t : Lo → GH → Option (MV × GH)} {st : Lo → GH → Option (Fl × Lo × GH)} {n : Nat} {G1 : GH} (h : t ρ G = some (.bool false, G1)) : loopW t st (n + 1) ρ G = some (.next, ρ, G1) := onB_f h
end
theorem bin_shr {G : GH} {a b : Int} (h : 0 ≤ b) : binO G .shr (.int a) (.int b) = some (.int (a.fdiv (2 ^ b.toNat))) :=
  show (if 0 ≤ b then some (MV.int (a.fdiv (2 ^ b.toNat))) else none) = _ from if_pos h
theorem bin_band {G : GH} {a : Int} (h : 0 ≤ a) : binO G .band (.int a) (.int 1) = some (.int (a % 2)) :=
  show (if (1 : Int) = 1 ∧ 0 ≤ a then some (MV.int (a % 2)) else none) = _ from if_pos ⟨rfl, h⟩
theorem so_rng1 {G : GH} {b : Int} (h : 0 ≤ b ∧ b < 4096) : srcO G .rng [.int b] = some (.no, rangeO 0 b 1) :=
  show (if 0 ≤ b ∧ b < 4096 then some (Gd.no, rangeO 0 b 1) else none) = _ from if_pos h
theorem bin_app {G : GH} {a b : List MV} (h : a.length + b.length < 4096) : binO G .add (.lst a) (.lst b) = some (.lst (a ++ b)) :=
  show (if a.length + b.length < 4096 then some (MV.lst (a ++ b)) else none) = _ from if_pos h
theorem bound_nat {m n : Nat} : boundO m (.int (n : Int)) = some n := show (if 0 ≤ (n : Int) then some (n : Int).toNat else none) = some n from if_pos (Int.natCast_nonneg n)
theorem slc_hi {G : GH} {l : List MV} {n : Nat} : slcO G (.lst l) .none (.int (n : Int)) = some (.lst (l.take n)) :=
  (bnd (o := boundO l.length (.int (n : Int))) bound_nat rfl : ((boundO l.length (.int (n : Int))).bind fun b => some (MV.lst ((l.take b).drop 0))) = _)
theorem slc_lo {G : GH} {l : List MV} {n : Nat} : slcO G (.lst l) (.int (n : Int)) .none = some (.lst (l.drop n)) :=
  (bnd (o := boundO 0 (.int (n : Int))) bound_nat (congrArg (fun r : List MV => some (MV.lst (r.drop n))) (List.take_length ..)) : ((boundO 0 (.int (n : Int))).bind fun a => some (MV.lst ((l.take l.length).drop a))) = _)
theorem bin_mul {G : GH} {a b : Int} (h1 : small a = true) (h2 : small b = true) : binO G .mul (.int a) (.int b) = some (.int (a * b)) :=
  show (if (small a && small b) = true then some (MV.int (a * b)) else none) = _ from if_pos (by rw [h1, h2]; rfl)
section
variable {G : GH} {i n : Nat} {l : List MV} {v x : MV}
theorem isS {α : Type} {o : Option α} {a : α} (h : o = some a) : o.isSome = true := h ▸ rfl
theorem isL (h : G[i]? = some (.lst l)) : (lsO G (.ref i)).isSome = true := isS (o := lsO G (.ref i)) (hL_of h)
theorem rN_lst (h : G[i]? = some (.lst l)) : rN G (.ref i) = none := congrArg (Option.map (fun p => (i, p))) (hN_lst h)
theorem sub_lst (h : G[i]? = some (.lst l)) (hn : l[n]? = some v) : subO G (.ref i) (.int (n : Int)) = some v := by
  show (match rN G (.ref i) with | some p => p.2.2.lookup (n : Int) | none => (lsO G (.ref i)).bind fun l => if 0 ≤ (n : Int) then l[(n : Int).toNat]? else none) = _
  rw [rN_lst h]
  exact bnd (hL_of h) ((if_pos (Int.natCast_nonneg n)).trans hn)
theorem subF_lst (hn : l[n]? = some v) : subO G (.lst l) (.int (n : Int)) = some v :=
  show (if 0 ≤ (n : Int) then l[(n : Int).toNat]? else none) = some v from (if_pos (Int.natCast_nonneg n)).trans hn
theorem set_lst (h : G[i]? = some (.lst l)) (hn : n < l.length) : subSet G (.ref i) (.int (n : Int)) x = some (G.set i (.lst (l.set n x))) := by
  unfold subSet
  simp only [iInt_int, rN_lst h]
  exact bnd (o := hL G i) (hL_of h) (if_pos ⟨Int.natCast_nonneg n, Int.ofNat_lt.mpr hn⟩)
theorem app_lst (h : G[i]? = some (.lst l)) (hl : l.length < 4096) : appO G (.ref i) x = some (G.set i (.lst (l ++ [x]))) := bnd (o := hL G i) (hL_of h) (if_pos hl)
theorem pop_lst (h : G[i]? = some (.lst l)) (hx : l.getLast? = some x) : popO G (.ref i) = some (x, G.set i (.lst l.dropLast)) := bnd (o := hL G i) (hL_of h) (mpp hx)
theorem len_lst (h : G[i]? = some (.lst l)) : bltO G .len (.ref i) = some (.int l.length, G) := mpp (o := hL G i) (hL_of h)
end
end Mine.Law
end
section
set_option autoImplicit false
set_option linter.unusedVariables false
set_option linter.unusedSimpArgs false
set_option linter.unusedSectionVars false
namespace Mine.Law

noncomputable def Src (G : GH) (gd : Gd) : List Itm → List MV → Prop
  | [], [] => True
  | a :: r, v :: t => fetch G gd a = some v ∧ Src G gd r t
  | _, _ => False

theorem src_no (G : GH) : ∀ l : List MV, Src G .no (l.map .val) l
  | [] => trivial
  | _ :: r => ⟨rfl, src_no G r⟩
theorem src_at {G : GH} {i n : Nat} {l : List MV} (h : G[i]? = some (.lst l)) : ∀ (m k : Nat), m + k = l.length → Src G (.lst i n) ((List.range' m k).map .at) (l.drop m)
  | m, 0, e => by rw [List.drop_of_length_le (by omega)]; trivial
  | m, k + 1, e => by
    have hm : m < l.length := by omega
    rw [List.range'_succ, List.map_cons, List.drop_eq_getElem_cons hm]
    refine ⟨?_, src_at h (m + 1) k (by omega)⟩
    exact bnd (hL_of h) (List.getElem?_eq_getElem hm)
theorem src_ref {G : GH} {i : Nat} {l : List MV} (h : G[i]? = some (.lst l)) : Src G (.lst i l.length) ((List.range l.length).map .at) l := by
  rw [List.range_eq_range']
  exact src_at h 0 l.length (by omega)

theorem so_lst {G : GH} {l : List MV} : srcO G .vals [.lst l] = some (.no, l.map .val) := rfl
theorem so_tup {G : GH} {l : List MV} : srcO G .vals [.tup l] = some (.no, l.map .val) := rfl
theorem so_ref {G : GH} {i : Nat} {l : List MV} (h : G[i]? = some (.lst l)) : srcO G .vals [.ref i] = some (.lst i l.length, (List.range l.length).map .at) := by
  show valsO G (.ref i) = _
  unfold valsO
  simp only [iRef_ref, hN_lst h]
  exact mpp (hL_of h)
theorem gd_ref {G : GH} {i : Nat} {l : List MV} (h : G[i]? = some (.lst l)) : gdOk G (.lst i l.length) = true := by
  show (match hL G i with | some l' => decide (l'.length = l.length) | none => false) = true
  rw [hL_of h]; exact decide_eq_true rfl

section
variable {X : Ctx} {ρ : Lo} {G : GH}

theorem loopC_pure {gd : Gd} {st : MV → GH → List MV → Option (List MV × GH)} {out : MV → List MV} (hg : gdOk G gd = true) :
    ∀ (items : List Itm) (l acc : List MV), Src G gd items l → (∀ v ∈ l, ∀ acc : List MV, acc.length + (out v).length ≤ 4000 → st v G acc = some (acc ++ out v, G)) → acc.length + (l.flatMap out).length ≤ 4000 → loopC gd st items G acc = some (acc ++ l.flatMap out, G)
  | [], [], acc, _, _, _ => (if_pos hg).trans (by rw [List.flatMap_nil, List.append_nil])
  | a :: r, v :: t, acc, S, h, hl => by
    rw [List.flatMap_cons, List.length_append] at hl
    rw [List.flatMap_cons, ← List.append_assoc]
    exact (if_pos hg).trans (bnd S.1 (bnd (h v (.head _) acc (by omega)) (loopC_pure hg r t _ S.2 (fun v hv => h v (.tail _ hv)) (by rw [List.length_append]; omega))))
  | [], _ :: _, _, S, _, _ => S.elim
  | _ :: _, [], _, S, _, _ => S.elim

theorem mC_nil {emit : Lo → GH → Option (MV × GH)} {v : MV} {G' : GH} {acc : List MV} (h : emit ρ G = some (v, G')) (hl : acc.length < 4096) : mC X [] emit ρ G acc = some (acc ++ [v], G') := bnd (o := emit ρ G) h (if_pos hl)

theorem mC_cons {tgt : List Nat} {one : Bool} {k : SK} {srcs ifs : List ME} {gs : List MG} {emit : Lo → GH → Option (MV × GH)} {vs l acc : List MV} {gd : Gd} {items : List Itm} (out : MV → List MV)
    (h1 : mEs X srcs ρ G = some (vs, G)) (h2 : srcO G k vs = some (gd, items)) (hg : gdOk G gd = true) (S : Src G gd items l)
    (hs : ∀ v ∈ l, ∃ ρ' b, asgO one tgt v ρ = some ρ' ∧ mAnd X ifs ρ' G = some (.bool b, G) ∧ (b = false → out v = []) ∧ (b = true → ∀ acc : List MV, acc.length + (out v).length ≤ 4000 → mC X gs emit ρ' G acc = some (acc ++ out v, G)))
    (hl : acc.length + (l.flatMap out).length ≤ 4000) : mC X (.mk tgt one k srcs ifs :: gs) emit ρ G acc = some (acc ++ l.flatMap out, G) := by
  refine bnd (o := mEs X srcs ρ G) h1 (bnd h2 (loopC_pure hg items l acc S (fun v hv acc ha => ?_) hl))
  obtain ⟨ρ', b, e1, e2, e3, e4⟩ := hs v hv
  refine bnd e1 ?_
  cases b with
  | true => exact (onB_t e2).trans (e4 rfl acc ha)
  | false => rw [e3 rfl, List.append_nil]; exact onB_f e2

theorem comp_of {k : Nat} {elt : ME} {gs : List MG} {l : List MV} {G' : GH} (h : mC X gs (fun ρ' G' => mE X elt ρ' G') (ρ ++ List.replicate k none) G [] = some (l, G')) (hl : l.length < 4096) : mE X (.comp false k elt gs) ρ G = some (.lst l, G') := bnd (o := mC X gs (fun ρ' G' => mE X elt ρ' G') (ρ ++ List.replicate k none) G []) h (if_pos hl)

theorem comp1 {k : Nat} {elt : ME} {tgt : List Nat} {one : Bool} {sk : SK} {srcs ifs : List ME} {vs l : List MV} {gd : Gd} {items : List Itm} (p : MV → Bool) (f : MV → MV)
    (h1 : mEs X srcs (ρ ++ List.replicate k none) G = some (vs, G)) (h2 : srcO G sk vs = some (gd, items)) (hg : gdOk G gd = true) (S : Src G gd items l)
    (hs : ∀ v ∈ l, ∃ ρ', asgO one tgt v (ρ ++ List.replicate k none) = some ρ' ∧ mAnd X ifs ρ' G = some (.bool (p v), G) ∧ (p v = true → mE X elt ρ' G = some (f v, G)))
    (hl : l.length ≤ 4000) : mE X (.comp false k elt [.mk tgt one sk srcs ifs]) ρ G = some (.lst ((l.filter p).map f), G) := by
  have e : ∀ l : List MV, l.flatMap (fun v => if p v then [f v] else []) = (l.filter p).map f := fun l => by
    induction l with
    | nil => rfl
    | cons a r ih =>
      rw [List.flatMap_cons, ih, List.filter_cons]
      split <;> rfl
  have hlen : ((l.filter p).map f).length ≤ l.length := by rw [List.length_map]; exact List.length_filter_le p l
  refine comp_of ?_ (by omega)
  have := mC_cons (X := X) (ρ := ρ ++ List.replicate k none) (G := G) (tgt := tgt) (one := one) (k := sk) (srcs := srcs) (ifs := ifs) (gs := []) (emit := fun ρ' G' => mE X elt ρ' G') (acc := []) (fun v => if p v then [f v] else []) h1 h2 hg S (fun v hv => by
    obtain ⟨ρ', e1, e2, e3⟩ := hs v hv
    refine ⟨ρ', p v, e1, e2, fun h => by rw [if_neg (by simp [h])], fun h acc ha => ?_⟩
    rw [if_pos h] at ha ⊢
    exact mC_nil (e3 h) (by simp at ha; omega)) (by rw [e]; simp; exact Nat.le_trans (List.length_filter_le p l) hl)
  rw [e, List.nil_append] at this
  exact this

theorem loopC_inv {st : MV → GH → List MV → Option (List MV × GH)} {Q : Nat → GH → List MV → Prop} :
    ∀ (l : List MV) (i : Nat) (G : GH) (acc : List MV), (∀ (j : Nat) (v : MV) (G : GH) (acc : List MV), i ≤ j → l[j - i]? = some v → Q j G acc → ∃ acc' G', st v G acc = some (acc', G') ∧ Q (j + 1) G' acc') → Q i G acc →
      ∃ acc' G', loopC .no st (l.map .val) G acc = some (acc', G') ∧ Q (i + l.length) G' acc'
  | [], i, G, acc, _, q => ⟨acc, G, if_pos rfl, q⟩
  | v :: t, i, G, acc, h, q => by
    obtain ⟨acc1, G1, e1, q1⟩ := h i v G acc (Nat.le_refl _) (by simp) q
    obtain ⟨acc2, G2, e2, q2⟩ := loopC_inv t (i + 1) G1 acc1 (fun j v G acc hj hv => h j v G acc (by omega) (by
      have : j - i = (j - (i + 1)) + 1 := by omega
      rw [this, List.getElem?_cons_succ]; exact hv)) q1
    refine ⟨acc2, G2, ?_, by rw [List.length_cons, show i + (t.length + 1) = i + 1 + t.length by omega]; exact q2⟩
    exact (if_pos (show gdOk G .no = true from rfl)).trans (bnd (o := st v G acc) e1 e2)

theorem comp_inv {k : Nat} {elt : ME} {tgt : List Nat} {one : Bool} {sk : SK} {srcs : List ME} {vs l : List MV} {G1 : GH} (Q : Nat → GH → List MV → Prop)
    (h1 : mEs X srcs (ρ ++ List.replicate k none) G = some (vs, G1)) (h2 : srcO G1 sk vs = some (.no, l.map .val)) (q : Q 0 G1 [])
    (hs : ∀ (j : Nat) (v : MV) (G : GH) (acc : List MV), l[j]? = some v → Q j G acc → ∃ ρ' x G', asgO one tgt v (ρ ++ List.replicate k none) = some ρ' ∧ mE X elt ρ' G = some (x, G') ∧ Q (j + 1) G' (acc ++ [x]))
    (hQ : ∀ j G acc, Q j G acc → acc.length = j) (hl : l.length ≤ 4000) : ∃ acc G', mE X (.comp false k elt [.mk tgt one sk srcs []]) ρ G = some (.lst acc, G') ∧ Q l.length G' acc := by
  obtain ⟨acc, G', e, q'⟩ := loopC_inv (st := fun v G acc => (asgO one tgt v (ρ ++ List.replicate k none)).bind fun ρ' =>
      onB (mAnd X [] ρ' G) (fun G2 => mC X [] (fun ρ' G' => mE X elt ρ' G') ρ' G2 acc) fun G2 => some (acc, G2)) (Q := fun j G acc => Q j G acc ∧ j ≤ l.length) l 0 G1 [] (fun j v G acc _ hv q => by
    rw [Nat.sub_zero] at hv
    have hj := (List.getElem?_eq_some_iff.mp hv).1
    obtain ⟨ρ', x, G', a1, a2, a3⟩ := hs j v G acc hv q.1
    refine ⟨acc ++ [x], G', ?_, a3, by omega⟩
    have := hQ _ _ _ q.1
    exact bnd a1 (mC_nil (X := X) a2 (by omega))) ⟨q, Nat.zero_le _⟩
  rw [Nat.zero_add] at q'
  refine ⟨acc, G', comp_of ?_ (by have := hQ _ _ _ q'.1; omega), q'.1⟩
  exact bnd (o := mEs X srcs (ρ ++ List.replicate k none) G) h1 (bnd h2 e)

theorem loopS_inv {st : MV → Lo → GH → Option (Fl × Lo × GH)} {Q : Nat → Lo → GH → Prop} :
    ∀ (l : List MV) (i : Nat) (ρ : Lo) (G : GH), (∀ (j : Nat) (v : MV) (ρ : Lo) (G : GH), i ≤ j → l[j - i]? = some v → Q j ρ G → ∃ fl ρ' G', st v ρ G = some (fl, ρ', G') ∧ (fl = .next ∨ fl = .cont) ∧ Q (j + 1) ρ' G') → Q i ρ G →
      ∃ ρ' G', loopS .no st (l.map .val) ρ G = some (.next, ρ', G') ∧ Q (i + l.length) ρ' G'
  | [], i, ρ, G, _, q => ⟨ρ, G, ls_nil, q⟩
  | v :: t, i, ρ, G, h, q => by
    obtain ⟨fl, ρ1, G1, e1, hf, q1⟩ := h i v ρ G (Nat.le_refl _) (by simp) q
    obtain ⟨ρ2, G2, e2, q2⟩ := loopS_inv t (i + 1) ρ1 G1 (fun j v ρ G hj hv => h j v ρ G (by omega) (by
      have : j - i = (j - (i + 1)) + 1 := by omega
      rw [this, List.getElem?_cons_succ]; exact hv)) q1
    refine ⟨ρ2, G2, ?_, by rw [List.length_cons, show i + (t.length + 1) = i + 1 + t.length by omega]; exact q2⟩
    rw [List.map_cons, ls_next e1 hf]
    exact e2
theorem for_inv {tgt : List Nat} {one : Bool} {sk : SK} {srcs : List ME} {b : List MS} {vs l : List MV} {G1 : GH} (Q : Nat → Lo → GH → Prop)
    (h1 : mEs X srcs ρ G = some (vs, G1)) (h2 : srcO G1 sk vs = some (.no, l.map .val)) (q : Q 0 ρ G1)
    (hs : ∀ (j : Nat) (v : MV) (ρ : Lo) (G : GH), l[j]? = some v → Q j ρ G → ∃ ρ' fl ρ'' G', asgO one tgt v ρ = some ρ' ∧ mSs X b ρ' G = some (fl, ρ'', G') ∧ (fl = .next ∨ fl = .cont) ∧ Q (j + 1) ρ'' G') :
    ∃ ρ' G', mS X (.forS tgt one sk srcs b) ρ G = some (.next, ρ', G') ∧ Q l.length ρ' G' := by
  obtain ⟨ρ', G', e, q'⟩ := loopS_inv (st := fun v ρ G => (asgO one tgt v ρ).bind fun ρ' => mSs X b ρ' G) (Q := Q) l 0 ρ G1 (fun j v ρ G _ hv q => by
    rw [Nat.sub_zero] at hv
    obtain ⟨ρ', fl, ρ'', G', a1, a2, a3, a4⟩ := hs j v ρ G hv q
    exact ⟨fl, ρ'', G', bnd a1 a2, a3, a4⟩) q
  rw [Nat.zero_add] at q'
  refine ⟨ρ', G', ?_, q'⟩
  exact bnd (o := mEs X srcs ρ G) h1 (bnd h2 e)
end

section
variable {X : Ctx} {ρ ρ' : Lo} {G G' : GH}
theorem tup_eq {es : List ME} {vs : List MV} (h : mEs X es ρ G = some (vs, G')) : mE X (.tup es) ρ G = some (.tup vs, G') := mpp (o := mEs X es ρ G) h
theorem lstF_eq {es : List ME} {vs : List MV} (h : mEs X es ρ G = some (vs, G')) : mE X (.lst false es) ρ G = some (.lst vs, G') := mpp (o := mEs X es ρ G) h
theorem lstT_eq {es : List ME} {vs : List MV} (h : mEs X es ρ G = some (vs, G')) : mE X (.lst true es) ρ G = some (.ref G'.length, G' ++ [.lst vs]) := mpp (o := mEs X es ρ G) h
theorem call_eq {f : Nat} {es : List ME} {vs : List MV} {r : MV × GH} (h : mEs X es ρ G = some (vs, G')) (h2 : X.call f vs G' = some r) : mE X (.call f es) ρ G = some r := bnd (o := mEs X es ρ G) h h2
theorem asgT_eq {is : List Nat} {e : ME} {l : List MV} (h : mE X e ρ G = some (.tup l, G')) (h2 : setAll ρ is l = some ρ') : mS X (.asgT is e) ρ G = some (.next, ρ', G') := bnd (o := mE X e ρ G) h (mpp h2)
theorem asgW_eq {is : List Nat} {e : ME} {l : List MV} (h : mE X e ρ G = some (.tup l, G')) (hl : is.length = l.length) (h2 : setAll ρ is.reverse l.reverse = some ρ') : mS X (.asgW is e) ρ G = some (.next, ρ', G') := bnd (o := mE X e ρ G) h ((if_pos hl).trans (mpp h2))
theorem slc_eq {e lo hi : ME} {v a b x : MV} {G2 G3 : GH} (h : mE X e ρ G = some (v, G')) (h1 : mE X lo ρ G' = some (a, G2)) (h2 : mE X hi ρ G2 = some (b, G3)) (h3 : slcO G3 v a b = some x) : mE X (.slc e lo hi) ρ G = some (x, G3) := bnd (o := mE X e ρ G) h (bnd h1 (bnd h2 (mpp h3)))
theorem rev_eq {e : ME} {v x : MV} (h : mE X e ρ G = some (v, G')) (h3 : revO G' v = some x) : mE X (.rev e) ρ G = some (x, G') := bnd (o := mE X e ρ G) h (mpp h3)
theorem neg_eq {e : ME} {i : Int} (h : mE X e ρ G = some (.int i, G')) : mE X (.neg e) ρ G = some (.int (-i), G') := bnd (o := mE X e ρ G) h rfl
theorem cmp2_eq {o1 o2 : C2} {a b c : ME} {v w x : MV} {t : Bool} {u : Bool} {G2 : GH} (h : mE X a ρ G = some (v, G')) (h2 : mE X b ρ G' = some (w, G2)) (h3 : cmpO G2 o1 v w = some t) (h4 : mE X c ρ G2 = some (x, G2)) (h5 : cmpO G2 o2 w x = some u) : mE X (.cmp2 o1 o2 a b c) ρ G = some (.bool (t && u), G2) :=
  bnd (o := mE X a ρ G) h (bnd h2 (match t, mpp (f := fun b => (MV.bool b, G2)) h3 with
    | false, h3 => onB_f h3
    | true, h3 => (onB_t h3).trans (bnd h4 (mpp h5))))
theorem ite_t {e a b : ME} (h : mE X e ρ G = some (.bool true, G')) : mE X (.ite e a b) ρ G = mE X a ρ G' := onB_t h
theorem ite_f {e a b : ME} (h : mE X e ρ G = some (.bool false, G')) : mE X (.ite e a b) ρ G = mE X b ρ G' := onB_f h
theorem ite_eq {e a b : ME} {t : Bool} {v w : MV} (h : mE X e ρ G = some (.bool t, G')) (h1 : mE X a ρ G' = some (v, G')) (h2 : mE X b ρ G' = some (w, G')) : mE X (.ite e a b) ρ G = some (if t = true then v else w, G') :=
  match t, h with
  | false, h => (ite_f h).trans h2
  | true, h => (ite_t h).trans h1
theorem seq_app {b : List MS} : ∀ {a : List MS} {ρ : Lo} {G : GH}, mSs X a ρ G = some (.next, ρ', G') → mSs X (a ++ b) ρ G = mSs X b ρ' G'
  | [], ρ, G, h => by cases h; rfl
  | x :: r, ρ, G, h => (Option.bind_eq_some_iff.mp h).elim fun o q => bnd (o := mS X x ρ G) q.1 (by
    obtain ⟨fl, ρ2, G2⟩ := o
    cases fl with
    | next => exact seq_app (a := r) q.2
    | _ => cases q.2)
end

theorem dat_int {G : GH} : ∀ (n : Nat) (i : Int), datO G n (.int i) = some (.int i)
  | 0, _ => rfl
  | _ + 1, _ => rfl
theorem dats_int {G : GH} {n : Nat} : ∀ l : List Int, datsW (datO G n) (l.map .int) = some (l.map .int)
  | [] => rfl
  | i :: r => by
    exact bnd (o := datO G n (.int i)) (dat_int n i) (mpp (dats_int r))
theorem dEqs_int : ∀ a b : List Int, dEqs (a.map .int) (b.map .int) = (a == b)
  | [], [] => rfl
  | [], _ :: _ => rfl
  | _ :: _, [] => rfl
  | x :: a, y :: b => by
    rw [List.map_cons, List.map_cons, dEqs, dEqs_int a b, dEq]
    rfl
theorem dat_lst {G : GH} {n : Nat} (l : List Int) : datO G (n + 1) (.lst (l.map .int)) = some (.lst (l.map .int)) :=
  mpp (o := datsW (datO G n) (l.map .int)) (dats_int l)
theorem dat_ref {G : GH} {n i : Nat} {l : List Int} (h : G[i]? = some (.lst (l.map .int))) : datO G (n + 1) (.ref i) = some (.lst (l.map .int)) := by
  show (match hL G i with | some l => (datsW (datO G n) l).map DT.lst | none => atomD (.ref i)) = _
  rw [hL_of h]; exact mpp (dats_int l)
theorem eq_lst {G : GH} (a b : List Int) : eqO G (.lst (a.map .int)) (.lst (b.map .int)) = some (a == b) := by
  exact bnd (dat_lst a) ((mpp (dat_lst b)).trans (congrArg some (dEqs_int a b)))
theorem ne_lst {G : GH} (a b : List Int) : cmpO G .ne (.lst (a.map .int)) (.lst (b.map .int)) = some (!(a == b)) := by
  exact mpp (eq_lst a b)
theorem ceq_lst {G : GH} (a b : List Int) : cmpO G .eq (.lst (a.map .int)) (.lst (b.map .int)) = some (a == b) := eq_lst a b
theorem intsO_map : ∀ l : List Int, intsO (l.map .int) = some l
  | [] => rfl
  | i :: r => mpp (intsO_map r)
theorem in_lst {G : GH} (a : Int) (l : List Int) : cmpO G .isin (.int a) (.lst (l.map .int)) = some (l.contains a) := mpp (intsO_map l)
theorem nin_lst {G : GH} (a : Int) (l : List Int) : cmpO G .nin (.int a) (.lst (l.map .int)) = some (!l.contains a) := mpp (intsO_map l)
theorem in_tup {G : GH} (a : Int) (l : List Int) : cmpO G .isin (.int a) (.tup (l.map .int)) = some (l.contains a) := mpp (intsO_map l)
end Mine.Law
end
section
set_option autoImplicit false
set_option linter.unusedVariables false
set_option linter.unusedSimpArgs false
namespace Mine.Law

structure Co where
  assigns : List MV
  levels : List MV
  reasons : List MV
  spots : List MV
  phases : List MV
  watches : List MV
  act : List Int
  heap : List Nat
  place : List Int
  trail : List MV
  starts : List MV
  clauses : List MV
  steps : List MV
  droppable : List MV
  activities : List MV
  seen : List Bool
  unit : List MV

noncomputable def iN (n : Nat) : MV := .int (n : Int)
noncomputable def dHeap (b : Nat) : List (Nat × MV) := [(n_limit, .int 1000000000000), (n_step, .int 1024), (n_activity, .ref (b + 10)), (n_heap, .ref (b + 11)), (n_place, .ref (b + 12))]
noncomputable def dCore (b : Nat) : List (Nat × MV) := [(n_hook, .none), (n_assigns, .ref (b + 1)), (n_levels, .ref (b + 2)), (n_reasons, .ref (b + 3)), (n_spots, .ref (b + 4)), (n_phases, .ref (b + 5)), (n_watches, .ref (b + 8)), (n_heap, .obj c_CoreHeap (b + 9)), (n_trail, .ref (b + 13)), (n_starts, .ref (b + 14)),
  (n_head, .int 0), (n_told, .int 0), (n_clauses, .ref (b + 15)), (n_steps, .ref (b + 16)), (n_droppable, .ref (b + 17)), (n_activities, .ref (b + 18)), (n_learnt_count, .int 0), (n_proof, .none), (n_seen, .ref (b + 19)), (n_unit_steps, .ref (b + 20)), (n_rooted, .int 0), (n_is_ok, .bool true), (n_empty_step, .none), (n_failed, .tup []),
  (n_failed_at, .none), (n_conflict_limit, .int 0), (n_conflicts, .int 0), (n_decisions, .int 0)]
noncomputable def blk (b : Nat) (c : Co) : GH := [.sd (dCore b), .lst c.assigns, .lst c.levels, .lst c.reasons, .lst c.spots, .lst c.phases, .lst [], .lst [], .lst c.watches, .sd (dHeap b), .lst (c.act.map .int), .lst (c.heap.map iN), .lst (c.place.map .int),
  .lst c.trail, .lst c.starts, .lst c.clauses, .lst c.steps, .lst c.droppable, .lst c.activities, .lst (c.seen.map .bool), .lst c.unit]
noncomputable def inn (pre post : GH) (c : Co) : GH := pre ++ blk pre.length c ++ post

theorem inn_get (pre post : GH) (c : Co) {k : Nat} (h : k < 21) : (inn pre post c)[pre.length + k]? = (blk pre.length c)[k]? := by
  unfold inn
  rw [List.getElem?_append_left (by rw [List.length_append]; show pre.length + k < pre.length + 21; omega), List.getElem?_append_right (by omega), Nat.add_sub_cancel_left]
theorem inn_set (pre post : GH) (c c' : Co) {k : Nat} (h : k < 21) {x : GO} (e : (blk pre.length c).set k x = blk pre.length c') : (inn pre post c).set (pre.length + k) x = inn pre post c' := by
  unfold inn
  rw [List.set_append_left _ _ (by rw [List.length_append]; show pre.length + k < pre.length + 21; omega), List.set_append_right _ _ (by omega), Nat.add_sub_cancel_left, e]

section
variable (pre post : GH) (c : Co)
theorem g0 : (inn pre post c)[pre.length]? = some (.sd (dCore pre.length)) := inn_get pre post c (k := 0) (by decide)
theorem g1 : (inn pre post c)[pre.length + 1]? = some (.lst c.assigns) := inn_get pre post c (by decide)
theorem g2 : (inn pre post c)[pre.length + 2]? = some (.lst c.levels) := inn_get pre post c (by decide)
theorem g3 : (inn pre post c)[pre.length + 3]? = some (.lst c.reasons) := inn_get pre post c (by decide)
theorem g4 : (inn pre post c)[pre.length + 4]? = some (.lst c.spots) := inn_get pre post c (by decide)
theorem g5 : (inn pre post c)[pre.length + 5]? = some (.lst c.phases) := inn_get pre post c (by decide)
theorem g8 : (inn pre post c)[pre.length + 8]? = some (.lst c.watches) := inn_get pre post c (by decide)
theorem g9 : (inn pre post c)[pre.length + 9]? = some (.sd (dHeap pre.length)) := inn_get pre post c (by decide)
theorem g10 : (inn pre post c)[pre.length + 10]? = some (.lst (c.act.map .int)) := inn_get pre post c (by decide)
theorem g11 : (inn pre post c)[pre.length + 11]? = some (.lst (c.heap.map iN)) := inn_get pre post c (by decide)
theorem g12 : (inn pre post c)[pre.length + 12]? = some (.lst (c.place.map .int)) := inn_get pre post c (by decide)
theorem g13 : (inn pre post c)[pre.length + 13]? = some (.lst c.trail) := inn_get pre post c (by decide)
theorem g14 : (inn pre post c)[pre.length + 14]? = some (.lst c.starts) := inn_get pre post c (by decide)
theorem g15 : (inn pre post c)[pre.length + 15]? = some (.lst c.clauses) := inn_get pre post c (by decide)
theorem g16 : (inn pre post c)[pre.length + 16]? = some (.lst c.steps) := inn_get pre post c (by decide)
theorem g17 : (inn pre post c)[pre.length + 17]? = some (.lst c.droppable) := inn_get pre post c (by decide)
theorem g18 : (inn pre post c)[pre.length + 18]? = some (.lst c.activities) := inn_get pre post c (by decide)
theorem g19 : (inn pre post c)[pre.length + 19]? = some (.lst (c.seen.map .bool)) := inn_get pre post c (by decide)
theorem g20 : (inn pre post c)[pre.length + 20]? = some (.lst c.unit) := inn_get pre post c (by decide)
theorem s1 (l : List MV) : (inn pre post c).set (pre.length + 1) (.lst l) = inn pre post { c with assigns := l } := inn_set pre post c _ (by decide) rfl
theorem s2 (l : List MV) : (inn pre post c).set (pre.length + 2) (.lst l) = inn pre post { c with levels := l } := inn_set pre post c _ (by decide) rfl
theorem s3 (l : List MV) : (inn pre post c).set (pre.length + 3) (.lst l) = inn pre post { c with reasons := l } := inn_set pre post c _ (by decide) rfl
theorem s4 (l : List MV) : (inn pre post c).set (pre.length + 4) (.lst l) = inn pre post { c with spots := l } := inn_set pre post c _ (by decide) rfl
theorem s5 (l : List MV) : (inn pre post c).set (pre.length + 5) (.lst l) = inn pre post { c with phases := l } := inn_set pre post c _ (by decide) rfl
theorem s8 (l : List MV) : (inn pre post c).set (pre.length + 8) (.lst l) = inn pre post { c with watches := l } := inn_set pre post c _ (by decide) rfl
theorem s10 (l : List Int) : (inn pre post c).set (pre.length + 10) (.lst (l.map .int)) = inn pre post { c with act := l } := inn_set pre post c _ (by decide) rfl
theorem s11 (l : List Nat) : (inn pre post c).set (pre.length + 11) (.lst (l.map iN)) = inn pre post { c with heap := l } := inn_set pre post c _ (by decide) rfl
theorem s12 (l : List Int) : (inn pre post c).set (pre.length + 12) (.lst (l.map .int)) = inn pre post { c with place := l } := inn_set pre post c _ (by decide) rfl
theorem s13 (l : List MV) : (inn pre post c).set (pre.length + 13) (.lst l) = inn pre post { c with trail := l } := inn_set pre post c _ (by decide) rfl
theorem s14 (l : List MV) : (inn pre post c).set (pre.length + 14) (.lst l) = inn pre post { c with starts := l } := inn_set pre post c _ (by decide) rfl
theorem s15 (l : List MV) : (inn pre post c).set (pre.length + 15) (.lst l) = inn pre post { c with clauses := l } := inn_set pre post c _ (by decide) rfl
theorem s16 (l : List MV) : (inn pre post c).set (pre.length + 16) (.lst l) = inn pre post { c with steps := l } := inn_set pre post c _ (by decide) rfl
theorem s17 (l : List MV) : (inn pre post c).set (pre.length + 17) (.lst l) = inn pre post { c with droppable := l } := inn_set pre post c _ (by decide) rfl
theorem s18 (l : List MV) : (inn pre post c).set (pre.length + 18) (.lst l) = inn pre post { c with activities := l } := inn_set pre post c _ (by decide) rfl
theorem s19 (l : List Bool) : (inn pre post c).set (pre.length + 19) (.lst (l.map .bool)) = inn pre post { c with seen := l } := inn_set pre post c _ (by decide) rfl
theorem s20 (l : List MV) : (inn pre post c).set (pre.length + 20) (.lst l) = inn pre post { c with unit := l } := inn_set pre post c _ (by decide) rfl
end

section
variable (pre post : GH) (c : Co) (W : Nat) (call : Nat → List MV → GH → Option (MV × GH))
noncomputable abbrev hObj (b : Nat) : MV := .obj c_CoreHeap (b + 9)
noncomputable abbrev cObj (b : Nat) : MV := .obj c_Search b
theorem ah (k : Nat) (v : MV) (h : prog.atr c_CoreHeap k = true) (e : (dHeap pre.length).lookup k = some v) : aGet (ctx prog W call) (inn pre post c) k (.obj c_CoreHeap (pre.length + 9)) = some v :=
  (if_pos h).trans (bnd (hS_of (g9 pre post c)) e)
theorem ac (k : Nat) (v : MV) (h : prog.atr c_Search k = true) (e : (dCore pre.length).lookup k = some v) : aGet (ctx prog W call) (inn pre post c) k (.obj c_Search pre.length) = some v :=
  (if_pos h).trans (bnd (hS_of (g0 pre post c)) e)
theorem ah_limit : aGet (ctx prog W call) (inn pre post c) n_limit (.obj c_CoreHeap (pre.length + 9)) = some (.int 1000000000000) := ah _ _ _ _ _ _ _ (by decide) rfl
theorem ah_step : aGet (ctx prog W call) (inn pre post c) n_step (.obj c_CoreHeap (pre.length + 9)) = some (.int 1024) := ah _ _ _ _ _ _ _ (by decide) rfl
theorem ah_activity : aGet (ctx prog W call) (inn pre post c) n_activity (.obj c_CoreHeap (pre.length + 9)) = some (.ref (pre.length + 10)) := ah _ _ _ _ _ _ _ (by decide) rfl
theorem ah_heap : aGet (ctx prog W call) (inn pre post c) n_heap (.obj c_CoreHeap (pre.length + 9)) = some (.ref (pre.length + 11)) := ah _ _ _ _ _ _ _ (by decide) rfl
theorem ah_place : aGet (ctx prog W call) (inn pre post c) n_place (.obj c_CoreHeap (pre.length + 9)) = some (.ref (pre.length + 12)) := ah _ _ _ _ _ _ _ (by decide) rfl
theorem ac_hook : aGet (ctx prog W call) (inn pre post c) n_hook (.obj c_Search pre.length) = some .none := ac _ _ _ _ _ _ _ (by decide) rfl
theorem ac_assigns : aGet (ctx prog W call) (inn pre post c) n_assigns (.obj c_Search pre.length) = some (.ref (pre.length + 1)) := ac _ _ _ _ _ _ _ (by decide) rfl
theorem ac_levels : aGet (ctx prog W call) (inn pre post c) n_levels (.obj c_Search pre.length) = some (.ref (pre.length + 2)) := ac _ _ _ _ _ _ _ (by decide) rfl
theorem ac_reasons : aGet (ctx prog W call) (inn pre post c) n_reasons (.obj c_Search pre.length) = some (.ref (pre.length + 3)) := ac _ _ _ _ _ _ _ (by decide) rfl
theorem ac_spots : aGet (ctx prog W call) (inn pre post c) n_spots (.obj c_Search pre.length) = some (.ref (pre.length + 4)) := ac _ _ _ _ _ _ _ (by decide) rfl
theorem ac_phases : aGet (ctx prog W call) (inn pre post c) n_phases (.obj c_Search pre.length) = some (.ref (pre.length + 5)) := ac _ _ _ _ _ _ _ (by decide) rfl
theorem ac_watches : aGet (ctx prog W call) (inn pre post c) n_watches (.obj c_Search pre.length) = some (.ref (pre.length + 8)) := ac _ _ _ _ _ _ _ (by decide) rfl
theorem ac_heap : aGet (ctx prog W call) (inn pre post c) n_heap (.obj c_Search pre.length) = some (.obj c_CoreHeap (pre.length + 9)) := ac _ _ _ _ _ _ _ (by decide) rfl
theorem ac_trail : aGet (ctx prog W call) (inn pre post c) n_trail (.obj c_Search pre.length) = some (.ref (pre.length + 13)) := ac _ _ _ _ _ _ _ (by decide) rfl
theorem ac_starts : aGet (ctx prog W call) (inn pre post c) n_starts (.obj c_Search pre.length) = some (.ref (pre.length + 14)) := ac _ _ _ _ _ _ _ (by decide) rfl
theorem ac_clauses : aGet (ctx prog W call) (inn pre post c) n_clauses (.obj c_Search pre.length) = some (.ref (pre.length + 15)) := ac _ _ _ _ _ _ _ (by decide) rfl
theorem ac_steps : aGet (ctx prog W call) (inn pre post c) n_steps (.obj c_Search pre.length) = some (.ref (pre.length + 16)) := ac _ _ _ _ _ _ _ (by decide) rfl
theorem ac_droppable : aGet (ctx prog W call) (inn pre post c) n_droppable (.obj c_Search pre.length) = some (.ref (pre.length + 17)) := ac _ _ _ _ _ _ _ (by decide) rfl
theorem ac_activities : aGet (ctx prog W call) (inn pre post c) n_activities (.obj c_Search pre.length) = some (.ref (pre.length + 18)) := ac _ _ _ _ _ _ _ (by decide) rfl
theorem ac_seen : aGet (ctx prog W call) (inn pre post c) n_seen (.obj c_Search pre.length) = some (.ref (pre.length + 19)) := ac _ _ _ _ _ _ _ (by decide) rfl
theorem ac_unit : aGet (ctx prog W call) (inn pre post c) n_unit_steps (.obj c_Search pre.length) = some (.ref (pre.length + 20)) := ac _ _ _ _ _ _ _ (by decide) rfl
end

end Mine.Law
end
section
set_option autoImplicit false
set_option linter.unusedVariables false
namespace Mine.Law

noncomputable def bef (a1 a2 : Int) (one other : Nat) : Bool := if a1 ≠ a2 then decide (a1 > a2) else decide (one < other)
noncomputable def lt (act : List Int) (u v : Nat) : Bool := bef (act.getD u 0) (act.getD v 0) u v

theorem lt_irr (act : List Int) (u : Nat) : lt act u u = false := by simp [lt, bef]
theorem lt_asy {act : List Int} {u v : Nat} (h : lt act u v = true) : lt act v u = false := by
  unfold lt bef at *
  split at h <;> rename_i h1
  · rw [if_pos (Ne.symm h1)]
    simp only [decide_eq_true_eq, decide_eq_false_iff_not] at *; omega
  · rw [if_neg (fun q => h1 (Ne.symm q))]
    simp only [decide_eq_true_eq, decide_eq_false_iff_not] at *; omega
theorem lt_tr {act : List Int} {u v w : Nat} (h : lt act u v = true) (h2 : lt act v w = true) : lt act u w = true := by
  unfold lt bef at *
  generalize act.getD u 0 = a at *
  generalize act.getD v 0 = b at *
  generalize act.getD w 0 = c at *
  split at h <;> split at h2 <;> simp only [decide_eq_true_eq] at h h2 <;> split <;> simp only [decide_eq_true_eq] <;> omega
theorem lt_tot {act : List Int} {u v : Nat} (h : u ≠ v) (h2 : lt act u v = false) : lt act v u = true := by
  unfold lt bef at *
  split at h2 <;> rename_i h1
  · rw [if_pos (Ne.symm h1)]
    simp only [decide_eq_true_eq, decide_eq_false_iff_not] at *; omega
  · rw [if_neg (fun q => h1 (Ne.symm q))]
    simp only [decide_eq_true_eq, decide_eq_false_iff_not] at *; omega
theorem nlt_tr {act : List Int} {u v w : Nat} (h : lt act u v = false) (h2 : lt act v w = false) : lt act u w = false := by
  by_cases e1 : u = v
  · subst e1; exact h2
  · by_cases e2 : v = w
    · subst e2; exact h
    · exact lt_asy (lt_tr (lt_tot e2 h2) (lt_tot e1 h))

noncomputable def OrdX (act : List Int) (g : List Nat) (s : Nat) : Prop := ∀ (i u p : Nat), 0 < i → i ≠ s → g[i]? = some u → g[(i - 1) / 2]? = some p → lt act u p = false
noncomputable def Ord (act : List Int) (g : List Nat) : Prop := ∀ (i u p : Nat), 0 < i → g[i]? = some u → g[(i - 1) / 2]? = some p → lt act u p = false
noncomputable def PlX (g : List Nat) (pl : List Int) (v : Nat) : Prop := ∀ (i u : Nat), g[i]? = some u → u ≠ v → pl[u]? = some (i : Int)
noncomputable def Pl (g : List Nat) (pl : List Int) : Prop := ∀ (i u : Nat), g[i]? = some u → pl[u]? = some (i : Int)

theorem gs (g : List Nat) (s v : Nat) (i : Nat) : (g.set s v)[i]? = if s = i then (if s < g.length then some v else none) else g[i]? := List.getElem?_set

structure Up (act : List Int) (g : List Nat) (s v : Nat) : Prop where
  sl : s < g.length
  at_ : g[s]? = some v
  ord : OrdX act g s
  over : 0 < s → ∀ (i u p : Nat), 0 < i → (i - 1) / 2 = s → g[i]? = some u → g[(s - 1) / 2]? = some p → lt act u p = false
  nd : g.Nodup

theorem Up.done {act : List Int} {g : List Nat} {s v : Nat} (h : Up act g s v) (hs : s = 0 ∨ ∃ p, g[(s - 1) / 2]? = some p ∧ lt act v p = false) : Ord act g := by
  intro i u p hi hu hp
  by_cases e : i = s
  · subst e
    rcases hs with hs | ⟨p', hp', hl⟩
    · omega
    · rw [h.at_] at hu
      rw [hp'] at hp
      cases hu; cases hp; exact hl
  · exact h.ord i u p hi e hu hp

theorem nodup_at {g : List Nat} (h : g.Nodup) {i j v : Nat} (hi : g[i]? = some v) (hj : g[j]? = some v) : i = j :=
  (List.getElem?_inj (List.getElem?_eq_some_iff.mp hi).1 h).mp (hi.trans hj.symm)

theorem nodup_of {g : List Nat} (h : ∀ (i j x : Nat), g[i]? = some x → g[j]? = some x → i = j) : g.Nodup := by
  rw [List.Nodup, List.pairwise_iff_getElem]
  intro i j hi hj hij e
  have := h i j g[i] (List.getElem?_eq_getElem hi) (by rw [e]; exact List.getElem?_eq_getElem hj)
  omega

theorem Up.step {act : List Int} {g : List Nat} {s v p : Nat} (h : Up act g s v) (hs : 0 < s) (hp : g[(s - 1) / 2]? = some p) (hl : lt act v p = true) : Up act ((g.set s p).set ((s - 1) / 2) v) ((s - 1) / 2) v := by
  have hlen : ((g.set s p).set ((s - 1) / 2) v).length = g.length := by simp
  have hs1 : (s - 1) / 2 < s := by omega
  have hsl := h.sl
  have gat : ∀ i, ((g.set s p).set ((s - 1) / 2) v)[i]? = if (s - 1) / 2 = i then some v else if s = i then some p else g[i]? := fun i => by
    rw [gs, gs]
    simp only [List.length_set]
    rw [if_pos (show (s - 1) / 2 < g.length by omega), if_pos hsl]
  refine ⟨by rw [hlen]; omega, by rw [gat, if_pos rfl], fun i u q hi hne hu hq => ?_, fun h0 i u q hi hpar hu hq => ?_, ?_⟩
  · rw [gat] at hu hq
    rw [if_neg (Ne.symm hne)] at hu
    by_cases e1 : s = i
    · subst e1
      rw [if_pos rfl] at hu; cases hu
      rw [if_pos rfl] at hq; cases hq
      exact lt_asy hl
    · rw [if_neg e1] at hu
      by_cases e2 : (s - 1) / 2 = (i - 1) / 2
      · rw [if_pos e2] at hq; cases hq
        have h1 := h.ord i u p hi (Ne.symm e1) hu (by rw [← e2]; exact hp)
        cases e3 : lt act u v with
        | false => rfl
        | true => rw [lt_tr e3 hl] at h1; cases h1
      · rw [if_neg e2] at hq
        by_cases e3 : s = (i - 1) / 2
        · rw [if_pos e3] at hq; cases hq
          exact h.over hs i u p hi e3.symm hu hp
        · rw [if_neg e3] at hq
          exact h.ord i u q hi (Ne.symm e1) hu hq
  · rw [gat] at hu hq
    rw [if_neg (show (s - 1) / 2 ≠ i by omega)] at hu
    rw [if_neg (show (s - 1) / 2 ≠ ((s - 1) / 2 - 1) / 2 by omega), if_neg (show s ≠ ((s - 1) / 2 - 1) / 2 by omega)] at hq
    have hgp := h.ord ((s - 1) / 2) p q h0 (by omega) hp hq
    by_cases e1 : s = i
    · rw [if_pos e1] at hu; cases hu; exact hgp
    · rw [if_neg e1] at hu
      exact nlt_tr (h.ord i u p hi (Ne.symm e1) hu (by rw [hpar]; exact hp)) hgp
  · refine nodup_of fun i j x hi hj => ?_
    rw [gat] at hi hj
    have hv := h.at_
    have key : ∀ {a b y : Nat}, g[a]? = some y → g[b]? = some y → a = b := fun ha hb => nodup_at h.nd ha hb
    split at hi
    · cases hi
      split at hj
      · omega
      · split at hj
        · cases hj; have := key hp hv; omega
        · have := key hv hj; omega
    · split at hi
      · cases hi
        split at hj
        · cases hj; have := key hp hv; omega
        · split at hj
          · omega
          · have := key hp hj; omega
      · split at hj
        · cases hj; have := key hv hi; omega
        · split at hj
          · cases hj; have := key hp hi; omega
          · exact key hi hj
theorem Up.mem {act : List Int} {g : List Nat} {s v p : Nat} (h : Up act g s v) (hs : 0 < s) (hp : g[(s - 1) / 2]? = some p) (u : Nat) : u ∈ (g.set s p).set ((s - 1) / 2) v ↔ u ∈ g := by
  have hsl := h.sl
  have gat : ∀ i, ((g.set s p).set ((s - 1) / 2) v)[i]? = if (s - 1) / 2 = i then some v else if s = i then some p else g[i]? := fun i => by
    rw [gs, gs]
    simp only [List.length_set]
    rw [if_pos (show (s - 1) / 2 < g.length by omega), if_pos hsl]
  simp only [List.mem_iff_getElem?]
  constructor
  · rintro ⟨i, hi⟩
    rw [gat] at hi
    split at hi
    · cases hi; exact ⟨s, h.at_⟩
    · split at hi
      · cases hi; exact ⟨_, hp⟩
      · exact ⟨i, hi⟩
  · rintro ⟨i, hi⟩
    by_cases e1 : i = s
    · subst e1
      rw [h.at_] at hi; cases hi
      exact ⟨_, by rw [gat, if_pos rfl]⟩
    · by_cases e2 : i = (s - 1) / 2
      · subst e2
        rw [hp] at hi; cases hi
        exact ⟨s, by rw [gat, if_neg (by omega), if_pos rfl]⟩
      · exact ⟨i, by rw [gat, if_neg (Ne.symm e2), if_neg (Ne.symm e1)]; exact hi⟩

structure Dn (act : List Int) (g : List Nat) (s v : Nat) : Prop where
  sl : s < g.length
  at_ : g[s]? = some v
  ord : ∀ (i u p : Nat), 0 < i → (i - 1) / 2 ≠ s → g[i]? = some u → g[(i - 1) / 2]? = some p → lt act u p = false
  over : 0 < s → ∀ (i u p : Nat), 0 < i → (i - 1) / 2 = s → g[i]? = some u → g[(s - 1) / 2]? = some p → lt act u p = false
  nd : g.Nodup

theorem Dn.done {act : List Int} {g : List Nat} {s v : Nat} (h : Dn act g s v) (hs : ∀ (i u : Nat), 0 < i → (i - 1) / 2 = s → g[i]? = some u → lt act u v = false) : Ord act g := by
  intro i u p hi hu hp
  by_cases e : (i - 1) / 2 = s
  · rw [e, h.at_] at hp
    cases hp
    exact hs i u hi e hu
  · exact h.ord i u p hi e hu hp
theorem swap_at {g : List Nat} {s k u v : Nat} (hs : s < g.length) (hk : k < g.length) (i : Nat) : ((g.set s u).set k v)[i]? = if k = i then some v else if s = i then some u else g[i]? := by
  rw [gs, gs]
  simp only [List.length_set]
  rw [if_pos hk, if_pos hs]
theorem swap_nd {g : List Nat} {s k u v : Nat} (h : g.Nodup) (hv : g[s]? = some v) (hu : g[k]? = some u) (hsk : s ≠ k) : ((g.set s u).set k v).Nodup := by
  have hs := (List.getElem?_eq_some_iff.mp hv).1
  have hk := (List.getElem?_eq_some_iff.mp hu).1
  refine nodup_of fun i j x hi hj => ?_
  rw [swap_at hs hk] at hi hj
  have key : ∀ {a b y : Nat}, g[a]? = some y → g[b]? = some y → a = b := fun ha hb => nodup_at h ha hb
  split at hi
  · cases hi
    split at hj
    · omega
    · split at hj
      · cases hj; have := key hu hv; omega
      · have := key hv hj; omega
  · split at hi
    · cases hi
      split at hj
      · cases hj; have := key hu hv; omega
      · split at hj
        · omega
        · have := key hu hj; omega
    · split at hj
      · cases hj; have := key hv hi; omega
      · split at hj
        · cases hj; have := key hu hi; omega
        · exact key hi hj
theorem swap_mem {g : List Nat} {s k u v : Nat} (hv : g[s]? = some v) (hu : g[k]? = some u) (hsk : s ≠ k) (x : Nat) : x ∈ (g.set s u).set k v ↔ x ∈ g := by
  have hs := (List.getElem?_eq_some_iff.mp hv).1
  have hk := (List.getElem?_eq_some_iff.mp hu).1
  simp only [List.mem_iff_getElem?]
  constructor
  · rintro ⟨i, hi⟩
    rw [swap_at hs hk] at hi
    split at hi
    · cases hi; exact ⟨s, hv⟩
    · split at hi
      · cases hi; exact ⟨_, hu⟩
      · exact ⟨i, hi⟩
  · rintro ⟨i, hi⟩
    by_cases e1 : i = s
    · subst e1
      rw [hv] at hi; cases hi
      exact ⟨k, by rw [swap_at hs hk, if_pos rfl]⟩
    · by_cases e2 : i = k
      · subst e2
        rw [hu] at hi; cases hi
        exact ⟨s, by rw [swap_at hs hk, if_neg (Ne.symm hsk), if_pos rfl]⟩
      · exact ⟨i, by rw [swap_at hs hk, if_neg (Ne.symm e2), if_neg (Ne.symm e1)]; exact hi⟩
theorem Dn.step {act : List Int} {g : List Nat} {s v k u : Nat} (h : Dn act g s v) (hk0 : 0 < k) (hks : (k - 1) / 2 = s) (hu : g[k]? = some u) (hl : lt act u v = true) (hb : ∀ (i w : Nat), 0 < i → (i - 1) / 2 = s → g[i]? = some w → lt act w u = false) :
    Dn act ((g.set s u).set k v) k v := by
  have hsl := h.sl
  have hkl := (List.getElem?_eq_some_iff.mp hu).1
  have hsk : s ≠ k := by omega
  have gat := swap_at (g := g) (u := u) (v := v) hsl hkl
  refine ⟨by simp; exact hkl, by rw [gat, if_pos rfl], fun i w q hi hne hw hq => ?_, fun h0 i w q hi hpar hw hq => ?_, swap_nd h.nd h.at_ hu hsk⟩
  · rw [gat] at hw hq
    rw [if_neg (Ne.symm hne)] at hq
    by_cases e1 : s = (i - 1) / 2
    · rw [if_pos e1] at hq; cases hq
      by_cases e2 : k = i
      · rw [if_pos e2] at hw; cases hw
        exact lt_asy hl
      · rw [if_neg e2, if_neg (by omega)] at hw
        exact hb i w hi e1.symm hw
    · rw [if_neg e1] at hq
      rw [if_neg (by rintro rfl; exact e1 hks.symm)] at hw
      by_cases e2 : s = i
      · rw [if_pos e2] at hw; cases hw
        subst e2
        exact h.over hi k u q hk0 hks hu hq
      · rw [if_neg e2] at hw
        exact h.ord i w q hi (Ne.symm e1) hw hq
  · rw [gat] at hw hq
    rw [if_neg (by omega), if_neg (by omega)] at hw
    rw [hks, if_neg (Ne.symm hsk), if_pos rfl] at hq
    cases hq
    exact h.ord i w u hi (by omega) hw (by rw [hpar]; exact hu)

theorem PlX.swap {g : List Nat} {pl : List Int} {s k u v : Nat} (h : PlX g pl v) (nd : g.Nodup) (hv : g[s]? = some v) (hu : g[k]? = some u) (hsk : s ≠ k) (hl : u < pl.length) : PlX ((g.set s u).set k v) (pl.set u (s : Int)) v := by
  have hs := (List.getElem?_eq_some_iff.mp hv).1
  have hk := (List.getElem?_eq_some_iff.mp hu).1
  intro i w hw hne
  rw [swap_at hs hk] at hw
  rw [List.getElem?_set]
  split at hw
  · cases hw; exact absurd rfl hne
  · split at hw
    · rename_i e; cases hw; rw [if_pos rfl, if_pos hl, e]
    · rename_i e1 e2
      have : u ≠ w := by rintro rfl; exact e1 (nodup_at nd hu hw)
      rw [if_neg this]
      exact h i w hw hne
theorem PlX.fin {g : List Nat} {pl : List Int} {s v : Nat} (h : PlX g pl v) (nd : g.Nodup) (hv : g[s]? = some v) (hl : v < pl.length) : Pl g (pl.set v (s : Int)) := by
  intro i w hw
  rw [List.getElem?_set]
  by_cases e : v = w
  · subst e
    rw [if_pos rfl, if_pos hl, nodup_at nd hv hw]
  · rw [if_neg e]
    exact h i w hw (Ne.symm e)
theorem Ord.top {act : List Int} {g : List Nat} (h : Ord act g) {t : Nat} (ht : g[0]? = some t) : ∀ (i u : Nat), g[i]? = some u → lt act u t = false := by
  intro i
  induction i using Nat.strongRecOn with
  | ind i ih =>
    intro u hu
    by_cases h0 : i = 0
    · subst h0; rw [ht] at hu; cases hu; exact lt_irr act t
    · have hlt : (i - 1) / 2 < i := by omega
      have hil := (List.getElem?_eq_some_iff.mp hu).1
      have hp : g[(i - 1) / 2]? = some g[(i - 1) / 2] := List.getElem?_eq_getElem (by omega)
      exact nlt_tr (h i u _ (by omega) hu hp) (ih _ hlt _ hp)
end Mine.Law
end
section
set_option autoImplicit false
set_option linter.unusedVariables false
set_option linter.unusedSimpArgs false
set_option linter.unusedSectionVars false
namespace Mine.Law

section
variable {pre post : GH} {c : Co} {W d : Nat}

theorem sub_act {n : Nat} {a : Int} (h : c.act[n]? = some a) : subO (inn pre post c) (.ref (pre.length + 10)) (.int (n : Int)) = some (.int a) :=
  sub_lst (g10 pre post c) ((List.getElem?_map ..).trans (mpp h))
theorem sub_heap {n v : Nat} (h : c.heap[n]? = some v) : subO (inn pre post c) (.ref (pre.length + 11)) (.int (n : Int)) = some (.int (v : Int)) :=
  sub_lst (g11 pre post c) ((List.getElem?_map ..).trans (mpp h))
theorem sub_place {n : Nat} {a : Int} (h : c.place[n]? = some a) : subO (inn pre post c) (.ref (pre.length + 12)) (.int (n : Int)) = some (.int a) :=
  sub_lst (g12 pre post c) ((List.getElem?_map ..).trans (mpp h))
theorem set_act {n : Nat} {a : Int} (h : n < c.act.length) : subSet (inn pre post c) (.ref (pre.length + 10)) (.int (n : Int)) (.int a) = some (inn pre post { c with act := c.act.set n a }) := by
  rw [set_lst (g10 pre post c) (by rw [List.length_map]; exact h), ← List.map_set, s10]
theorem set_heap {n v : Nat} (h : n < c.heap.length) : subSet (inn pre post c) (.ref (pre.length + 11)) (.int (n : Int)) (.int (v : Int)) = some (inn pre post { c with heap := c.heap.set n v }) := by
  rw [set_lst (g11 pre post c) (by rw [List.length_map]; exact h), show (c.heap.map iN).set n (.int (v : Int)) = (c.heap.set n v).map iN from (List.map_set ..).symm, s11]
theorem set_place {n : Nat} {a : Int} (h : n < c.place.length) : subSet (inn pre post c) (.ref (pre.length + 12)) (.int (n : Int)) (.int a) = some (inn pre post { c with place := c.place.set n a }) := by
  rw [set_lst (g12 pre post c) (by rw [List.length_map]; exact h), ← List.map_set, s12]

theorem ret_of {P : Prog} {W d f : Nat} {mf : MFun} {args : List MV} {ρ ρ' : Lo} {G G' : GH} {v : MV} (h1 : P.fn f = some mf) (h2 : bindO mf args = some ρ) (h : mSs (ctx P W (mcall P W d)) mf.body ρ G = some (.ret v, ρ', G')) : mcall P W (d + 1) f args G = some (v, G') :=
  (mcall_of h1 h2).trans (congrArg outO h)
theorem end_of {P : Prog} {W d f : Nat} {mf : MFun} {args : List MV} {ρ ρ' : Lo} {G G' : GH} (h1 : P.fn f = some mf) (h2 : bindO mf args = some ρ) (h : mSs (ctx P W (mcall P W d)) mf.body ρ G = some (.next, ρ', G')) : mcall P W (d + 1) f args G = some (.none, G') :=
  (mcall_of h1 h2).trans (congrArg outO h)
theorem ret1 {X : Ctx} {ρ : Lo} {G G' : GH} {e : ME} {r : List MS} {v : MV} (h : mE X e ρ G = some (v, G')) : mSs X (.ret e :: r) ρ G = some (.ret v, ρ, G') := seq_stop (ret_eq h) (by intro q; cases q)

theorem is_before_spec {a1 a2 : Int} {one other : Nat} (h1 : c.act[one]? = some a1) (h2 : c.act[other]? = some a2) :
    mcall prog W (d + 1) f_CoreHeap_is_before [.obj c_CoreHeap (pre.length + 9), .int (one : Int), .int (other : Int)] (inn pre post c) = some (.bool (lt c.act one other), inn pre post c) := by
  have e1 := sub_eq (X := ctx prog W (mcall prog W d)) (e := .attr (.loc 0) n_activity) (i := .loc 1) (ρ := [some (.obj c_CoreHeap (pre.length + 9)), some (.int (one : Int)), some (.int (other : Int))]) (attr_eq (loc_eq rfl) (ah_activity pre post c W _)) (loc_eq rfl) (sub_act h1)
  have e2 := sub_eq (X := ctx prog W (mcall prog W d)) (e := .attr (.loc 0) n_activity) (i := .loc 2) (ρ := [some (.obj c_CoreHeap (pre.length + 9)), some (.int (one : Int)), some (.int (other : Int))]) (attr_eq (loc_eq rfl) (ah_activity pre post c W _)) (loc_eq rfl) (sub_act h2)
  have l : lt c.act one other = bef a1 a2 one other := by unfold lt; rw [List.getD_eq_getElem?_getD, List.getD_eq_getElem?_getD, h1, h2]; rfl
  rw [l]
  unfold bef
  by_cases h : a1 = a2
  · have t := cmp_eq (o := .ne) e1 e2 (ne_int.trans (congrArg (fun b => some (!b)) (beq_iff_eq.mpr h)))
    rw [if_neg (fun q => q h)]
    refine ret_of (mf := d_CoreHeap_is_before) rfl rfl ((seq_next ((if_f t).trans seq_nil)).trans (ret1 (cmp_eq (o := .lt) (loc_eq rfl) (loc_eq rfl) ?_)))
    exact congrArg some (decide_eq_decide.mpr Int.ofNat_lt)
  · have t := cmp_eq (o := .ne) e1 e2 (ne_int.trans (congrArg (fun b => some (!b)) (beq_eq_false_iff_ne.mpr h)))
    rw [if_pos h]
    exact ret_of (mf := d_CoreHeap_is_before) rfl rfl (seq_stop ((if_t t).trans (ret1 (cmp_eq (o := .gt) e1 e2 rfl))) (by intro q; cases q))

theorem put_spec {spot v : Nat} (h1 : spot < c.heap.length) (h2 : v < c.place.length) :
    mcall prog W (d + 1) f_CoreHeap_put [.obj c_CoreHeap (pre.length + 9), .int (spot : Int), .int (v : Int)] (inn pre post c) = some (.none, inn pre post { c with heap := c.heap.set spot v, place := c.place.set v (spot : Int) }) :=
  end_of (mf := d_CoreHeap_put) rfl rfl ((seq_next (asgS_eq (loc_eq rfl) (attr_eq (loc_eq rfl) (ah_heap pre post c W _)) (loc_eq rfl) (set_heap h1))).trans
    ((seq_next (asgS_eq (loc_eq rfl) (attr_eq (loc_eq rfl) (ah_place pre post { c with heap := c.heap.set spot v } W _)) (loc_eq rfl) (set_place (c := { c with heap := c.heap.set spot v }) h2))).trans seq_nil))

theorem is_held_spec {v : Nat} {a : Int} (h : c.place[v]? = some a) :
    mcall prog W (d + 1) f_CoreHeap_is_held [.obj c_CoreHeap (pre.length + 9), .int (v : Int)] (inn pre post c) = some (.bool (decide (0 ≤ a)), inn pre post c) :=
  ret_of (mf := d_CoreHeap_is_held) rfl rfl (ret1 (cmp_eq (sub_eq (attr_eq (loc_eq rfl) (ah_place pre post c W _)) (loc_eq rfl) (sub_place h)) kI_eq rfl))

theorem many_spec {n : Nat} (h : c.act.length = n + 1) :
    mcall prog W (d + 1) f_CoreHeap_many [.obj c_CoreHeap (pre.length + 9)] (inn pre post c) = some (.int (n : Int), inn pre post c) := by
  refine ret_of (mf := d_CoreHeap_many) rfl rfl (ret1 (bin_eq (o := .sub) (blt_eq (b := .len) (attr_eq (loc_eq rfl) (ah_activity pre post c W _)) (len_lst (g10 pre post c))) kI_eq ?_))
  rw [List.length_map, h]
  exact congrArg (fun i => some (MV.int i)) (by omega)

theorem mh {X : Ctx} {m f : Nat} {es : List ME} {e : ME} {vs : List MV} {ρ : Lo} {G0 G2 : GH} (hm : X.mth c_CoreHeap m = some f) (hl : (dHeap pre.length).lookup m = none) (he : mE X e ρ G0 = some (.obj c_CoreHeap (pre.length + 9), inn pre post c)) (hes : mEs X es ρ (inn pre post c) = some (vs, G2)) :
    mE X (.meth e m es) ρ G0 = X.call f (.obj c_CoreHeap (pre.length + 9) :: vs) G2 :=
  bnd (o := mE X e ρ G0) he (bnd (o := iObj (.obj c_CoreHeap (pre.length + 9))) rfl (bnd (o := mthO X _ m c_CoreHeap (pre.length + 9)) (bnd hm (bnd (hS_of (g9 pre post c)) (if_pos hl))) (bnd hes rfl)))

end
end Mine.Law
end
section
set_option autoImplicit false
set_option linter.unusedVariables false
set_option linter.unusedSimpArgs false
set_option linter.unusedSectionVars false
namespace Mine.Law

noncomputable def riseT : ME := .cmp .gt (.loc 1) (.kI 0)
noncomputable def riseB : List MS := [.asg 3 (.bin .fdiv (.bin .sub (.loc 1) (.kI 1)) (.kI 2)), .ifS (.no (.truth (.meth (.loc 0) n_is_before [(.loc 2), (.sub (.attr (.loc 0) n_heap) (.loc 3))]))) [.brk] [], .expr (.meth (.loc 0) n_put [(.loc 1), (.sub (.attr (.loc 0) n_heap) (.loc 3))]), .asg 1 (.loc 3)]

theorem small_nat {n : Nat} (h : n ≤ 4096) : small (n : Int) = true := by unfold small; exact decide_eq_true (by omega)
theorem half {s : Nat} (h : 0 < s) : Int.fdiv ((s : Int) - 1) 2 = (((s - 1) / 2 : Nat) : Int) := by
  rw [Int.fdiv_eq_ediv_of_nonneg _ (by decide)]
  omega

theorem fdiv_half {G : GH} {s : Nat} (h : 0 < s) (hs : s ≤ 4096) : binO G .fdiv (.int ((s : Int) - 1)) (.int 2) = some (.int (((s - 1) / 2 : Nat) : Int)) := by
  have s1 : small ((s : Int) - 1) = true := by unfold small; exact decide_eq_true (by omega)
  exact (if_pos ⟨by decide, s1, by decide⟩).trans (by rw [half h])
section
variable {pre post : GH} {c : Co} {W d : Nat}

theorem is_before_at {X : Ctx} {e : ME} {es : List ME} {ρ : Lo} {G0 : GH} {one other : Nat} (hX : X = ctx prog W (mcall prog W (d + 1))) (he : mE X e ρ G0 = some (.obj c_CoreHeap (pre.length + 9), inn pre post c)) (hes : mEs X es ρ (inn pre post c) = some ([.int (one : Int), .int (other : Int)], inn pre post c))
    (h1 : one < c.act.length) (h2 : other < c.act.length) : mE X (.meth e n_is_before es) ρ G0 = some (.bool (lt c.act one other), inn pre post c) := by
  rw [mh (f := f_CoreHeap_is_before) (by subst hX; rfl) rfl he hes]
  subst hX
  exact is_before_spec (List.getElem?_eq_getElem h1) (List.getElem?_eq_getElem h2)
theorem put_at {X : Ctx} {e : ME} {es : List ME} {ρ : Lo} {G0 : GH} {spot v : Nat} (hX : X = ctx prog W (mcall prog W (d + 1))) (he : mE X e ρ G0 = some (.obj c_CoreHeap (pre.length + 9), inn pre post c)) (hes : mEs X es ρ (inn pre post c) = some ([.int (spot : Int), .int (v : Int)], inn pre post c))
    (h1 : spot < c.heap.length) (h2 : v < c.place.length) : mE X (.meth e n_put es) ρ G0 = some (.none, inn pre post { c with heap := c.heap.set spot v, place := c.place.set v (spot : Int) }) := by
  rw [mh (f := f_CoreHeap_put) (by subst hX; rfl) rfl he hes]
  subst hX
  exact put_spec h1 h2

theorem set_mem_lt {g : List Nat} {P : Nat → Prop} (h : ∀ u ∈ g, P u) {i v : Nat} (e : g[i]? = some v) : P v := h v (List.mem_of_getElem? e)

theorem rise_loop {X : Ctx} (hX : X = ctx prog W (mcall prog W (d + 1))) : ∀ (spot fuel : Nat) (c : Co) (v : Nat) (x : Option MV), spot < fuel → c.heap.length ≤ 4096 → Up c.act (c.heap.set spot v) spot v → PlX (c.heap.set spot v) c.place v → (∀ u ∈ c.heap.set spot v, u < c.act.length ∧ u < c.place.length) →
    ∃ (spot' : Nat) (hp : List Nat) (pl : List Int) (x' : Option MV), loopW (fun ρ G => mE X riseT ρ G) (fun ρ G => mSs X riseB ρ G) fuel [some (.obj c_CoreHeap (pre.length + 9)), some (.int (spot : Int)), some (.int (v : Int)), x] (inn pre post c) =
        some (.next, [some (.obj c_CoreHeap (pre.length + 9)), some (.int (spot' : Int)), some (.int (v : Int)), x'], inn pre post { c with heap := hp, place := pl }) ∧
      spot' < hp.length ∧ hp.length = c.heap.length ∧ pl.length = c.place.length ∧ Ord c.act (hp.set spot' v) ∧ PlX (hp.set spot' v) pl v ∧ (hp.set spot' v).Nodup ∧ (∀ u, u ∈ hp.set spot' v ↔ u ∈ c.heap.set spot v) ∧ (∀ u, u ∉ c.heap.set spot v → pl[u]? = c.place[u]?) := by
  intro spot
  induction spot using Nat.strongRecOn with
  | ind spot ih =>
  intro fuel c v x hf hlen hup hpl hb
  have hsl : spot < c.heap.length := by have := hup.sl; rwa [List.length_set] at this
  obtain ⟨fuel, rfl⟩ : ∃ n, fuel = n + 1 := ⟨fuel - 1, by omega⟩
  have hvb := set_mem_lt hb hup.at_
  by_cases h0 : spot = 0
  · subst h0
    refine ⟨0, c.heap, c.place, x, ?_, hsl, rfl, rfl, hup.done (.inl rfl), hpl, hup.nd, fun u => Iff.rfl, fun u _ => rfl⟩
    exact while_f (cmp_eq (o := .gt) (loc_eq rfl) kI_eq rfl)
  · have hpos : 0 < spot := by omega
    have hpar : (spot - 1) / 2 < c.heap.length := by omega
    have hget : (c.heap.set spot v)[(spot - 1) / 2]? = some c.heap[(spot - 1) / 2] := by
      rw [List.getElem?_set_ne (by omega)]; exact List.getElem?_eq_getElem hpar
    have hpb := set_mem_lt hb hget
    have hT : mE X riseT [some (.obj c_CoreHeap (pre.length + 9)), some (.int (spot : Int)), some (.int (v : Int)), x] (inn pre post c) = some (.bool true, inn pre post c) := by
      exact cmp_eq (o := .gt) (loc_eq rfl) kI_eq (congrArg some (decide_eq_true (Int.natCast_pos.mpr hpos)))
    have hsub : subO (inn pre post c) (.ref (pre.length + 11)) (.int (((spot - 1) / 2 : Nat) : Int)) = some (.int (c.heap[(spot - 1) / 2] : Int)) := sub_heap (List.getElem?_eq_getElem hpar)
    have hA : mE X (.bin .fdiv (.bin .sub (.loc 1) (.kI 1)) (.kI 2)) [some (.obj c_CoreHeap (pre.length + 9)), some (.int (spot : Int)), some (.int (v : Int)), x] (inn pre post c) = some (.int (((spot - 1) / 2 : Nat) : Int), inn pre post c) := by
      exact bin_eq (o := .fdiv) (bin_eq (o := .sub) (loc_eq rfl) kI_eq rfl) kI_eq (fdiv_half hpos (by omega))
    have hIs : mE X (.meth (.loc 0) n_is_before [(.loc 2), (.sub (.attr (.loc 0) n_heap) (.loc 3))]) [some (.obj c_CoreHeap (pre.length + 9)), some (.int (spot : Int)), some (.int (v : Int)), some (.int (((spot - 1) / 2 : Nat) : Int))] (inn pre post c) = some (.bool (lt c.act v c.heap[(spot - 1) / 2]), inn pre post c) := by
      refine is_before_at hX (loc_eq rfl) ?_ hvb.1 hpb.1
      exact es2 (loc_eq rfl) (sub_eq (attr_eq (loc_eq rfl) (hX ▸ ah_heap pre post c W _)) (loc_eq rfl) hsub)
    have hAsg : mS X (.asg 3 (.bin .fdiv (.bin .sub (.loc 1) (.kI 1)) (.kI 2))) [some (.obj c_CoreHeap (pre.length + 9)), some (.int (spot : Int)), some (.int (v : Int)), x] (inn pre post c) = some (.next, [some (.obj c_CoreHeap (pre.length + 9)), some (.int (spot : Int)), some (.int (v : Int)), some (.int (((spot - 1) / 2 : Nat) : Int))], inn pre post c) := asg_eq hA rfl
    cases hl : lt c.act v c.heap[(spot - 1) / 2] with
    | false =>
      rw [hl] at hIs
      refine ⟨spot, c.heap, c.place, some (.int (((spot - 1) / 2 : Nat) : Int)), ?_, hsl, rfl, rfl, hup.done (.inr ⟨_, hget, hl⟩), hpl, hup.nd, fun u => Iff.rfl, fun u _ => rfl⟩
      refine while_b hT ?_
      unfold riseB
      rw [seq_next hAsg]
      exact seq_stop ((if_t (no_eq (tr_eq hIs))).trans (seq_stop brk_eq (by intro q; cases q))) (by intro q; cases q)
    | true =>
      rw [hl] at hIs
      have hput : mE X (.meth (.loc 0) n_put [(.loc 1), (.sub (.attr (.loc 0) n_heap) (.loc 3))]) [some (.obj c_CoreHeap (pre.length + 9)), some (.int (spot : Int)), some (.int (v : Int)), some (.int (((spot - 1) / 2 : Nat) : Int))] (inn pre post c) = some (.none, inn pre post { c with heap := c.heap.set spot c.heap[(spot - 1) / 2], place := c.place.set c.heap[(spot - 1) / 2] (spot : Int) }) := by
        refine put_at hX (loc_eq rfl) ?_ hsl hpb.2
        exact es2 (loc_eq rfl) (sub_eq (attr_eq (loc_eq rfl) (hX ▸ ah_heap pre post c W _)) (loc_eq rfl) hsub)
      have hset : (c.heap.set spot v).set spot c.heap[(spot - 1) / 2] = c.heap.set spot c.heap[(spot - 1) / 2] := List.set_set ..
      have hup' := hup.step hpos hget hl
      have hpl' := hpl.swap hup.nd hup.at_ hget (by omega) hpb.2
      rw [hset] at hup' hpl'
      have hmem := swap_mem hup.at_ hget (by omega : spot ≠ (spot - 1) / 2)
      rw [hset] at hmem
      obtain ⟨spot', hp, pl, x', e1, e2, e3, e4, e5, e6, e7, e8, e9⟩ := ih ((spot - 1) / 2) (by omega) fuel { c with heap := c.heap.set spot c.heap[(spot - 1) / 2], place := c.place.set c.heap[(spot - 1) / 2] (spot : Int) } v (some (.int (((spot - 1) / 2 : Nat) : Int))) (by omega) (by simpa using hlen) hup' hpl' (fun u hu => by
        have := hb u ((hmem u).mp hu)
        exact ⟨this.1, by simpa using this.2⟩)
      refine ⟨spot', hp, pl, x', ?_, e2, by simpa using e3, by simpa using e4, e5, e6, e7, fun u => (e8 u).trans (hmem u), fun u hu => ?_⟩
      · have hstep : mSs X riseB [some (.obj c_CoreHeap (pre.length + 9)), some (.int (spot : Int)), some (.int (v : Int)), x] (inn pre post c) = some (.next, [some (.obj c_CoreHeap (pre.length + 9)), some (.int (((spot - 1) / 2 : Nat) : Int)), some (.int (v : Int)), some (.int (((spot - 1) / 2 : Nat) : Int))], inn pre post { c with heap := c.heap.set spot c.heap[(spot - 1) / 2], place := c.place.set c.heap[(spot - 1) / 2] (spot : Int) }) := by
          unfold riseB
          rw [seq_next hAsg, seq_next ((if_f (no_eq (tr_eq hIs))).trans seq_nil), seq_next (expr_eq hput), seq_next (asg_eq (loc_eq rfl) rfl)]
          exact seq_nil
        rw [while_t hT hstep]
        exact e1
      · rw [e9 u (fun q => hu ((hmem u).mp q))]
        show (c.place.set _ _)[u]? = _
        rw [List.getElem?_set_ne]
        rintro rfl
        exact hu (List.mem_of_getElem? hget)
end
end Mine.Law
end
section
set_option autoImplicit false
set_option linter.unusedVariables false
set_option linter.unusedSimpArgs false
set_option linter.unusedSectionVars false
namespace Mine.Law

structure HOk (act : List Int) (heap : List Nat) (place : List Int) : Prop where
  ord : Ord act heap
  pl : Pl heap place
  nd : heap.Nodup
  lt : ∀ u ∈ heap, u < act.length ∧ u < place.length
  out : ∀ (u : Nat), u < place.length → u ∉ heap → place[u]? = some (-1)

theorem set_self {g : List Nat} {s v : Nat} (h : g[s]? = some v) : g.set s v = g := by
  obtain ⟨hs, rfl⟩ := List.getElem?_eq_some_iff.mp h
  exact List.set_getElem_self hs

section
variable {pre post : GH} {c : Co} {W d : Nat}

theorem rise_spec {spot v : Nat} (hup : Up c.act c.heap spot v) (hpl : PlX c.heap c.place v) (hb : ∀ u ∈ c.heap, u < c.act.length ∧ u < c.place.length) (hW : c.heap.length ≤ W) (hlen : c.heap.length ≤ 4096) (hout : ∀ (u : Nat), u < c.place.length → u ∉ c.heap → c.place[u]? = some (-1)) :
    ∃ (hp : List Nat) (pl : List Int), mcall prog W (d + 2) f_CoreHeap_rise [.obj c_CoreHeap (pre.length + 9), .int (spot : Int)] (inn pre post c) = some (.none, inn pre post { c with heap := hp, place := pl }) ∧ HOk c.act hp pl ∧ (∀ u, u ∈ hp ↔ u ∈ c.heap) ∧ hp.length = c.heap.length ∧ pl.length = c.place.length := by
  have hss := set_self hup.at_
  have hsl := hup.sl
  obtain ⟨spot', hp, pl, x', e1, e2, e3, e4, e5, e6, e7, e8, e9⟩ := rise_loop (pre := pre) (post := post) (W := W) (d := d) rfl spot W c v none (by omega) hlen (by rw [hss]; exact hup) (by rw [hss]; exact hpl) (by rw [hss]; exact hb)
  rw [hss] at e8 e9
  have hv : (hp.set spot' v)[spot']? = some v := by rw [gs, if_pos rfl, if_pos e2]
  have hvb := hb v ((e8 v).mp (List.mem_of_getElem? hv))
  refine ⟨hp.set spot' v, pl.set v (spot' : Int), ?_, ⟨e5, e6.fin e7 hv (by omega), e7, fun u hu => ?_, fun u hu hn => ?_⟩, fun u => e8 u, by rw [List.length_set]; exact e3, by rw [List.length_set]; exact e4⟩
  · exact end_of (mf := d_CoreHeap_rise) rfl rfl ((seq_next (asg_eq (sub_eq (attr_eq (loc_eq rfl) (ah_heap pre post c W _)) (loc_eq rfl) (sub_heap hup.at_)) rfl)).trans ((seq_next (x := .whileS riseT riseB) e1).trans
      ((seq_next (expr_eq (put_at (c := { c with heap := hp, place := pl }) rfl (loc_eq rfl) (es2 (loc_eq rfl) (loc_eq rfl)) e2 (by show v < pl.length; omega)))).trans seq_nil)))
  · have := hb u ((e8 u).mp hu)
    rw [List.length_set, e4]; exact this
  · rw [List.length_set, e4] at hu
    have hn' : u ∉ c.heap := fun q => hn ((e8 u).mpr q)
    have hne : v ≠ u := by rintro rfl; exact hn (List.mem_of_getElem? hv)
    rw [List.getElem?_set_ne hne, e9 u hn']
    exact hout u hu hn'

theorem getD_set {act : List Int} {v u : Nat} {a : Int} : (act.set v a).getD u 0 = if v = u then (if v < act.length then a else 0) else act.getD u 0 := by
  rw [List.getD_eq_getElem?_getD, List.getElem?_set]
  split
  · split <;> rfl
  · rw [List.getD_eq_getElem?_getD]
theorem lt_same {act : List Int} {v u p : Nat} {a : Int} (h1 : u ≠ v) (h2 : p ≠ v) : lt (act.set v a) u p = lt act u p := by
  unfold lt
  rw [getD_set, getD_set, if_neg (Ne.symm h1), if_neg (Ne.symm h2)]
theorem lt_up {act : List Int} {v u : Nat} {a : Int} (h1 : u ≠ v) (hv : v < act.length) (ha : act.getD v 0 < a) (h : lt act u v = false) : lt (act.set v a) u v = false := by
  unfold lt at *
  rw [getD_set, getD_set, if_neg (Ne.symm h1), if_pos rfl, if_pos hv]
  unfold bef at *
  generalize act.getD u 0 = x at *
  generalize act.getD v 0 = y at *
  split at h <;> simp only [decide_eq_false_iff_not] at h <;> split <;> simp only [decide_eq_false_iff_not] <;> omega

theorem Up.bump {act : List Int} {g : List Nat} {s v : Nat} {a : Int} (ho : Ord act g) (nd : g.Nodup) (hs : g[s]? = some v) (hv : v < act.length) (ha : act.getD v 0 < a) : Up (act.set v a) g s v := by
  refine ⟨(List.getElem?_eq_some_iff.mp hs).1, hs, fun i u p hi hne hu hp => ?_, fun h0 i u p hi hpar hu hp => ?_, nd⟩
  · have huv : u ≠ v := by rintro rfl; exact hne (nodup_at nd hu hs)
    by_cases hpv : p = v
    · subst hpv
      exact lt_up huv hv ha (ho i u p hi hu hp)
    · rw [lt_same huv hpv]; exact ho i u p hi hu hp
  · have huv : u ≠ v := by rintro rfl; have := nodup_at nd hu hs; omega
    have hpv : p ≠ v := by rintro rfl; have := nodup_at nd hp hs; omega
    rw [lt_same huv hpv]
    exact nlt_tr (ho i u v hi hu (by rw [hpar]; exact hs)) (ho s v p h0 hs hp)

theorem bump_spec {v : Nat} (H : HOk c.act c.heap c.place) (hv : v ∈ c.heap) (h0 : c.act[v]? = some 0) (hW : c.heap.length ≤ W) (hlen : c.heap.length ≤ 4096) :
    ∃ (hp : List Nat) (pl : List Int), mcall prog W (d + 3) f_CoreHeap_bump [.obj c_CoreHeap (pre.length + 9), .int (v : Int)] (inn pre post c) = some (.none, inn pre post { c with act := c.act.set v 1024, heap := hp, place := pl }) ∧ HOk (c.act.set v 1024) hp pl ∧ (∀ u, u ∈ hp ↔ u ∈ c.heap) ∧ hp.length = c.heap.length ∧ pl.length = c.place.length := by
  obtain ⟨s, hs⟩ := List.mem_iff_getElem?.mp hv
  obtain ⟨hva, hvp⟩ := H.lt v hv
  have hps := H.pl s v hs
  have hup : Up (c.act.set v 1024) c.heap s v := Up.bump H.ord H.nd hs hva (by rw [List.getD_eq_getElem?_getD, h0]; decide)
  obtain ⟨hp, pl, e1, e2, e3, e4, e5⟩ := rise_spec (pre := pre) (post := post) (c := { c with act := c.act.set v 1024 }) (W := W) (d := d) hup (fun i u hu _ => H.pl i u hu) (fun u hu => by rw [List.length_set]; exact H.lt u hu) hW hlen H.out
  refine ⟨hp, pl, ?_, e2, e3, e4, e5⟩
  have s1 : subO (inn pre post c) (.ref (pre.length + 10)) (.int (v : Int)) = some (.int 0) := sub_act h0
  have s2 : subO (inn pre post { c with act := c.act.set v 1024 }) (.ref (pre.length + 10)) (.int (v : Int)) = some (.int 1024) := sub_act (c := { c with act := c.act.set v 1024 }) (by show (c.act.set v 1024)[v]? = _; rw [List.getElem?_set_self hva])
  have s3 : subO (inn pre post { c with act := c.act.set v 1024 }) (.ref (pre.length + 12)) (.int (v : Int)) = some (.int (s : Int)) := sub_place (c := { c with act := c.act.set v 1024 }) hps
  have t3 : mE (ctx prog W (mcall prog W (d + 2))) (.meth (.loc 0) n_is_held [(.loc 1)]) [some (.obj c_CoreHeap (pre.length + 9)), some (.int (v : Int))] (inn pre post { c with act := c.act.set v 1024 }) = some (.bool true, inn pre post { c with act := c.act.set v 1024 }) := by
    rw [mh (f := f_CoreHeap_is_held) rfl rfl (loc_eq rfl) (es1 (loc_eq rfl))]
    have := is_held_spec (pre := pre) (post := post) (W := W) (d := d + 1) (c := { c with act := c.act.set v 1024 }) hps
    have hd : decide (0 ≤ (s : Int)) = true := decide_eq_true (by omega)
    rw [hd] at this
    exact this
  have t4 : mE (ctx prog W (mcall prog W (d + 2))) (.meth (.loc 0) n_rise [(.sub (.attr (.loc 0) n_place) (.loc 1))]) [some (.obj c_CoreHeap (pre.length + 9)), some (.int (v : Int))] (inn pre post { c with act := c.act.set v 1024 }) = some (.none, inn pre post { c with act := c.act.set v 1024, heap := hp, place := pl }) := by
    rw [mh (f := f_CoreHeap_rise) rfl rfl (loc_eq rfl) (es1 (sub_eq (attr_eq (loc_eq rfl) (ah_place _ _ _ _ _)) (loc_eq rfl) s3))]
    exact e1
  exact end_of (mf := d_CoreHeap_bump) rfl rfl ((seq_next (asgS_eq (bin_eq (o := .add) (x := .int 1024) (sub_eq (attr_eq (loc_eq rfl) (ah_activity pre post c W _)) (loc_eq rfl) s1) (attr_eq (loc_eq rfl) (ah_step pre post c W _)) rfl) (attr_eq (loc_eq rfl) (ah_activity pre post c W _)) (loc_eq rfl) (set_act hva))).trans
    ((seq_next ((if_f (cmp_eq (o := .gt) (sub_eq (attr_eq (loc_eq rfl) (ah_activity pre post _ W _)) (loc_eq rfl) s2) (attr_eq (loc_eq rfl) (ah_limit pre post _ W _)) rfl)).trans ((seq_next ((if_t (tr_eq t3)).trans ((seq_next (expr_eq t4)).trans seq_nil))).trans seq_nil))).trans seq_nil))
end
end Mine.Law
end
section
set_option autoImplicit false
set_option linter.unusedVariables false
set_option linter.unusedSimpArgs false
set_option linter.unusedSectionVars false
namespace Mine.Law

structure Best (act : List Int) (h : List Nat) (s k u : Nat) : Prop where
  pos : 0 < k
  par : (k - 1) / 2 = s
  at_ : h[k]? = some u
  best : ∀ (i w : Nat), 0 < i → (i - 1) / 2 = s → h[i]? = some w → lt act w u = false
noncomputable def BestOr (act : List Int) (h : List Nat) (s : Nat) (r : Int) : Prop := (r = -1 ∧ ∀ i, 0 < i → (i - 1) / 2 = s → h[i]? = none) ∨ ∃ k u : Nat, r = (k : Int) ∧ Best act h s k u

section
variable {pre post : GH} {c : Co} {W d : Nat}

theorem len_heap {G : GH} (h : G = inn pre post c) : bltO G .len (.ref (pre.length + 11)) = some (.int (c.heap.length : Int), G) := by
  subst h
  exact (len_lst (g11 pre post c)).trans (by rw [List.length_map])

theorem better_child_spec {s : Nat} (hs : s < c.heap.length) (hlen : c.heap.length ≤ 4096) (hb : ∀ (i u : Nat), i ≠ s → c.heap[i]? = some u → u < c.act.length) :
    ∃ r : Int, mcall prog W (d + 2) f_CoreHeap_better_child [.obj c_CoreHeap (pre.length + 9), .int (s : Int)] (inn pre post c) = some (.int r, inn pre post c) ∧ BestOr c.act c.heap s r := by
  rw [mcall_of (mf := d_CoreHeap_better_child) rfl rfl]
  have ho : ∀ {X : Ctx} {a b x : Option MV}, mE X (.loc 0) [some (.obj c_CoreHeap (pre.length + 9)), a, b, x] (inn pre post c) = some (.obj c_CoreHeap (pre.length + 9), inn pre post c) := loc_eq rfl
  have hh : ∀ {a b x : Option MV}, mE (ctx prog W (mcall prog W (d + 1))) (.attr (.loc 0) n_heap) [some (.obj c_CoreHeap (pre.length + 9)), a, b, x] (inn pre post c) = some (.ref (pre.length + 11), inn pre post c) := attr_eq (loc_eq rfl) (ah_heap _ _ _ _ _)
  have s1 : mS (ctx prog W (mcall prog W (d + 1))) (.asg 2 (.bin .add (.bin .mul (.kI 2) (.loc 1)) (.kI 1))) [some (.obj c_CoreHeap (pre.length + 9)), some (.int (s : Int)), none, none] (inn pre post c) = some (.next, [some (.obj c_CoreHeap (pre.length + 9)), some (.int (s : Int)), some (.int ((2 * s + 1 : Nat) : Int)), none], inn pre post c) := by
    refine asg_eq (v := .int ((2 * s + 1 : Nat) : Int)) (bin_eq (bin_eq (x := .int (2 * (s : Int))) kI_eq (loc_eq rfl) ?_) kI_eq ?_) rfl
    · have h1 : small 2 = true := by decide
      have h2 : small (s : Int) = true := small_nat (by omega)
      exact bin_mul h1 h2
    · have e : ((2 * s + 1 : Nat) : Int) = 2 * (s : Int) + 1 := by omega
      rw [e]; rfl
  show ∃ r : Int, outO (mSs _ [.asg 2 _, .ifS _ [.ret _] [], .asg 3 _, .ifS _ [.ret _] [], .ret _] [some (.obj c_CoreHeap (pre.length + 9)), some (.int (s : Int)), none, none] _) = _ ∧ _
  rw [seq_next s1]
  have t1 : mE (ctx prog W (mcall prog W (d + 1))) (.cmp .ge (.loc 2) (.blt .len (.attr (.loc 0) n_heap))) [some (.obj c_CoreHeap (pre.length + 9)), some (.int (s : Int)), some (.int ((2 * s + 1 : Nat) : Int)), none] (inn pre post c) = some (.bool (decide (2 * s + 1 ≥ c.heap.length)), inn pre post c) := by
    refine cmp_eq (loc_eq rfl) (blt_eq hh (len_heap rfl)) ?_
    exact congrArg some (decide_eq_decide.mpr (by omega))
  by_cases h1 : 2 * s + 1 ≥ c.heap.length
  · rw [decide_eq_true h1] at t1
    refine ⟨-1, ?_, .inl ⟨rfl, fun i hi hp => ?_⟩⟩
    · rw [seq_stop ((if_t t1).trans (seq_stop (ret_eq (v := .int (-1)) rfl) (by intro q; cases q))) (by intro q; cases q)]
      rfl
    · rw [List.getElem?_eq_none_iff]; omega
  · rw [decide_eq_false h1] at t1
    have hl : c.heap[2 * s + 1]? = some c.heap[2 * s + 1] := List.getElem?_eq_getElem (by omega)
    have s2 : mS (ctx prog W (mcall prog W (d + 1))) (.asg 3 (.bin .add (.loc 2) (.kI 1))) [some (.obj c_CoreHeap (pre.length + 9)), some (.int (s : Int)), some (.int ((2 * s + 1 : Nat) : Int)), none] (inn pre post c) = some (.next, [some (.obj c_CoreHeap (pre.length + 9)), some (.int (s : Int)), some (.int ((2 * s + 1 : Nat) : Int)), some (.int ((2 * s + 2 : Nat) : Int))], inn pre post c) := by
      refine asg_eq (v := .int ((2 * s + 2 : Nat) : Int)) (bin_eq (loc_eq rfl) kI_eq ?_) rfl
      have e : ((2 * s + 2 : Nat) : Int) = ((2 * s + 1 : Nat) : Int) + 1 := by omega
      rw [e]; rfl
    rw [seq_next ((if_f t1).trans seq_nil), seq_next s2]
    have t2 : mE (ctx prog W (mcall prog W (d + 1))) (.cmp .lt (.loc 3) (.blt .len (.attr (.loc 0) n_heap))) [some (.obj c_CoreHeap (pre.length + 9)), some (.int (s : Int)), some (.int ((2 * s + 1 : Nat) : Int)), some (.int ((2 * s + 2 : Nat) : Int))] (inn pre post c) = some (.bool (decide (2 * s + 2 < c.heap.length)), inn pre post c) := by
      refine cmp_eq (loc_eq rfl) (blt_eq hh (len_heap rfl)) ?_
      exact congrArg some (decide_eq_decide.mpr (by omega))
    have left : (∀ w, c.heap[2 * s + 2]? = some w → lt c.act w c.heap[2 * s + 1] = false) → BestOr c.act c.heap s ((2 * s + 1 : Nat) : Int) := fun hw => .inr ⟨2 * s + 1, _, rfl, by omega, by omega, hl, fun i w hi hp hiw => by
      rcases (show i = 2 * s + 1 ∨ i = 2 * s + 2 by omega) with rfl | rfl
      · rw [hl] at hiw; cases hiw; exact lt_irr _ _
      · exact hw w hiw⟩
    by_cases h2 : 2 * s + 2 < c.heap.length
    · rw [decide_eq_true h2] at t2
      have hr : c.heap[2 * s + 2]? = some c.heap[2 * s + 2] := List.getElem?_eq_getElem h2
      have t3 : mE (ctx prog W (mcall prog W (d + 1))) (.meth (.loc 0) n_is_before [(.sub (.attr (.loc 0) n_heap) (.loc 3)), (.sub (.attr (.loc 0) n_heap) (.loc 2))]) [some (.obj c_CoreHeap (pre.length + 9)), some (.int (s : Int)), some (.int ((2 * s + 1 : Nat) : Int)), some (.int ((2 * s + 2 : Nat) : Int))] (inn pre post c) = some (.bool (lt c.act c.heap[2 * s + 2] c.heap[2 * s + 1]), inn pre post c) :=
        is_before_at rfl (loc_eq rfl) (es2 (sub_eq hh (loc_eq rfl) (sub_heap hr)) (sub_eq hh (loc_eq rfl) (sub_heap hl))) (hb _ _ (by omega) hr) (hb _ _ (by omega) hl)
      cases hlt : lt c.act c.heap[2 * s + 2] c.heap[2 * s + 1] with
      | true =>
        rw [hlt] at t3
        refine ⟨((2 * s + 2 : Nat) : Int), ?_, .inr ⟨2 * s + 2, _, rfl, by omega, by omega, hr, fun i w hi hp hiw => ?_⟩⟩
        · rw [seq_stop ((if_t (andE ((and_t t2).trans ((and_t (tr_eq t3)).trans and_nil)))).trans (seq_stop (ret_eq (loc_eq rfl)) (by intro q; cases q))) (by intro q; cases q)]
          rfl
        · rcases (show i = 2 * s + 1 ∨ i = 2 * s + 2 by omega) with rfl | rfl
          · rw [hl] at hiw; cases hiw; exact lt_asy hlt
          · rw [hr] at hiw; cases hiw; exact lt_irr _ _
      | false =>
        rw [hlt] at t3
        refine ⟨((2 * s + 1 : Nat) : Int), ?_, left fun w hw => by rw [hr] at hw; cases hw; exact hlt⟩
        rw [seq_next ((if_f (andE ((and_t t2).trans (and_f (tr_eq t3))))).trans seq_nil), seq_stop (ret_eq (loc_eq rfl)) (by intro q; cases q)]
        rfl
    · rw [decide_eq_false h2] at t2
      refine ⟨((2 * s + 1 : Nat) : Int), ?_, left fun w hw => by rw [List.getElem?_eq_none_iff.mpr (by omega)] at hw; cases hw⟩
      rw [seq_next ((if_f (andE (and_f t2))).trans seq_nil), seq_stop (ret_eq (loc_eq rfl)) (by intro q; cases q)]
      rfl
end
end Mine.Law
end
section
set_option autoImplicit false
set_option linter.unusedVariables false
set_option linter.unusedSimpArgs false
set_option linter.unusedSectionVars false
set_option maxRecDepth 10000
namespace Mine.Law

noncomputable def sinkT : ME := .and_ [(.cmp .ge (.loc 3) (.kI 0)), (.truth (.meth (.loc 0) n_is_before [(.sub (.attr (.loc 0) n_heap) (.loc 3)), (.loc 2)]))]
noncomputable def sinkB : List MS := [.expr (.meth (.loc 0) n_put [(.loc 1), (.sub (.attr (.loc 0) n_heap) (.loc 3))]), .asg 1 (.loc 3), .asg 3 (.meth (.loc 0) n_better_child [(.loc 1)])]

section
variable {pre post : GH} {c : Co} {W d : Nat}

theorem better_at {X : Ctx} {e : ME} {es : List ME} {ρ : Lo} {G0 : GH} {s : Nat} (hX : X = ctx prog W (mcall prog W (d + 2))) (he : mE X e ρ G0 = some (.obj c_CoreHeap (pre.length + 9), inn pre post c)) (hes : mEs X es ρ (inn pre post c) = some ([.int (s : Int)], inn pre post c))
    (hs : s < c.heap.length) (hlen : c.heap.length ≤ 4096) (hb : ∀ (i u : Nat), i ≠ s → c.heap[i]? = some u → u < c.act.length) : ∃ r : Int, mE X (.meth e n_better_child es) ρ G0 = some (.int r, inn pre post c) ∧ BestOr c.act c.heap s r := by
  obtain ⟨r, h1, h2⟩ := better_child_spec (pre := pre) (post := post) (c := c) (W := W) (d := d) hs hlen hb
  refine ⟨r, ?_, h2⟩
  have hm : X.mth c_CoreHeap n_better_child = some f_CoreHeap_better_child := by subst hX; exact (by decide +kernel : pMth c_CoreHeap n_better_child = some f_CoreHeap_better_child)
  have hc : X.call = mcall prog W (d + 2) := by rw [hX]; rfl
  rw [mh (f := f_CoreHeap_better_child) hm rfl he hes, hc]
  exact h1

theorem sink_loop {X : Ctx} (hX : X = ctx prog W (mcall prog W (d + 2))) : ∀ (m fuel : Nat) (c : Co) (spot v : Nat) (r : Int), c.heap.length - spot = m → m < fuel → c.heap.length ≤ 4096 → Dn c.act (c.heap.set spot v) spot v → PlX (c.heap.set spot v) c.place v → (∀ u ∈ c.heap.set spot v, u < c.act.length ∧ u < c.place.length) → BestOr c.act c.heap spot r →
    ∃ (spot' : Nat) (hp : List Nat) (pl : List Int) (r' : Int), loopW (fun ρ G => mE X sinkT ρ G) (fun ρ G => mSs X sinkB ρ G) fuel [some (.obj c_CoreHeap (pre.length + 9)), some (.int (spot : Int)), some (.int (v : Int)), some (.int r)] (inn pre post c) =
        some (.next, [some (.obj c_CoreHeap (pre.length + 9)), some (.int (spot' : Int)), some (.int (v : Int)), some (.int r')], inn pre post { c with heap := hp, place := pl }) ∧
      spot' < hp.length ∧ hp.length = c.heap.length ∧ pl.length = c.place.length ∧ Ord c.act (hp.set spot' v) ∧ PlX (hp.set spot' v) pl v ∧ (hp.set spot' v).Nodup ∧ (∀ u, u ∈ hp.set spot' v ↔ u ∈ c.heap.set spot v) ∧ (∀ u, u ∉ c.heap.set spot v → pl[u]? = c.place[u]?) := by
  intro m
  induction m using Nat.strongRecOn with
  | ind m ih =>
  intro fuel c spot v r hm hf hlen hdn hpl hb hbest
  have hsl : spot < c.heap.length := by have := hdn.sl; rwa [List.length_set] at this
  obtain ⟨fuel, rfl⟩ : ∃ n, fuel = n + 1 := ⟨fuel - 1, by omega⟩
  have hvb := set_mem_lt hb hdn.at_
  have hother : ∀ i, i ≠ spot → (c.heap.set spot v)[i]? = c.heap[i]? := fun i hi => List.getElem?_set_ne (Ne.symm hi)
  have stop : (∀ (i u : Nat), 0 < i → (i - 1) / 2 = spot → (c.heap.set spot v)[i]? = some u → lt c.act u v = false) → mE X sinkT [some (.obj c_CoreHeap (pre.length + 9)), some (.int (spot : Int)), some (.int (v : Int)), some (.int r)] (inn pre post c) = some (.bool false, inn pre post c) → ∃ (spot' : Nat) (hp : List Nat) (pl : List Int) (r' : Int), loopW (fun ρ G => mE X sinkT ρ G) (fun ρ G => mSs X sinkB ρ G) (fuel + 1) [some (.obj c_CoreHeap (pre.length + 9)), some (.int (spot : Int)), some (.int (v : Int)), some (.int r)] (inn pre post c) =
        some (.next, [some (.obj c_CoreHeap (pre.length + 9)), some (.int (spot' : Int)), some (.int (v : Int)), some (.int r')], inn pre post { c with heap := hp, place := pl }) ∧
      spot' < hp.length ∧ hp.length = c.heap.length ∧ pl.length = c.place.length ∧ Ord c.act (hp.set spot' v) ∧ PlX (hp.set spot' v) pl v ∧ (hp.set spot' v).Nodup ∧ (∀ u, u ∈ hp.set spot' v ↔ u ∈ c.heap.set spot v) ∧ (∀ u, u ∉ c.heap.set spot v → pl[u]? = c.place[u]?) :=
    fun h1 h2 => ⟨spot, c.heap, c.place, r, while_f h2, hsl, rfl, rfl, hdn.done h1, hpl, hdn.nd, fun u => Iff.rfl, fun u _ => rfl⟩
  rcases hbest with ⟨rfl, hnone⟩ | ⟨k, u, rfl, hB⟩
  · refine stop (fun i u hi hp hu => ?_) (andE (and_f (cmp_eq (loc_eq rfl) kI_eq rfl)))
    rw [hother i (by omega), hnone i hi hp] at hu
    cases hu
  · have hks : k ≠ spot := by have := hB.par; have := hB.pos; omega
    have hg : (c.heap.set spot v)[k]? = some u := by rw [hother k hks]; exact hB.at_
    have hub := set_mem_lt hb hg
    have hkl := (List.getElem?_eq_some_iff.mp hB.at_).1
    have t1 : mE X (.cmp .ge (.loc 3) (.kI 0)) [some (.obj c_CoreHeap (pre.length + 9)), some (.int (spot : Int)), some (.int (v : Int)), some (.int (k : Int))] (inn pre post c) = some (.bool true, inn pre post c) :=
      cmp_eq (loc_eq rfl) kI_eq (congrArg some (decide_eq_true (by omega)))
    have hh : mE X (.attr (.loc 0) n_heap) [some (.obj c_CoreHeap (pre.length + 9)), some (.int (spot : Int)), some (.int (v : Int)), some (.int (k : Int))] (inn pre post c) = some (.ref (pre.length + 11), inn pre post c) := by subst hX; exact attr_eq (loc_eq rfl) (ah_heap _ _ _ _ _)
    have hsk : mE X (.sub (.attr (.loc 0) n_heap) (.loc 3)) [some (.obj c_CoreHeap (pre.length + 9)), some (.int (spot : Int)), some (.int (v : Int)), some (.int (k : Int))] (inn pre post c) = some (.int (u : Int), inn pre post c) := sub_eq hh (loc_eq rfl) (sub_heap hB.at_)
    have t2 : mE X (.meth (.loc 0) n_is_before [(.sub (.attr (.loc 0) n_heap) (.loc 3)), (.loc 2)]) [some (.obj c_CoreHeap (pre.length + 9)), some (.int (spot : Int)), some (.int (v : Int)), some (.int (k : Int))] (inn pre post c) = some (.bool (lt c.act u v), inn pre post c) :=
      is_before_at (d := d + 1) hX (loc_eq rfl) (es2 hsk (loc_eq rfl)) hub.1 hvb.1
    cases hl : lt c.act u v with
    | false =>
      rw [hl] at t2
      refine stop (fun i w hi hp hw => ?_) (andE ((and_t t1).trans (and_f (tr_eq t2))))
      rw [hother i (by omega)] at hw
      exact nlt_tr (hB.best i w hi hp hw) hl
    | true =>
      rw [hl] at t2
      have hT : mE X sinkT [some (.obj c_CoreHeap (pre.length + 9)), some (.int (spot : Int)), some (.int (v : Int)), some (.int (k : Int))] (inn pre post c) = some (.bool true, inn pre post c) := andE ((and_t t1).trans ((and_t (tr_eq t2)).trans and_nil))
      have hput : mE X (.meth (.loc 0) n_put [(.loc 1), (.sub (.attr (.loc 0) n_heap) (.loc 3))]) [some (.obj c_CoreHeap (pre.length + 9)), some (.int (spot : Int)), some (.int (v : Int)), some (.int (k : Int))] (inn pre post c) = some (.none, inn pre post { c with heap := c.heap.set spot u, place := c.place.set u (spot : Int) }) :=
        put_at (d := d + 1) hX (loc_eq rfl) (es2 (loc_eq rfl) hsk) hsl hub.2
      have hset : (c.heap.set spot v).set spot u = c.heap.set spot u := List.set_set ..
      have hdn' := hdn.step hB.pos hB.par hg hl (fun i w hi hp hw => hB.best i w hi hp (by rw [← hother i (by omega)]; exact hw))
      have hpl' := hpl.swap hdn.nd hdn.at_ hg (Ne.symm hks) hub.2
      have hmem := swap_mem hdn.at_ hg (Ne.symm hks)
      rw [hset] at hdn' hpl' hmem
      have hb' : ∀ w ∈ (c.heap.set spot u).set k v, w < c.act.length ∧ w < c.place.length := fun w hw => hb w ((hmem w).mp hw)
      obtain ⟨r2, hbc, hbest2⟩ := better_at (pre := pre) (post := post) (c := { c with heap := c.heap.set spot u, place := c.place.set u (spot : Int) }) (e := .loc 0) (es := [.loc 1]) (ρ := [some (.obj c_CoreHeap (pre.length + 9)), some (.int (k : Int)), some (.int (v : Int)), some (.int (k : Int))]) (s := k) hX (loc_eq rfl) (es1 (loc_eq rfl)) (by show k < (c.heap.set spot u).length; rw [List.length_set]; exact hkl) (by show (c.heap.set spot u).length ≤ _; rw [List.length_set]; exact hlen)
        (fun i w hi hw => (hb' w (List.mem_of_getElem? (i := i) (by rw [List.getElem?_set_ne (Ne.symm hi)]; exact hw))).1)
      obtain ⟨spot', hp, pl, r', e1, e2, e3, e4, e5, e6, e7, e8, e9⟩ := ih (c.heap.length - k) (by have := hB.par; have := hB.pos; omega) fuel { c with heap := c.heap.set spot u, place := c.place.set u (spot : Int) } k v r2 (by show (c.heap.set spot u).length - k = _; rw [List.length_set]) (by have := hB.par; have := hB.pos; omega) (by show (c.heap.set spot u).length ≤ _; rw [List.length_set]; exact hlen) hdn' hpl' (fun w hw => by
        have := hb' w hw
        exact ⟨this.1, by rw [List.length_set]; exact this.2⟩) hbest2
      have hstep : mSs X sinkB [some (.obj c_CoreHeap (pre.length + 9)), some (.int (spot : Int)), some (.int (v : Int)), some (.int (k : Int))] (inn pre post c) = some (.next, [some (.obj c_CoreHeap (pre.length + 9)), some (.int (k : Int)), some (.int (v : Int)), some (.int r2)], inn pre post { c with heap := c.heap.set spot u, place := c.place.set u (spot : Int) }) := by
        unfold sinkB
        rw [seq_next (expr_eq hput), seq_next (asg_eq (loc_eq rfl) rfl)]
        show mSs X [.asg 3 _] [some (.obj c_CoreHeap (pre.length + 9)), some (.int (k : Int)), some (.int (v : Int)), some (.int (k : Int))] _ = _
        rw [seq_next (asg_eq hbc rfl)]
        exact seq_nil
      refine ⟨spot', hp, pl, r', (while_t hT hstep).trans e1, e2, e3.trans (List.length_set ..), e4.trans (List.length_set ..), e5, e6, e7, fun w => (e8 w).trans (hmem w), fun w hw => ?_⟩
      rw [e9 w (fun q => hw ((hmem w).mp q))]
      show (c.place.set _ _)[w]? = _
      rw [List.getElem?_set_ne]
      rintro rfl
      exact hw (List.mem_of_getElem? hg)
end
end Mine.Law
end
section
set_option autoImplicit false
set_option linter.unusedVariables false
set_option linter.unusedSimpArgs false
set_option linter.unusedSectionVars false
set_option maxRecDepth 10000
namespace Mine.Law

section
variable {pre post : GH} {c : Co} {W d : Nat}

theorem sink_spec {spot v : Nat} (hdn : Dn c.act c.heap spot v) (hpl : PlX c.heap c.place v) (hb : ∀ u ∈ c.heap, u < c.act.length ∧ u < c.place.length) (hW : c.heap.length < W) (hlen : c.heap.length ≤ 4096) (hout : ∀ (u : Nat), u < c.place.length → u ∉ c.heap → c.place[u]? = some (-1)) :
    ∃ (hp : List Nat) (pl : List Int), mcall prog W (d + 3) f_CoreHeap_sink [.obj c_CoreHeap (pre.length + 9), .int (spot : Int)] (inn pre post c) = some (.none, inn pre post { c with heap := hp, place := pl }) ∧ HOk c.act hp pl ∧ (∀ u, u ∈ hp ↔ u ∈ c.heap) ∧ hp.length = c.heap.length ∧ pl.length = c.place.length := by
  rw [mcall_of (mf := d_CoreHeap_sink) rfl rfl]
  generalize hX : ctx prog W (mcall prog W (d + 2)) = X
  replace hX := hX.symm
  have hss := set_self hdn.at_
  have hsl := hdn.sl
  have hb1 : ∀ (i u : Nat), i ≠ spot → c.heap[i]? = some u → u < c.act.length := fun i u _ hu => (hb u (List.mem_of_getElem? hu)).1
  have hh : ∀ {a b x : Option MV}, mE X (.attr (.loc 0) n_heap) [some (.obj c_CoreHeap (pre.length + 9)), a, b, x] (inn pre post c) = some (.ref (pre.length + 11), inn pre post c) := by subst hX; exact attr_eq (loc_eq rfl) (ah_heap _ _ _ _ _)
  have s1 : mS X (.asg 2 (.sub (.attr (.loc 0) n_heap) (.loc 1))) [some (.obj c_CoreHeap (pre.length + 9)), some (.int (spot : Int)), none, none] (inn pre post c) = some (.next, [some (.obj c_CoreHeap (pre.length + 9)), some (.int (spot : Int)), some (.int (v : Int)), none], inn pre post c) :=
    asg_eq (sub_eq hh (loc_eq rfl) (sub_heap hdn.at_)) rfl
  obtain ⟨r, hr, hB⟩ := better_at (pre := pre) (post := post) (c := c) (e := .loc 0) (es := [.loc 1]) (ρ := [some (.obj c_CoreHeap (pre.length + 9)), some (.int (spot : Int)), some (.int (v : Int)), none]) (s := spot) hX (loc_eq rfl) (es1 (loc_eq rfl)) hsl hlen hb1
  have s2 : mS X (.asg 3 (.meth (.loc 0) n_better_child [(.loc 1)])) [some (.obj c_CoreHeap (pre.length + 9)), some (.int (spot : Int)), some (.int (v : Int)), none] (inn pre post c) = some (.next, [some (.obj c_CoreHeap (pre.length + 9)), some (.int (spot : Int)), some (.int (v : Int)), some (.int r)], inn pre post c) := asg_eq hr rfl
  have hXW : X.W = W := by rw [hX]; rfl
  obtain ⟨spot', hp, pl, r', e1, e2, e3, e4, e5, e6, e7, e8, e9⟩ := sink_loop (pre := pre) (post := post) hX (c.heap.length - spot) W c spot v r rfl (by omega) hlen (by rw [hss]; exact hdn) (by rw [hss]; exact hpl) (by rw [hss]; exact hb) hB
  rw [hss] at e8 e9
  have hv : (hp.set spot' v)[spot']? = some v := by rw [gs, if_pos rfl, if_pos e2]
  have hvb := hb v ((e8 v).mp (List.mem_of_getElem? hv))
  have s3 : mS X (.whileS sinkT sinkB) [some (.obj c_CoreHeap (pre.length + 9)), some (.int (spot : Int)), some (.int (v : Int)), some (.int r)] (inn pre post c) = some (.next, [some (.obj c_CoreHeap (pre.length + 9)), some (.int (spot' : Int)), some (.int (v : Int)), some (.int r')], inn pre post { c with heap := hp, place := pl }) := by
    rw [← hXW] at e1; exact e1
  have hP : mE X (.meth (.loc 0) n_put [(.loc 1), (.loc 2)]) [some (.obj c_CoreHeap (pre.length + 9)), some (.int (spot' : Int)), some (.int (v : Int)), some (.int r')] (inn pre post { c with heap := hp, place := pl }) = some (.none, inn pre post { c with heap := hp.set spot' v, place := pl.set v (spot' : Int) }) :=
    put_at (d := d + 1) (c := { c with heap := hp, place := pl }) hX (loc_eq rfl) (es2 (loc_eq rfl) (loc_eq rfl)) e2 (by show v < pl.length; omega)
  refine ⟨hp.set spot' v, pl.set v (spot' : Int), ?_, ⟨e5, e6.fin e7 hv (by omega), e7, fun u hu => ?_, fun u hu hn => ?_⟩, fun u => e8 u, by rw [List.length_set]; exact e3, by rw [List.length_set]; exact e4⟩
  · show outO (mSs X [.asg 2 _, .asg 3 _, .whileS sinkT sinkB, .expr _] [some (.obj c_CoreHeap (pre.length + 9)), some (.int (spot : Int)), none, none] _) = _
    rw [seq_next s1, seq_next s2, seq_next s3, seq_next (expr_eq hP), seq_nil]
    rfl
  · have := hb u ((e8 u).mp hu)
    rw [List.length_set, e4]; exact this
  · rw [List.length_set, e4] at hu
    have hn' : u ∉ c.heap := fun q => hn ((e8 u).mpr q)
    have hne : v ≠ u := by rintro rfl; exact hn (List.mem_of_getElem? hv)
    rw [List.getElem?_set_ne hne, e9 u hn']
    exact hout u hu hn'

theorem pop_heap {G : GH} {l : List Nat} {v : Nat} (h : G = inn pre post c) (hl : c.heap = l ++ [v]) : popO G (.ref (pre.length + 11)) = some (.int (v : Int), inn pre post { c with heap := l }) := by
  subst h
  have e : c.heap.map iN = l.map iN ++ [iN v] := by rw [hl, List.map_append]; rfl
  rw [pop_lst (g11 pre post c) (x := iN v) (by rw [e, List.getLast?_concat]), e, List.dropLast_concat, s11]
  rfl

theorem pop_spec0 (h : c.heap = []) : mcall prog W (d + 4) f_CoreHeap_pop [.obj c_CoreHeap (pre.length + 9)] (inn pre post c) = some (.int 0, inn pre post c) := by
  rw [mcall_of (mf := d_CoreHeap_pop) rfl rfl]
  generalize hX : ctx prog W (mcall prog W (d + 3)) = X
  replace hX := hX.symm
  have hh : ∀ {a b : Option MV} {c : Co}, mE X (.attr (.loc 0) n_heap) [some (.obj c_CoreHeap (pre.length + 9)), a, b] (inn pre post c) = some (.ref (pre.length + 11), inn pre post c) := by subst hX; exact attr_eq (loc_eq rfl) (ah_heap _ _ _ _ _)
  have t1 : mE X (.cmp .eq (.blt .len (.attr (.loc 0) n_heap)) (.kI 0)) [some (.obj c_CoreHeap (pre.length + 9)), none, none] (inn pre post c) = some (.bool true, inn pre post c) := by
    refine cmp_eq (blt_eq hh (len_heap rfl)) kI_eq ?_
    rw [eq_int, h]; rfl
  show outO (mSs X [.ifS _ [.ret _] [], .asg 1 _, .asg 2 _, .asgS _ _ _, .ifS _ _ [], .ret _] [some (.obj c_CoreHeap (pre.length + 9)), none, none] _) = _
  rw [seq_stop ((if_t t1).trans (seq_stop (ret_eq kI_eq) (by intro q; cases q))) (by intro q; cases q)]
  rfl

theorem pop_spec (H : HOk c.act c.heap c.place) {t : Nat} (ht : c.heap[0]? = some t) (hW : c.heap.length < W) (hlen : c.heap.length ≤ 4096) :
    ∃ (hp : List Nat) (pl : List Int), mcall prog W (d + 4) f_CoreHeap_pop [.obj c_CoreHeap (pre.length + 9)] (inn pre post c) = some (.int (t : Int), inn pre post { c with heap := hp, place := pl }) ∧ HOk c.act hp pl ∧ (∀ u, u ∈ hp ↔ u ∈ c.heap ∧ u ≠ t) ∧ hp.length + 1 = c.heap.length ∧ pl.length = c.place.length := by
  rw [mcall_of (mf := d_CoreHeap_pop) rfl rfl]
  generalize hX : ctx prog W (mcall prog W (d + 3)) = X
  replace hX := hX.symm
  have hc : X.call = mcall prog W (d + 3) := by rw [hX]; rfl
  have hne : c.heap ≠ [] := by intro e; rw [e] at ht; cases ht
  have hpos : 0 < c.heap.length := List.length_pos_iff.mpr hne
  have hh : ∀ {a b : Option MV} {c : Co}, mE X (.attr (.loc 0) n_heap) [some (.obj c_CoreHeap (pre.length + 9)), a, b] (inn pre post c) = some (.ref (pre.length + 11), inn pre post c) := by subst hX; exact attr_eq (loc_eq rfl) (ah_heap _ _ _ _ _)
  have hpa : ∀ {a b : Option MV} {c : Co}, mE X (.attr (.loc 0) n_place) [some (.obj c_CoreHeap (pre.length + 9)), a, b] (inn pre post c) = some (.ref (pre.length + 12), inn pre post c) := by subst hX; exact attr_eq (loc_eq rfl) (ah_place _ _ _ _ _)
  obtain ⟨l, v, hl⟩ : ∃ l v, c.heap = l ++ [v] := ⟨c.heap.dropLast, c.heap.getLast hne, (List.dropLast_concat_getLast hne).symm⟩
  have hlen2 : c.heap.length = l.length + 1 := by rw [hl]; simp
  have htm : t ∈ c.heap := List.mem_of_getElem? ht
  have htb := H.lt t htm
  have hvm : v ∈ c.heap := by rw [hl]; simp
  have hvb := H.lt v hvm
  have hvat : c.heap[l.length]? = some v := by rw [hl, List.getElem?_append_right (Nat.le_refl _), Nat.sub_self]; rfl
  have lget : ∀ i, i < l.length → l[i]? = c.heap[i]? := fun i hi => by rw [hl, List.getElem?_append_left hi]
  have lnd : l.Nodup := by have := H.nd; rw [hl] at this; exact (List.nodup_append.mp this).1
  have vl : v ∉ l := fun m => by have := H.nd; rw [hl] at this; exact (List.nodup_append.mp this).2.2 v m v (by simp) rfl
  have t1 : mE X (.cmp .eq (.blt .len (.attr (.loc 0) n_heap)) (.kI 0)) [some (.obj c_CoreHeap (pre.length + 9)), none, none] (inn pre post c) = some (.bool false, inn pre post c) := by
    refine cmp_eq (blt_eq hh (len_heap rfl)) kI_eq ?_
    rw [eq_int, beq_eq_false_iff_ne.mpr (by omega)]
  have s1 : mS X (.asg 1 (.sub (.attr (.loc 0) n_heap) (.kI 0))) [some (.obj c_CoreHeap (pre.length + 9)), none, none] (inn pre post c) = some (.next, [some (.obj c_CoreHeap (pre.length + 9)), some (.int (t : Int)), none], inn pre post c) :=
    asg_eq (sub_eq hh kI_eq (sub_heap (n := 0) ht)) rfl
  have s2 : mS X (.asg 2 (.pop (.attr (.loc 0) n_heap))) [some (.obj c_CoreHeap (pre.length + 9)), some (.int (t : Int)), none] (inn pre post c) = some (.next, [some (.obj c_CoreHeap (pre.length + 9)), some (.int (t : Int)), some (.int (v : Int))], inn pre post { c with heap := l }) := by
    refine asg_eq (v := .int (v : Int)) ?_ rfl
    exact bnd hh (pop_heap rfl hl)
  have s3 : mS X (.asgS (.attr (.loc 0) n_place) (.loc 1) (.neg (.kI 1))) [some (.obj c_CoreHeap (pre.length + 9)), some (.int (t : Int)), some (.int (v : Int))] (inn pre post { c with heap := l }) = some (.next, [some (.obj c_CoreHeap (pre.length + 9)), some (.int (t : Int)), some (.int (v : Int))], inn pre post { c with heap := l, place := c.place.set t (-1) }) :=
    asgS_eq (x := .int (-1)) rfl hpa (loc_eq rfl) (set_place (c := { c with heap := l }) htb.2)
  have t2 : mE X (.cmp .gt (.blt .len (.attr (.loc 0) n_heap)) (.kI 0)) [some (.obj c_CoreHeap (pre.length + 9)), some (.int (t : Int)), some (.int (v : Int))] (inn pre post { c with heap := l, place := c.place.set t (-1) }) = some (.bool (decide (0 < l.length)), inn pre post { c with heap := l, place := c.place.set t (-1) }) := by
    refine cmp_eq (blt_eq hh (len_heap rfl)) kI_eq ?_
    exact congrArg some (decide_eq_decide.mpr (by show (l.length : Int) > 0 ↔ _; omega))
  by_cases hl0 : 0 < l.length
  · rw [decide_eq_true hl0] at t2
    have hl0t : l[0]? = some t := by rw [lget 0 hl0]; exact ht
    have hvt : v ≠ t := by rintro rfl; exact vl (List.mem_of_getElem? hl0t)
    have hput : mE X (.meth (.loc 0) n_put [(.kI 0), (.loc 2)]) [some (.obj c_CoreHeap (pre.length + 9)), some (.int (t : Int)), some (.int (v : Int))] (inn pre post { c with heap := l, place := c.place.set t (-1) }) = some (.none, inn pre post { c with heap := l.set 0 v, place := (c.place.set t (-1)).set v 0 }) :=
      put_at (d := d + 2) (c := { c with heap := l, place := c.place.set t (-1) }) (spot := 0) hX (loc_eq rfl) (es2 kI_eq (loc_eq rfl)) hl0 (by show v < (c.place.set t (-1)).length; rw [List.length_set]; exact hvb.2)
    have h2 : ∀ i, (l.set 0 v)[i]? = if 0 = i then some v else l[i]? := fun i => by rw [gs, if_pos hl0]
    have hlt2 : ∀ {i u : Nat}, l[i]? = some u → i < l.length := fun h => (List.getElem?_eq_some_iff.mp h).1
    have hdn : Dn c.act (l.set 0 v) 0 v := by
      refine ⟨by rw [List.length_set]; exact hl0, by rw [h2, if_pos rfl], fun i u p hi hne hu hp => ?_, fun h0 => absurd h0 (Nat.lt_irrefl 0), ?_⟩
      · rw [h2, if_neg (by omega)] at hu
        rw [h2, if_neg (by omega)] at hp
        rw [lget _ (hlt2 hu)] at hu
        rw [lget _ (hlt2 hp)] at hp
        exact H.ord i u p hi hu hp
      · refine nodup_of fun i j x hi hj => ?_
        rw [h2] at hi hj
        split at hi
        · cases hi
          split at hj
          · omega
          · exact absurd (List.mem_of_getElem? hj) vl
        · split at hj
          · cases hj; exact absurd (List.mem_of_getElem? hi) vl
          · exact nodup_at lnd hi hj
    have hmem : ∀ u, u ∈ l.set 0 v ↔ u ∈ c.heap ∧ u ≠ t := fun u => by
      simp only [List.mem_iff_getElem?]
      constructor
      · rintro ⟨i, hi⟩
        rw [h2] at hi
        split at hi
        · cases hi; exact ⟨⟨_, hvat⟩, hvt⟩
        · rename_i h0
          have hil := hlt2 hi
          refine ⟨⟨i, by rw [← lget i hil]; exact hi⟩, ?_⟩
          rintro rfl
          exact h0 (nodup_at lnd hl0t hi)
      · rintro ⟨⟨i, hi⟩, hne⟩
        by_cases e : i = l.length
        · subst e; rw [hvat] at hi; cases hi
          exact ⟨0, by rw [h2, if_pos rfl]⟩
        · have hil : i < l.length := by have := (List.getElem?_eq_some_iff.mp hi).1; omega
          refine ⟨i, ?_⟩
          rw [h2, if_neg (by rintro rfl; rw [ht] at hi; cases hi; exact hne rfl), lget i hil]
          exact hi
    have hpl : PlX (l.set 0 v) ((c.place.set t (-1)).set v 0) v := fun i u hu hne => by
      rw [h2] at hu
      split at hu
      · cases hu; exact absurd rfl hne
      · rename_i h0
        have hil := hlt2 hu
        have hut : t ≠ u := by rintro rfl; exact h0 (nodup_at lnd hl0t hu)
        rw [List.getElem?_set_ne (Ne.symm hne), List.getElem?_set_ne hut]
        exact H.pl i u (by rw [← lget i hil]; exact hu)
    obtain ⟨hp, pl, e1, e2, e3, e4, e5⟩ := sink_spec (pre := pre) (post := post) (c := { c with heap := l.set 0 v, place := (c.place.set t (-1)).set v 0 }) (W := W) (d := d) (spot := 0) hdn hpl (fun u hu => by
        have := H.lt u ((hmem u).mp hu).1
        exact ⟨this.1, by show u < ((c.place.set t (-1)).set v 0).length; rw [List.length_set, List.length_set]; exact this.2⟩) (by show (l.set 0 v).length < W; rw [List.length_set]; omega) (by show (l.set 0 v).length ≤ _; rw [List.length_set]; omega)
      (fun u hu hn => by
        have hu' : u < c.place.length := by have : u < ((c.place.set t (-1)).set v 0).length := hu; rwa [List.length_set, List.length_set] at this
        have hvu : v ≠ u := by rintro rfl; exact hn ((hmem v).mpr ⟨hvm, hvt⟩)
        show ((c.place.set t (-1)).set v 0)[u]? = _
        rw [List.getElem?_set_ne hvu]
        by_cases e : t = u
        · subst e; rw [List.getElem?_set_self hu']
        · rw [List.getElem?_set_ne e]
          exact H.out u hu' fun q => hn ((hmem u).mpr ⟨q, Ne.symm e⟩))
    have hsink : mE X (.meth (.loc 0) n_sink [(.kI 0)]) [some (.obj c_CoreHeap (pre.length + 9)), some (.int (t : Int)), some (.int (v : Int))] (inn pre post { c with heap := l.set 0 v, place := (c.place.set t (-1)).set v 0 }) = some (.none, inn pre post { c with heap := hp, place := pl }) := by
      have hm : X.mth c_CoreHeap n_sink = some f_CoreHeap_sink := by subst hX; exact (by decide +kernel : pMth c_CoreHeap n_sink = some f_CoreHeap_sink)
      rw [mh (f := f_CoreHeap_sink) hm rfl (loc_eq rfl) (es1 kI_eq), hc]
      exact e1
    refine ⟨hp, pl, ?_, e2, fun u => (e3 u).trans (hmem u), by rw [e4]; show (l.set 0 v).length + 1 = _; rw [List.length_set]; omega, by rw [e5]; show ((c.place.set t (-1)).set v 0).length = _; rw [List.length_set, List.length_set]⟩
    show outO (mSs X [.ifS _ [.ret _] [], .asg 1 _, .asg 2 _, .asgS _ _ _, .ifS _ [.expr _, .expr _] [], .ret _] [some (.obj c_CoreHeap (pre.length + 9)), none, none] _) = _
    rw [seq_next ((if_f t1).trans seq_nil), seq_next s1, seq_next s2, seq_next s3, seq_next ((if_t t2).trans ((seq_next (expr_eq hput)).trans ((seq_next (expr_eq hsink)).trans seq_nil))), seq_stop (ret_eq (loc_eq rfl)) (by intro q; cases q)]
    rfl
  · rw [decide_eq_false hl0] at t2
    have hl' : l = [] := List.length_eq_zero_iff.mp (by omega)
    subst hl'
    have hvt : v = t := by rw [hl] at ht; cases ht; rfl
    subst hvt
    refine ⟨[], c.place.set v (-1), ?_, ⟨fun i u p hi hu => by simp at hu, fun i u hu => by simp at hu, List.Pairwise.nil, fun u hu => by simp at hu, fun u hu hn => ?_⟩, fun u => ?_, by rw [hlen2], by rw [List.length_set]⟩
    · show outO (mSs X [.ifS _ [.ret _] [], .asg 1 _, .asg 2 _, .asgS _ _ _, .ifS _ [.expr _, .expr _] [], .ret _] [some (.obj c_CoreHeap (pre.length + 9)), none, none] _) = _
      rw [seq_next ((if_f t1).trans seq_nil), seq_next s1, seq_next s2, seq_next s3, seq_next ((if_f t2).trans seq_nil), seq_stop (ret_eq (loc_eq rfl)) (by intro q; cases q)]
      rfl
    · rw [List.length_set] at hu
      by_cases e : v = u
      · subst e; rw [List.getElem?_set_self hu]
      · rw [List.getElem?_set_ne e]
        exact H.out u hu (by rw [hl]; simpa using Ne.symm e)
    · rw [hl]; simp
end
end Mine.Law
end
section
set_option autoImplicit false
set_option linter.unusedVariables false
set_option linter.unusedSimpArgs false
set_option linter.unusedSectionVars false
set_option maxRecDepth 10000
namespace Mine.Law

noncomputable def inn2 (pre post : GH) (c : Co) (rest roots : List MV) : GH := inn pre (post ++ [.lst rest, .lst roots]) c
noncomputable def nR (pre post : GH) : Nat := pre.length + 21 + post.length
theorem inn_len (pre post : GH) (c : Co) : (inn pre post c).length = pre.length + 21 + post.length := by
  unfold inn
  rw [List.length_append, List.length_append]; rfl
theorem inn2_eq (pre post : GH) (c : Co) (rest roots : List MV) : inn2 pre post c rest roots = inn pre post c ++ [.lst rest, .lst roots] := by
  unfold inn2 inn
  exact (List.append_assoc _ _ _).symm
theorem gr (pre post : GH) (c : Co) (rest roots : List MV) : (inn2 pre post c rest roots)[nR pre post]? = some (.lst rest) := by
  rw [inn2_eq, List.getElem?_append_right (by rw [inn_len]; exact Nat.le_refl _), inn_len]
  unfold nR; rw [Nat.sub_self]; rfl
theorem go (pre post : GH) (c : Co) (rest roots : List MV) : (inn2 pre post c rest roots)[nR pre post + 1]? = some (.lst roots) := by
  rw [inn2_eq, List.getElem?_append_right (by rw [inn_len]; exact Nat.le_succ _), inn_len]
  unfold nR; rw [Nat.add_sub_cancel_left]; rfl
theorem sr (pre post : GH) (c : Co) (rest roots l : List MV) : (inn2 pre post c rest roots).set (nR pre post) (.lst l) = inn2 pre post c l roots := by
  rw [inn2_eq, inn2_eq, List.set_append_right _ _ (by rw [inn_len]; exact Nat.le_refl _), inn_len]
  unfold nR; rw [Nat.sub_self]; rfl
theorem so (pre post : GH) (c : Co) (rest roots l : List MV) : (inn2 pre post c rest roots).set (nR pre post + 1) (.lst l) = inn2 pre post c rest l := by
  rw [inn2_eq, inn2_eq, List.set_append_right _ _ (by rw [inn_len]; exact Nat.le_succ _), inn_len]
  unfold nR; rw [Nat.add_sub_cancel_left]; rfl

structure NOk (lv : Nat → Int) (c : Co) : Prop where
  heap : HOk c.act c.heap c.place
  all : ∀ v, v ∈ c.heap ↔ 1 ≤ v ∧ v ≤ 8
  hl : c.heap.length = 8
  al : c.act.length = 9
  pl : c.place.length = 9
  sl : c.seen.length = 9
  act : ∀ (v : Nat) (b : Bool), 1 ≤ v → v ≤ 8 → c.seen[v]? = some b → c.act[v]? = some (if b = true ∧ lv v ≠ 0 then 1024 else 0)
  lev : ∀ v, 1 ≤ v → v ≤ 8 → c.levels[v]? = some (.int (lv v))
  st : c.starts.length = 3

structure NS where
  seen : List Bool
  told : Nat
  rest : List Int
  roots : List Nat
noncomputable def nstep (lv : Nat → Int) (sk : Int) (s : NS) (lit : Int) : NS :=
  if (lit.natAbs : Int) = sk ∨ s.seen.getD lit.natAbs false = true then s
  else if lv lit.natAbs = 0 then { s with seen := s.seen.set lit.natAbs true, roots := s.roots ++ [lit.natAbs] }
  else if lv lit.natAbs = 3 then { s with seen := s.seen.set lit.natAbs true, told := s.told + 1 }
  else { s with seen := s.seen.set lit.natAbs true, rest := s.rest ++ [lit] }

noncomputable def noteB : List MS := [.asg 7 (.blt .abs (.loc 6)), .ifS (.or_ [(.cmp .eq (.loc 7) (.loc 2)), (.truth (.sub (.attr (.loc 0) n_seen) (.loc 7)))]) [.cont] [], .asgS (.attr (.loc 0) n_seen) (.loc 7) (.kB true), .ifS (.cmp .eq (.sub (.attr (.loc 0) n_levels) (.loc 7)) (.kI 0)) [.expr (.app (.loc 4) (.loc 7)), .cont] [], .expr (.meth (.attr (.loc 0) n_heap) n_bump [(.loc 7)]), .ifS (.cmp .eq (.sub (.attr (.loc 0) n_levels) (.loc 7)) (.meth (.loc 0) n_depth [])) [.asg 5 (.bin .add (.loc 5) (.kI 1))] [.expr (.app (.loc 3) (.loc 6))]]

section
variable {pre post : GH} {c : Co} {W d : Nat}

theorem sub_seen {n : Nat} {b : Bool} (h : c.seen[n]? = some b) : subO (inn pre post c) (.ref (pre.length + 19)) (.int (n : Int)) = some (.bool b) := sub_lst (g19 pre post c) ((List.getElem?_map ..).trans (mpp h))
theorem sub_lev {n : Nat} {v : MV} (h : c.levels[n]? = some v) : subO (inn pre post c) (.ref (pre.length + 2)) (.int (n : Int)) = some v := sub_lst (g2 pre post c) h
theorem set_seen {n : Nat} {b : Bool} (h : n < c.seen.length) : subSet (inn pre post c) (.ref (pre.length + 19)) (.int (n : Int)) (.bool b) = some (inn pre post { c with seen := c.seen.set n b }) := by
  rw [set_lst (g19 pre post c) (by rw [List.length_map]; exact h), ← List.map_set, s19]
theorem depth_spec : mcall prog W (d + 1) f_Trail_depth [.obj c_Search pre.length] (inn pre post c) = some (.int (c.starts.length : Int), inn pre post c) :=
  ret_of (mf := d_Trail_depth) rfl rfl (ret1 (blt_eq (b := .len) (attr_eq (loc_eq rfl) (ac_starts pre post c W _)) (len_lst (g14 pre post c))))
theorem mc {X : Ctx} {m f : Nat} {es : List ME} {e : ME} {vs : List MV} {ρ : Lo} {G0 G2 : GH} (hm : X.mth c_Search m = some f) (hl : (dCore pre.length).lookup m = none) (he : mE X e ρ G0 = some (.obj c_Search pre.length, inn pre post c)) (hes : mEs X es ρ (inn pre post c) = some (vs, G2)) :
    mE X (.meth e m es) ρ G0 = X.call f (.obj c_Search pre.length :: vs) G2 :=
  bnd (o := mE X e ρ G0) he (bnd (o := iObj (.obj c_Search pre.length)) rfl (bnd (o := mthO X _ m c_Search pre.length) (bnd hm (bnd (hS_of (g0 pre post c)) (if_pos hl))) (bnd hes rfl)))

theorem getD_of {α : Type} {l : List α} {n : Nat} {x y : α} (h : l[n]? = some x) : l.getD n y = x := by
  rw [List.getD_eq_getElem?_getD, h]; rfl

theorem note_step {lv : Nat → Int} {num sk : Int} {lit : Int} {x5 : Nat} {x7 : Option MV} {S : NS} (N : NOk lv c) (hs : c.seen = S.seen) (h1 : 1 ≤ lit.natAbs) (h8 : lit.natAbs ≤ 8) (hW : 8 < W) (hrl : S.rest.length < 4096) (hrl2 : S.roots.length < 4096) :
    ∃ (c' : Co) (fl : Fl) (x7' : Option MV) (k : Nat), mSs (ctx prog W (mcall prog W (d + 3))) noteB [some (.obj c_Search pre.length), some (.int num), some (.int sk), some (.ref (nR pre post)), some (.ref (nR pre post + 1)), some (.int (x5 : Int)), some (.int lit), x7] (inn2 pre post c (S.rest.map .int) (S.roots.map iN)) =
      some (fl, [some (.obj c_Search pre.length), some (.int num), some (.int sk), some (.ref (nR pre post)), some (.ref (nR pre post + 1)), some (.int ((x5 + k : Nat) : Int)), some (.int lit), x7'], inn2 pre post c' ((nstep lv sk S lit).rest.map .int) ((nstep lv sk S lit).roots.map iN)) ∧ (fl = .next ∨ fl = .cont) ∧
      NOk lv c' ∧ c'.seen = (nstep lv sk S lit).seen ∧ S.told + k = (nstep lv sk S lit).told ∧ c' = { c with seen := c'.seen, act := c'.act, heap := c'.heap, place := c'.place } := by
  generalize hX : ctx prog W (mcall prog W (d + 3)) = X
  replace hX := hX.symm
  have hc : X.call = mcall prog W (d + 3) := by rw [hX]; rfl
  obtain ⟨v, hv⟩ : ∃ v, v = lit.natAbs := ⟨_, rfl⟩
  rw [← hv] at h1 h8
  obtain ⟨b, hb⟩ : ∃ b, c.seen[v]? = some b := ⟨_, List.getElem?_eq_getElem (by rw [N.sl]; omega)⟩
  have hbS : S.seen.getD v false = b := by rw [← hs]; exact getD_of hb
  have hlev := N.lev v h1 h8
  have hvs : v < c.seen.length := by rw [N.sl]; omega
  have aseen : ∀ {c : Co} {a1 a2 a3 a4 a5 a6 a7 : Option MV} {q1 q2 : List MV}, mE X (.attr (.loc 0) n_seen) [some (.obj c_Search pre.length), a1, a2, a3, a4, a5, a6, a7] (inn2 pre post c q1 q2) = some (.ref (pre.length + 19), inn2 pre post c q1 q2) := by subst hX; exact attr_eq (loc_eq rfl) (ac_seen _ _ _ _ _)
  have alev : ∀ {c : Co} {a1 a2 a3 a4 a5 a6 a7 : Option MV} {q1 q2 : List MV}, mE X (.attr (.loc 0) n_levels) [some (.obj c_Search pre.length), a1, a2, a3, a4, a5, a6, a7] (inn2 pre post c q1 q2) = some (.ref (pre.length + 2), inn2 pre post c q1 q2) := by subst hX; exact attr_eq (loc_eq rfl) (ac_levels _ _ _ _ _)
  have aheap : ∀ {c : Co} {a1 a2 a3 a4 a5 a6 a7 : Option MV} {q1 q2 : List MV}, mE X (.attr (.loc 0) n_heap) [some (.obj c_Search pre.length), a1, a2, a3, a4, a5, a6, a7] (inn2 pre post c q1 q2) = some (.obj c_CoreHeap (pre.length + 9), inn2 pre post c q1 q2) := by subst hX; exact attr_eq (loc_eq rfl) (ac_heap _ _ _ _ _)
  have s1 : mS X (.asg 7 (.blt .abs (.loc 6))) [some (.obj c_Search pre.length), some (.int num), some (.int sk), some (.ref (nR pre post)), some (.ref (nR pre post + 1)), some (.int (x5 : Int)), some (.int lit), x7] (inn2 pre post c (S.rest.map .int) (S.roots.map iN)) =
      some (.next, [some (.obj c_Search pre.length), some (.int num), some (.int sk), some (.ref (nR pre post)), some (.ref (nR pre post + 1)), some (.int (x5 : Int)), some (.int lit), some (.int (v : Int))], inn2 pre post c (S.rest.map .int) (S.roots.map iN)) :=
    asg_eq (blt_eq (r := (.int (v : Int), _)) (loc_eq rfl) (by rw [hv]; rfl)) rfl
  have c1 : mE X (.cmp .eq (.loc 7) (.loc 2)) [some (.obj c_Search pre.length), some (.int num), some (.int sk), some (.ref (nR pre post)), some (.ref (nR pre post + 1)), some (.int (x5 : Int)), some (.int lit), some (.int (v : Int))] (inn2 pre post c (S.rest.map .int) (S.roots.map iN)) = some (.bool ((v : Int) == sk), inn2 pre post c (S.rest.map .int) (S.roots.map iN)) :=
    cmp_eq (loc_eq rfl) (loc_eq rfl) eq_int
  have c2 : mE X (.sub (.attr (.loc 0) n_seen) (.loc 7)) [some (.obj c_Search pre.length), some (.int num), some (.int sk), some (.ref (nR pre post)), some (.ref (nR pre post + 1)), some (.int (x5 : Int)), some (.int lit), some (.int (v : Int))] (inn2 pre post c (S.rest.map .int) (S.roots.map iN)) = some (.bool b, inn2 pre post c (S.rest.map .int) (S.roots.map iN)) :=
    sub_eq aseen (loc_eq rfl) (sub_seen hb)
  unfold noteB
  rw [seq_next s1]
  have skip : ((v : Int) = sk ∨ b = true) → mSs X [.cont] [some (.obj c_Search pre.length), some (.int num), some (.int sk), some (.ref (nR pre post)), some (.ref (nR pre post + 1)), some (.int (x5 : Int)), some (.int lit), some (.int (v : Int))] (inn2 pre post c (S.rest.map .int) (S.roots.map iN)) = some (.cont, _, _) := fun _ => seq_stop cont_eq (by intro q; cases q)
  have ns : nstep lv sk S lit = if (v : Int) = sk ∨ b = true then S else if lv v = 0 then { S with seen := S.seen.set v true, roots := S.roots ++ [v] } else if lv v = 3 then { S with seen := S.seen.set v true, told := S.told + 1 } else { S with seen := S.seen.set v true, rest := S.rest ++ [lit] } := by
    unfold nstep
    rw [← hv, hbS]
  rw [ns]
  by_cases hsk : (v : Int) = sk ∨ b = true
  · rw [if_pos hsk]
    have t : mE X (.or_ [(.cmp .eq (.loc 7) (.loc 2)), (.truth (.sub (.attr (.loc 0) n_seen) (.loc 7)))]) [some (.obj c_Search pre.length), some (.int num), some (.int sk), some (.ref (nR pre post)), some (.ref (nR pre post + 1)), some (.int (x5 : Int)), some (.int lit), some (.int (v : Int))] (inn2 pre post c (S.rest.map .int) (S.roots.map iN)) = some (.bool true, inn2 pre post c (S.rest.map .int) (S.roots.map iN)) := by
      by_cases h : (v : Int) = sk
      · rw [show ((v : Int) == sk) = true from beq_iff_eq.mpr h] at c1
        exact orE (or_t c1)
      · rw [show ((v : Int) == sk) = false from beq_eq_false_iff_ne.mpr h] at c1
        have hbt : b = true := hsk.resolve_left h
        subst hbt
        exact orE ((or_f c1).trans (or_t (tr_eq c2)))
    exact ⟨c, .cont, some (.int (v : Int)), 0, seq_stop ((if_t t).trans (skip hsk)) (by intro q; cases q), .inr rfl, N, hs, rfl, rfl⟩
  · rw [if_neg hsk]
    have hns : (v : Int) ≠ sk := fun q => hsk (.inl q)
    have hbf : b = false := by cases b with | false => rfl | true => exact absurd (.inr rfl) hsk
    subst hbf
    rw [show ((v : Int) == sk) = false from beq_eq_false_iff_ne.mpr hns] at c1
    rw [seq_next ((if_f (orE ((or_f c1).trans ((or_f (tr_eq c2)).trans or_nil)))).trans seq_nil)]
    have s3 : mS X (.asgS (.attr (.loc 0) n_seen) (.loc 7) (.kB true)) [some (.obj c_Search pre.length), some (.int num), some (.int sk), some (.ref (nR pre post)), some (.ref (nR pre post + 1)), some (.int (x5 : Int)), some (.int lit), some (.int (v : Int))] (inn2 pre post c (S.rest.map .int) (S.roots.map iN)) =
        some (.next, [some (.obj c_Search pre.length), some (.int num), some (.int sk), some (.ref (nR pre post)), some (.ref (nR pre post + 1)), some (.int (x5 : Int)), some (.int lit), some (.int (v : Int))], inn2 pre post { c with seen := c.seen.set v true } (S.rest.map .int) (S.roots.map iN)) :=
      asgS_eq kB_eq aseen (loc_eq rfl) (set_seen hvs)
    rw [seq_next s3]
    have c3 : mE X (.cmp .eq (.sub (.attr (.loc 0) n_levels) (.loc 7)) (.kI 0)) [some (.obj c_Search pre.length), some (.int num), some (.int sk), some (.ref (nR pre post)), some (.ref (nR pre post + 1)), some (.int (x5 : Int)), some (.int lit), some (.int (v : Int))] (inn2 pre post { c with seen := c.seen.set v true } (S.rest.map .int) (S.roots.map iN)) = some (.bool (lv v == 0), inn2 pre post { c with seen := c.seen.set v true } (S.rest.map .int) (S.roots.map iN)) :=
      cmp_eq (sub_eq alev (loc_eq rfl) (sub_lev hlev)) kI_eq eq_int
    have hact := N.act v false h1 h8 hb
    rw [if_neg (by simp)] at hact
    have seen' : ∀ (u : Nat) (x : Bool), (c.seen.set v true)[u]? = some x → (u = v ∧ x = true) ∨ (u ≠ v ∧ c.seen[u]? = some x) := fun u x h => by
      rw [List.getElem?_set] at h
      split at h
      · rename_i e; cases h; exact .inl ⟨e.symm, rfl⟩
      · rename_i e; exact .inr ⟨Ne.symm e, h⟩
    by_cases h0 : lv v = 0
    · rw [if_pos h0]
      rw [h0] at c3
      have ap : mE X (.app (.loc 4) (.loc 7)) [some (.obj c_Search pre.length), some (.int num), some (.int sk), some (.ref (nR pre post)), some (.ref (nR pre post + 1)), some (.int (x5 : Int)), some (.int lit), some (.int (v : Int))] (inn2 pre post { c with seen := c.seen.set v true } (S.rest.map .int) (S.roots.map iN)) = some (.none, inn2 pre post { c with seen := c.seen.set v true } (S.rest.map .int) ((S.roots ++ [v]).map iN)) := by
        refine app_eq (loc_eq rfl) (isL (go ..)) (loc_eq rfl) ?_
        rw [app_lst (go ..) (by rw [List.length_map]; exact hrl2), so, List.map_append]
        rfl
      refine ⟨{ c with seen := c.seen.set v true }, .cont, some (.int (v : Int)), 0, seq_stop ((if_t c3).trans ((seq_next (expr_eq ap)).trans (seq_stop cont_eq (by intro q; cases q)))) (by intro q; cases q), .inr rfl, ⟨N.heap, N.all, N.hl, N.al, N.pl, by rw [List.length_set]; exact N.sl, fun u x u1 u8 hx => ?_, N.lev, N.st⟩, by show c.seen.set v true = _; rw [hs], rfl, rfl⟩
      rcases seen' u x hx with ⟨rfl, rfl⟩ | ⟨hne, hx'⟩
      · rw [if_neg (by simp [h0])]; exact hact
      · exact N.act u x u1 u8 hx'
    · rw [if_neg h0]
      rw [show (lv v == 0) = false from beq_eq_false_iff_ne.mpr h0] at c3
      rw [seq_next ((if_f c3).trans seq_nil)]
      obtain ⟨hp, pl, e1, e2, e3, e4, e5⟩ := bump_spec (pre := pre) (post := post ++ [.lst (S.rest.map .int), .lst (S.roots.map iN)]) (c := { c with seen := c.seen.set v true }) (W := W) (d := d) (v := v) N.heap ((N.all v).mpr ⟨h1, h8⟩) hact (by show c.heap.length ≤ W; rw [N.hl]; omega) (by show c.heap.length ≤ _; rw [N.hl]; omega)
      have bm : mE X (.meth (.attr (.loc 0) n_heap) n_bump [(.loc 7)]) [some (.obj c_Search pre.length), some (.int num), some (.int sk), some (.ref (nR pre post)), some (.ref (nR pre post + 1)), some (.int (x5 : Int)), some (.int lit), some (.int (v : Int))] (inn2 pre post { c with seen := c.seen.set v true } (S.rest.map .int) (S.roots.map iN)) = some (.none, inn2 pre post { c with seen := c.seen.set v true, act := c.act.set v 1024, heap := hp, place := pl } (S.rest.map .int) (S.roots.map iN)) := by
        have hm : X.mth c_CoreHeap n_bump = some f_CoreHeap_bump := by subst hX; exact (by decide +kernel : pMth c_CoreHeap n_bump = some f_CoreHeap_bump)
        rw [mh (f := f_CoreHeap_bump) (post := post ++ [.lst (S.rest.map .int), .lst (S.roots.map iN)]) hm rfl aheap (es1 (loc_eq rfl)), hc]
        exact e1
      rw [seq_next (expr_eq bm)]
      have dp : mE X (.meth (.loc 0) n_depth []) [some (.obj c_Search pre.length), some (.int num), some (.int sk), some (.ref (nR pre post)), some (.ref (nR pre post + 1)), some (.int (x5 : Int)), some (.int lit), some (.int (v : Int))] (inn2 pre post { c with seen := c.seen.set v true, act := c.act.set v 1024, heap := hp, place := pl } (S.rest.map .int) (S.roots.map iN)) = some (.int 3, inn2 pre post { c with seen := c.seen.set v true, act := c.act.set v 1024, heap := hp, place := pl } (S.rest.map .int) (S.roots.map iN)) := by
        have hm : X.mth c_Search n_depth = some f_Trail_depth := by subst hX; exact (by decide +kernel : pMth c_Search n_depth = some f_Trail_depth)
        refine (mc (f := f_Trail_depth) (pre := pre) (post := post ++ [.lst (S.rest.map .int), .lst (S.roots.map iN)]) (c := { c with seen := c.seen.set v true, act := c.act.set v 1024, heap := hp, place := pl }) hm rfl (e := .loc 0) (ρ := [some (.obj c_Search pre.length), some (.int num), some (.int sk), some (.ref (nR pre post)), some (.ref (nR pre post + 1)), some (.int (x5 : Int)), some (.int lit), some (.int (v : Int))]) (loc_eq rfl) es0).trans ?_
        rw [hc]
        have := depth_spec (pre := pre) (post := post ++ [.lst (S.rest.map .int), .lst (S.roots.map iN)]) (c := { c with seen := c.seen.set v true, act := c.act.set v 1024, heap := hp, place := pl }) (W := W) (d := d + 2)
        rw [show ({ c with seen := c.seen.set v true, act := c.act.set v 1024, heap := hp, place := pl } : Co).starts.length = 3 from N.st] at this
        exact this
      have c4 : mE X (.cmp .eq (.sub (.attr (.loc 0) n_levels) (.loc 7)) (.meth (.loc 0) n_depth [])) [some (.obj c_Search pre.length), some (.int num), some (.int sk), some (.ref (nR pre post)), some (.ref (nR pre post + 1)), some (.int (x5 : Int)), some (.int lit), some (.int (v : Int))] (inn2 pre post { c with seen := c.seen.set v true, act := c.act.set v 1024, heap := hp, place := pl } (S.rest.map .int) (S.roots.map iN)) = some (.bool (lv v == 3), inn2 pre post { c with seen := c.seen.set v true, act := c.act.set v 1024, heap := hp, place := pl } (S.rest.map .int) (S.roots.map iN)) :=
        cmp_eq (sub_eq alev (loc_eq rfl) (sub_lev (c := { c with seen := c.seen.set v true, act := c.act.set v 1024, heap := hp, place := pl }) hlev)) dp eq_int
      have N' : NOk lv { c with seen := c.seen.set v true, act := c.act.set v 1024, heap := hp, place := pl } := by
        refine ⟨e2, fun u => (e3 u).trans (N.all u), e4.trans N.hl, by rw [List.length_set]; exact N.al, e5.trans N.pl, by rw [List.length_set]; exact N.sl, fun u x u1 u8 hx => ?_, N.lev, N.st⟩
        show (c.act.set v 1024)[u]? = _
        rcases seen' u x hx with ⟨rfl, rfl⟩ | ⟨hne, hx'⟩
        · rw [List.getElem?_set_self (by rw [N.al]; omega), if_pos ⟨rfl, h0⟩]
        · rw [List.getElem?_set_ne (Ne.symm hne)]
          exact N.act u x u1 u8 hx'
      by_cases h3 : lv v = 3
      · rw [if_pos h3]
        rw [h3] at c4
        refine ⟨_, .next, some (.int (v : Int)), 1, (seq_next ((if_t c4).trans ((seq_next (asg_eq (v := .int ((x5 + 1 : Nat) : Int)) (bin_eq (loc_eq rfl) kI_eq rfl) rfl)).trans seq_nil))).trans seq_nil, .inl rfl, N', by show c.seen.set v true = _; rw [hs], rfl, rfl⟩
      · rw [if_neg h3]
        rw [show (lv v == 3) = false from beq_eq_false_iff_ne.mpr h3] at c4
        have ap : mE X (.app (.loc 3) (.loc 6)) [some (.obj c_Search pre.length), some (.int num), some (.int sk), some (.ref (nR pre post)), some (.ref (nR pre post + 1)), some (.int (x5 : Int)), some (.int lit), some (.int (v : Int))] (inn2 pre post { c with seen := c.seen.set v true, act := c.act.set v 1024, heap := hp, place := pl } (S.rest.map .int) (S.roots.map iN)) = some (.none, inn2 pre post { c with seen := c.seen.set v true, act := c.act.set v 1024, heap := hp, place := pl } ((S.rest ++ [lit]).map .int) (S.roots.map iN)) := by
          refine app_eq (loc_eq rfl) (isL (gr ..)) (loc_eq rfl) ?_
          rw [app_lst (gr ..) (by rw [List.length_map]; exact hrl), sr, List.map_append]
          rfl
        exact ⟨_, .next, some (.int (v : Int)), 0, (seq_next ((if_f c4).trans ((seq_next (expr_eq ap)).trans seq_nil))).trans seq_nil, .inl rfl, N', by show c.seen.set v true = _; rw [hs], rfl, rfl⟩
end
end Mine.Law
end
section
set_option autoImplicit false
set_option linter.unusedVariables false
set_option linter.unusedSimpArgs false
set_option linter.unusedSectionVars false
set_option maxRecDepth 10000
namespace Mine.Law

noncomputable def nfold (lv : Nat → Int) (sk : Int) (s : NS) (lits : List Int) : NS := lits.foldl (nstep lv sk) s
theorem nstep_len (lv : Nat → Int) (sk : Int) (s : NS) (l : Int) : (nstep lv sk s l).rest.length ≤ s.rest.length + 1 ∧ (nstep lv sk s l).roots.length ≤ s.roots.length + 1 := by
  unfold nstep
  split
  · omega
  · split
    · simp
    · split
      · simp
      · simp
theorem nfold_len (lv : Nat → Int) (sk : Int) : ∀ (ls : List Int) (s : NS), (nfold lv sk s ls).rest.length ≤ s.rest.length + ls.length ∧ (nfold lv sk s ls).roots.length ≤ s.roots.length + ls.length
  | [], s => ⟨Nat.le_refl _, Nat.le_refl _⟩
  | l :: ls, s => by
    have h1 := nstep_len lv sk s l
    have h2 := nfold_len lv sk ls (nstep lv sk s l)
    unfold nfold at *
    rw [List.foldl_cons, List.length_cons]
    omega

section
variable {pre post : GH} {c : Co} {W d : Nat}

theorem sub_cl {n : Nat} {v : MV} (h : c.clauses[n]? = some v) : subO (inn pre post c) (.ref (pre.length + 15)) (.int (n : Int)) = some v := sub_lst (g15 pre post c) h

theorem note_loop {lv : Nat → Int} {num sk : Int} (hW : 8 < W) : ∀ (lits : List Int) (c : Co) (x5 : Nat) (x6 x7 : Option MV) (S : NS), NOk lv c → c.seen = S.seen → (∀ l ∈ lits, 1 ≤ l.natAbs ∧ l.natAbs ≤ 8) → S.rest.length + lits.length ≤ 4000 → S.roots.length + lits.length ≤ 4000 →
    ∃ (c' : Co) (x6' x7' : Option MV) (k : Nat), loopS .no (fun v ρ G => (asgO true [6] v ρ).bind fun ρ' => mSs (ctx prog W (mcall prog W (d + 3))) noteB ρ' G) (lits.map fun l => .val (.int l)) [some (.obj c_Search pre.length), some (.int num), some (.int sk), some (.ref (nR pre post)), some (.ref (nR pre post + 1)), some (.int (x5 : Int)), x6, x7] (inn2 pre post c (S.rest.map .int) (S.roots.map iN)) =
      some (.next, [some (.obj c_Search pre.length), some (.int num), some (.int sk), some (.ref (nR pre post)), some (.ref (nR pre post + 1)), some (.int ((x5 + k : Nat) : Int)), x6', x7'], inn2 pre post c' ((nfold lv sk S lits).rest.map .int) ((nfold lv sk S lits).roots.map iN)) ∧
      NOk lv c' ∧ c'.seen = (nfold lv sk S lits).seen ∧ S.told + k = (nfold lv sk S lits).told ∧ c' = { c with seen := c'.seen, act := c'.act, heap := c'.heap, place := c'.place } := by
  intro lits
  induction lits with
  | nil => intro c x5 x6 x7 S N hs hl h1 h2; exact ⟨c, x6, x7, 0, ls_nil, N, hs, rfl, rfl⟩
  | cons l ls ih =>
    intro c x5 x6 x7 S N hs hl h1 h2
    rw [List.length_cons] at h1 h2
    obtain ⟨l1, l8⟩ := hl l (.head _)
    obtain ⟨c1, fl, x71, k1, e1, e2, e3, e4, e5, e6⟩ := note_step (pre := pre) (post := post) (W := W) (d := d) (num := num) (sk := sk) (x5 := x5) (x7 := x7) N hs l1 l8 hW (by omega) (by omega)
    have hn := nstep_len lv sk S l
    obtain ⟨c2, x62, x72, k2, f1, f2, f3, f4, f5⟩ := ih c1 (x5 + k1) (some (.int l)) x71 (nstep lv sk S l) e3 e4 (fun y hy => hl y (.tail _ hy)) (by omega) (by omega)
    refine ⟨c2, x62, x72, k1 + k2, ?_, f2, f3, by show _ = (nfold lv sk (nstep lv sk S l) ls).told; omega, ?_⟩
    · rw [List.map_cons, ls_next e1 e2, show x5 + (k1 + k2) = x5 + k1 + k2 by omega]
      exact f1
    · rw [f5, e6]

theorem note_spec {lv : Nat → Int} {num : Nat} {sk : Int} {lits : List Int} {S : NS} (hW : 8 < W) (N : NOk lv c) (hs : c.seen = S.seen) (hcl : c.clauses[num]? = some (.lst (lits.map .int))) (hl : ∀ l ∈ lits, 1 ≤ l.natAbs ∧ l.natAbs ≤ 8) (h1 : S.rest.length + lits.length ≤ 4000) (h2 : S.roots.length + lits.length ≤ 4000) :
    ∃ (c' : Co) (k : Nat), mcall prog W (d + 4) f_Search_note_lits [.obj c_Search pre.length, .int (num : Int), .int sk, .ref (nR pre post), .ref (nR pre post + 1)] (inn2 pre post c (S.rest.map .int) (S.roots.map iN)) = some (.int (k : Int), inn2 pre post c' ((nfold lv sk S lits).rest.map .int) ((nfold lv sk S lits).roots.map iN)) ∧
      NOk lv c' ∧ c'.seen = (nfold lv sk S lits).seen ∧ S.told + k = (nfold lv sk S lits).told ∧ c' = { c with seen := c'.seen, act := c'.act, heap := c'.heap, place := c'.place } := by
  rw [mcall_of (mf := d_Search_note_lits) rfl rfl]
  obtain ⟨c', x6', x7', k, e1, e2, e3, e4, e5⟩ := note_loop (pre := pre) (post := post) (d := d) (num := (num : Int)) (sk := sk) hW lits c 0 none none S N hs hl h1 h2
  refine ⟨c', k, ?_, e2, e3, e4, e5⟩
  have asr : mEs (ctx prog W (mcall prog W (d + 3))) [(.sub (.attr (.loc 0) n_clauses) (.loc 1))] [some (.obj c_Search pre.length), some (.int (num : Int)), some (.int sk), some (.ref (nR pre post)), some (.ref (nR pre post + 1)), some (.int 0), none, none] (inn2 pre post c (S.rest.map .int) (S.roots.map iN)) = some ([.lst (lits.map .int)], inn2 pre post c (S.rest.map .int) (S.roots.map iN)) :=
    es1 (sub_eq (attr_eq (loc_eq rfl) (ac_clauses _ _ _ _ _)) (loc_eq rfl) (sub_cl hcl))
  have hfor : mS (ctx prog W (mcall prog W (d + 3))) (.forS [6] true .vals [(.sub (.attr (.loc 0) n_clauses) (.loc 1))] noteB) [some (.obj c_Search pre.length), some (.int (num : Int)), some (.int sk), some (.ref (nR pre post)), some (.ref (nR pre post + 1)), some (.int 0), none, none] (inn2 pre post c (S.rest.map .int) (S.roots.map iN)) = some (.next, [some (.obj c_Search pre.length), some (.int (num : Int)), some (.int sk), some (.ref (nR pre post)), some (.ref (nR pre post + 1)), some (.int ((0 + k : Nat) : Int)), x6', x7'], inn2 pre post c' ((nfold lv sk S lits).rest.map .int) ((nfold lv sk S lits).roots.map iN)) := by
    exact bnd asr (bnd (o := srcO _ .vals _) so_lst (by rw [List.map_map]; exact e1))
  show outO (mSs _ [.asg 5 _, .forS [6] true .vals _ noteB, .ret _] [some (.obj c_Search pre.length), some (.int (num : Int)), some (.int sk), some (.ref (nR pre post)), some (.ref (nR pre post + 1)), none, none, none] _) = _
  rw [seq_next (asg_eq kI_eq rfl)]
  show outO (mSs _ _ [some (.obj c_Search pre.length), some (.int (num : Int)), some (.int sk), some (.ref (nR pre post)), some (.ref (nR pre post + 1)), some (.int 0), none, none] _) = _
  rw [seq_next hfor, seq_stop (ret_eq (loc_eq rfl)) (by intro q; cases q), Nat.zero_add]
  rfl
end
end Mine.Law
end
section
set_option autoImplicit false
set_option linter.unusedVariables false
set_option linter.unusedSimpArgs false
set_option linter.unusedSectionVars false
set_option maxRecDepth 10000
namespace Mine.Law

noncomputable def fd (cells : List Int) (s : Nat) : GO := .sd [(n_cells, .lst (cells.map .int)), (n_spot, .int (s : Int))]

theorem small_of {a : Int} (h1 : -1000000000 ≤ a) (h2 : a ≤ 1000000000) : small a = true := by unfold small; exact decide_eq_true (by omega)
theorem mod_ok {G : GH} {a b : Int} (h : 0 < b) : ∃ r : Int, 0 ≤ r ∧ r < b ∧ binO G .mod (.int a) (.int b) = some (.int r) := by
  refine ⟨a.fmod b, Int.fmod_nonneg_of_pos a h, Int.fmod_lt_of_pos a h, ?_⟩
  exact if_pos (Int.ne_of_gt h)

theorem mul_ok {G : GH} {a b : Int} (h1 : small a = true) (h2 : small b = true) : binO G .mul (.int a) (.int b) = some (.int (a * b)) := bin_mul h1 h2

section
variable {W d : Nat} {tail : GH} {cells : List Int} {s : Nat}
theorem draw_spec {wide : Int} (hw : 0 < wide) (hs : s ≤ 4000) :
    ∃ r : Int, 0 ≤ r ∧ r < wide ∧ mcall prog W (d + 1) f_law_draw [.ref 0, .int wide] (fd cells s :: tail) = some (.int r, fd cells (s + 1) :: tail) := by
  rw [mcall_of (mf := d_law_draw) rfl rfl]
  have e0 : subO (fd cells s :: tail) (.ref 0) (.str n_spot) = some (.int (s : Int)) := rfl
  have e1 : subO (fd cells (s + 1) :: tail) (.ref 0) (.str n_spot) = some (.int ((s + 1 : Nat) : Int)) := rfl
  have e2 : subO (fd cells (s + 1) :: tail) (.ref 0) (.str n_cells) = some (.lst (cells.map .int)) := rfl
  have e3 : subSet (fd cells s :: tail) (.ref 0) (.str n_spot) (.int ((s : Int) + 1)) = some (fd cells (s + 1) :: tail) := rfl
  have kS : ∀ {X : Ctx} {k : Nat} {ρ : Lo} {G : GH}, mE X (.kS k) ρ G = some (.str k, G) := rfl
  have s1 : mS (ctx prog W (mcall prog W d)) (.asgS (.loc 0) (.kS n_spot) (.bin .add (.sub (.loc 0) (.kS n_spot)) (.kI 1))) [some (.ref 0), some (.int wide), none] (fd cells s :: tail) = some (.next, [some (.ref 0), some (.int wide), none], fd cells (s + 1) :: tail) :=
    asgS_eq (bin_eq (sub_eq (loc_eq rfl) kS e0) kI_eq rfl) (loc_eq rfl) kS e3
  have s2 : mS (ctx prog W (mcall prog W d)) (.asg 2 (.sub (.loc 0) (.kS n_spot))) [some (.ref 0), some (.int wide), none] (fd cells (s + 1) :: tail) = some (.next, [some (.ref 0), some (.int wide), some (.int ((s + 1 : Nat) : Int))], fd cells (s + 1) :: tail) :=
    asg_eq (sub_eq (loc_eq rfl) kS e1) rfl
  have c1 : mE (ctx prog W (mcall prog W d)) (.cmp .le (.loc 2) (.blt .len (.sub (.loc 0) (.kS n_cells)))) [some (.ref 0), some (.int wide), some (.int ((s + 1 : Nat) : Int))] (fd cells (s + 1) :: tail) = some (.bool (decide (s + 1 ≤ cells.length)), fd cells (s + 1) :: tail) := by
    refine cmp_eq (loc_eq rfl) (blt_eq (r := (.int (cells.length : Int), _)) (sub_eq (loc_eq rfl) kS e2) ?_) (congrArg some (decide_eq_decide.mpr (by omega)))
    exact congrArg (fun n : Nat => some (MV.int (n : Int), fd cells (s + 1) :: tail)) (List.length_map ..)
  show ∃ r : Int, 0 ≤ r ∧ r < wide ∧ outO (mSs _ [.asgS _ _ _, .asg 2 _, .ifS _ [.ret _] [], .ret _] [some (.ref 0), some (.int wide), none] _) = _
  rw [seq_next s1, seq_next s2]
  by_cases hl : s + 1 ≤ cells.length
  · rw [decide_eq_true hl] at c1
    have hc : subO (fd cells (s + 1) :: tail) (.lst (cells.map .int)) (.int (s : Int)) = some (.int cells[s]) := by
      have : cells[s]? = some cells[s] := List.getElem?_eq_getElem (by omega)
      exact subF_lst ((List.getElem?_map ..).trans (mpp this))
    obtain ⟨r, r1, r2, hr⟩ := mod_ok (G := fd cells (s + 1) :: tail) (a := cells[s]) hw
    refine ⟨r, r1, r2, ?_⟩
    rw [seq_stop ((if_t c1).trans (seq_stop (ret_eq (bin_eq (sub_eq (sub_eq (loc_eq rfl) kS e2) (bin_eq (x := .int (s : Int)) (loc_eq rfl) kI_eq (by show some (MV.int (((s + 1 : Nat) : Int) - 1)) = _; congr 2; omega)) hc) (loc_eq rfl) hr)) (by intro q; cases q))) (by intro q; cases q)]
    rfl
  · rw [decide_eq_false hl] at c1
    obtain ⟨h, hh⟩ : ∃ h : Int, h = ((s + 1 : Nat) : Int) := ⟨_, rfl⟩
    have hb : 1 ≤ h ∧ h ≤ 4001 := by omega
    rw [← hh]
    obtain ⟨r1, a1, a2, hr1⟩ := mod_ok (G := fd cells (s + 1) :: tail) (a := 11 * h * h + 7 * h + 2) (b := 1013) (by decide)
    have hq : binO (fd cells (s + 1) :: tail) .fdiv (.int r1) (.int 3) = some (.int (r1.fdiv 3)) := by
      exact if_pos ⟨by decide, small_of (by omega) (by omega), by decide⟩
    obtain ⟨r, b1, b2, hr⟩ := mod_ok (G := fd cells (s + 1) :: tail) (a := r1.fdiv 3) hw
    have m1 : binO (fd cells (s + 1) :: tail) .mul (.int 11) (.int h) = some (.int (11 * h)) := mul_ok (by decide) (small_of (by omega) (by omega))
    have m2 : binO (fd cells (s + 1) :: tail) .mul (.int (11 * h)) (.int h) = some (.int (11 * h * h)) := mul_ok (small_of (by omega) (by omega)) (small_of (by omega) (by omega))
    have m3 : binO (fd cells (s + 1) :: tail) .mul (.int 7) (.int h) = some (.int (7 * h)) := mul_ok (by decide) (small_of (by omega) (by omega))
    refine ⟨r, b1, b2, ?_⟩
    rw [hh] at *
    rw [seq_next ((if_f c1).trans seq_nil), seq_stop (ret_eq (bin_eq (bin_eq (bin_eq (bin_eq (bin_eq (bin_eq (bin_eq kI_eq (loc_eq rfl) m1) (loc_eq rfl) m2) (bin_eq kI_eq (loc_eq rfl) m3) rfl) kI_eq rfl) kI_eq hr1) kI_eq hq) (loc_eq rfl) hr)) (by intro q; cases q)]
    rfl
end
end Mine.Law
end
section
set_option autoImplicit false
set_option linter.unusedVariables false
set_option linter.unusedSimpArgs false
set_option linter.unusedSectionVars false
set_option maxRecDepth 10000
namespace Mine.Law

section
variable {X : Ctx} {ρ : Lo} {G G' : GH} {pre : GH}
theorem asgA_at {o e : ME} {k C j : Nat} {x : MV} {B : GH} {l : List (Nat × MV)} (he : mE X e ρ G = some (x, pre ++ B)) (ho : mE X o ρ (pre ++ B) = some (.obj C (pre.length + j), pre ++ B)) (ha : X.atr C k = true) (hj : B[j]? = some (.sd l)) (hz : l.length < 4096) : mS X (.asgA o k e) ρ G = some (.next, ρ, pre ++ B.set j (.sd (setL l k x))) := by
  have h1 : (pre ++ B)[pre.length + j]? = some (.sd l) := by rw [List.getElem?_append_right (by omega), Nat.add_sub_cancel_left]; exact hj
  exact bnd (o := mE X e ρ G) he (bnd (o := mE X o ρ (pre ++ B)) ho (mpp ((if_pos ha).trans (bnd (hS_of h1) ((if_pos hz).trans (by rw [List.set_append_right _ _ (by omega), Nat.add_sub_cancel_left]))))))
theorem lst_at {es : List ME} {vs : List MV} {B : GH} (h : mEs X es ρ G = some (vs, pre ++ B)) : mE X (.lst true es) ρ G = some (.ref (pre.length + B.length), pre ++ (B ++ [.lst vs])) := by
  exact (mpp (o := mEs X es ρ G) h).trans (by show some (MV.ref (pre ++ B).length, (pre ++ B) ++ [GO.lst vs]) = _; rw [List.length_append, List.append_assoc])
end
end Mine.Law
end
section
set_option autoImplicit false
set_option linter.unusedVariables false
set_option linter.unusedSimpArgs false
set_option linter.unusedSectionVars false
set_option maxRecDepth 10000
namespace Mine.Law
noncomputable def z9 : List MV := List.replicate 9 (.int 0)
noncomputable def c0 (b : Nat) : Co where
  assigns := z9
  levels := z9
  reasons := List.replicate 9 (.int (-1))
  spots := z9
  phases := List.replicate 9 (.int (-1))
  watches := .ref (b + 6) :: .ref (b + 7) :: List.replicate 16 (.lst [])
  act := List.replicate 9 0
  heap := [1, 2, 3, 4, 5, 6, 7, 8]
  place := [-1, 0, 1, 2, 3, 4, 5, 6, 7]
  trail := []
  starts := []
  clauses := []
  steps := []
  droppable := []
  activities := []
  seen := List.replicate 9 false
  unit := List.replicate 9 .none
noncomputable abbrev XX : Ctx := ctx prog 64 (mcall prog 64 17)
noncomputable def freshB : List MS := [.asg 2 (.new c_Search [.kN, .kN]),
  .forS [3] true .rng [(.kI 8)] [.expr (.meth (.loc 2) n_new_var [])]]
noncomputable def FreshAt (pre : GH) : Prop := ∀ row sizes : MV, mSs XX freshB [some row, some sizes, none, none, none, none] pre = some (.next, [some row, some sizes, some (.obj c_Search pre.length), some (.int 7), none, none], inn pre [] (c0 pre.length))
theorem pre_eq {α : Type} [Inhabited α] (pre : List α) {n : Nat} (h : pre.length = n) : pre = (List.range n).map fun i => pre.getD i default :=
  List.ext_getElem (by rw [List.length_map, List.length_range, h]) fun i h1 h2 => by rw [List.getElem_map, List.getElem_range, List.getD_eq_getElem?_getD, List.getElem?_eq_getElem h1]; rfl
theorem fresh_of {n : Nat} (k : ∀ (x : Nat → GO) (row sizes : MV), mSs XX freshB [some row, some sizes, none, none, none, none] ((List.range n).map x) = some (.next, [some row, some sizes, some (.obj c_Search n), some (.int 7), none, none], inn ((List.range n).map x) [] (c0 n))) (pre : GH) (h : pre.length = n) : FreshAt pre := fun row sizes => by
  have := k (fun i => pre.getD i default) row sizes
  rw [← pre_eq pre h] at this
  rw [h]; exact this
theorem fresh2 : ∀ (pre : GH) (h : pre.length = 2), FreshAt pre := fresh_of fun x row sizes => by kernel_rfl
theorem fresh23 : ∀ (pre : GH) (h : pre.length = 23), FreshAt pre := fresh_of fun x row sizes => by kernel_rfl
theorem fresh44 : ∀ (pre : GH) (h : pre.length = 44), FreshAt pre := fresh_of fun x row sizes => by kernel_rfl
end Mine.Law
end
section
set_option autoImplicit false
set_option linter.unusedVariables false
set_option linter.unusedSimpArgs false
set_option linter.unusedSectionVars false
set_option maxRecDepth 10000
namespace Mine.Law

section
variable {pre post : GH} {c : Co} {W d : Nat}
theorem set_l1 {n : Nat} {x : MV} (h : n < c.assigns.length) : subSet (inn pre post c) (.ref (pre.length + 1)) (.int (n : Int)) x = some (inn pre post { c with assigns := c.assigns.set n x }) := by
  rw [set_lst (g1 pre post c) h, s1]
theorem set_l2 {n : Nat} {x : MV} (h : n < c.levels.length) : subSet (inn pre post c) (.ref (pre.length + 2)) (.int (n : Int)) x = some (inn pre post { c with levels := c.levels.set n x }) := by
  rw [set_lst (g2 pre post c) h, s2]
theorem set_l3 {n : Nat} {x : MV} (h : n < c.reasons.length) : subSet (inn pre post c) (.ref (pre.length + 3)) (.int (n : Int)) x = some (inn pre post { c with reasons := c.reasons.set n x }) := by
  rw [set_lst (g3 pre post c) h, s3]
theorem set_l4 {n : Nat} {x : MV} (h : n < c.spots.length) : subSet (inn pre post c) (.ref (pre.length + 4)) (.int (n : Int)) x = some (inn pre post { c with spots := c.spots.set n x }) := by
  rw [set_lst (g4 pre post c) h, s4]

noncomputable abbrev enE (b : Nat) (lit : Int) (num : MV) : Lo := [some (.obj c_Search b), some (.int lit), some num, some (.int (lit.natAbs : Int))]
noncomputable def enq (c : Co) (lit : Int) (num : MV) : Co := { c with assigns := c.assigns.set lit.natAbs (.int (if 0 < lit then 1 else -1)), levels := c.levels.set lit.natAbs (.int (c.starts.length : Int)), reasons := c.reasons.set lit.natAbs num, spots := c.spots.set lit.natAbs (.int (c.trail.length : Int)), trail := c.trail ++ [.int lit] }

theorem enqueue_spec {lit : Int} {num : MV} (h1 : lit.natAbs < c.assigns.length) (h2 : lit.natAbs < c.levels.length) (h3 : lit.natAbs < c.reasons.length) (h4 : lit.natAbs < c.spots.length) (h5 : c.trail.length < 4096) :
    mcall prog W (d + 2) f_Trail_enqueue [.obj c_Search pre.length, .int lit, num] (inn pre post c) = some (.none, inn pre post (enq c lit num)) := by
  rw [mcall_of (mf := d_Trail_enqueue) rfl rfl]
  generalize hX : ctx prog W (mcall prog W (d + 1)) = X
  replace hX := hX.symm
  have hc : X.call = mcall prog W (d + 1) := by rw [hX]; rfl
  have q1 : mS X (.asg 3 (.blt .abs (.loc 1))) [some (.obj c_Search pre.length), some (.int lit), some num, none] (inn pre post c) = some (.next, (enE pre.length lit num), inn pre post c) :=
    asg_eq (blt_eq (r := (.int (lit.natAbs : Int), _)) (loc_eq rfl) rfl) rfl
  have q2 : mS X (.asgS (.attr (.loc 0) n_assigns) (.loc 3) (.ite (.cmp .gt (.loc 1) (.kI 0)) (.gI n_TRUE 1) (.gI n_FALSE (-1)))) (enE pre.length lit num) (inn pre post c) = some (.next, enE pre.length lit num, inn pre post { c with assigns := c.assigns.set lit.natAbs (.int (if 0 < lit then 1 else -1)) }) := by
    refine asgS_eq (ite_eq (t := decide (lit > 0)) (cmp_eq (loc_eq rfl) kI_eq rfl) gI_eq gI_eq) (attr_eq (loc_eq rfl) (by subst hX; exact ac_assigns _ _ _ _ _)) (loc_eq rfl) ?_
    have e : (if decide (lit > 0) = true then MV.int 1 else MV.int (-1)) = MV.int (if 0 < lit then 1 else -1) := by
      simp only [decide_eq_true_eq]
      split <;> rename_i h <;> simp [h]
    rw [e]
    exact set_l1 h1
  have hd : ∀ (c' : Co), mE X (.meth (.loc 0) n_depth []) (enE pre.length lit num) (inn pre post c') = some (.int (c'.starts.length : Int), inn pre post c') := fun c' => by
    have hm : X.mth c_Search n_depth = some f_Trail_depth := by subst hX; exact (by decide +kernel : pMth c_Search n_depth = some f_Trail_depth)
    rw [mc (f := f_Trail_depth) hm rfl (loc_eq rfl) es0, hc]
    exact depth_spec
  have q3 : ∀ (c' : Co), lit.natAbs < c'.levels.length → mS X (.asgS (.attr (.loc 0) n_levels) (.loc 3) (.meth (.loc 0) n_depth [])) (enE pre.length lit num) (inn pre post c') = some (.next, enE pre.length lit num, inn pre post { c' with levels := c'.levels.set lit.natAbs (.int (c'.starts.length : Int)) }) := fun c' h =>
    asgS_eq (hd c') (attr_eq (loc_eq rfl) (by subst hX; exact ac_levels _ _ _ _ _)) (loc_eq rfl) (set_l2 h)
  have q4 : ∀ (c' : Co), lit.natAbs < c'.reasons.length → mS X (.asgS (.attr (.loc 0) n_reasons) (.loc 3) (.loc 2)) (enE pre.length lit num) (inn pre post c') = some (.next, enE pre.length lit num, inn pre post { c' with reasons := c'.reasons.set lit.natAbs num }) := fun c' h =>
    asgS_eq (loc_eq rfl) (attr_eq (loc_eq rfl) (by subst hX; exact ac_reasons _ _ _ _ _)) (loc_eq rfl) (set_l3 h)
  have ht : ∀ (c' : Co), mE X (.attr (.loc 0) n_trail) (enE pre.length lit num) (inn pre post c') = some (.ref (pre.length + 13), inn pre post c') := fun c' => attr_eq (loc_eq rfl) (by subst hX; exact ac_trail _ _ _ _ _)
  have q5 : ∀ (c' : Co), lit.natAbs < c'.spots.length → mS X (.asgS (.attr (.loc 0) n_spots) (.loc 3) (.blt .len (.attr (.loc 0) n_trail))) (enE pre.length lit num) (inn pre post c') = some (.next, enE pre.length lit num, inn pre post { c' with spots := c'.spots.set lit.natAbs (.int (c'.trail.length : Int)) }) := fun c' h =>
    asgS_eq (blt_eq (r := (.int (c'.trail.length : Int), inn pre post c')) (ht c') (len_lst (g13 ..))) (attr_eq (loc_eq rfl) (by subst hX; exact ac_spots _ _ _ _ _)) (loc_eq rfl) (set_l4 h)
  have q6 : ∀ (c' : Co), c'.trail.length < 4096 → mE X (.app (.attr (.loc 0) n_trail) (.loc 1)) (enE pre.length lit num) (inn pre post c') = some (.none, inn pre post { c' with trail := c'.trail ++ [.int lit] }) := fun c' h =>
    app_eq (ht c') (isL (g13 ..)) (loc_eq rfl) (by rw [app_lst (g13 ..) h, s13])
  show outO (mSs X [.asg 3 _, .asgS _ _ _, .asgS _ _ _, .asgS _ _ _, .asgS _ _ _, .expr _] [some (.obj c_Search pre.length), some (.int lit), some num, none] _) = _
  rw [seq_next q1, seq_next q2, seq_next (q3 _ ?_), seq_next (q4 _ ?_), seq_next (q5 _ ?_), seq_next (expr_eq (q6 _ ?_)), seq_nil]
  · rfl
  all_goals first | exact h5 | exact h4 | exact h3 | exact h2

theorem new_level_spec (h : c.starts.length < 4096) : mcall prog W (d + 1) f_Trail_new_level [.obj c_Search pre.length] (inn pre post c) = some (.none, inn pre post { c with starts := c.starts ++ [.int (c.trail.length : Int)] }) := by
  rw [mcall_of (mf := d_Trail_new_level) rfl rfl]
  generalize hX : ctx prog W (mcall prog W d) = X
  replace hX := hX.symm
  have q1 : mE X (.app (.attr (.loc 0) n_starts) (.blt .len (.attr (.loc 0) n_trail))) [some (.obj c_Search pre.length)] (inn pre post c) = some (.none, inn pre post { c with starts := c.starts ++ [.int (c.trail.length : Int)] }) :=
    app_eq (attr_eq (loc_eq rfl) (by subst hX; exact ac_starts _ _ _ _ _)) (isL (g14 ..)) (blt_eq (r := (.int (c.trail.length : Int), inn pre post c)) (attr_eq (loc_eq rfl) (by subst hX; exact ac_trail _ _ _ _ _)) (len_lst (g13 ..))) (by rw [app_lst (g14 ..) h, s14])
  have q2 : ∀ c' : Co, mE X (.cmp .isn (.attr (.loc 0) n_hook) .kN) [some (.obj c_Search pre.length)] (inn pre post c') = some (.bool false, inn pre post c') := fun c' =>
    cmp_eq (attr_eq (loc_eq rfl) (by subst hX; exact ac_hook _ _ _ _ _)) kN_eq rfl
  show outO (mSs X [.expr _, .ifS _ _ []] [some (.obj c_Search pre.length)] _) = _
  rw [seq_next (expr_eq q1), seq_next ((if_f (q2 _)).trans seq_nil), seq_nil]
  rfl
end

noncomputable def stJ (a b c : Int) (j : Nat) : Nat := ((List.range j).filter fun (t : Nat) => [a, b, c].contains (t : Int)).length
noncomputable def levs (row : List Int) (a b c : Int) : Nat → List Int
  | 0 => List.replicate 9 0
  | j + 1 => (levs row a b c j).set (row.getD j 0).natAbs (stJ a b c (j + 1) : Int)
noncomputable def lvF (row : List Int) (s0 s1 s2 : Int) (v : Nat) : Int := (levs row s0 (s0 + s1) (s0 + s1 + s2) 8).getD v 0
theorem levs_len (row : List Int) (a b c : Int) : ∀ j, (levs row a b c j).length = 9
  | 0 => rfl
  | j + 1 => by rw [levs, List.length_set]; exact levs_len row a b c j
theorem stJ_succ (a b c : Int) (j : Nat) : stJ a b c (j + 1) = stJ a b c j + if [a, b, c].contains (j : Int) then 1 else 0 := by
  unfold stJ
  rw [List.range_succ, List.filter_append, List.length_append]
  congr 1
  rw [List.filter_cons]
  split <;> rfl
theorem stJ_mono (a b c : Int) : ∀ (k j : Nat), stJ a b c j ≤ stJ a b c (j + k)
  | 0, j => Nat.le_refl _
  | k + 1, j => by
    have := stJ_mono a b c k j
    have h2 := stJ_succ a b c (j + k)
    rw [show j + (k + 1) = j + k + 1 by omega]
    omega
theorem stJ8 {s0 s1 s2 : Int} (h0 : 0 ≤ s0 ∧ s0 < 3) (h1 : 1 ≤ s1 ∧ s1 < 3) (h2 : 1 ≤ s2 ∧ s2 < 3) : stJ s0 (s0 + s1) (s0 + s1 + s2) 8 = 3 := by
  have a : s0 = 0 ∨ s0 = 1 ∨ s0 = 2 := by omega
  have b : s1 = 1 ∨ s1 = 2 := by omega
  have c : s2 = 1 ∨ s2 = 2 := by omega
  rcases a with rfl | rfl | rfl <;> rcases b with rfl | rfl <;> rcases c with rfl | rfl <;> decide
theorem lv_bound {s0 s1 s2 : Int} (h0 : 0 ≤ s0 ∧ s0 < 3) (h1 : 1 ≤ s1 ∧ s1 < 3) (h2 : 1 ≤ s2 ∧ s2 < 3) (row : List Int) (v : Nat) : 0 ≤ lvF row s0 s1 s2 v ∧ lvF row s0 s1 s2 v ≤ 3 := by
  have key : ∀ j, j ≤ 8 → ∀ x ∈ levs row s0 (s0 + s1) (s0 + s1 + s2) j, 0 ≤ x ∧ x ≤ 3 := by
    intro j
    induction j with
    | zero => intro _ x hx; rw [levs] at hx; rw [List.eq_of_mem_replicate hx]; decide
    | succ j ih =>
      intro hj x hx
      rw [levs] at hx
      rcases List.mem_or_eq_of_mem_set hx with h | h
      · exact ih (by omega) x h
      · have m := stJ_mono s0 (s0 + s1) (s0 + s1 + s2) (8 - (j + 1)) (j + 1)
        rw [show j + 1 + (8 - (j + 1)) = 8 by omega, stJ8 h0 h1 h2] at m
        omega
  unfold lvF
  rw [List.getD_eq_getElem?_getD]
  cases e : (levs row s0 (s0 + s1) (s0 + s1 + s2) 8)[v]? with
  | none => exact ⟨by decide, by decide⟩
  | some x => exact key 8 (Nat.le_refl _) x (List.mem_of_getElem? e)

noncomputable def enumV (n : Nat) : List MV → List MV
  | [] => []
  | a :: r => .tup [.int n, a] :: enumV (n + 1) r
theorem enumT_eq : ∀ (l : List MV) (n : Nat), enumT n l = (enumV n l).map .val
  | [], _ => rfl
  | a :: r, n => by rw [enumT, enumV, List.map_cons, enumT_eq r]
theorem enumV_len : ∀ (l : List MV) (n : Nat), (enumV n l).length = l.length
  | [], _ => rfl
  | a :: r, n => by rw [enumV, List.length_cons, List.length_cons, enumV_len r]
theorem enumV_get : ∀ (l : List MV) (n j : Nat), (enumV n l)[j]? = (l[j]?).map fun x => .tup [.int ((n + j : Nat) : Int), x]
  | [], _, _ => rfl
  | a :: r, n, 0 => rfl
  | a :: r, n, j + 1 => by
    rw [enumV, List.getElem?_cons_succ, List.getElem?_cons_succ, enumV_get r (n + 1) j, show n + 1 + j = n + (j + 1) by omega]

noncomputable def lt_ok (x : Int) (c : Co) : Prop := x.natAbs < c.assigns.length ∧ x.natAbs < c.levels.length ∧ x.natAbs < c.reasons.length ∧ x.natAbs < c.spots.length ∧ c.trail.length < 4096
structure CIn (row : List Int) (a b c' : Int) (j : Nat) (base : Co) (c : Co) : Prop where
  al : c.assigns.length = 9
  rl : c.reasons.length = 9
  sl : c.spots.length = 9
  lev : c.levels = (levs row a b c' j).map .int
  st : c.starts.length = stJ a b c' j
  tr : c.trail.length = j
  same : c = { base with assigns := c.assigns, levels := c.levels, reasons := c.reasons, spots := c.spots, trail := c.trail, starts := c.starts }

theorem mem_18 (v : Nat) : v ∈ ([1, 2, 3, 4, 5, 6, 7, 8] : List Nat) ↔ 1 ≤ v ∧ v ≤ 8 :=
  (show v ∈ List.range' 1 8 ↔ _ from List.mem_range'_1).trans ⟨fun h => ⟨h.1, Nat.le_of_lt_succ h.2⟩, fun h => ⟨h.1, Nat.lt_succ_of_le h.2⟩⟩
theorem all_lt {n : Nat} {p : Nat → Bool} (h : (List.range n).all p = true) {i : Nat} (hi : i < n) : p i = true := List.all_eq_true.mp h i (List.mem_range.mpr hi)
theorem fresh_HOk : HOk (List.replicate 9 0) [1, 2, 3, 4, 5, 6, 7, 8] [-1, 0, 1, 2, 3, 4, 5, 6, 7] := by
  refine ⟨fun i u p hi hu hp => ?_, fun i u hu => ?_, by decide, by decide, fun u hu hn => ?_⟩
  · have := all_lt (n := 8) (p := fun i => decide (i = 0) || !lt (List.replicate 9 0) (([1, 2, 3, 4, 5, 6, 7, 8] : List Nat)[i]?.getD 0) (([1, 2, 3, 4, 5, 6, 7, 8] : List Nat)[(i - 1) / 2]?.getD 0)) (by decide) (List.getElem?_eq_some_iff.mp hu).1
    rw [hu, hp] at this
    exact (Bool.or_eq_true_iff.mp this).elim (fun q => absurd (of_decide_eq_true q) (Nat.ne_of_gt hi)) fun q => (Bool.not_eq_true' _).mp q
  · have := all_lt (n := 8) (p := fun i => ([-1, 0, 1, 2, 3, 4, 5, 6, 7] : List Int)[([1, 2, 3, 4, 5, 6, 7, 8] : List Nat)[i]?.getD 0]? == some (i : Int)) (by decide) (List.getElem?_eq_some_iff.mp hu).1
    rw [hu] at this
    exact eq_of_beq this
  · have := all_lt (n := 9) (p := fun u => ([1, 2, 3, 4, 5, 6, 7, 8] : List Nat).contains u || ([-1, 0, 1, 2, 3, 4, 5, 6, 7] : List Int)[u]? == some (-1)) (by decide) hu
    exact (Bool.or_eq_true_iff.mp this).elim (fun q => absurd (List.contains_iff_mem.mp q) hn) eq_of_beq

theorem core_spec {pre : GH} (F : FreshAt pre) {row : List Int} {s0 s1 s2 : Int} (hr : row.length = 8) (hrow : ∀ x ∈ row, 1 ≤ x.natAbs ∧ x.natAbs ≤ 8) (h0 : 0 ≤ s0 ∧ s0 < 3) (h1 : 1 ≤ s1 ∧ s1 < 3) (h2 : 1 ≤ s2 ∧ s2 < 3) :
    ∃ c : Co, mcall prog 64 18 f_law_core [.lst (row.map .int), .lst [.int s0, .int s1, .int s2]] pre = some (.obj c_Search pre.length, inn pre [] c) ∧ NOk (lvF row s0 s1 s2) c ∧ c.seen = List.replicate 9 false ∧ c.clauses = [] ∧ c.steps = [] ∧ c.droppable = [] ∧ c.activities = [] := by
  rw [mcall_of (mf := d_law_core) rfl rfl]
  obtain ⟨ρ', G', hf, q⟩ := for_inv (X := XX) (tgt := [4, 5]) (one := false) (sk := .enum) (srcs := [.loc 0])
    (b := [.ifS (.cmp .isin (.loc 4) (.tup [(.sub (.loc 1) (.kI 0)), (.bin .add (.sub (.loc 1) (.kI 0)) (.sub (.loc 1) (.kI 1))), (.bin .add (.bin .add (.sub (.loc 1) (.kI 0)) (.sub (.loc 1) (.kI 1))) (.sub (.loc 1) (.kI 2)))])) [.expr (.meth (.loc 2) n_new_level [])] [], .expr (.meth (.loc 2) n_enqueue [(.loc 5), (.neg (.kI 1))])])
    (ρ := [some (.lst (row.map .int)), some (.lst [.int s0, .int s1, .int s2]), some (.obj c_Search pre.length), some (.int 7), none, none]) (G := inn pre [] (c0 pre.length)) (l := enumV 0 (row.map .int))
    (fun j ρ G => ∃ (c : Co) (x4 x5 : Option MV), ρ = [some (.lst (row.map .int)), some (.lst [.int s0, .int s1, .int s2]), some (.obj c_Search pre.length), some (.int 7), x4, x5] ∧ G = inn pre [] c ∧ CIn row s0 (s0 + s1) (s0 + s1 + s2) j (c0 pre.length) c)
    (es1 (loc_eq rfl)) (by rw [← enumT_eq]; rfl) ⟨c0 pre.length, none, none, rfl, rfl, ⟨rfl, rfl, rfl, rfl, rfl, rfl, rfl⟩⟩ (by
    rintro j v ρ G hv ⟨c, x4, x5, rfl, rfl, K⟩
    rw [enumV_get, List.getElem?_map] at hv
    cases hx : row[j]? with
    | none => rw [hx] at hv; cases hv
    | some x =>
    rw [hx, Nat.zero_add] at hv
    cases hv
    have hx8 := hrow x (List.mem_of_getElem? hx)
    have hj8 : j < 8 := by have := (List.getElem?_eq_some_iff.mp hx).1; omega
    have hc : XX.call = mcall prog 64 17 := rfl
    generalize hX : XX = X at *
    have hsz : ∀ {k : Nat} {y : Int} {G : GH}, ([.int s0, .int s1, .int s2] : List MV)[k]? = some (.int y) → mE X (.sub (.loc 1) (.kI (k : Int))) [some (.lst (row.map .int)), some (.lst [.int s0, .int s1, .int s2]), some (.obj c_Search pre.length), some (.int 7), some (.int (j : Int)), some (.int x)] G = some (.int y, G) := fun {k y G} hk => by
      refine sub_eq (loc_eq rfl) kI_eq ?_
      exact subF_lst hk
    have hcond : mE X (.cmp .isin (.loc 4) (.tup [(.sub (.loc 1) (.kI 0)), (.bin .add (.sub (.loc 1) (.kI 0)) (.sub (.loc 1) (.kI 1))), (.bin .add (.bin .add (.sub (.loc 1) (.kI 0)) (.sub (.loc 1) (.kI 1))) (.sub (.loc 1) (.kI 2)))])) [some (.lst (row.map .int)), some (.lst [.int s0, .int s1, .int s2]), some (.obj c_Search pre.length), some (.int 7), some (.int (j : Int)), some (.int x)] (inn pre [] c) = some (.bool ([s0, s0 + s1, s0 + s1 + s2].contains (j : Int)), inn pre [] c) := by
      have t : mE X (.tup [(.sub (.loc 1) (.kI 0)), (.bin .add (.sub (.loc 1) (.kI 0)) (.sub (.loc 1) (.kI 1))), (.bin .add (.bin .add (.sub (.loc 1) (.kI 0)) (.sub (.loc 1) (.kI 1))) (.sub (.loc 1) (.kI 2)))]) [some (.lst (row.map .int)), some (.lst [.int s0, .int s1, .int s2]), some (.obj c_Search pre.length), some (.int 7), some (.int (j : Int)), some (.int x)] (inn pre [] c) = some (.tup ([s0, s0 + s1, s0 + s1 + s2].map .int), inn pre [] c) := by
        have a0 := hsz (k := 0) (y := s0) (G := inn pre [] c) rfl
        have a1 := hsz (k := 1) (y := s1) (G := inn pre [] c) rfl
        have a2 := hsz (k := 2) (y := s2) (G := inn pre [] c) rfl
        exact tup_eq (es3 a0 (bin_eq a0 a1 rfl) (bin_eq (bin_eq a0 a1 rfl) a2 rfl))
      exact cmp_eq (loc_eq rfl) t (in_tup _ _)
    have hlvl : ∃ c1 : Co, mSs X [.ifS (.cmp .isin (.loc 4) (.tup [(.sub (.loc 1) (.kI 0)), (.bin .add (.sub (.loc 1) (.kI 0)) (.sub (.loc 1) (.kI 1))), (.bin .add (.bin .add (.sub (.loc 1) (.kI 0)) (.sub (.loc 1) (.kI 1))) (.sub (.loc 1) (.kI 2)))])) [.expr (.meth (.loc 2) n_new_level [])] [], .expr (.meth (.loc 2) n_enqueue [(.loc 5), (.neg (.kI 1))])] [some (.lst (row.map .int)), some (.lst [.int s0, .int s1, .int s2]), some (.obj c_Search pre.length), some (.int 7), some (.int (j : Int)), some (.int x)] (inn pre [] c) =
        mSs X [.expr (.meth (.loc 2) n_enqueue [(.loc 5), (.neg (.kI 1))])] [some (.lst (row.map .int)), some (.lst [.int s0, .int s1, .int s2]), some (.obj c_Search pre.length), some (.int 7), some (.int (j : Int)), some (.int x)] (inn pre [] c1) ∧ c1.starts.length = stJ s0 (s0 + s1) (s0 + s1 + s2) (j + 1) ∧ c1 = { c with starts := c1.starts } := by
      rw [stJ_succ]
      cases hb : [s0, s0 + s1, s0 + s1 + s2].contains (j : Int) with
      | true =>
        rw [hb] at hcond
        have hm : X.mth c_Search n_new_level = some f_Trail_new_level := by subst hX; exact (by decide +kernel : pMth c_Search n_new_level = some f_Trail_new_level)
        have hst : c.starts.length < 4096 := by
          have := stJ_mono s0 (s0 + s1) (s0 + s1 + s2) (8 - j) j
          rw [show j + (8 - j) = 8 by omega, stJ8 h0 h1 h2] at this
          rw [K.st]; omega
        have e : mE X (.meth (.loc 2) n_new_level []) [some (.lst (row.map .int)), some (.lst [.int s0, .int s1, .int s2]), some (.obj c_Search pre.length), some (.int 7), some (.int (j : Int)), some (.int x)] (inn pre [] c) = some (.none, inn pre [] { c with starts := c.starts ++ [.int (c.trail.length : Int)] }) := by
          rw [mc (f := f_Trail_new_level) hm rfl (loc_eq rfl) es0, hc]
          exact new_level_spec hst
        exact ⟨{ c with starts := c.starts ++ [.int (c.trail.length : Int)] }, seq_next ((if_t hcond).trans ((seq_next (expr_eq e)).trans seq_nil)), by show (c.starts ++ _).length = _; rw [List.length_append, K.st]; rfl, rfl⟩
      | false =>
        rw [hb] at hcond
        exact ⟨c, seq_next ((if_f hcond).trans seq_nil), by rw [K.st]; rfl, rfl⟩
    obtain ⟨c1, e1, e2, e3⟩ := hlvl
    have hm : X.mth c_Search n_enqueue = some f_Trail_enqueue := by subst hX; exact (by decide +kernel : pMth c_Search n_enqueue = some f_Trail_enqueue)
    have hll : c.levels.length = 9 := by rw [K.lev, List.length_map]; exact levs_len _ _ _ _ _
    have q1 : lt_ok x c1 := by
      rw [e3]
      exact ⟨by show _ < c.assigns.length; rw [K.al]; omega, by show _ < c.levels.length; omega, by show _ < c.reasons.length; rw [K.rl]; omega, by show _ < c.spots.length; rw [K.sl]; omega, by show c.trail.length < _; rw [K.tr]; omega⟩
    have en : mE X (.meth (.loc 2) n_enqueue [(.loc 5), (.neg (.kI 1))]) [some (.lst (row.map .int)), some (.lst [.int s0, .int s1, .int s2]), some (.obj c_Search pre.length), some (.int 7), some (.int (j : Int)), some (.int x)] (inn pre [] c1) = some (.none, inn pre [] (enq c1 x (.int (-1)))) := by
      rw [mc (f := f_Trail_enqueue) hm rfl (loc_eq rfl) (es2 (v2 := .int (-1)) (loc_eq rfl) rfl), hc]
      exact enqueue_spec q1.1 q1.2.1 q1.2.2.1 q1.2.2.2.1 q1.2.2.2.2
    refine ⟨_, .next, _, inn pre [] (enq c1 x (.int (-1))), rfl, e1.trans ((seq_next (expr_eq en)).trans seq_nil), .inl rfl, enq c1 x (.int (-1)), _, _, rfl, rfl, ?_⟩
    have f1 : c1.assigns = c.assigns := by rw [e3]
    have f2 : c1.levels = c.levels := by rw [e3]
    have f3 : c1.reasons = c.reasons := by rw [e3]
    have f4 : c1.spots = c.spots := by rw [e3]
    have f5 : c1.trail = c.trail := by rw [e3]
    refine ⟨by show (c1.assigns.set _ _).length = _; rw [List.length_set, f1, K.al], by show (c1.reasons.set _ _).length = _; rw [List.length_set, f3, K.rl], by show (c1.spots.set _ _).length = _; rw [List.length_set, f4, K.sl], ?_, e2, by show (c1.trail ++ _).length = _; rw [List.length_append, f5, K.tr]; rfl, ?_⟩
    · show c1.levels.set _ (.int (c1.starts.length : Int)) = _
      rw [f2, K.lev, e2, levs, List.map_set, List.getD_eq_getElem?_getD, hx]
      rfl
    · rw [e3, K.same]
      rfl)
  · rw [enumV_len, List.length_map, hr] at q
    obtain ⟨c, x4, x5, rfl, rfl, K⟩ := q
    refine ⟨c, ?_, ?_, by rw [K.same]; rfl, by rw [K.same]; rfl, by rw [K.same]; rfl, by rw [K.same]; rfl, by rw [K.same]; rfl⟩
    · have hs : mSs XX b_law_core [some (.lst (row.map .int)), some (.lst [.int s0, .int s1, .int s2]), none, none, none, none] pre = some (.ret (.obj c_Search pre.length), [some (.lst (row.map .int)), some (.lst [.int s0, .int s1, .int s2]), some (.obj c_Search pre.length), some (.int 7), x4, x5], inn pre [] c) := by
        have e := F (.lst (row.map .int)) (.lst [.int s0, .int s1, .int s2])
        refine (seq_app (a := freshB) e).trans ?_
        rw [seq_next hf]
        exact seq_stop (ret_eq (loc_eq rfl)) (by intro q; cases q)
      show outO (mSs XX b_law_core _ pre) = _
      exact (congrArg outO hs).trans rfl
    · have e1 : c.act = List.replicate 9 0 := by rw [K.same]; rfl
      have e2 : c.heap = [1, 2, 3, 4, 5, 6, 7, 8] := by rw [K.same]; rfl
      have e3 : c.place = [-1, 0, 1, 2, 3, 4, 5, 6, 7] := by rw [K.same]; rfl
      have e4 : c.seen = List.replicate 9 false := by rw [K.same]; rfl
      refine ⟨?_, fun v => ?_, by rw [e2]; rfl, by rw [e1]; rfl, by rw [e3]; rfl, by rw [e4]; rfl, fun v b v1 v8 hb => ?_, fun v v1 v8 => ?_, by rw [K.st]; exact stJ8 h0 h1 h2⟩
      · rw [e1, e2, e3]
        exact fresh_HOk
      · rw [e2]
        exact mem_18 v
      · rw [e4, List.getElem?_replicate] at hb
        rw [if_pos (by omega)] at hb
        cases hb
        rw [e1, List.getElem?_replicate, if_pos (by omega), if_neg (by simp)]
      · rw [K.lev, List.getElem?_map]
        have hl := levs_len row s0 (s0 + s1) (s0 + s1 + s2) 8
        have hv : v < (levs row s0 (s0 + s1) (s0 + s1 + s2) 8).length := by omega
        unfold lvF
        rw [List.getElem?_eq_getElem hv, List.getD_eq_getElem?_getD, List.getElem?_eq_getElem hv]
        rfl
end Mine.Law
end
section
set_option autoImplicit false
set_option linter.unusedVariables false
set_option linter.unusedSimpArgs false
set_option linter.unusedSectionVars false
set_option maxRecDepth 10000
namespace Mine.Law

noncomputable def rngV (n : Nat) : List MV := (List.range n).map fun (k : Nat) => .int (k : Int)
theorem so_rng {G : GH} {b : Int} {n : Nat} (hb : b = (n : Int)) (h : n < 4096) : srcO G .rng [.int b] = some (.no, (rngV n).map .val) := by
  subst hb
  refine (so_rng1 (by omega)).trans ?_
  congr 2
  unfold rangeO rngV
  rw [if_pos (by decide), List.map_map]
  have : (((n : Int) - 0 + 1 - 1).fdiv 1).toNat = n := by rw [Int.fdiv_one]; omega
  rw [this]
  refine List.map_congr_left fun k _ => ?_
  show Itm.val (.int (0 + 1 * (k : Int))) = .val (.int (k : Int))
  congr 2; omega
theorem rng_len (n : Nat) : (rngV n).length = n := by unfold rngV; rw [List.length_map, List.length_range]
theorem rng_get {n j : Nat} {v : MV} (h : (rngV n)[j]? = some v) : j < n ∧ v = .int (j : Int) := by
  have h1 := (List.getElem?_eq_some_iff.mp h).1
  rw [rng_len] at h1
  unfold rngV at h
  rw [List.getElem?_map, List.getElem?_range h1] at h
  cases h
  exact ⟨h1, rfl⟩
theorem rng_mem {n : Nat} {v : MV} (h : v ∈ rngV n) : ∃ j : Nat, j < n ∧ v = .int (j : Int) := by
  obtain ⟨j, hj⟩ := List.mem_iff_getElem?.mp h
  exact ⟨j, rng_get hj⟩

structure Cl where
  l : List Int
  sk : Int
  at_ : Nat
noncomputable def Cl.v (c : Cl) : MV := .tup [.lst (c.l.map .int), .int c.sk, .int (c.at_ : Int)]
structure Cl.Ok (c : Cl) : Prop where
  pos : 1 ≤ c.l.length
  le : c.l.length ≤ 5
  lit : ∀ x ∈ c.l, 1 ≤ x.natAbs ∧ x.natAbs ≤ 8
  at_ : c.at_ ≤ c.l.length

section
variable {cells : List Int} {tail : GH} {s : Nat} {ρ : Lo}
theorem draw_at {e : ME} {wide : Int} (h0 : ρ[0]? = some (some (.ref 0))) (he : mE XX e ρ (fd cells s :: tail) = some (.int wide, fd cells s :: tail)) (hw : 0 < wide) (hs : s ≤ 4000) :
    ∃ r : Int, 0 ≤ r ∧ r < wide ∧ mE XX (.call f_law_draw [(.loc 0), e]) ρ (fd cells s :: tail) = some (.int r, fd cells (s + 1) :: tail) := by
  obtain ⟨r, h1, h2, h3⟩ := draw_spec (W := 64) (d := 16) (tail := tail) (cells := cells) (s := s) hw hs
  exact ⟨r, h1, h2, call_eq (es2 (loc_eq h0) he) h3⟩

noncomputable def rowF (a b g : Int) (k : Nat) : Int := (1 + (a + b * k).fmod 8) * (1 - 2 * (g.fdiv (2 ^ k) % 2))
theorem rowF_ok {a b g : Int} (k : Nat) : 1 ≤ (rowF a b g k).natAbs ∧ (rowF a b g k).natAbs ≤ 8 := by
  unfold rowF
  have h1 := Int.fmod_nonneg_of_pos (a + b * k) (b := 8) (by decide)
  have h2 := Int.fmod_lt_of_pos (a + b * k) (b := 8) (by decide)
  have h3 : g.fdiv (2 ^ k) % 2 = 0 ∨ g.fdiv (2 ^ k) % 2 = 1 := by omega
  rcases h3 with h | h <;> rw [h] <;> omega

noncomputable def planP (cls : List Cl) : MV := .ref 1
noncomputable abbrev planE (a b g : Int) (row : List Int) (s0 s1 s2 : Int) (x7 x8 x9 : Option MV) : Lo := [some (.ref 0), some (.int a), some (.int b), some (.int g), some (.lst (row.map .int)), some (.lst [.int s0, .int s1, .int s2]), some (.ref 1), x7, x8, x9]

noncomputable def planB : List MS := [.asg 8 (.comp false 1 (.bin .sub (.kI 0) (.sub (.loc 4) (.call f_law_draw [(.loc 0), (.kI 8)]))) [.mk [10] true .rng [(.bin .add (.kI 1) (.call f_law_draw [(.loc 0), (.kI 5)]))] []]), .asg 9 (.ite (.cmp .eq (.call f_law_draw [(.loc 0), (.kI 2)]) (.kI 1)) (.blt .abs (.sub (.loc 8) (.call f_law_draw [(.loc 0), (.blt .len (.loc 8))]))) (.kI 0)), .expr (.app (.loc 6) (.tup [(.loc 8), (.loc 9), (.call f_law_draw [(.loc 0), (.bin .add (.blt .len (.loc 8)) (.kI 1))])]))]

theorem sub_at {G : GH} {l : List Int} {r : Int} (h0 : 0 ≤ r) (h1 : r < l.length) : ∃ x ∈ l, subO G (.lst (l.map .int)) (.int r) = some (.int x) := by
  have h : r.toNat < l.length := by omega
  refine ⟨l[r.toNat], List.getElem_mem h, ?_⟩
  have e := subF_lst (G := G) ((List.getElem?_map ..).trans (mpp (f := MV.int) (List.getElem?_eq_getElem h)))
  rw [Int.toNat_of_nonneg h0] at e
  exact e

theorem plan_body {a b g : Int} {row : List Int} {s0 s1 s2 : Int} {x7 x8 x9 : Option MV} {s : Nat} {cls : List Cl} (hr : row.length = 8) (hrow : ∀ x ∈ row, 1 ≤ x.natAbs ∧ x.natAbs ≤ 8) (hs : s ≤ 3000) (hc : cls.length < 4000) :
    ∃ (c : Cl) (s' : Nat) (y8 y9 : Option MV), mSs XX planB (planE a b g row s0 s1 s2 x7 x8 x9) [fd cells s, .lst (cls.map Cl.v)] = some (.next, planE a b g row s0 s1 s2 x7 y8 y9, [fd cells s', .lst ((cls ++ [c]).map Cl.v)]) ∧ c.Ok ∧ s' ≤ s + 10 := by
  have c17 : ∀ {i : Int} {ρ : Lo} {G : GH}, mE XX (.kI i) ρ G = some (.int i, G) := kI_eq
  obtain ⟨n, n0, n5, hn⟩ := draw_at (ρ := planE a b g row s0 s1 s2 x7 x8 x9 ++ List.replicate 1 none) (cells := cells) (s := s) (tail := [.lst (cls.map Cl.v)]) rfl (c17 (i := 5)) (by decide) (by omega)
  have hn1 : (1 + n) = ((1 + n.toNat : Nat) : Int) := by omega
  obtain ⟨acc, G8, e8, ⟨l, q1, q2, q3, q4⟩⟩ := comp_inv (X := XX) (ρ := planE a b g row s0 s1 s2 x7 x8 x9) (G := [fd cells s, .lst (cls.map Cl.v)]) (k := 1) (elt := .bin .sub (.kI 0) (.sub (.loc 4) (.call f_law_draw [(.loc 0), (.kI 8)]))) (tgt := [10]) (one := true) (sk := .rng) (l := rngV (1 + n.toNat))
    (fun j G acc => ∃ l : List Int, acc = l.map .int ∧ l.length = j ∧ G = [fd cells (s + 1 + j), .lst (cls.map Cl.v)] ∧ ∀ x ∈ l, 1 ≤ x.natAbs ∧ x.natAbs ≤ 8)
    (es1 (bin_eq (o := .add) (c17 (i := 1)) hn rfl)) (so_rng hn1 (by omega)) ⟨[], rfl, rfl, rfl, fun x hx => by cases hx⟩ (by
      rintro j v G acc hv ⟨l, rfl, q2, rfl, q4⟩
      obtain ⟨hj, rfl⟩ := rng_get hv
      obtain ⟨r, r0, r8, hr'⟩ := draw_at (ρ := planE a b g row s0 s1 s2 x7 x8 x9 ++ [some (.int (j : Int))]) (cells := cells) (s := s + 1 + j) (tail := [.lst (cls.map Cl.v)]) rfl (c17 (i := 8)) (by decide) (by omega)
      obtain ⟨x, hx, hsx⟩ := sub_at (G := [fd cells (s + 1 + j + 1), .lst (cls.map Cl.v)]) (l := row) (r := r) r0 (by omega)
      have hx8 := hrow x hx
      refine ⟨planE a b g row s0 s1 s2 x7 x8 x9 ++ [some (.int (j : Int))], .int (0 - x), _, rfl, bin_eq kI_eq (sub_eq (loc_eq rfl) hr' hsx) rfl, l ++ [0 - x], by rw [List.map_append]; rfl, by rw [List.length_append, q2]; rfl, by rw [show s + 1 + (j + 1) = s + 1 + j + 1 by omega], fun y hy => ?_⟩
      rcases List.mem_append.mp hy with h | h
      · exact q4 y h
      · rw [List.mem_singleton] at h; omega) (fun j G acc q => by obtain ⟨l, rfl, h, _⟩ := q; rw [List.length_map]; exact h) (by rw [rng_len]; omega)
  rw [rng_len] at q2 q3
  subst q1 q3
  generalize hs1 : s + 1 + (1 + n.toNat) = s1' at *
  have len8 : ∀ {x7 x9 : Option MV} {G : GH}, mE XX (.blt .len (.loc 8)) (planE a b g row s0 s1 s2 x7 (some (.lst (l.map .int))) x9) G = some (.int (l.length : Int), G) := fun {x7 x9 G} => blt_eq (r := (.int (l.length : Int), G)) (loc_eq rfl) (by show some (MV.int ((l.map MV.int).length : Int), G) = _; rw [List.length_map])
  obtain ⟨t, t0, t2, ht⟩ := draw_at (ρ := planE a b g row s0 s1 s2 x7 (some (.lst (l.map .int))) x9) (cells := cells) (s := s1') (tail := [.lst (cls.map Cl.v)]) rfl (c17 (i := 2)) (by decide) (by omega)
  have h9 : ∃ (sk : Int) (s2' : Nat), mE XX (.ite (.cmp .eq (.call f_law_draw [(.loc 0), (.kI 2)]) (.kI 1)) (.blt .abs (.sub (.loc 8) (.call f_law_draw [(.loc 0), (.blt .len (.loc 8))]))) (.kI 0)) (planE a b g row s0 s1 s2 x7 (some (.lst (l.map .int))) x9) [fd cells s1', .lst (cls.map Cl.v)] = some (.int sk, [fd cells s2', .lst (cls.map Cl.v)]) ∧ s2' ≤ s1' + 2 := by
    have hcmp := cmp_eq (X := XX) (o := .eq) ht (c17 (i := 1)) (eq_int (a := t) (b := 1))
    cases hb : t == 1 with
    | true =>
      rw [hb] at hcmp
      obtain ⟨u, u0, ul, hu⟩ := draw_at (ρ := planE a b g row s0 s1 s2 x7 (some (.lst (l.map .int))) x9) (cells := cells) (s := s1' + 1) (tail := [.lst (cls.map Cl.v)]) rfl len8 (by omega) (by omega)
      obtain ⟨x, hx, hsx⟩ := sub_at (G := [fd cells (s1' + 1 + 1), .lst (cls.map Cl.v)]) (l := l) (r := u) u0 ul
      refine ⟨(x.natAbs : Int), s1' + 1 + 1, ?_, by omega⟩
      rw [ite_t hcmp]
      exact blt_eq (sub_eq (loc_eq rfl) hu hsx) rfl
    | false =>
      rw [hb] at hcmp
      refine ⟨0, s1' + 1, ?_, by omega⟩
      rw [ite_f hcmp]
      exact kI_eq
  obtain ⟨sk, s2', e9, hs2⟩ := h9
  obtain ⟨w, w0, wl, hw⟩ := draw_at (ρ := planE a b g row s0 s1 s2 x7 (some (.lst (l.map .int))) (some (.int sk))) (cells := cells) (s := s2') (tail := [.lst (cls.map Cl.v)]) (e := .bin .add (.blt .len (.loc 8)) (.kI 1)) (wide := (l.length : Int) + 1) rfl (bin_eq len8 kI_eq rfl) (by omega) (by omega)
  have ha : mE XX (.app (.loc 6) (.tup [(.loc 8), (.loc 9), (.call f_law_draw [(.loc 0), (.bin .add (.blt .len (.loc 8)) (.kI 1))])])) (planE a b g row s0 s1 s2 x7 (some (.lst (l.map .int))) (some (.int sk))) [fd cells s2', .lst (cls.map Cl.v)] = some (.none, [fd cells (s2' + 1), .lst ((cls ++ [(⟨l, sk, w.toNat⟩ : Cl)]).map Cl.v)]) := by
    refine app_eq (loc_eq rfl) rfl (tup_eq (es3 (loc_eq rfl) (loc_eq rfl) hw)) ?_
    show (if (cls.map Cl.v).length < 4096 then some [fd cells (s2' + 1), GO.lst (cls.map Cl.v ++ [_])] else none) = _
    rw [if_pos (by rw [List.length_map]; omega), List.map_append]
    congr 5
    show [MV.tup [.lst (l.map .int), .int sk, .int w]] = [MV.tup [.lst (l.map .int), .int sk, .int (w.toNat : Int)]]
    rw [show (w.toNat : Int) = w by omega]
  refine ⟨⟨l, sk, w.toNat⟩, s2' + 1, some (.lst (l.map .int)), some (.int sk), ?_, ⟨by show 1 ≤ l.length; omega, by show l.length ≤ 5; omega, q4, by show w.toNat ≤ l.length; omega⟩, by omega⟩
  unfold planB
  rw [seq_next (asg_eq e8 rfl)]
  show mSs XX _ (planE a b g row s0 s1 s2 x7 (some (.lst (l.map .int))) x9) _ = _
  rw [seq_next (asg_eq e9 rfl)]
  show mSs XX _ (planE a b g row s0 s1 s2 x7 (some (.lst (l.map .int))) (some (.int sk))) _ = _
  rw [seq_next (expr_eq ha), seq_nil]

theorem plan_spec (cells : List Int) : ∃ (row : List Int) (s0 s1 s2 : Int) (cls : List Cl) (s : Nat), mcall prog 64 18 f_law_plan [.ref 0] [fd cells 0] = some (.tup [.lst (row.map .int), .lst [.int s0, .int s1, .int s2], .ref 1], [fd cells s, .lst (cls.map Cl.v)]) ∧
    row.length = 8 ∧ (∀ x ∈ row, 1 ≤ x.natAbs ∧ x.natAbs ≤ 8) ∧ (0 ≤ s0 ∧ s0 < 3) ∧ (1 ≤ s1 ∧ s1 < 3) ∧ (1 ≤ s2 ∧ s2 < 3) ∧ (∀ c ∈ cls, c.Ok) ∧ cls.length ≤ 5 := by
  rw [mcall_of (mf := d_law_plan) rfl rfl]
  have c17 : ∀ {i : Int} {ρ : Lo} {G : GH}, mE XX (.kI i) ρ G = some (.int i, G) := kI_eq
  obtain ⟨a, a0, a8, ha⟩ := draw_at (ρ := [some (.ref 0), none, none, none, none, none, none, none, none, none]) (cells := cells) (s := 0) (tail := []) rfl (c17 (i := 8)) (by decide) (by decide)
  obtain ⟨b', b0, b4, hb⟩ := draw_at (ρ := [some (.ref 0), none, none, none, none, none, none, none, none, none]) (cells := cells) (s := 1) (tail := []) rfl (c17 (i := 4)) (by decide) (by decide)
  obtain ⟨g, g0, g256, hg⟩ := draw_at (ρ := [some (.ref 0), none, none, none, none, none, none, none, none, none]) (cells := cells) (s := 2) (tail := []) rfl (c17 (i := 256)) (by decide) (by decide)
  obtain ⟨b, hbm, hbs⟩ := sub_at (G := [fd cells 2]) (l := [1, 3, 5, 7]) (r := b') b0 b4
  have hb7 : 0 ≤ b ∧ b ≤ 7 := by
    simp only [List.mem_cons, List.not_mem_nil, or_false] at hbm
    omega
  have t1 : mS XX (.asgT [1, 2, 3] (.tup [(.call f_law_draw [(.loc 0), (.kI 8)]), (.sub (.lst false [(.kI 1), (.kI 3), (.kI 5), (.kI 7)]) (.call f_law_draw [(.loc 0), (.kI 4)])), (.call f_law_draw [(.loc 0), (.kI 256)])])) [some (.ref 0), none, none, none, none, none, none, none, none, none] [fd cells 0] = some (.next, [some (.ref 0), some (.int a), some (.int b), some (.int g), none, none, none, none, none, none], [fd cells 3]) :=
    asgT_eq (tup_eq (es3 ha (sub_eq (lstF_eq (es4 kI_eq kI_eq kI_eq kI_eq)) hb hbs) hg)) rfl
  have t2 : ∃ row : List Int, row.length = 8 ∧ (∀ x ∈ row, 1 ≤ x.natAbs ∧ x.natAbs ≤ 8) ∧ mS XX (.asg 4 (.comp false 1 (.bin .mul (.bin .add (.kI 1) (.bin .mod (.bin .add (.loc 1) (.bin .mul (.loc 2) (.loc 10))) (.kI 8))) (.bin .sub (.kI 1) (.bin .mul (.kI 2) (.bin .band (.bin .shr (.loc 3) (.loc 10)) (.kI 1))))) [.mk [10] true .rng [(.kI 8)] []])) [some (.ref 0), some (.int a), some (.int b), some (.int g), none, none, none, none, none, none] [fd cells 3] = some (.next, [some (.ref 0), some (.int a), some (.int b), some (.int g), some (.lst (row.map .int)), none, none, none, none, none], [fd cells 3]) := by
    refine ⟨(List.range 8).map (rowF a b g), by rw [List.length_map, List.length_range], fun x hx => ?_, ?_⟩
    · obtain ⟨k, _, rfl⟩ := List.mem_map.mp hx
      exact rowF_ok k
    · have := comp1 (X := XX) (ρ := [some (.ref 0), some (.int a), some (.int b), some (.int g), none, none, none, none, none, none]) (G := [fd cells 3]) (k := 1) (elt := (.bin .mul (.bin .add (.kI 1) (.bin .mod (.bin .add (.loc 1) (.bin .mul (.loc 2) (.loc 10))) (.kI 8))) (.bin .sub (.kI 1) (.bin .mul (.kI 2) (.bin .band (.bin .shr (.loc 3) (.loc 10)) (.kI 1)))))) (tgt := [10]) (one := true) (sk := .rng) (srcs := [.kI 8]) (ifs := []) (l := rngV 8)
        (fun _ => true) (fun v => match v with | .int k => .int (rowF a b g k.toNat) | v => v) (es1 kI_eq) (so_rng (n := 8) rfl (by decide)) rfl (src_no _ _) (fun v hv => by
          obtain ⟨k, hk, rfl⟩ := rng_mem hv
          refine ⟨[some (.ref 0), some (.int a), some (.int b), some (.int g), none, none, none, none, none, none, some (.int (k : Int))], rfl, and_nil, fun _ => ?_⟩
          have hbk : (b * (k : Int)) ≤ 7 * 7 := Int.mul_le_mul hb7.2 (by omega) (by omega) (by decide)
          have hbk0 : 0 ≤ b * (k : Int) := Int.mul_nonneg hb7.1 (by omega)
          have m1 := Int.fmod_nonneg_of_pos (a + b * k) (b := 8) (by decide)
          have m2 := Int.fmod_lt_of_pos (a + b * k) (b := 8) (by decide)
          have m3 : g.fdiv (2 ^ k) % 2 = 0 ∨ g.fdiv (2 ^ k) % 2 = 1 := by omega
          have gd0 : 0 ≤ g.fdiv (2 ^ k) := Int.fdiv_nonneg g0 (Int.le_of_lt (Int.pow_pos (by decide)))
          refine bin_eq (x := .int (rowF a b g k)) (bin_eq (x := .int (1 + (a + b * k).fmod 8)) kI_eq (bin_eq (x := .int ((a + b * k).fmod 8)) (bin_eq (loc_eq rfl) (bin_eq (loc_eq rfl) (loc_eq rfl) (mul_ok (small_of (by omega) (by omega)) (small_of (by omega) (by omega)))) rfl) kI_eq rfl) rfl) (bin_eq (x := .int (1 - 2 * (g.fdiv (2 ^ k) % 2))) kI_eq (bin_eq kI_eq (bin_eq (x := .int (g.fdiv (2 ^ k) % 2)) (bin_eq (x := .int (g.fdiv (2 ^ k))) (loc_eq rfl) (loc_eq rfl) ?_) kI_eq ?_) (mul_ok (small_of (by omega) (by omega)) (small_of (by omega) (by omega)))) rfl) (mul_ok (small_of (by omega) (by omega)) (small_of (by omega) (by omega)))
          · rw [bin_shr (by omega), Int.toNat_natCast]
          · exact bin_band gd0) (by rw [rng_len]; decide)
      refine asg_eq this ?_
      rw [List.filter_eq_self.mpr (fun _ _ => rfl)]
      rfl
  obtain ⟨row, hr, hrow, t2⟩ := t2
  obtain ⟨s0, s00, s03, hs0⟩ := draw_at (ρ := [some (.ref 0), some (.int a), some (.int b), some (.int g), some (.lst (row.map .int)), none, none, none, none, none]) (cells := cells) (s := 3) (tail := []) rfl (c17 (i := 3)) (by decide) (by decide)
  obtain ⟨s1, s10, s12, hs1⟩ := draw_at (ρ := [some (.ref 0), some (.int a), some (.int b), some (.int g), some (.lst (row.map .int)), none, none, none, none, none]) (cells := cells) (s := 4) (tail := []) rfl (c17 (i := 2)) (by decide) (by decide)
  obtain ⟨s2, s20, s22, hs2⟩ := draw_at (ρ := [some (.ref 0), some (.int a), some (.int b), some (.int g), some (.lst (row.map .int)), none, none, none, none, none]) (cells := cells) (s := 5) (tail := []) rfl (c17 (i := 2)) (by decide) (by decide)
  have t3 : mS XX (.asg 5 (.lst false [(.call f_law_draw [(.loc 0), (.kI 3)]), (.bin .add (.kI 1) (.call f_law_draw [(.loc 0), (.kI 2)])), (.bin .add (.kI 1) (.call f_law_draw [(.loc 0), (.kI 2)]))])) [some (.ref 0), some (.int a), some (.int b), some (.int g), some (.lst (row.map .int)), none, none, none, none, none] [fd cells 3] = some (.next, [some (.ref 0), some (.int a), some (.int b), some (.int g), some (.lst (row.map .int)), some (.lst [.int s0, .int (1 + s1), .int (1 + s2)]), none, none, none, none], [fd cells 6]) :=
    asg_eq (lstF_eq (es3 hs0 (bin_eq kI_eq hs1 rfl) (bin_eq kI_eq hs2 rfl))) rfl
  have t4 : mS XX (.asg 6 (.lst true [])) [some (.ref 0), some (.int a), some (.int b), some (.int g), some (.lst (row.map .int)), some (.lst [.int s0, .int (1 + s1), .int (1 + s2)]), none, none, none, none] [fd cells 6] = some (.next, planE a b g row s0 (1 + s1) (1 + s2) none none none, [fd cells 6, .lst []]) :=
    asg_eq (lstT_eq es0) rfl
  obtain ⟨n, n0, n4, hn⟩ := draw_at (ρ := planE a b g row s0 (1 + s1) (1 + s2) none none none) (cells := cells) (s := 6) (tail := [.lst []]) rfl (c17 (i := 4)) (by decide) (by decide)
  have hn2 : 2 + n = ((2 + n.toNat : Nat) : Int) := by omega
  obtain ⟨ρ', G', t5, q⟩ := for_inv (X := XX) (ρ := planE a b g row s0 (1 + s1) (1 + s2) none none none) (G := [fd cells 6, .lst []]) (tgt := [7]) (one := true) (sk := .rng) (b := planB) (l := rngV (2 + n.toNat))
    (fun j ρ G => ∃ (cls : List Cl) (s : Nat) (x7 x8 x9 : Option MV), ρ = planE a b g row s0 (1 + s1) (1 + s2) x7 x8 x9 ∧ G = [fd cells s, .lst (cls.map Cl.v)] ∧ s ≤ 7 + 10 * j ∧ cls.length = j ∧ ∀ c ∈ cls, c.Ok)
    (es1 (bin_eq (o := .add) (c17 (i := 2)) hn rfl)) (so_rng hn2 (by omega)) ⟨[], 7, none, none, none, rfl, rfl, by decide, rfl, fun c hc => by cases hc⟩ (by
      rintro j v ρ G hv ⟨cls, s, x7, x8, x9, rfl, rfl, q1, q2, q3⟩
      obtain ⟨hj, rfl⟩ := rng_get hv
      obtain ⟨c, s', y8, y9, e1, e2, e3⟩ := plan_body (cells := cells) (a := a) (b := b) (g := g) (row := row) (s0 := s0) (s1 := 1 + s1) (s2 := 1 + s2) (x7 := some (.int (j : Int))) (x8 := x8) (x9 := x9) (s := s) (cls := cls) hr hrow (by omega) (by omega)
      exact ⟨_, .next, _, _, rfl, e1, .inl rfl, cls ++ [c], s', _, _, _, rfl, rfl, by omega, by rw [List.length_append, q2]; rfl, fun x hx => (List.mem_append.mp hx).elim (q3 x) fun h => by rw [List.mem_singleton.mp h]; exact e2⟩)
  rw [rng_len] at q
  obtain ⟨cls, s, x7, x8, x9, rfl, rfl, q1, q2, q3⟩ := q
  refine ⟨row, s0, 1 + s1, 1 + s2, cls, s, ?_, hr, hrow, ⟨s00, s03⟩, by omega, by omega, q3, by omega⟩
  show outO (mSs XX [.asgT _ _, .asg 4 _, .asg 5 _, .asg 6 _, .forS [7] true .rng _ planB, .ret _] [some (.ref 0), none, none, none, none, none, none, none, none, none] [fd cells 0]) = _
  rw [seq_next t1, seq_next t2, seq_next t3, seq_next t4, seq_next t5, seq_stop (ret_eq (tup_eq (es3 (loc_eq rfl) (loc_eq rfl) (loc_eq rfl)))) (by intro q; cases q)]
  rfl
end
end Mine.Law
end
section
set_option autoImplicit false
set_option linter.unusedVariables false
set_option linter.unusedSimpArgs false
set_option linter.unusedSectionVars false
set_option maxRecDepth 10000
namespace Mine.Law

noncomputable def sto (c : Co) (l : List MV) (step : MV) : Co := { c with clauses := c.clauses ++ [.lst l], steps := c.steps ++ [step], droppable := c.droppable ++ [.bool false], activities := c.activities ++ [.int 0] }
structure Sz (k : Nat) (c : Co) : Prop where
  za : c.clauses.length = k
  zb : c.steps.length = k
  zc : c.droppable.length = k
  zd : c.activities.length = k

noncomputable abbrev stE (b : Nat) (l : List MV) (step : MV) (x : Option MV) : Lo := [some (.obj c_Search b), some (.lst l), some step, some (.bool false), x]
section
variable {pre post : GH} {c : Co} {W d : Nat}
theorem store_spec {l : List MV} {step : MV} {k : Nat} (Z : Sz k c) (hk : k < 4000) (hl : l.length < 4000) :
    mcall prog W (d + 1) f_Trail_store [.obj c_Search pre.length, .lst l, step, .bool false] (inn pre post c) = some (.int (k : Int), inn pre post (sto c l step)) := by
  rw [mcall_of (mf := d_Trail_store) rfl rfl]
  generalize hX : ctx prog W (mcall prog W d) = X
  replace hX := hX.symm
  have q1 : mS X (.asg 4 (.blt .len (.attr (.loc 0) n_clauses))) (stE pre.length l step none) (inn pre post c) = some (.next, stE pre.length l step (some (.int (k : Int))), inn pre post c) :=
    asg_eq (blt_eq (r := (.int (k : Int), inn pre post c)) (attr_eq (loc_eq rfl) (by subst hX; exact ac_clauses _ _ _ _ _)) ((len_lst (g15 ..)).trans (by rw [Z.za]))) rfl
  have q2 : ∀ c' : Co, c'.clauses.length = k → mE X (.app (.attr (.loc 0) n_clauses) (.blt (.list false) (.loc 1))) (stE pre.length l step (some (.int (k : Int)))) (inn pre post c') = some (.none, inn pre post { c' with clauses := c'.clauses ++ [.lst l] }) := fun c' h =>
    app_eq (attr_eq (loc_eq rfl) (by subst hX; exact ac_clauses _ _ _ _ _)) (isL (g15 ..)) (blt_eq (r := (.lst l, inn pre post c')) (loc_eq rfl) (if_pos (by omega))) (by rw [app_lst (g15 ..) (by omega), s15])
  have q3 : ∀ c' : Co, c'.steps.length = k → mE X (.app (.attr (.loc 0) n_steps) (.loc 2)) (stE pre.length l step (some (.int (k : Int)))) (inn pre post c') = some (.none, inn pre post { c' with steps := c'.steps ++ [step] }) := fun c' h =>
    app_eq (attr_eq (loc_eq rfl) (by subst hX; exact ac_steps _ _ _ _ _)) (isL (g16 ..)) (loc_eq rfl) (by rw [app_lst (g16 ..) (by omega), s16])
  have q4 : ∀ c' : Co, c'.droppable.length = k → mE X (.app (.attr (.loc 0) n_droppable) (.loc 3)) (stE pre.length l step (some (.int (k : Int)))) (inn pre post c') = some (.none, inn pre post { c' with droppable := c'.droppable ++ [.bool false] }) := fun c' h =>
    app_eq (attr_eq (loc_eq rfl) (by subst hX; exact ac_droppable _ _ _ _ _)) (isL (g17 ..)) (loc_eq rfl) (by rw [app_lst (g17 ..) (by omega), s17])
  have q5 : ∀ c' : Co, c'.activities.length = k → mE X (.app (.attr (.loc 0) n_activities) (.kI 0)) (stE pre.length l step (some (.int (k : Int)))) (inn pre post c') = some (.none, inn pre post { c' with activities := c'.activities ++ [.int 0] }) := fun c' h =>
    app_eq (attr_eq (loc_eq rfl) (by subst hX; exact ac_activities _ _ _ _ _)) (isL (g18 ..)) kI_eq (by rw [app_lst (g18 ..) (by omega), s18])
  have q6 : ∀ c' : Co, mE X (.truth (.loc 3)) (stE pre.length l step (some (.int (k : Int)))) (inn pre post c') = some (.bool false, inn pre post c') := fun c' => tr_eq (loc_eq rfl)
  show outO (mSs X [.asg 4 _, .expr _, .expr _, .expr _, .expr _, .ifS _ _ [], .ret _] (stE pre.length l step none) _) = _
  rw [seq_next q1, seq_next (expr_eq (q2 _ Z.za)), seq_next (expr_eq (q3 _ ?_)), seq_next (expr_eq (q4 _ ?_)), seq_next (expr_eq (q5 _ ?_)), seq_next ((if_f (q6 _)).trans seq_nil), seq_stop (ret_eq (loc_eq rfl)) (by intro q; cases q)]
  · rfl
  all_goals first | exact Z.zd | exact Z.zc | exact Z.zb
end

noncomputable def lotV (p : List Int × Int) : MV := .tup [.lst (p.1.map .int), .int p.2]
noncomputable def nlot (lv : Nat → Int) (S : NS) (p : List Int × Int) : NS := nfold lv p.2 S p.1
noncomputable def nall (lv : Nat → Int) (S : NS) (lots : List (List Int × Int)) : NS := lots.foldl (nlot lv) S
noncomputable def LotOk (p : List Int × Int) : Prop := p.1.length ≤ 10 ∧ ∀ x ∈ p.1, 1 ≤ x.natAbs ∧ x.natAbs ≤ 8

theorem NOk.sto {lv : Nat → Int} {c : Co} {l : List MV} {step : MV} (N : NOk lv c) : NOk lv (sto c l step) := ⟨N.heap, N.all, N.hl, N.al, N.pl, N.sl, N.act, N.lev, N.st⟩
theorem Sz.sto {k : Nat} {c : Co} {l : List MV} {step : MV} (Z : Sz k c) : Sz (k + 1) (sto c l step) := by
  refine ⟨?_, ?_, ?_, ?_⟩
  · show (c.clauses ++ _).length = _; rw [List.length_append, Z.za]; rfl
  · show (c.steps ++ _).length = _; rw [List.length_append, Z.zb]; rfl
  · show (c.droppable ++ _).length = _; rw [List.length_append, Z.zc]; rfl
  · show (c.activities ++ _).length = _; rw [List.length_append, Z.zd]; rfl

section
variable {pre post : GH} {c : Co}
noncomputable abbrev ntE (pre post : GH) (lots : List MV) (t : Int) (x5 x6 x7 : Option MV) : Lo := [some (.obj c_Search pre.length), some (.lst lots), some (.int t), some (.ref (nR pre post)), some (.ref (nR pre post + 1)), x5, x6, x7]
theorem noted_spec {lv : Nat → Int} {lots : List (List Int × Int)} {k : Nat} (N : NOk lv c) (Z : Sz k c) (hk : k ≤ 100) (hn : lots.length ≤ 100) (hl : ∀ p ∈ lots, LotOk p) :
    ∃ c' : Co, mcall prog 64 18 f_law_noted [.obj c_Search pre.length, .lst (lots.map lotV)] (inn pre post c) = some (.tup [.int ((nall lv ⟨c.seen, 0, [], []⟩ lots).told : Int), .ref (nR pre post), .ref (nR pre post + 1)], inn2 pre post c' ((nall lv ⟨c.seen, 0, [], []⟩ lots).rest.map .int) ((nall lv ⟨c.seen, 0, [], []⟩ lots).roots.map iN)) ∧ NOk lv c' ∧ c'.seen = (nall lv ⟨c.seen, 0, [], []⟩ lots).seen ∧ Sz (k + lots.length) c' := by
  rw [mcall_of (mf := d_law_noted) rfl rfl]
  have hlen := inn_len pre post c
  have t1 : mS XX (.asgW [2, 3, 4] (.tup [(.kI 0), (.lst true []), (.lst true [])])) [some (.obj c_Search pre.length), some (.lst (lots.map lotV)), none, none, none, none, none, none] (inn pre post c) = some (.next, ntE pre post (lots.map lotV) 0 none none none, inn2 pre post c [] []) := by
    have a1 := lstT_eq (X := XX) (ρ := [some (.obj c_Search pre.length), some (.lst (lots.map lotV)), none, none, none, none, none, none]) (G := inn pre post c) es0
    rw [hlen] at a1
    refine asgW_eq (l := [.int 0, .ref (nR pre post), .ref (nR pre post + 1)]) (tup_eq (es3 (G3 := inn2 pre post c [] []) kI_eq a1 ?_)) rfl rfl
    · rw [inn2_eq]
      have := lstT_eq (X := XX) (ρ := [some (.obj c_Search pre.length), some (.lst (lots.map lotV)), none, none, none, none, none, none]) (G := inn pre post c ++ [.lst []]) es0
      rw [List.length_append, List.append_assoc] at this
      rw [this, hlen]
      rfl
  have step0 : ∀ (j : Nat), nall lv ⟨c.seen, 0, [], []⟩ (lots.take (j + 1)) = match lots[j]? with | some p => nlot lv (nall lv ⟨c.seen, 0, [], []⟩ (lots.take j)) p | none => nall lv ⟨c.seen, 0, [], []⟩ (lots.take j) := fun j => by
    rw [List.take_add_one]
    unfold nall
    rw [List.foldl_append]
    cases lots[j]? <;> rfl
  obtain ⟨ρ', G', t2, q⟩ := for_inv (X := XX) (ρ := ntE pre post (lots.map lotV) 0 none none none) (G := inn2 pre post c [] []) (tgt := [5, 6]) (one := false) (sk := .vals) (srcs := [.loc 1]) (b := [.asg 7 (.meth (.loc 0) n_store [(.loc 5), .kN, (.kB false)]), .asg 2 (.bin .add (.loc 2) (.meth (.loc 0) n_note_lits [(.loc 7), (.loc 6), (.loc 3), (.loc 4)]))]) (l := lots.map lotV)
    (fun j ρ G => ∃ (S : NS) (c' : Co) (x5 x6 x7 : Option MV), S = nall lv ⟨c.seen, 0, [], []⟩ (lots.take j) ∧ ρ = ntE pre post (lots.map lotV) S.told x5 x6 x7 ∧ G = inn2 pre post c' (S.rest.map .int) (S.roots.map iN) ∧ NOk lv c' ∧ c'.seen = S.seen ∧ Sz (k + j) c' ∧ S.rest.length ≤ 10 * j ∧ S.roots.length ≤ 10 * j)
    (es1 (loc_eq rfl)) so_lst ⟨_, c, none, none, none, rfl, rfl, rfl, N, rfl, Z, Nat.le_refl _, Nat.le_refl _⟩ (by
      rintro j v ρ G hv ⟨S, c', x5, x6, x7, hS, rfl, rfl, N', hs, Z', r1, r2⟩
      rw [List.getElem?_map] at hv
      cases hp : lots[j]? with
      | none => rw [hp] at hv; cases hv
      | some p =>
      rw [hp] at hv
      cases hv
      obtain ⟨l, sk⟩ := p
      have hj := (List.getElem?_eq_some_iff.mp hp).1
      obtain ⟨hl10, hl8⟩ := hl _ (List.mem_of_getElem? hp)
      dsimp only at hl10 hl8
      have hc : XX.call = mcall prog 64 17 := rfl
      have hm1 : XX.mth c_Search n_store = some f_Trail_store := (by decide +kernel : pMth c_Search n_store = some f_Trail_store)
      have hm2 : XX.mth c_Search n_note_lits = some f_Search_note_lits := (by decide +kernel : pMth c_Search n_note_lits = some f_Search_note_lits)
      have hst := store_spec (pre := pre) (post := post ++ [.lst (S.rest.map .int), .lst (S.roots.map iN)]) (c := c') (W := 64) (d := 16) (l := l.map .int) (step := .none) Z' (by omega) (by rw [List.length_map]; omega)
      obtain ⟨c2, kk, n1, n2, n3, n4, n5⟩ := note_spec (pre := pre) (post := post) (W := 64) (d := 13) (c := sto c' (l.map .int) .none) (lv := lv) (num := k + j) (sk := sk) (lits := l) (S := S) (by decide) N'.sto hs (by
        show (c'.clauses ++ [.lst (l.map .int)])[k + j]? = _
        rw [List.getElem?_append_right (by rw [Z'.za]; exact Nat.le_refl _), Z'.za, Nat.sub_self]; rfl) hl8 (by omega) (by omega)
      have e1 : mE XX (.meth (.loc 0) n_store [(.loc 5), .kN, (.kB false)]) (ntE pre post (lots.map lotV) S.told (some (.lst (l.map .int))) (some (.int sk)) x7) (inn2 pre post c' (S.rest.map .int) (S.roots.map iN)) = some (.int ((k + j : Nat) : Int), inn2 pre post (sto c' (l.map .int) .none) (S.rest.map .int) (S.roots.map iN)) := by
        unfold inn2
        rw [mc (f := f_Trail_store) hm1 rfl (loc_eq rfl) (es3 (loc_eq rfl) kN_eq kB_eq), hc]
        exact hst
      have e2 : mE XX (.meth (.loc 0) n_note_lits [(.loc 7), (.loc 6), (.loc 3), (.loc 4)]) (ntE pre post (lots.map lotV) S.told (some (.lst (l.map .int))) (some (.int sk)) (some (.int ((k + j : Nat) : Int)))) (inn2 pre post (sto c' (l.map .int) .none) (S.rest.map .int) (S.roots.map iN)) = some (.int (kk : Int), inn2 pre post c2 ((nfold lv sk S l).rest.map .int) ((nfold lv sk S l).roots.map iN)) := by
        unfold inn2 at n1 ⊢
        rw [mc (f := f_Search_note_lits) hm2 rfl (loc_eq rfl) (es4 (loc_eq rfl) (loc_eq rfl) (loc_eq rfl) (loc_eq rfl)), hc]
        exact n1
      have e3 : mS XX (.asg 7 (.meth (.loc 0) n_store [(.loc 5), .kN, (.kB false)])) (ntE pre post (lots.map lotV) S.told (some (.lst (l.map .int))) (some (.int sk)) x7) (inn2 pre post c' (S.rest.map .int) (S.roots.map iN)) = some (.next, ntE pre post (lots.map lotV) S.told (some (.lst (l.map .int))) (some (.int sk)) (some (.int ((k + j : Nat) : Int))), inn2 pre post (sto c' (l.map .int) .none) (S.rest.map .int) (S.roots.map iN)) := asg_eq e1 rfl
      have e4 : mS XX (.asg 2 (.bin .add (.loc 2) (.meth (.loc 0) n_note_lits [(.loc 7), (.loc 6), (.loc 3), (.loc 4)]))) (ntE pre post (lots.map lotV) S.told (some (.lst (l.map .int))) (some (.int sk)) (some (.int ((k + j : Nat) : Int)))) (inn2 pre post (sto c' (l.map .int) .none) (S.rest.map .int) (S.roots.map iN)) = some (.next, ntE pre post (lots.map lotV) ((S.told + kk : Nat) : Int) (some (.lst (l.map .int))) (some (.int sk)) (some (.int ((k + j : Nat) : Int))), inn2 pre post c2 ((nfold lv sk S l).rest.map .int) ((nfold lv sk S l).roots.map iN)) := asg_eq (bin_eq (x := .int ((S.told + kk : Nat) : Int)) (loc_eq rfl) e2 rfl) rfl
      have hS' : nall lv ⟨c.seen, 0, [], []⟩ (lots.take (j + 1)) = nfold lv sk S l := by rw [step0, hp, hS]; rfl
      have hfl := nfold_len lv sk l S
      refine ⟨_, .next, _, _, rfl, (seq_next e3).trans ((seq_next e4).trans seq_nil), .inl rfl, nfold lv sk S l, c2, some (.lst (l.map .int)), some (.int sk), some (.int ((k + j : Nat) : Int)), hS'.symm, ?_, rfl, n2, n3, ?_, by omega, by omega⟩
      · rw [← n4]
      · rw [n5]
        have z := Z'.sto (l := l.map .int) (step := .none)
        exact ⟨z.za, z.zb, z.zc, z.zd⟩)
  rw [List.length_map] at q
  obtain ⟨S, c', x5, x6, x7, hS, rfl, rfl, N', hs, Z', r1, r2⟩ := q
  rw [List.take_length] at hS
  subst hS
  refine ⟨c', ?_, N', hs, Z'⟩
  show outO (mSs XX [.asgW _ _, .forS [5, 6] false .vals _ _, .ret _] [some (.obj c_Search pre.length), some (.lst (lots.map lotV)), none, none, none, none, none, none] _) = _
  rw [seq_next t1, seq_next t2, seq_stop (ret_eq (tup_eq (es3 (loc_eq rfl) (loc_eq rfl) (loc_eq rfl)))) (by intro q; cases q)]
  rfl
end
end Mine.Law
end
section
set_option autoImplicit false
set_option linter.unusedVariables false
set_option linter.unusedSimpArgs false
set_option linter.unusedSectionVars false
set_option maxRecDepth 10000
namespace Mine.Law

structure Are (q : Nat → Prop) (L : List Nat) : Prop where
  nd : L.Nodup
  mem : ∀ v, v ∈ L ↔ (1 ≤ v ∧ v ≤ 8) ∧ q v
theorem Are.add {q : Nat → Prop} {L : List Nat} {v : Nat} (h : Are q L) (h1 : 1 ≤ v) (h8 : v ≤ 8) (hn : ¬ q v) : Are (fun u => q u ∨ u = v) (L ++ [v]) := by
  refine ⟨?_, fun u => ?_⟩
  · rw [List.nodup_append]
    refine ⟨h.nd, by simp, fun a ha b hb => ?_⟩
    rw [List.mem_singleton] at hb
    rintro rfl
    subst hb
    exact hn ((h.mem _).mp ha).2
  · rw [List.mem_append, h.mem, List.mem_singleton]
    constructor
    · rintro (⟨a, b⟩ | rfl)
      · exact ⟨a, .inl b⟩
      · exact ⟨⟨h1, h8⟩, .inr rfl⟩
    · rintro ⟨a, b | rfl⟩
      · exact .inl ⟨a, b⟩
      · exact .inr rfl
theorem Are.of {q r : Nat → Prop} {L : List Nat} (h : Are q L) (e : ∀ v, 1 ≤ v → v ≤ 8 → (q v ↔ r v)) : Are r L :=
  ⟨h.nd, fun v => (h.mem v).trans ⟨fun ⟨a, b⟩ => ⟨a, (e v a.1 a.2).mp b⟩, fun ⟨a, b⟩ => ⟨a, (e v a.1 a.2).mpr b⟩⟩⟩
noncomputable def r8 : List Nat := [1, 2, 3, 4, 5, 6, 7, 8]
theorem mem_r8 (v : Nat) : v ∈ r8 ↔ 1 ≤ v ∧ v ≤ 8 := by
  exact mem_18 v
theorem are_filter (q : Nat → Bool) : Are (fun v => q v = true) (r8.filter q) :=
  ⟨List.Pairwise.filter _ (by decide), fun v => by rw [List.mem_filter, mem_r8]⟩
theorem Are.perm {q : Nat → Prop} {L M : List Nat} (h : Are q L) (h2 : Are q M) : L.Perm M :=
  (List.perm_ext_iff_of_nodup h.nd h2.nd).mpr fun v => (h.mem v).trans (h2.mem v).symm

noncomputable def cI (L : List Nat) : List Int := L.map fun (v : Nat) => (v : Int)
theorem sort_are {q : Nat → Prop} {p : Nat → Bool} {L : List Nat} (h : Are q L) (e : ∀ v, 1 ≤ v → v ≤ 8 → (q v ↔ p v = true)) : (cI L).mergeSort (· ≤ ·) = cI (r8.filter p) := by
  have hp : ((cI L).mergeSort (· ≤ ·)).Perm (cI (r8.filter p)) := (List.mergeSort_perm _ _).trans (((h.of e).perm (are_filter p)).map _)
  refine hp.eq_of_pairwise (le := (· ≤ ·)) (fun a b _ _ h1 h2 => Int.le_antisymm h1 h2) ?_ ?_
  · have := List.pairwise_mergeSort (le := fun a b : Int => decide (a ≤ b)) (fun a b c h1 h2 => by simp only [decide_eq_true_eq] at *; omega) (fun a b => by simp only [Bool.or_eq_true, decide_eq_true_eq]; omega) (cI L)
    exact this.imp fun h => of_decide_eq_true h
  · refine List.Pairwise.map _ (fun a b h => ?_) (List.Pairwise.filter p (show r8.Pairwise (fun a b => a ≤ b) by decide))
    exact Int.ofNat_le.mpr h
theorem len_are {q : Nat → Prop} {p : Nat → Bool} {L : List Nat} (h : Are q L) (e : ∀ v, 1 ≤ v → v ≤ 8 → (q v ↔ p v = true)) : L.length = (r8.filter p).length :=
  ((h.of e).perm (are_filter p)).length_eq

structure NInv (lv : Nat → Int) (H : Nat → Prop) (A : Int → Prop) (S : NS) : Prop where
  sl : S.seen.length = 9
  s0 : S.seen[0]? = some false
  seen : ∀ v, 1 ≤ v → v ≤ 8 → (S.seen[v]? = some true ↔ H v)
  told : ∃ tops : List Nat, S.told = tops.length ∧ Are (fun v => H v ∧ lv v = 3) tops
  rest : Are (fun v => H v ∧ lv v ≠ 0 ∧ lv v ≠ 3) (S.rest.map Int.natAbs)
  restA : ∀ x ∈ S.rest, A x
  roots : Are (fun v => H v ∧ lv v = 0) S.roots

theorem NInv.ext {lv : Nat → Int} {H H' : Nat → Prop} {A : Int → Prop} {S : NS} (h : NInv lv H A S) (e : ∀ v, 1 ≤ v → v ≤ 8 → (H v ↔ H' v)) : NInv lv H' A S := by
  obtain ⟨tops, h1, h2⟩ := h.told
  exact ⟨h.sl, h.s0, fun v a b => (h.seen v a b).trans (e v a b), ⟨tops, h1, h2.of fun v a b => by rw [e v a b]⟩, h.rest.of fun v a b => by rw [e v a b], h.restA, h.roots.of fun v a b => by rw [e v a b]⟩

theorem nstep_inv {lv : Nat → Int} {H : Nat → Prop} {A : Int → Prop} {S : NS} {sk x : Int} (h : NInv lv H A S) (h1 : 1 ≤ x.natAbs) (h8 : x.natAbs ≤ 8) (hA : A x) :
    NInv lv (fun v => H v ∨ (v = x.natAbs ∧ (v : Int) ≠ sk)) A (nstep lv sk S x) := by
  obtain ⟨v, hv⟩ : ∃ v, v = x.natAbs := ⟨_, rfl⟩
  have hvs : v < S.seen.length := by rw [h.sl]; omega
  obtain ⟨b, hb⟩ : ∃ b, S.seen[v]? = some b := ⟨_, List.getElem?_eq_getElem hvs⟩
  have hD : S.seen.getD v false = b := by rw [List.getD_eq_getElem?_getD, hb]; rfl
  unfold nstep
  rw [← hv, hD]
  rw [← hv] at h1 h8
  by_cases hc : (v : Int) = sk ∨ b = true
  · rw [if_pos hc]
    refine h.ext fun u u1 u8 => ⟨.inl, fun q => q.elim id fun ⟨e, hne⟩ => ?_⟩
    rcases hc with e' | rfl
    · rw [e] at hne; exact absurd e' hne
    · rw [e]; exact (h.seen v h1 h8).mp hb
  · rw [if_neg hc]
    have hns : (v : Int) ≠ sk := fun q => hc (.inl q)
    have hbf : b = false := by cases b with | false => rfl | true => exact absurd (.inr rfl) hc
    subst hbf
    have hH : ¬ H v := fun q => by have := (h.seen v h1 h8).mpr q; rw [hb] at this; cases this
    have se : ∀ u, 1 ≤ u → u ≤ 8 → ((S.seen.set v true)[u]? = some true ↔ H u ∨ (u = v ∧ (u : Int) ≠ sk)) := fun u u1 u8 => by
      rw [List.getElem?_set]
      by_cases e : v = u
      · subst e
        rw [if_pos rfl, if_pos hvs]
        exact ⟨fun _ => .inr ⟨rfl, hns⟩, fun _ => rfl⟩
      · rw [if_neg e, h.seen u u1 u8]
        exact ⟨.inl, fun q => q.elim id fun ⟨e', _⟩ => absurd e'.symm e⟩
    have s0' : (S.seen.set v true)[0]? = some false := by rw [List.getElem?_set_ne (by omega)]; exact h.s0
    obtain ⟨tops, t1, t2⟩ := h.told
    have hot : ∀ {q : Nat → Prop} {L : List Nat}, Are (fun u => H u ∧ q u) L → q v → Are (fun u => (H u ∨ (u = v ∧ (u : Int) ≠ sk)) ∧ q u) (L ++ [v]) := fun {q L} a hq =>
      (a.add h1 h8 (fun k => hH k.1)).of fun u _ _ => by
        constructor
        · rintro (⟨k1, k2⟩ | rfl)
          · exact ⟨.inl k1, k2⟩
          · exact ⟨.inr ⟨rfl, hns⟩, hq⟩
        · rintro ⟨k1 | ⟨rfl, _⟩, k2⟩
          · exact .inl ⟨k1, k2⟩
          · exact .inr rfl
    have cold : ∀ {q : Nat → Prop} {L : List Nat}, Are (fun u => H u ∧ q u) L → ¬ q v → Are (fun u => (H u ∨ (u = v ∧ (u : Int) ≠ sk)) ∧ q u) L := fun {q L} a hq =>
      a.of fun u _ _ => by
        constructor
        · rintro ⟨k1, k2⟩; exact ⟨.inl k1, k2⟩
        · rintro ⟨k1 | ⟨rfl, _⟩, k2⟩
          · exact ⟨k1, k2⟩
          · exact absurd k2 hq
    have hl : ∀ l : List Bool, (l.set v true).length = l.length := fun l => List.length_set
    by_cases h0 : lv v = 0
    · rw [if_pos h0]
      exact ⟨(hl _).trans h.sl, s0', se, ⟨tops, t1, cold (q := fun u => lv u = 3) t2 (by omega)⟩, cold (q := fun u => lv u ≠ 0 ∧ lv u ≠ 3) h.rest (fun k => k.1 h0), h.restA, hot (q := fun u => lv u = 0) h.roots h0⟩
    · rw [if_neg h0]
      by_cases h3 : lv v = 3
      · rw [if_pos h3]
        exact ⟨(hl _).trans h.sl, s0', se, ⟨tops ++ [v], by rw [List.length_append, ← t1]; rfl, hot (q := fun u => lv u = 3) t2 h3⟩, cold (q := fun u => lv u ≠ 0 ∧ lv u ≠ 3) h.rest (fun k => k.2 h3), h.restA, cold (q := fun u => lv u = 0) h.roots h0⟩
      · rw [if_neg h3]
        refine ⟨(hl _).trans h.sl, s0', se, ⟨tops, t1, cold (q := fun u => lv u = 3) t2 h3⟩, ?_, fun y hy => ?_, cold (q := fun u => lv u = 0) h.roots h0⟩
        · show Are _ ((S.rest ++ [x]).map Int.natAbs)
          rw [List.map_append, show [x].map Int.natAbs = [v] by rw [hv]; rfl]
          exact hot (q := fun u => lv u ≠ 0 ∧ lv u ≠ 3) h.rest ⟨h0, h3⟩
        · rcases List.mem_append.mp hy with k | k
          · exact h.restA y k
          · rw [List.mem_singleton.mp k]; exact hA

theorem nfold_inv {lv : Nat → Int} {A : Int → Prop} {sk : Int} : ∀ (l : List Int) {H : Nat → Prop} {S : NS}, NInv lv H A S → (∀ x ∈ l, (1 ≤ x.natAbs ∧ x.natAbs ≤ 8) ∧ A x) → NInv lv (fun v => H v ∨ ((∃ x ∈ l, v = x.natAbs) ∧ (v : Int) ≠ sk)) A (nfold lv sk S l)
  | [], H, S, h, _ => h.ext fun v _ _ => ⟨.inl, fun q => q.elim id fun ⟨⟨x, hx, _⟩, _⟩ => by cases hx⟩
  | x :: r, H, S, h, hl => by
    have hx := hl x (.head _)
    have := nfold_inv (sk := sk) r (nstep_inv (sk := sk) h hx.1.1 hx.1.2 hx.2) fun y hy => hl y (.tail _ hy)
    refine this.ext fun v _ _ => ?_
    constructor
    · rintro ((k | ⟨rfl, k⟩) | ⟨⟨y, hy, e⟩, k⟩)
      · exact .inl k
      · exact .inr ⟨⟨x, .head _, rfl⟩, k⟩
      · exact .inr ⟨⟨y, .tail _ hy, e⟩, k⟩
    · rintro (k | ⟨⟨y, hy, e⟩, k⟩)
      · exact .inl (.inl k)
      · cases hy with
        | head => exact .inl (.inr ⟨e, k⟩)
        | tail _ hy => exact .inr ⟨⟨y, hy, e⟩, k⟩

noncomputable def Hit (lots : List (List Int × Int)) (v : Nat) : Prop := ∃ p ∈ lots, (∃ x ∈ p.1, v = x.natAbs) ∧ (v : Int) ≠ p.2
noncomputable def Lit (lots : List (List Int × Int)) (x : Int) : Prop := ∃ p ∈ lots, x ∈ p.1

theorem nall_inv {lv : Nat → Int} {A : Int → Prop} : ∀ (lots : List (List Int × Int)) {H : Nat → Prop} {S : NS}, NInv lv H A S → (∀ p ∈ lots, LotOk p) → (∀ p ∈ lots, ∀ x ∈ p.1, A x) → NInv lv (fun v => H v ∨ Hit lots v) A (nall lv S lots)
  | [], H, S, h, _, _ => h.ext fun v _ _ => ⟨.inl, fun q => q.elim id fun ⟨p, hp, _⟩ => by cases hp⟩
  | p :: r, H, S, h, hl, hA => by
    have := nall_inv r (nfold_inv (sk := p.2) p.1 h fun x hx => ⟨(hl p (.head _)).2 x hx, hA p (.head _) x hx⟩) (fun q hq => hl q (.tail _ hq)) fun q hq => hA q (.tail _ hq)
    refine this.ext fun v _ _ => ?_
    constructor
    · rintro ((k | k) | ⟨q, hq, k⟩)
      · exact .inl k
      · exact .inr ⟨p, .head _, k⟩
      · exact .inr ⟨q, .tail _ hq, k⟩
    · rintro (k | ⟨q, hq, k⟩)
      · exact .inl (.inl k)
      · cases hq with
        | head => exact .inl (.inr k)
        | tail _ hq => exact .inr ⟨q, hq, k⟩

noncomputable def S0 : NS := ⟨List.replicate 9 false, 0, [], []⟩
theorem nall0 {lv : Nat → Int} {lots : List (List Int × Int)} (hl : ∀ p ∈ lots, LotOk p) : NInv lv (Hit lots) (Lit lots) (nall lv S0 lots) := by
  have e : ∀ q : Nat → Prop, Are (fun v => False ∧ q v) [] := fun q => ⟨List.Pairwise.nil, fun v => Iff.intro (fun h => by cases h) (fun h => h.2.1.elim)⟩
  have h0 : NInv lv (fun _ => False) (Lit lots) S0 := by
    refine ⟨rfl, rfl, fun v v1 v8 => Iff.intro (fun h => ?_) False.elim, ⟨[], rfl, e (fun v => lv v = 3)⟩, e (fun v => lv v ≠ 0 ∧ lv v ≠ 3), fun x hx => (by cases hx), e (fun v => lv v = 0)⟩
    unfold S0 at h
    rw [List.getElem?_replicate, if_pos (by omega)] at h
    cases h
  exact (nall_inv lots h0 hl fun p hp x hx => ⟨p, hp, hx⟩).ext fun v _ _ => Iff.intro (fun q => q.elim False.elim id) .inr

theorem nall_again {lv : Nat → Int} {seen : List Bool} : ∀ (lots : List (List Int × Int)), (∀ v, Hit lots v → seen[v]? = some true) → nall lv ⟨seen, 0, [], []⟩ lots = ⟨seen, 0, [], []⟩ := by
  have one : ∀ (sk : Int) (l : List Int), (∀ x ∈ l, (x.natAbs : Int) ≠ sk → seen[x.natAbs]? = some true) → nfold lv sk ⟨seen, 0, [], []⟩ l = ⟨seen, 0, [], []⟩ := by
    intro sk l
    induction l with
    | nil => intro _; rfl
    | cons x r ih =>
      intro h
      unfold nfold
      rw [List.foldl_cons]
      have : nstep lv sk ⟨seen, 0, [], []⟩ x = ⟨seen, 0, [], []⟩ := by
        unfold nstep
        rw [if_pos]
        by_cases e : (x.natAbs : Int) = sk
        · exact .inl e
        · refine .inr ?_
          rw [List.getD_eq_getElem?_getD, h x (.head _) e]; rfl
      rw [this]
      exact ih fun y hy => h y (.tail _ hy)
  intro lots
  induction lots with
  | nil => intro _; rfl
  | cons p r ih =>
    intro h
    unfold nall
    rw [List.foldl_cons]
    have : nlot lv ⟨seen, 0, [], []⟩ p = ⟨seen, 0, [], []⟩ := one p.2 p.1 fun x hx e => h _ ⟨p, .head _, ⟨x, hx, rfl⟩, e⟩
    rw [this]
    exact ih fun v ⟨q, hq, k⟩ => h v ⟨q, .tail _ hq, k⟩

noncomputable def halves (cls : List Cl) : List (List Int × Int) := cls.flatMap fun c => [(c.l.take c.at_, c.sk), (c.l.drop c.at_, c.sk)]
noncomputable def whole (cls : List Cl) : List (List Int × Int) := cls.map fun c => (c.l, c.sk)
theorem nall_halves {lv : Nat → Int} : ∀ (cls : List Cl) (S : NS), nall lv S (halves cls) = nall lv S (whole cls)
  | [], S => rfl
  | c :: r, S => by
    unfold halves whole nall
    rw [List.flatMap_cons, List.foldl_append, List.map_cons, List.foldl_cons (l := List.map _ _)]
    have e : [(c.l.take c.at_, c.sk), (c.l.drop c.at_, c.sk)].foldl (nlot lv) S = nlot lv S (c.l, c.sk) := by
      rw [List.foldl_cons, List.foldl_cons, List.foldl_nil]
      unfold nlot nfold
      dsimp only
      rw [← List.foldl_append, List.take_append_drop]
    rw [e]
    exact nall_halves r _
theorem hit_rev (lots : List (List Int × Int)) (v : Nat) : Hit lots.reverse v ↔ Hit lots v := by
  unfold Hit
  simp only [List.mem_reverse]
theorem lit_rev (lots : List (List Int × Int)) (x : Int) : Lit lots.reverse x ↔ Lit lots x := by
  unfold Lit
  simp only [List.mem_reverse]
theorem whole_ok {cls : List Cl} (h : ∀ c ∈ cls, c.Ok) : ∀ p ∈ whole cls, LotOk p := fun p hp => by
  obtain ⟨c, hc, rfl⟩ := List.mem_map.mp hp
  exact ⟨Nat.le_trans (h c hc).le (by decide), (h c hc).lit⟩
theorem halves_ok {cls : List Cl} (h : ∀ c ∈ cls, c.Ok) : ∀ p ∈ halves cls, LotOk p := fun p hp => by
  obtain ⟨c, hc, hp⟩ := List.mem_flatMap.mp hp
  have hk := h c hc
  have := hk.le
  rcases List.mem_cons.mp hp with rfl | hp
  · exact ⟨by show (c.l.take _).length ≤ _; rw [List.length_take]; omega, fun x hx => hk.lit x (List.mem_of_mem_take hx)⟩
  · rw [List.mem_singleton.mp hp]
    exact ⟨by show (c.l.drop _).length ≤ _; rw [List.length_drop]; omega, fun x hx => hk.lit x (List.mem_of_mem_drop hx)⟩
end Mine.Law
end
section
set_option autoImplicit false
set_option linter.unusedVariables false
set_option linter.unusedSimpArgs false
set_option linter.unusedSectionVars false
namespace Mine.Law
section
variable {X : Ctx} {ρ : Lo} {G : GH} {α β : Type}

theorem loopC_pureG {gd : Gd} {st : MV → GH → List MV → Option (List MV × GH)} {g : α → MV} {out : α → List MV} (hg : gdOk G gd = true) :
    ∀ (items : List Itm) (l : List α) (acc : List MV), Src G gd items (l.map g) → (∀ v ∈ l, ∀ acc : List MV, acc.length + (out v).length ≤ 4000 → st (g v) G acc = some (acc ++ out v, G)) → acc.length + (l.flatMap out).length ≤ 4000 → loopC gd st items G acc = some (acc ++ l.flatMap out, G)
  | [], [], acc, _, _, _ => (if_pos hg).trans (by rw [List.flatMap_nil, List.append_nil])
  | a :: r, v :: t, acc, S, h, hl => by
    rw [List.flatMap_cons, List.length_append] at hl
    rw [List.flatMap_cons, ← List.append_assoc]
    exact (if_pos hg).trans (bnd S.1 (bnd (h v (.head _) acc (by omega)) (loopC_pureG hg r t _ S.2 (fun v hv => h v (.tail _ hv)) (by rw [List.length_append]; omega))))
  | [], _ :: _, _, S, _, _ => S.elim
  | _ :: _, [], _, S, _, _ => S.elim

theorem mC_consG {tgt : List Nat} {one : Bool} {k : SK} {srcs ifs : List ME} {gs : List MG} {emit : Lo → GH → Option (MV × GH)} {vs acc : List MV} {gd : Gd} {items : List Itm} {l : List α} (g : α → MV) (out : α → List MV)
    (h1 : mEs X srcs ρ G = some (vs, G)) (h2 : srcO G k vs = some (gd, items)) (hg : gdOk G gd = true) (S : Src G gd items (l.map g))
    (hs : ∀ v ∈ l, ∃ ρ' b, asgO one tgt (g v) ρ = some ρ' ∧ mAnd X ifs ρ' G = some (.bool b, G) ∧ (b = false → out v = []) ∧ (b = true → ∀ acc : List MV, acc.length + (out v).length ≤ 4000 → mC X gs emit ρ' G acc = some (acc ++ out v, G)))
    (hl : acc.length + (l.flatMap out).length ≤ 4000) : mC X (.mk tgt one k srcs ifs :: gs) emit ρ G acc = some (acc ++ l.flatMap out, G) := by
  refine bnd (o := mEs X srcs ρ G) h1 (bnd h2 (loopC_pureG hg items l acc S (fun v hv acc ha => ?_) hl))
  obtain ⟨ρ', b, e1, e2, e3, e4⟩ := hs v hv
  refine bnd e1 ?_
  cases b with
  | true => exact (onB_t e2).trans (e4 rfl acc ha)
  | false => rw [e3 rfl, List.append_nil]; exact onB_f e2

theorem flat_filter (p : α → Bool) (f : α → MV) : ∀ l : List α, l.flatMap (fun v => if p v then [f v] else []) = (l.filter p).map f
  | [] => rfl
  | a :: r => by
    rw [List.flatMap_cons, flat_filter p f r, List.filter_cons]
    split <;> rfl

theorem comp1G {k : Nat} {elt : ME} {tgt : List Nat} {one : Bool} {sk : SK} {srcs ifs : List ME} {vs : List MV} {l : List α} {gd : Gd} {items : List Itm} (g : α → MV) (p : α → Bool) (f : α → MV)
    (h1 : mEs X srcs (ρ ++ List.replicate k none) G = some (vs, G)) (h2 : srcO G sk vs = some (gd, items)) (hg : gdOk G gd = true) (S : Src G gd items (l.map g))
    (hs : ∀ v ∈ l, ∃ ρ', asgO one tgt (g v) (ρ ++ List.replicate k none) = some ρ' ∧ mAnd X ifs ρ' G = some (.bool (p v), G) ∧ (p v = true → mE X elt ρ' G = some (f v, G)))
    (hl : l.length ≤ 4000) : mE X (.comp false k elt [.mk tgt one sk srcs ifs]) ρ G = some (.lst ((l.filter p).map f), G) := by
  have hlen : ((l.filter p).map f).length ≤ l.length := by rw [List.length_map]; exact List.length_filter_le p l
  refine comp_of ?_ (by omega)
  have := mC_consG (X := X) (ρ := ρ ++ List.replicate k none) (G := G) (tgt := tgt) (one := one) (k := sk) (srcs := srcs) (ifs := ifs) (gs := []) (emit := fun ρ' G' => mE X elt ρ' G') (acc := []) (l := l) g (fun v => if p v then [f v] else []) h1 h2 hg S (fun v hv => by
    obtain ⟨ρ', e1, e2, e3⟩ := hs v hv
    refine ⟨ρ', p v, e1, e2, fun h => by rw [if_neg (by simp [h])], fun h acc ha => ?_⟩
    rw [if_pos h] at ha ⊢
    exact mC_nil (e3 h) (by simp at ha; omega)) (by rw [flat_filter]; simp; exact Nat.le_trans (List.length_filter_le p l) hl)
  rw [flat_filter, List.nil_append] at this
  exact this

theorem comp_lst {k : Nat} {elt src : ME} {tgt : List Nat} {one : Bool} {ifs : List ME} {l : List α} (g : α → MV) (p : α → Bool) (f : α → MV)
    (h1 : mE X src (ρ ++ List.replicate k none) G = some (.lst (l.map g), G))
    (hs : ∀ v ∈ l, ∃ ρ', asgO one tgt (g v) (ρ ++ List.replicate k none) = some ρ' ∧ mAnd X ifs ρ' G = some (.bool (p v), G) ∧ (p v = true → mE X elt ρ' G = some (f v, G)))
    (hl : l.length ≤ 4000) : mE X (.comp false k elt [.mk tgt one .vals [src] ifs]) ρ G = some (.lst ((l.filter p).map f), G) :=
  comp1G g p f (es1 h1) so_lst rfl (src_no _ _) hs hl
theorem comp_ref {k i : Nat} {elt src : ME} {tgt : List Nat} {one : Bool} {ifs : List ME} {l : List α} (g : α → MV) (p : α → Bool) (f : α → MV)
    (h1 : mE X src (ρ ++ List.replicate k none) G = some (.ref i, G)) (hi : G[i]? = some (.lst (l.map g)))
    (hs : ∀ v ∈ l, ∃ ρ', asgO one tgt (g v) (ρ ++ List.replicate k none) = some ρ' ∧ mAnd X ifs ρ' G = some (.bool (p v), G) ∧ (p v = true → mE X elt ρ' G = some (f v, G)))
    (hl : l.length ≤ 4000) : mE X (.comp false k elt [.mk tgt one .vals [src] ifs]) ρ G = some (.lst ((l.filter p).map f), G) :=
  comp1G g p f (es1 h1) (so_ref hi) (gd_ref hi) (src_ref hi) hs hl

theorem sorted_lst {l : List Int} (h : l.length < 64) : bltO G .sorted (.lst (l.map .int)) = some (.lst ((l.mergeSort (· ≤ ·)).map .int), G) := by
  exact bnd (intsO_map l) (if_pos h)
theorem sorted_ref {i : Nat} {l : List Int} (hi : G[i]? = some (.lst (l.map .int))) (h : l.length < 64) : bltO G .sorted (.ref i) = some (.lst ((l.mergeSort (· ≤ ·)).map .int), G) := by
  exact bnd (bnd (o := hL G i) (hL_of hi) (intsO_map l)) (if_pos h)
end
theorem flat_one {α : Type} (f : α → MV) : ∀ l : List α, l.flatMap (fun x => [f x]) = l.map f
  | [] => rfl
  | a :: r => by rw [List.flatMap_cons, flat_one f r]; rfl
theorem and_t' {X : Ctx} {ρ : Lo} {G G' : GH} {e : ME} {b : Bool} (h : mE X e ρ G = some (.bool b, G')) : mAnd X [e] ρ G = some (.bool b, G') := by
  cases b
  · exact and_f h
  · exact (and_t h).trans and_nil
theorem or2_ff {X : Ctx} {ρ : Lo} {G : GH} {a b : ME} (h : mE X a ρ G = some (.bool false, G)) (h2 : mE X b ρ G = some (.bool false, G)) : mE X (.or_ [a, b]) ρ G = some (.bool false, G) := orE ((or_f h).trans ((or_f h2).trans or_nil))
theorem and2_eq {X : Ctx} {ρ : Lo} {G : GH} {a b : ME} {x y : Bool} (h : mE X a ρ G = some (.bool x, G)) (h2 : mE X b ρ G = some (.bool y, G)) : mE X (.and_ [a, b]) ρ G = some (.bool (x && y), G) := by
  cases x
  · exact andE (and_f h)
  · exact andE ((and_t h).trans (and_t' h2))
theorem or_t' {X : Ctx} {ρ : Lo} {G G' : GH} {e : ME} {b : Bool} (h : mE X e ρ G = some (.bool b, G')) : mOr X [e] ρ G = some (.bool b, G') := by
  cases b
  · exact (or_f h).trans or_nil
  · exact or_t h
theorem or2_eq {X : Ctx} {ρ : Lo} {G : GH} {a b : ME} {x y : Bool} (h : mE X a ρ G = some (.bool x, G)) (h2 : mE X b ρ G = some (.bool y, G)) : mE X (.or_ [a, b]) ρ G = some (.bool (x || y), G) := by
  cases x
  · exact orE ((or_f h).trans (or_t' h2))
  · exact orE (or_t h)
theorem comp3 {X : Ctx} {ρ ρ1 ρ2 ρ3 : Lo} {G G0 G1 G2 G3 : GH} {k : Nat} {elt : ME} {tgt : List Nat} {one : Bool} {sk : SK} {srcs : List ME} {vs : List MV} {v1 v2 v3 x1 x2 x3 : MV}
    (h1 : mEs X srcs (ρ ++ List.replicate k none) G = some (vs, G0)) (h2 : srcO G0 sk vs = some (.no, [.val v1, .val v2, .val v3]))
    (a1 : asgO one tgt v1 (ρ ++ List.replicate k none) = some ρ1) (b1 : mE X elt ρ1 G0 = some (x1, G1))
    (a2 : asgO one tgt v2 (ρ ++ List.replicate k none) = some ρ2) (b2 : mE X elt ρ2 G1 = some (x2, G2))
    (a3 : asgO one tgt v3 (ρ ++ List.replicate k none) = some ρ3) (b3 : mE X elt ρ3 G2 = some (x3, G3)) : mE X (.comp false k elt [.mk tgt one sk srcs []]) ρ G = some (.lst [x1, x2, x3], G3) := by
  refine comp_of (bnd (o := mEs X srcs (ρ ++ List.replicate k none) G) h1 (bnd h2 ?_)) (show 3 < 4096 by decide)
  have st : ∀ {v x : MV} {G G' : GH} {acc : List MV} {r : List Itm} {st : MV → GH → List MV → Option (List MV × GH)} {q : Option (List MV × GH)}, st v G acc = some (acc ++ [x], G') → loopC .no st r G' (acc ++ [x]) = q → loopC .no st (.val v :: r) G acc = q := fun {v x G G' acc r st q} h k =>
    (if_pos (show gdOk G .no = true from rfl)).trans (bnd (o := st v G acc) h k)
  exact st (bnd a1 (mC_nil (X := X) b1 (show 0 < 4096 by decide))) (st (bnd a2 (mC_nil (X := X) b2 (show 1 < 4096 by decide))) (st (bnd a3 (mC_nil (X := X) b3 (show 2 < 4096 by decide))) (if_pos rfl)))
theorem for3 {X : Ctx} {ρ ρ1 ρ2 ρ3 ρ1' ρ2' ρ3' : Lo} {G G0 G1 G2 G3 : GH} {tgt : List Nat} {one : Bool} {sk : SK} {srcs : List ME} {b : List MS} {vs : List MV} {v1 v2 v3 : MV}
    (h1 : mEs X srcs ρ G = some (vs, G0)) (h2 : srcO G0 sk vs = some (.no, [.val v1, .val v2, .val v3]))
    (a1 : asgO one tgt v1 ρ = some ρ1) (b1 : mSs X b ρ1 G0 = some (.next, ρ1', G1))
    (a2 : asgO one tgt v2 ρ1' = some ρ2) (b2 : mSs X b ρ2 G1 = some (.next, ρ2', G2))
    (a3 : asgO one tgt v3 ρ2' = some ρ3) (b3 : mSs X b ρ3 G2 = some (.next, ρ3', G3)) : mS X (.forS tgt one sk srcs b) ρ G = some (.next, ρ3', G3) := by
  exact bnd (o := mEs X srcs ρ G) h1 (bnd h2 ((ls_next (fl := .next) (bnd a1 b1) (.inl rfl)).trans ((ls_next (fl := .next) (bnd a2 b2) (.inl rfl)).trans ((ls_next (fl := .next) (bnd a3 b3) (.inl rfl)).trans ls_nil))))
theorem filter_true {α : Type} (l : List α) : l.filter (fun _ => true) = l := List.filter_eq_self.mpr fun _ _ => rfl
end Mine.Law
end
section
set_option autoImplicit false
set_option linter.unusedVariables false
set_option linter.unusedSimpArgs false
set_option linter.unusedSectionVars false
set_option maxRecDepth 10000
namespace Mine.Law

theorem iN_map (L : List Nat) : L.map iN = (cI L).map .int := by unfold cI; rw [List.map_map]; rfl
theorem rng_iN (n : Nat) : rngV n = (List.range n).map iN := rfl
theorem are_len {q : Nat → Prop} {L : List Nat} (h : Are q L) : L.length ≤ 8 := by
  have : DecidablePred q := fun v => Classical.propDecidable _
  have e := len_are (p := fun v => decide (q v)) h fun v _ _ => decide_eq_true_iff.symm
  rw [e]
  exact List.length_filter_le _ _
theorem seen_is {lv : Nat → Int} {H : Nat → Prop} {A : Int → Prop} {S : NS} {q : Nat → Bool} (I : NInv lv H A S) (hq : ∀ v, 1 ≤ v → v ≤ 8 → (H v ↔ q v = true)) : (List.range 9).filter (fun v => S.seen.getD v false) = r8.filter q := by
  have e : List.range 9 = 0 :: r8 := by decide
  rw [e, List.filter_cons]
  have h0 : S.seen.getD 0 false = false := by rw [List.getD_eq_getElem?_getD, I.s0]; rfl
  rw [if_neg (by rw [h0]; decide)]
  refine List.filter_congr fun v hv => ?_
  obtain ⟨v1, v8⟩ := (mem_r8 v).mp hv
  have a := I.seen v v1 v8
  have b := hq v v1 v8
  rw [b] at a
  obtain ⟨x, hx⟩ : ∃ x, S.seen[v]? = some x := ⟨_, List.getElem?_eq_getElem (by rw [I.sl]; omega)⟩
  rw [List.getD_eq_getElem?_getD, hx]
  rw [hx] at a
  show x = q v
  cases x <;> cases hqv : q v <;> rw [hqv] at a
  · exact absurd (a.mpr rfl) (by simp)
  · have := a.mp rfl; cases this
theorem ff (p q : Nat → Bool) : (r8.filter q).filter p = r8.filter (fun v => p v && q v) := List.filter_filter ..

section
variable {pre post : GH} {c : Co}
noncomputable abbrev irE (pre : GH) (lots : List (List Int × Int)) (f : MV) (due : List Nat) (x4 x5 x6 x7 x8 x9 : Option MV) : Lo := [some (.obj c_Search pre.length), some (.lst (lots.map lotV)), some f, some (.lst (due.map iN)), x4, x5, x6, x7, x8, x9]

theorem is_right_spec {lv : Nat → Int} {S : NS} {lots : List (List Int × Int)} {q : Nat → Bool} {r1 r2 : Nat} (N : NOk lv c) (hs : c.seen = S.seen) (I : NInv lv (Hit lots) (Lit lots) S) (hq : ∀ v, 1 ≤ v → v ≤ 8 → (Hit lots v ↔ q v = true)) (hb : ∀ v, 0 ≤ lv v ∧ lv v ≤ 3)
    (hl : ∀ p ∈ lots, LotOk p) (hn : lots.length ≤ 100) (h1 : (inn pre post c)[r1]? = some (.lst (S.rest.map .int))) (h2 : (inn pre post c)[r2]? = some (.lst (S.roots.map iN))) :
    mcall prog 64 18 f_law_is_right [.obj c_Search pre.length, .lst (lots.map lotV), .tup [.int (S.told : Int), .ref r1, .ref r2], .lst ((r8.filter q).map iN)] (inn pre post c) = some (.bool true, inn pre post c) := by
  rw [mcall_of (mf := d_law_is_right) rfl rfl]
  generalize hX : ctx prog 64 (mcall prog 64 17) = X
  replace hX := hX.symm
  obtain ⟨G, hG⟩ : ∃ G, G = inn pre post c := ⟨_, rfl⟩
  obtain ⟨F, hF⟩ : ∃ F : MV, F = .tup [.int (S.told : Int), .ref r1, .ref r2] := ⟨_, rfl⟩
  obtain ⟨D, hD⟩ : ∃ D : List Nat, D = r8.filter q := ⟨_, rfl⟩
  have hDm : ∀ v ∈ D, 1 ≤ v ∧ v ≤ 8 := fun v hv => by rw [hD] at hv; exact (mem_r8 v).mp (List.mem_filter.mp hv).1
  have hDl : D.length ≤ 4000 := by rw [hD]; exact Nat.le_trans (List.length_filter_le _ _) (by decide)
  have alev : ∀ {ρ : Lo}, ρ[0]? = some (some (.obj c_Search pre.length)) → mE X (.attr (.loc 0) n_levels) ρ G = some (.ref (pre.length + 2), G) := fun h => by subst hX hG; exact attr_eq (loc_eq h) (ac_levels _ _ _ _ _)
  have lev : ∀ {ρ : Lo} {v : Nat}, ρ[0]? = some (some (.obj c_Search pre.length)) → ρ[10]? = some (some (iN v)) → 1 ≤ v → v ≤ 8 → mE X (.sub (.attr (.loc 0) n_levels) (.loc 10)) ρ G = some (.int (lv v), G) := fun {ρ v} h h10 v1 v8 => by
    refine sub_eq (alev h) (loc_eq h10) ?_
    rw [hG]
    exact sub_lev (N.lev v v1 v8)
  have t0 : mS X (.asgT [4, 5, 6] (.loc 2)) (irE pre lots F D none none none none none none) G = some (.next, irE pre lots F D (some (.int (S.told : Int))) (some (.ref r1)) (some (.ref r2)) none none none, G) := asgT_eq (loc_eq (by rw [hF]; rfl)) rfl
  obtain ⟨E, hE⟩ : ∃ E : Option MV → Option MV → Option MV → Lo, E = fun x7 x8 x9 => irE pre lots F D (some (.int (S.told : Int))) (some (.ref r1)) (some (.ref r2)) x7 x8 x9 := ⟨_, rfl⟩
  have E0 : ∀ (x7 x8 x9 : Option MV) (l : Lo), (E x7 x8 x9 ++ l)[0]? = some (some (.obj c_Search pre.length)) := fun _ _ _ _ => by rw [hE]; rfl
  have top : ∀ x7 x8 x9, mE X (.comp false 1 (.loc 10) [.mk [10] true .vals [(.loc 3)] [(.cmp .eq (.sub (.attr (.loc 0) n_levels) (.loc 10)) (.kI 3))]]) (E x7 x8 x9) G = some (.lst ((D.filter fun v => lv v == 3).map iN), G) := fun x7 x8 x9 => by
    refine comp_lst (l := D) iN _ iN (loc_eq (by rw [hE]; rfl)) (fun v hv => ?_) hDl
    refine ⟨E x7 x8 x9 ++ [some (iN v)], by rw [hE]; rfl, (and_t' (cmp_eq (lev (E0 _ _ _ _) (by rw [hE]; rfl) (hDm v hv).1 (hDm v hv).2) kI_eq eq_int)), fun _ => loc_eq (by rw [hE]; rfl)⟩
  have lits : ∀ x7 x8 x9, mE X (.comp false 3 (.loc 12) [.mk [10, 11] false .vals [(.loc 1)] [], .mk [12] true .vals [(.loc 10)] []]) (E x7 x8 x9) G = some (.lst ((lots.flatMap (·.1)).map .int), G) := fun x7 x8 x9 => by
    have hlen : ∀ L : List (List Int × Int), (∀ p ∈ L, LotOk p) → (L.flatMap fun p => p.1.map MV.int).length ≤ 10 * L.length := by
      intro L
      induction L with
      | nil => intro _; exact Nat.le_refl _
      | cons p r ih =>
        intro h
        have a := ih fun x hx => h x (.tail _ hx)
        have b := (h p (.head _)).1
        rw [List.flatMap_cons, List.length_append, List.length_map, List.length_cons]
        omega
    have hll := hlen lots hl
    rw [List.map_flatMap]
    refine comp_of (l := lots.flatMap fun p => p.1.map .int) ?_ (by omega)
    have := mC_consG (X := X) (ρ := E x7 x8 x9 ++ List.replicate 3 none) (G := G) (tgt := [10, 11]) (one := false) (k := .vals) (srcs := [.loc 1]) (ifs := []) (gs := [.mk [12] true .vals [(.loc 10)] []]) (emit := fun ρ' G' => mE X (.loc 12) ρ' G') (acc := []) (l := lots) lotV (fun p => p.1.map .int) (es1 (loc_eq (by rw [hE]; rfl))) so_lst rfl (src_no _ _) (fun p hp => by
      refine ⟨E x7 x8 x9 ++ [some (.lst (p.1.map .int)), some (.int p.2), none], true, by rw [hE]; rfl, and_nil, fun h => (by cases h), fun _ acc ha => ?_⟩
      rw [List.length_map] at ha
      have := mC_consG (X := X) (ρ := E x7 x8 x9 ++ [some (.lst (p.1.map .int)), some (.int p.2), none]) (G := G) (tgt := [12]) (one := true) (k := .vals) (srcs := [.loc 10]) (ifs := []) (gs := []) (emit := fun ρ' G' => mE X (.loc 12) ρ' G') (acc := acc) (l := p.1) .int (fun x => [.int x]) (es1 (loc_eq (by rw [hE]; rfl))) so_lst rfl (src_no _ _) (fun x hx =>
        ⟨E x7 x8 x9 ++ [some (.lst (p.1.map .int)), some (.int p.2), some (.int x)], true, by rw [hE]; rfl, and_nil, fun h => (by cases h), fun _ acc ha => mC_nil (loc_eq (by rw [hE]; rfl)) (by simp at ha; omega)⟩) (by
          have : (p.1.flatMap fun x => [MV.int x]).length = p.1.length := by rw [flat_one, List.length_map]
          omega)
      rw [flat_one] at this
      exact this) (by rw [List.length_nil]; omega)
    rw [List.nil_append] at this
    exact this
  have low : ∀ x7 x8 x9, mE X (.comp false 1 (.loc 10) [.mk [10] true .vals [(.loc 3)] [(.cmp2 .lt .lt (.kI 0) (.sub (.attr (.loc 0) n_levels) (.loc 10)) (.kI 3))]]) (E x7 x8 x9) G = some (.lst ((D.filter fun v => decide (0 < lv v) && decide (lv v < 3)).map iN), G) := fun x7 x8 x9 => by
    refine comp_lst (l := D) iN _ iN (loc_eq (by rw [hE]; rfl)) (fun v hv => ?_) hDl
    refine ⟨E x7 x8 x9 ++ [some (iN v)], by rw [hE]; rfl, (and_t' (cmp2_eq kI_eq (lev (E0 _ _ _ _) (by rw [hE]; rfl) (hDm v hv).1 (hDm v hv).2) rfl kI_eq rfl)), fun _ => loc_eq (by rw [hE]; rfl)⟩
  have zero : ∀ x7 x8 x9, mE X (.comp false 1 (.loc 10) [.mk [10] true .vals [(.loc 3)] [(.cmp .eq (.sub (.attr (.loc 0) n_levels) (.loc 10)) (.kI 0))]]) (E x7 x8 x9) G = some (.lst ((D.filter fun v => lv v == 0).map iN), G) := fun x7 x8 x9 => by
    refine comp_lst (l := D) iN _ iN (loc_eq (by rw [hE]; rfl)) (fun v hv => ?_) hDl
    refine ⟨E x7 x8 x9 ++ [some (iN v)], by rw [hE]; rfl, (and_t' (cmp_eq (lev (E0 _ _ _ _) (by rw [hE]; rfl) (hDm v hv).1 (hDm v hv).2) kI_eq eq_int)), fun _ => loc_eq (by rw [hE]; rfl)⟩
  have seen : ∀ x7 x8 x9, mE X (.comp false 1 (.loc 10) [.mk [10] true .rng [(.kI 9)] [(.truth (.sub (.attr (.loc 0) n_seen) (.loc 10)))]]) (E x7 x8 x9) G = some (.lst (D.map iN), G) := fun x7 x8 x9 => by
    have := comp1G (X := X) (ρ := E x7 x8 x9) (G := G) (k := 1) (elt := .loc 10) (tgt := [10]) (one := true) (sk := .rng) (srcs := [.kI 9]) (ifs := [(.truth (.sub (.attr (.loc 0) n_seen) (.loc 10)))]) (l := List.range 9) iN (fun v => S.seen.getD v false) iN (es1 kI_eq) (so_rng (n := 9) rfl (by decide)) rfl (src_no _ _) (fun v hv => by
      have hv9 : v < 9 := List.mem_range.mp hv
      obtain ⟨b, hb⟩ : ∃ b, c.seen[v]? = some b := ⟨_, List.getElem?_eq_getElem (by rw [N.sl]; omega)⟩
      have hg : S.seen.getD v false = b := by rw [← hs]; exact getD_of hb
      refine ⟨E x7 x8 x9 ++ [some (iN v)], by rw [hE]; rfl, ?_, fun _ => loc_eq (by rw [hE]; rfl)⟩
      rw [hg]
      refine and_t' (tr_eq (sub_eq (v := .ref (pre.length + 19)) ?_ (loc_eq (by rw [hE]; rfl)) (by rw [hG]; exact sub_seen hb)))
      subst hX hG
      exact attr_eq (loc_eq (E0 _ _ _ _)) (ac_seen _ _ _ _ _)) (by decide)
    rw [seen_is I hq, ← hD] at this
    exact this
  have t1 : mS X (.asgT [7, 8] (.tup [(.comp false 1 (.loc 10) [.mk [10] true .vals [(.loc 3)] [(.cmp .eq (.sub (.attr (.loc 0) n_levels) (.loc 10)) (.kI 3))]]), (.comp false 3 (.loc 12) [.mk [10, 11] false .vals [(.loc 1)] [], .mk [12] true .vals [(.loc 10)] []])])) (E none none none) G = some (.next, E (some (.lst ((D.filter fun v => lv v == 3).map iN))) (some (.lst ((lots.flatMap (·.1)).map .int))) none, G) :=
    asgT_eq (tup_eq (es2 (top _ _ _) (lits _ _ _))) (by rw [hE]; rfl)
  have t2 : ∀ x7 x8, mS X (.asg 9 (.comp false 1 (.loc 10) [.mk [10] true .vals [(.loc 3)] [(.cmp2 .lt .lt (.kI 0) (.sub (.attr (.loc 0) n_levels) (.loc 10)) (.kI 3))]])) (E x7 x8 none) G = some (.next, E x7 x8 (some (.lst ((D.filter fun v => decide (0 < lv v) && decide (lv v < 3)).map iN))), G) := fun x7 x8 =>
    asg_eq (low _ _ _) (by rw [hE]; rfl)
  obtain ⟨x7, hx7⟩ : ∃ x7 : Option MV, x7 = some (.lst ((D.filter fun v => lv v == 3).map iN)) := ⟨_, rfl⟩
  obtain ⟨x8, hx8⟩ : ∃ x8 : Option MV, x8 = some (.lst ((lots.flatMap (·.1)).map .int)) := ⟨_, rfl⟩
  obtain ⟨x9, hx9⟩ : ∃ x9 : Option MV, x9 = some (.lst ((D.filter fun v => decide (0 < lv v) && decide (lv v < 3)).map iN)) := ⟨_, rfl⟩
  have i1 : mE X (.or_ [(.cmp .ne (.comp false 1 (.loc 10) [.mk [10] true .rng [(.kI 9)] [(.truth (.sub (.attr (.loc 0) n_seen) (.loc 10)))]]) (.loc 3)), (.cmp .ne (.loc 4) (.blt .len (.loc 7)))]) (E x7 x8 x9) G = some (.bool false, G) := by
    refine or2_ff ?_ ?_
    · refine cmp_eq (seen _ _ _) (loc_eq (v := .lst (D.map iN)) (by rw [hE]; rfl)) ?_
      rw [iN_map, ne_lst, beq_self_eq_true]; rfl
    · have hlen : S.told = (D.filter fun v => lv v == 3).length := by
        obtain ⟨tops, h1, h2⟩ := I.told
        rw [h1, hD, ff]
        exact len_are h2 fun v v1 v8 => by
          rw [Bool.and_eq_true, beq_iff_eq, ← hq v v1 v8]; exact And.comm
      refine cmp_eq (loc_eq (v := .int (S.told : Int)) (by rw [hE]; rfl)) (blt_eq (r := (.int (S.told : Int), G)) (loc_eq (by rw [hE]; exact congrArg some hx7)) ?_) ?_
      · show some (MV.int (((D.filter fun v => lv v == 3).map iN).length : Int), G) = _
        rw [List.length_map, hlen]
      · rw [ne_int, beq_self_eq_true]; rfl
  have i2 : mE X (.or_ [(.cmp .ne (.blt .sorted (.comp false 1 (.blt .abs (.loc 10)) [.mk [10] true .vals [(.loc 5)] []])) (.loc 9)), (.cmp .ne (.comp false 1 (.loc 10) [.mk [10] true .vals [(.loc 5)] [(.cmp .nin (.loc 10) (.loc 8))]]) (.lst false []))]) (E x7 x8 x9) G = some (.bool false, G) := by
    have rl : S.rest.length ≤ 8 := by have := are_len I.rest; rwa [List.length_map] at this
    refine or2_ff ?_ ?_
    · have ab : mE X (.comp false 1 (.blt .abs (.loc 10)) [.mk [10] true .vals [(.loc 5)] []]) (E x7 x8 x9) G = some (.lst ((cI (S.rest.map Int.natAbs)).map .int), G) := by
        have := comp_ref (X := X) (ρ := E x7 x8 x9) (G := G) (k := 1) (elt := .blt .abs (.loc 10)) (src := .loc 5) (tgt := [10]) (one := true) (ifs := []) (l := S.rest) (i := r1) .int (fun _ => true) (fun x => .int (x.natAbs : Int)) (loc_eq (by rw [hE]; rfl)) (by rw [hG]; exact h1) (fun v hv =>
          ⟨E x7 x8 x9 ++ [some (.int v)], by rw [hE]; rfl, and_nil, fun _ => blt_eq (loc_eq (by rw [hE]; rfl)) rfl⟩) (by omega)
        rw [filter_true] at this
        rw [this]
        unfold cI
        rw [List.map_map, List.map_map]; rfl
      refine cmp_eq (blt_eq ab (sorted_lst (by unfold cI; rw [List.length_map, List.length_map]; omega))) (loc_eq (v := .lst ((D.filter fun v => decide (0 < lv v) && decide (lv v < 3)).map iN)) (by rw [hE]; exact congrArg some hx9)) ?_
      rw [iN_map, hD, ff, sort_are (p := fun v => (decide (0 < lv v) && decide (lv v < 3)) && q v) I.rest fun v v1 v8 => ?_, ne_lst, beq_self_eq_true]
      · rfl
      · have := hb v
        rw [Bool.and_eq_true, Bool.and_eq_true, decide_eq_true_eq, decide_eq_true_eq, ← hq v v1 v8]
        constructor
        · rintro ⟨a, b1, b2⟩; exact ⟨⟨by omega, by omega⟩, a⟩
        · rintro ⟨⟨b1, b2⟩, a⟩; exact ⟨a, by omega, by omega⟩
    · have no : mE X (.comp false 1 (.loc 10) [.mk [10] true .vals [(.loc 5)] [(.cmp .nin (.loc 10) (.loc 8))]]) (E x7 x8 x9) G = some (.lst (([] : List Int).map .int), G) := by
        have := comp_ref (X := X) (ρ := E x7 x8 x9) (G := G) (k := 1) (elt := .loc 10) (src := .loc 5) (tgt := [10]) (one := true) (ifs := [(.cmp .nin (.loc 10) (.loc 8))]) (l := S.rest) (i := r1) .int (fun x => !(lots.flatMap (·.1)).contains x) .int (loc_eq (by rw [hE]; rfl)) (by rw [hG]; exact h1) (fun v hv =>
          ⟨E x7 x8 x9 ++ [some (.int v)], by rw [hE]; rfl, and_t' (cmp_eq (loc_eq (by rw [hE]; rfl)) (loc_eq (by rw [hE]; exact congrArg some hx8)) (nin_lst _ _)), fun _ => loc_eq (by rw [hE]; rfl)⟩) (by omega)
        have e : S.rest.filter (fun x => !(lots.flatMap (·.1)).contains x) = [] := List.filter_eq_nil_iff.mpr fun x hx => by
          obtain ⟨p, hp, hxp⟩ := I.restA x hx
          have : (lots.flatMap (·.1)).contains x = true := List.contains_iff_mem.mpr (List.mem_flatMap.mpr ⟨p, hp, hxp⟩)
          rw [this]; decide
        exact this.trans (congrArg (fun l : List Int => some (MV.lst (l.map .int), G)) e)
      refine cmp_eq no (lstF_eq es0) ?_
      have := ne_lst (G := G) [] []
      exact this
  have i3 : mE X (.cmp .eq (.blt .sorted (.loc 6)) (.comp false 1 (.loc 10) [.mk [10] true .vals [(.loc 3)] [(.cmp .eq (.sub (.attr (.loc 0) n_levels) (.loc 10)) (.kI 0))]])) (E x7 x8 x9) G = some (.bool true, G) := by
    have rl := are_len I.roots
    refine cmp_eq (blt_eq (loc_eq (v := .ref r2) (by rw [hE]; rfl)) (sorted_ref (l := cI S.roots) (by rw [hG, ← iN_map]; exact h2) (by unfold cI; rw [List.length_map]; omega))) (zero _ _ _) ?_
    rw [iN_map, hD, ff, sort_are (p := fun v => (lv v == 0) && q v) I.roots fun v v1 v8 => ?_, ceq_lst, beq_self_eq_true]
    rw [Bool.and_eq_true, beq_iff_eq, ← hq v v1 v8]
    exact And.comm
  rw [← hG, ← hF, ← hD]
  show outO (mSs X [.asgT _ _, .asgT _ _, .asg 9 _, .ifS _ [.ret _] [], .ifS _ [.ret _] [], .ret _] (irE pre lots F D none none none none none none) G) = _
  rw [seq_next t0]
  show outO (mSs X _ (irE pre lots F D (some (.int (S.told : Int))) (some (.ref r1)) (some (.ref r2)) none none none) G) = _
  rw [show irE pre lots F D (some (.int (S.told : Int))) (some (.ref r1)) (some (.ref r2)) none none none = E none none none by rw [hE], seq_next t1, seq_next (t2 _ _), ← hx7, ← hx8, ← hx9, seq_next ((if_f i1).trans seq_nil), seq_next ((if_f i2).trans seq_nil), seq_stop (ret_eq i3) (by intro q; cases q)]
  rfl
end
end Mine.Law
end
section
set_option autoImplicit false
set_option linter.unusedVariables false
set_option linter.unusedSimpArgs false
set_option linter.unusedSectionVars false
set_option maxRecDepth 10000
namespace Mine.Law

theorem so_19 {G : GH} : srcO G .rng [.int 1, .int 9] = some (.no, (r8.map iN).map .val) := by kernel_rfl

section
variable {act : List Int} {a : Nat → Bool}
theorem lt_of_act (h : ∀ v, 1 ≤ v → v ≤ 8 → act.getD v 0 = if a v = true then 1024 else 0) {u v : Nat} (u1 : 1 ≤ u) (u8 : u ≤ 8) (v1 : 1 ≤ v) (v8 : v ≤ 8) : lt act u v = true ↔ (a u = true ∧ a v = false) ∨ (a u = a v ∧ u < v) := by
  unfold lt
  rw [h u u1 u8, h v v1 v8]
  unfold bef
  cases a u <;> cases a v <;> simp
theorem order_is (h : ∀ v, 1 ≤ v → v ≤ 8 → act.getD v 0 = if a v = true then 1024 else 0) {P : List Nat} (hp : P.Pairwise (fun u v => lt act u v = true)) (hm : ∀ v, v ∈ P ↔ 1 ≤ v ∧ v ≤ 8) : P = r8.filter a ++ r8.filter (fun v => !a v) := by
  have hE : (r8.filter a ++ r8.filter (fun v => !a v)).Pairwise (fun u v => lt act u v = true) := by
    have base : r8.Pairwise (fun u v => u < v) := by decide
    rw [List.pairwise_append]
    refine ⟨?_, ?_, fun u hu v hv => ?_⟩
    · refine (List.Pairwise.and_mem.mp (base.filter a)).imp ?_
      · rintro u v ⟨hu, hv, hlt⟩
        obtain ⟨hu, au⟩ := List.mem_filter.mp hu
        obtain ⟨hv, av⟩ := List.mem_filter.mp hv
        have hu := (mem_r8 u).mp hu
        have hv := (mem_r8 v).mp hv
        exact (lt_of_act h hu.1 hu.2 hv.1 hv.2).mpr (.inr ⟨by rw [au, av], hlt⟩)
    · refine (List.Pairwise.and_mem.mp (base.filter (fun v => !a v))).imp ?_
      · rintro u v ⟨hu, hv, hlt⟩
        obtain ⟨hu, au⟩ := List.mem_filter.mp hu
        obtain ⟨hv, av⟩ := List.mem_filter.mp hv
        have hu := (mem_r8 u).mp hu
        have hv := (mem_r8 v).mp hv
        simp only [Bool.not_eq_true'] at au av
        exact (lt_of_act h hu.1 hu.2 hv.1 hv.2).mpr (.inr ⟨by rw [au, av], hlt⟩)
    · obtain ⟨hu, au⟩ := List.mem_filter.mp hu
      obtain ⟨hv, av⟩ := List.mem_filter.mp hv
      have hu := (mem_r8 u).mp hu
      have hv := (mem_r8 v).mp hv
      simp only [Bool.not_eq_true'] at av
      exact (lt_of_act h hu.1 hu.2 hv.1 hv.2).mpr (.inl ⟨au, av⟩)
  have nd : ∀ {L : List Nat}, L.Pairwise (fun u v => lt act u v = true) → L.Nodup := fun hl => hl.imp fun {u v} h => by
    rintro rfl
    rw [lt_irr] at h; cases h
  refine List.Perm.eq_of_pairwise (le := fun u v => lt act u v = true) (fun u v _ _ h1 h2 => ?_) hp hE ((List.perm_ext_iff_of_nodup (nd hp) (nd hE)).mpr fun v => ?_)
  · rw [lt_asy h1] at h2; cases h2
  · rw [hm, List.mem_append, List.mem_filter, List.mem_filter, mem_r8]
    cases a v <;> simp
end

section
variable {pre post : GH} {c : Co}
noncomputable abbrev ibE (pre : GH) (due : List Nat) (x2 : Option MV) : Lo := [some (.obj c_Search pre.length), some (.lst (due.map iN)), x2]

theorem pops {lv : Nat → Int} (N : NOk lv c) {due : List Nat} {x2 : Option MV} : ∃ (P : List Nat) (c' : Co), mE XX (.comp false 1 (.meth (.attr (.loc 0) n_heap) n_pop []) [.mk [3] true .rng [(.kI 9)] []]) (ibE pre due x2) (inn pre post c) = some (.lst ((P ++ [0]).map iN), inn pre post c') ∧ P.Pairwise (fun u v => lt c.act u v = true) ∧ ∀ v, v ∈ P ↔ 1 ≤ v ∧ v ≤ 8 := by
  have hc : XX.call = mcall prog 64 17 := rfl
  have hm : XX.mth c_CoreHeap n_pop = some f_CoreHeap_pop := (by decide +kernel : pMth c_CoreHeap n_pop = some f_CoreHeap_pop)
  obtain ⟨acc, G', e, P, c', rfl, H, hact, hl, ha, hP, hM, hO⟩ := comp_inv (X := XX) (ρ := ibE pre due x2) (G := inn pre post c) (k := 1) (elt := .meth (.attr (.loc 0) n_heap) n_pop []) (tgt := [3]) (one := true) (sk := .rng) (srcs := [.kI 9]) (l := rngV 9) (G1 := inn pre post c)
    (fun j G acc => ∃ (P : List Nat) (c' : Co), G = inn pre post c' ∧ HOk c'.act c'.heap c'.place ∧ c'.act = c.act ∧ c'.heap.length + P.length = 8 ∧ (if j ≤ 8 then P.length = j ∧ acc = P.map iN else P.length = 8 ∧ j = 9 ∧ acc = (P ++ [0]).map iN) ∧ P.Pairwise (fun u v => lt c.act u v = true) ∧ (∀ v, v ∈ P ∨ v ∈ c'.heap ↔ 1 ≤ v ∧ v ≤ 8) ∧ (∀ u ∈ P, ∀ v ∈ c'.heap, lt c.act u v = true))
    (es1 kI_eq) (so_rng (n := 9) rfl (by decide)) ⟨[], c, rfl, N.heap, rfl, N.hl, by rw [if_pos (by decide)]; exact ⟨rfl, rfl⟩, List.Pairwise.nil, fun v => by rw [← N.all v]; simp, fun u hu => by cases hu⟩ (by
      rintro j v G acc hv ⟨P, c', rfl, H, hact, hl, ha, hP, hM, hO⟩
      obtain ⟨hj, rfl⟩ := rng_get hv
      rw [if_pos (by omega)] at ha
      obtain ⟨hPl, rfl⟩ := ha
      have hmeth : ∀ {r : MV × GH}, mcall prog 64 17 f_CoreHeap_pop [.obj c_CoreHeap (pre.length + 9)] (inn pre post c') = some r → mE XX (.meth (.attr (.loc 0) n_heap) n_pop []) (ibE pre due x2 ++ [some (.int (j : Int))]) (inn pre post c') = some r := fun h => by
        rw [mh (f := f_CoreHeap_pop) hm rfl (attr_eq (loc_eq rfl) (ac_heap _ _ _ _ _)) es0, hc]
        exact h
      by_cases h8 : j = 8
      · have h0 : c'.heap = [] := List.length_eq_zero_iff.mp (by omega)
        refine ⟨_, _, _, rfl, hmeth (pop_spec0 (d := 13) h0), P, c', rfl, H, hact, hl, ?_, hP, hM, hO⟩
        rw [if_neg (by omega)]
        refine ⟨by omega, by omega, ?_⟩
        rw [List.map_append]; rfl
      · have hpos : 0 < c'.heap.length := by omega
        obtain ⟨t, ht⟩ : ∃ t, c'.heap[0]? = some t := ⟨_, List.getElem?_eq_getElem hpos⟩
        obtain ⟨hp, pl, e1, e2, e3, e4, e5⟩ := pop_spec (pre := pre) (post := post) (W := 64) (d := 13) H ht (by omega) (by omega)
        have htop := H.ord.top ht
        have before : ∀ u ∈ hp, lt c.act t u = true := fun u hu => by
          obtain ⟨hu1, hne⟩ := (e3 u).mp hu
          obtain ⟨i, hi⟩ := List.mem_iff_getElem?.mp hu1
          have := htop i u hi
          rw [hact] at this
          exact lt_tot hne this
        refine ⟨_, _, _, rfl, hmeth e1, P ++ [t], { c' with heap := hp, place := pl }, rfl, e2, hact, by rw [List.length_append]; show hp.length + (P.length + 1) = 8; omega, ?_, ?_, fun v => ?_, fun u hu v hv => ?_⟩
        · rw [if_pos (by omega), List.length_append, List.map_append]
          exact ⟨by rw [hPl]; rfl, rfl⟩
        · rw [List.pairwise_append]
          refine ⟨hP, List.pairwise_singleton _ _, fun u hu v hv => ?_⟩
          rw [List.mem_singleton] at hv
          subst hv
          exact hO u hu v (List.mem_of_getElem? ht)
        · rw [← hM v, List.mem_append, List.mem_singleton]
          have h3 := e3 v
          have htm := List.mem_of_getElem? ht
          constructor
          · rintro ((k | rfl) | k)
            · exact .inl k
            · exact .inr htm
            · exact .inr (h3.mp k).1
          · rintro (k | k)
            · exact .inl (.inl k)
            · by_cases e : v = t
              · exact .inl (.inr e)
              · exact .inr (h3.mpr ⟨k, e⟩)
        · have hv' : v ∈ hp := hv
          rcases List.mem_append.mp hu with k | k
          · exact hO u k v ((e3 v).mp hv').1
          · rw [List.mem_singleton.mp k]; exact before v hv') (fun j G acc q => by
      obtain ⟨P, c', _, _, _, _, ha, _⟩ := q
      split at ha
      · rw [ha.2, List.length_map]; exact ha.1
      · rw [ha.2.2, List.length_map, List.length_append, ha.1, ha.2.1]; rfl) (by rw [rng_len]; decide)
  rw [rng_len, if_neg (by decide)] at ha
  obtain ⟨hPl, _, rfl⟩ := ha
  refine ⟨P, c', e, hP, fun v => ?_⟩
  have h0 : c'.heap = [] := List.length_eq_zero_iff.mp (by omega)
  rw [← hM v, h0]
  simp

theorem is_bumped_spec {lv : Nat → Int} {S : NS} {q : Nat → Bool} {H : Nat → Prop} {A : Int → Prop} (N : NOk lv c) (hs : c.seen = S.seen) (I : NInv lv H A S) (hq : ∀ v, 1 ≤ v → v ≤ 8 → (H v ↔ q v = true)) (hb : ∀ v, 0 ≤ lv v ∧ lv v ≤ 3) :
    ∃ c' : Co, mcall prog 64 18 f_law_is_bumped [.obj c_Search pre.length, .lst ((r8.filter q).map iN)] (inn pre post c) = some (.bool true, inn pre post c') := by
  rw [mcall_of (mf := d_law_is_bumped) rfl rfl]
  obtain ⟨D, hD⟩ : ∃ D : List Nat, D = r8.filter q := ⟨_, rfl⟩
  have hDm : ∀ v ∈ D, 1 ≤ v ∧ v ≤ 8 := fun v hv => by rw [hD] at hv; exact (mem_r8 v).mp (List.mem_filter.mp hv).1
  have hDl : D.length ≤ 4000 := by rw [hD]; exact Nat.le_trans (List.length_filter_le _ _) (by decide)
  obtain ⟨a, hA⟩ : ∃ a : Nat → Bool, a = fun v => decide (0 < lv v) && q v := ⟨_, rfl⟩
  have hact : ∀ v, 1 ≤ v → v ≤ 8 → c.act[v]? = some (if a v = true then 1024 else 0) := fun v v1 v8 => by
    obtain ⟨b, hb'⟩ : ∃ b, c.seen[v]? = some b := ⟨_, List.getElem?_eq_getElem (by rw [N.sl]; omega)⟩
    rw [N.act v b v1 v8 hb']
    have h1 := I.seen v v1 v8
    rw [← hs, hb', hq v v1 v8] at h1
    have h2 := hb v
    congr 1
    have : (b = true ∧ lv v ≠ 0) ↔ a v = true := by
      rw [hA]
      simp only [Bool.and_eq_true, decide_eq_true_eq]
      rw [← h1]
      simp only [Option.some.injEq]
      constructor
      · rintro ⟨x, y⟩; exact ⟨by omega, x⟩
      · rintro ⟨y, x⟩; exact ⟨x, by omega⟩
    by_cases hx : a v = true
    · rw [if_pos hx, if_pos (this.mpr hx)]
    · rw [if_neg hx, if_neg fun k => hx (this.mp k)]
  have hav : (r8.filter q).filter (fun v => decide (0 < lv v)) = r8.filter a := by rw [ff, hA]
  obtain ⟨Aa, hAa⟩ : ∃ Aa : List Nat, Aa = r8.filter a := ⟨_, rfl⟩
  have hmemA : ∀ v : Nat, 1 ≤ v → v ≤ 8 → (Aa.map iN = (cI Aa).map .int ∧ (cI Aa).contains (v : Int) = a v) := fun v v1 v8 => by
    refine ⟨iN_map _, ?_⟩
    have : (cI Aa).contains (v : Int) = true ↔ a v = true := by
      rw [List.contains_iff_mem, hAa]
      unfold cI
      rw [List.mem_map]
      constructor
      · rintro ⟨u, hu, e⟩
        have : u = v := by omega
        subst this
        exact (List.mem_filter.mp hu).2
      · intro h
        exact ⟨v, List.mem_filter.mpr ⟨(mem_r8 v).mpr ⟨v1, v8⟩, h⟩, rfl⟩
    exact Bool.eq_iff_iff.mpr this
  have act : mE XX (.comp false 1 (.loc 3) [.mk [3] true .vals [(.loc 1)] [(.cmp .gt (.sub (.attr (.loc 0) n_levels) (.loc 3)) (.kI 0))]]) (ibE pre D none) (inn pre post c) = some (.lst (Aa.map iN), inn pre post c) := by
    have := comp_lst (X := XX) (ρ := ibE pre D none) (G := inn pre post c) (k := 1) (elt := .loc 3) (src := .loc 1) (tgt := [3]) (one := true) (ifs := [(.cmp .gt (.sub (.attr (.loc 0) n_levels) (.loc 3)) (.kI 0))]) (l := D) iN (fun v => decide (0 < lv v)) iN (loc_eq rfl) (fun v hv =>
      ⟨ibE pre D none ++ [some (iN v)], rfl, and_t' (cmp_eq (sub_eq (attr_eq (loc_eq rfl) (ac_levels _ _ _ _ _)) (loc_eq rfl) (sub_lev (N.lev v (hDm v hv).1 (hDm v hv).2))) kI_eq rfl), fun _ => loc_eq rfl⟩) hDl
    rw [hD, hav, ← hAa, ← hD] at this
    exact this
  have t1 : mS XX (.asg 2 (.comp false 1 (.loc 3) [.mk [3] true .vals [(.loc 1)] [(.cmp .gt (.sub (.attr (.loc 0) n_levels) (.loc 3)) (.kI 0))]])) (ibE pre D none) (inn pre post c) = some (.next, ibE pre D (some (.lst (Aa.map iN))), inn pre post c) := asg_eq act rfl
  have l1 : mE XX (.comp false 1 (.sub (.attr (.attr (.loc 0) n_heap) n_activity) (.loc 3)) [.mk [3] true .rng [(.kI 1), (.kI 9)] []]) (ibE pre D (some (.lst (Aa.map iN)))) (inn pre post c) = some (.lst ((r8.map fun v => if a v = true then (1024 : Int) else 0).map .int), inn pre post c) := by
    have := comp1G (X := XX) (ρ := ibE pre D (some (.lst (Aa.map iN)))) (G := inn pre post c) (k := 1) (elt := .sub (.attr (.attr (.loc 0) n_heap) n_activity) (.loc 3)) (tgt := [3]) (one := true) (sk := .rng) (srcs := [(.kI 1), (.kI 9)]) (ifs := []) (l := r8) iN (fun _ => true) (fun v => .int (if a v = true then (1024 : Int) else 0)) (es2 kI_eq kI_eq) so_19 rfl (src_no _ _) (fun v hv => by
      obtain ⟨v1, v8⟩ := (mem_r8 v).mp hv
      exact ⟨ibE pre D (some (.lst (Aa.map iN))) ++ [some (iN v)], rfl, and_nil, fun _ => sub_eq (attr_eq (attr_eq (loc_eq rfl) (ac_heap _ _ _ _ _)) (ah_activity _ _ _ _ _)) (loc_eq rfl) (sub_act (hact v v1 v8))⟩) (by decide)
    rw [filter_true] at this
    rw [this, List.map_map]; rfl
  have l2 : mE XX (.comp false 1 (.ite (.cmp .isin (.loc 3) (.loc 2)) (.kI 1024) (.kI 0)) [.mk [3] true .rng [(.kI 1), (.kI 9)] []]) (ibE pre D (some (.lst (Aa.map iN)))) (inn pre post c) = some (.lst ((r8.map fun v => if a v = true then (1024 : Int) else 0).map .int), inn pre post c) := by
    have := comp1G (X := XX) (ρ := ibE pre D (some (.lst (Aa.map iN)))) (G := inn pre post c) (k := 1) (elt := (.ite (.cmp .isin (.loc 3) (.loc 2)) (.kI 1024) (.kI 0))) (tgt := [3]) (one := true) (sk := .rng) (srcs := [(.kI 1), (.kI 9)]) (ifs := []) (l := r8) iN (fun _ => true) (fun v => .int (if a v = true then (1024 : Int) else 0)) (es2 kI_eq kI_eq) so_19 rfl (src_no _ _) (fun v hv => by
      obtain ⟨v1, v8⟩ := (mem_r8 v).mp hv
      obtain ⟨m1, m2⟩ := hmemA v v1 v8
      refine ⟨ibE pre D (some (.lst (Aa.map iN))) ++ [some (iN v)], rfl, and_nil, fun _ => ?_⟩
      have hi : mE XX (.cmp .isin (.loc 3) (.loc 2)) (ibE pre D (some (.lst (Aa.map iN))) ++ [some (iN v)]) (inn pre post c) = some (.bool (a v), inn pre post c) := by
        refine cmp_eq (loc_eq rfl) (loc_eq rfl) ?_
        rw [m1, ← m2]
        exact in_lst _ _
      rw [ite_eq hi kI_eq kI_eq]
      cases a v <;> rfl) (by decide)
    rw [filter_true] at this
    rw [this, List.map_map]; rfl
  have i1 : mE XX (.cmp .ne (.comp false 1 (.sub (.attr (.attr (.loc 0) n_heap) n_activity) (.loc 3)) [.mk [3] true .rng [(.kI 1), (.kI 9)] []]) (.comp false 1 (.ite (.cmp .isin (.loc 3) (.loc 2)) (.kI 1024) (.kI 0)) [.mk [3] true .rng [(.kI 1), (.kI 9)] []])) (ibE pre D (some (.lst (Aa.map iN)))) (inn pre post c) = some (.bool false, inn pre post c) := by
    refine cmp_eq l1 l2 ?_
    rw [ne_lst, beq_self_eq_true]; rfl
  obtain ⟨P, c', eP, hP, hM⟩ := pops (pre := pre) (post := post) N (due := D) (x2 := some (.lst (Aa.map iN)))
  have hPe := order_is (act := c.act) (a := a) (fun v v1 v8 => by rw [List.getD_eq_getElem?_getD, hact v v1 v8]; rfl) hP hM
  have l3 : mE XX (.comp false 1 (.loc 3) [.mk [3] true .rng [(.kI 1), (.kI 9)] [(.cmp .nin (.loc 3) (.loc 2))]]) (ibE pre D (some (.lst (Aa.map iN)))) (inn pre post c') = some (.lst ((r8.filter fun v => !a v).map iN), inn pre post c') :=
    comp1G (l := r8) iN (fun v => !a v) iN (es2 kI_eq kI_eq) so_19 rfl (src_no _ _) (fun v hv => by
      obtain ⟨v1, v8⟩ := (mem_r8 v).mp hv
      obtain ⟨m1, m2⟩ := hmemA v v1 v8
      refine ⟨ibE pre D (some (.lst (Aa.map iN))) ++ [some (iN v)], rfl, and_t' (cmp_eq (loc_eq rfl) (loc_eq rfl) ?_), fun _ => loc_eq rfl⟩
      rw [m1, ← m2]
      exact nin_lst _ _) (by decide)
  have flen : ∀ p : Nat → Bool, (r8.filter p).length ≤ 8 := fun p => List.length_filter_le p r8
  have l4 : mE XX (.bin .add (.bin .add (.loc 2) (.comp false 1 (.loc 3) [.mk [3] true .rng [(.kI 1), (.kI 9)] [(.cmp .nin (.loc 3) (.loc 2))]])) (.lst false [(.kI 0)])) (ibE pre D (some (.lst (Aa.map iN)))) (inn pre post c') = some (.lst ((P ++ [0]).map iN), inn pre post c') := by
    refine bin_eq (v := .lst (Aa.map iN ++ (r8.filter fun v => !a v).map iN)) (w := .lst [.int 0]) (bin_eq (v := .lst (Aa.map iN)) (loc_eq rfl) l3 ?_) (lstF_eq (es1 kI_eq)) ?_
    · have h1 := flen a
      have h2 := flen fun v => !a v
      exact bin_app (by rw [List.length_map, List.length_map, hAa]; omega)
    · have h1 := flen a
      have h2 := flen fun v => !a v
      rw [bin_app (by rw [List.length_append, List.length_map, List.length_map, hAa, List.length_singleton]; omega), hPe, hAa, List.map_append, List.map_append]
      rfl
  refine ⟨c', ?_⟩
  rw [← hD]
  show outO (mSs XX [.asg 2 _, .ifS _ [.ret _] [], .ret _] (ibE pre D none) _) = _
  rw [seq_next t1, seq_next ((if_f i1).trans seq_nil), seq_stop (ret_eq (cmp_eq eP l4 (by rw [iN_map, ceq_lst, beq_self_eq_true]))) (by intro q; cases q)]
  rfl
end
end Mine.Law
end
section
set_option autoImplicit false
set_option linter.unusedVariables false
set_option linter.unusedSimpArgs false
set_option linter.unusedSectionVars false
set_option maxRecDepth 10000
namespace Mine.Law
theorem len12 {E : Lo} (h : E.length = 12) : ∃ x : Nat → Option MV, E = [x 0, x 1, x 2, x 3, x 4, x 5, x 6, x 7, x 8, x 9, x 10, x 11] := ⟨fun i => E.getD i default, pre_eq E h⟩
noncomputable abbrev XL : Ctx := ctx prog 64 (mcall prog 64 18)

theorem dat_fnd {G : GH} {t : Int} {i j : Nat} {R Q : List Int} (h1 : G[i]? = some (.lst (R.map .int))) (h2 : G[j]? = some (.lst (Q.map .int))) : datO G 8 (.tup [.int t, .ref i, .ref j]) = some (.tup [.int t, .lst (R.map .int), .lst (Q.map .int)]) := by
  exact mpp (o := datsW (datO G 7) [.int t, .ref i, .ref j]) (bnd (o := datO G 7 (.int t)) rfl (mpp (bnd (dat_ref h1) (mpp (bnd (dat_ref h2) rfl)))))
theorem dat_lit {G : GH} : datO G 8 (.tup [.int 0, .lst [], .lst []]) = some (.tup [.int 0, .lst (([] : List Int).map .int), .lst (([] : List Int).map .int)]) := rfl
theorem dEq_fnd (t : Int) (R Q : List Int) : dEq (.tup [.int t, .lst (R.map .int), .lst (Q.map .int)]) (.tup [.int t, .lst (R.map .int), .lst (Q.map .int)]) = true := by
  show ((t == t) && (dEqs (R.map .int) (R.map .int) && (dEqs (Q.map .int) (Q.map .int) && true))) = true
  rw [beq_self_eq_true, dEqs_int, dEqs_int, beq_self_eq_true, beq_self_eq_true]; rfl
theorem ne_fnd {G : GH} {t : Int} {a b : MV} {R Q : List Int} (h1 : datO G 8 a = some (.tup [.int t, .lst (R.map .int), .lst (Q.map .int)])) (h2 : datO G 8 b = some (.tup [.int t, .lst (R.map .int), .lst (Q.map .int)])) : cmpO G .ne a b = some false := by
  have : eqO G a b = some true := bnd h1 ((mpp h2).trans (congrArg some (dEq_fnd t R Q)))
  exact mpp this

theorem NInv.mono {lv : Nat → Int} {H : Nat → Prop} {A B : Int → Prop} {S : NS} (h : NInv lv H A S) (e : ∀ x, A x → B x) : NInv lv H B S :=
  ⟨h.sl, h.s0, h.seen, h.told, h.rest, fun x hx => e x (h.restA x hx), h.roots⟩

noncomputable def lookB : List MS := [.ifS (.no (.truth (.call f_law_is_right [(.loc 10), (.loc 5), (.loc 11), (.loc 7)]))) [.ret (.kB false)] [], .ifS (.or_ [(.cmp .ne (.call f_law_noted [(.loc 10), (.loc 5)]) (.tup [(.kI 0), (.lst false []), (.lst false [])])), (.no (.truth (.call f_law_is_bumped [(.loc 10), (.loc 7)])))]) [.ret (.kB false)] []]

section
variable {pre post : GH} {c : Co}
theorem look_spec {lv : Nat → Int} {S : NS} {lots : List (List Int × Int)} {q : Nat → Bool} {r1 r2 k : Nat} {ρ : Lo} (N : NOk lv c) (Z : Sz k c) (hk : k ≤ 20) (hs : c.seen = S.seen) (I : NInv lv (Hit lots) (Lit lots) S) (hq : ∀ v, 1 ≤ v → v ≤ 8 → (Hit lots v ↔ q v = true)) (hb : ∀ v, 0 ≤ lv v ∧ lv v ≤ 3)
    (hl : ∀ p ∈ lots, LotOk p) (hn : lots.length ≤ 20) (h1 : (inn pre post c)[r1]? = some (.lst (S.rest.map .int))) (h2 : (inn pre post c)[r2]? = some (.lst (S.roots.map iN)))
    (e10 : ρ[10]? = some (some (.obj c_Search pre.length))) (e5 : ρ[5]? = some (some (.lst (lots.map lotV)))) (e11 : ρ[11]? = some (some (.tup [.int (S.told : Int), .ref r1, .ref r2]))) (e7 : ρ[7]? = some (some (.lst ((r8.filter q).map iN)))) :
    ∃ c' : Co, mSs XL lookB ρ (inn pre post c) = some (.next, ρ, inn pre (post ++ [.lst [], .lst []]) c') := by
  have a1 := is_right_spec (pre := pre) (post := post) N hs I hq hb hl (by omega) h1 h2
  obtain ⟨c1, a2, N1, hs1, Z1⟩ := noted_spec (pre := pre) (post := post) N Z (by omega) (by omega) hl
  have ag : nall lv ⟨c.seen, 0, [], []⟩ lots = ⟨c.seen, 0, [], []⟩ := nall_again lots fun v hv => by
    have h18 : 1 ≤ v ∧ v ≤ 8 := by
      obtain ⟨p, hp, ⟨x, hx, rfl⟩, _⟩ := hv
      exact (hl p hp).2 x hx
    rw [hs]
    exact (I.seen v h18.1 h18.2).mpr hv
  rw [ag] at a2 hs1
  have a2' : mcall prog 64 18 f_law_noted [.obj c_Search pre.length, .lst (lots.map lotV)] (inn pre post c) = some (.tup [.int 0, .ref (nR pre post), .ref (nR pre post + 1)], inn2 pre post c1 [] []) := a2
  obtain ⟨c2, a3⟩ := is_bumped_spec (pre := pre) (post := post ++ [.lst [], .lst []]) N1 (hs1.trans hs) I hq hb
  have a3' : mcall prog 64 18 f_law_is_bumped [.obj c_Search pre.length, .lst ((r8.filter q).map iN)] (inn2 pre post c1 [] []) = some (.bool true, inn2 pre post c2 [] []) := a3
  refine ⟨c2, ?_⟩
  have b1 : mE XL (.no (.truth (.call f_law_is_right [(.loc 10), (.loc 5), (.loc 11), (.loc 7)]))) ρ (inn pre post c) = some (.bool (!true), inn pre post c) :=
    no_eq (tr_eq (call_eq (es4 (loc_eq e10) (loc_eq e5) (loc_eq e11) (loc_eq e7)) a1))
  have b2 : mE XL (.cmp .ne (.call f_law_noted [(.loc 10), (.loc 5)]) (.tup [(.kI 0), (.lst false []), (.lst false [])])) ρ (inn pre post c) = some (.bool false, inn2 pre post c1 [] []) :=
    cmp_eq (call_eq (es2 (loc_eq e10) (loc_eq e5)) a2') (tup_eq (es3 kI_eq (lstF_eq es0) (lstF_eq es0))) (ne_fnd (t := 0) (R := []) (Q := []) (dat_fnd (gr _ _ _ _ _) (go _ _ _ _ _)) dat_lit)
  have b3 : mE XL (.no (.truth (.call f_law_is_bumped [(.loc 10), (.loc 7)]))) ρ (inn2 pre post c1 [] []) = some (.bool (!true), inn2 pre post c2 [] []) :=
    no_eq (tr_eq (call_eq (es2 (loc_eq e10) (loc_eq e7)) a3'))
  unfold lookB
  rw [seq_next ((if_f b1).trans seq_nil), seq_next ((if_f (orE ((or_f b2).trans (or_t' b3)))).trans seq_nil), seq_nil]
  rfl
end

noncomputable abbrev lwE (l : List MV) : Lo := l.map some
section
variable {ρ : Lo} {G : GH} {cls : List Cl}
theorem lots_eq {E : Lo} (h4 : (E ++ List.replicate 3 none)[4]? = some (some (.ref 1))) (hE : E.length = 12) (hG : G[1]? = some (.lst (cls.map Cl.v))) (hn : cls.length ≤ 5) :
    mE XL (.comp false 3 (.tup [(.loc 12), (.loc 13)]) [.mk [12, 13, 14] false .vals [(.loc 4)] []]) E G = some (.lst ((whole cls).map lotV), G) := by
  have := comp_ref (X := XL) (ρ := E) (G := G) (k := 3) (elt := .tup [(.loc 12), (.loc 13)]) (src := .loc 4) (tgt := [12, 13, 14]) (one := false) (ifs := []) (l := cls) (i := 1) Cl.v (fun _ => true) (fun c => lotV (c.l, c.sk)) (loc_eq h4) hG (fun c hc => by
    obtain ⟨x, rfl⟩ := len12 hE
    exact ⟨[x 0, x 1, x 2, x 3, x 4, x 5, x 6, x 7, x 8, x 9, x 10, x 11] ++ [some (.lst (c.l.map .int)), some (.int c.sk), some (.int (c.at_ : Int))], rfl, and_nil, fun _ => tup_eq (es2 (loc_eq rfl) (loc_eq rfl))⟩) (by omega)
  rw [filter_true] at this
  rw [this]
  unfold whole
  rw [List.map_map]; rfl

theorem halves_len (cls : List Cl) : (cls.flatMap fun c => [lotV (c.l.take c.at_, c.sk), lotV (c.l.drop c.at_, c.sk)]).length = 2 * cls.length := by
  induction cls with
  | nil => rfl
  | cons c r ih => rw [List.flatMap_cons, List.length_append, ih]; simp only [List.length_cons, List.length_nil]; omega
theorem halves_eq {E : Lo} (h4 : (E ++ List.replicate 4 none)[4]? = some (some (.ref 1))) (hE : E.length = 12) (hG : G[1]? = some (.lst (cls.map Cl.v))) (hn : cls.length ≤ 5) :
    mE XL (.comp false 4 (.tup [(.loc 15), (.loc 13)]) [.mk [12, 13, 14] false .vals [(.loc 4)] [], .mk [15] true .vals [(.tup [(.slc (.loc 12) .kN (.loc 14)), (.slc (.loc 12) (.loc 14) .kN)])] []]) E G = some (.lst ((halves cls).map lotV), G) := by
  have hl := halves_len cls
  have e : (halves cls).map lotV = cls.flatMap fun c => [lotV (c.l.take c.at_, c.sk), lotV (c.l.drop c.at_, c.sk)] := by
    unfold halves
    rw [List.map_flatMap]; rfl
  rw [e]
  refine comp_of ?_ (by omega)
  have := mC_consG (X := XL) (ρ := E ++ List.replicate 4 none) (G := G) (tgt := [12, 13, 14]) (one := false) (k := .vals) (srcs := [.loc 4]) (ifs := []) (gs := [.mk [15] true .vals [(.tup [(.slc (.loc 12) .kN (.loc 14)), (.slc (.loc 12) (.loc 14) .kN)])] []]) (emit := fun ρ' G' => mE XL (.tup [(.loc 15), (.loc 13)]) ρ' G') (acc := []) (l := cls) Cl.v (fun c => [lotV (c.l.take c.at_, c.sk), lotV (c.l.drop c.at_, c.sk)]) (es1 (loc_eq h4)) (so_ref hG) (gd_ref hG) (src_ref hG) (fun c hc => by
    obtain ⟨x, rfl⟩ := len12 hE
    refine ⟨[x 0, x 1, x 2, x 3, x 4, x 5, x 6, x 7, x 8, x 9, x 10, x 11] ++ [some (.lst (c.l.map .int)), some (.int c.sk), some (.int (c.at_ : Int)), none], true, rfl, and_nil, fun h => (by cases h), fun _ acc ha => ?_⟩
    have src : mE XL (.tup [(.slc (.loc 12) .kN (.loc 14)), (.slc (.loc 12) (.loc 14) .kN)]) ([x 0, x 1, x 2, x 3, x 4, x 5, x 6, x 7, x 8, x 9, x 10, x 11] ++ [some (.lst (c.l.map .int)), some (.int c.sk), some (.int (c.at_ : Int)), none]) G = some (.tup ([c.l.take c.at_, c.l.drop c.at_].map fun l => .lst (l.map .int)), G) := by
      refine tup_eq (es2 (slc_eq (loc_eq rfl) kN_eq (loc_eq rfl) ?_) (slc_eq (loc_eq rfl) (loc_eq rfl) kN_eq ?_))
      · exact slc_hi.trans (congrArg (fun l => some (MV.lst l)) List.map_take.symm)
      · exact slc_lo.trans (congrArg (fun l => some (MV.lst l)) List.map_drop.symm)
    have := mC_consG (X := XL) (ρ := [x 0, x 1, x 2, x 3, x 4, x 5, x 6, x 7, x 8, x 9, x 10, x 11] ++ [some (.lst (c.l.map .int)), some (.int c.sk), some (.int (c.at_ : Int)), none]) (G := G) (tgt := [15]) (one := true) (k := .vals) (srcs := [(.tup [(.slc (.loc 12) .kN (.loc 14)), (.slc (.loc 12) (.loc 14) .kN)])]) (ifs := []) (gs := []) (emit := fun ρ' G' => mE XL (.tup [(.loc 15), (.loc 13)]) ρ' G') (acc := acc) (l := [c.l.take c.at_, c.l.drop c.at_]) (fun l => .lst (l.map .int)) (fun l => [lotV (l, c.sk)]) (es1 src) so_tup rfl (src_no _ _) (fun l hl =>
      ⟨[x 0, x 1, x 2, x 3, x 4, x 5, x 6, x 7, x 8, x 9, x 10, x 11] ++ [some (.lst (c.l.map .int)), some (.int c.sk), some (.int (c.at_ : Int)), some (.lst (l.map .int))], true, rfl, and_nil, fun h => (by cases h), fun _ acc ha => mC_nil (tup_eq (es2 (loc_eq rfl) (loc_eq rfl))) (by simp at ha; omega)⟩) ha
    exact this) (by rw [List.length_nil]; omega)
  rw [List.nil_append] at this
  exact this

noncomputable def pp (v : Nat) (p : List Int × Int) : Bool := (!((v : Int) == p.2)) && (p.1.contains (v : Int) || p.1.contains (-(v : Int)))
noncomputable def dueQ (lots : List (List Int × Int)) (v : Nat) : Bool := !(((lots.filter (pp v)).map fun _ => (1 : Int)) == [])
theorem dueQ_iff (lots : List (List Int × Int)) (v : Nat) : Hit lots v ↔ dueQ lots v = true := by
  unfold dueQ
  rw [Bool.not_eq_true', beq_eq_false_iff_ne, ne_eq, List.map_eq_nil_iff, List.filter_eq_nil_iff]
  have key : ∀ p : List Int × Int, pp v p = true ↔ (∃ x ∈ p.1, v = x.natAbs) ∧ (v : Int) ≠ p.2 := fun p => by
    unfold pp
    rw [Bool.and_eq_true, Bool.not_eq_true', beq_eq_false_iff_ne, Bool.or_eq_true, List.contains_iff_mem, List.contains_iff_mem]
    constructor
    · rintro ⟨hne, h | h⟩
      · exact ⟨⟨_, h, by omega⟩, hne⟩
      · exact ⟨⟨_, h, by omega⟩, hne⟩
    · rintro ⟨⟨x, hx, e⟩, hne⟩
      refine ⟨hne, ?_⟩
      rcases Int.natAbs_eq x with h | h
      · left; rw [e, ← h]; exact hx
      · right; rw [e, ← h]; exact hx
  constructor
  · rintro ⟨p, hp, h⟩ hall
    exact hall p hp ((key p).mpr h)
  · intro h
    exact Classical.byContradiction fun hn => h fun p hp hpp => hn ⟨p, hp, (key p).mp hpp⟩

theorem due_eq {E : Lo} {lots : List (List Int × Int)} (h5 : E[5]? = some (some (.lst (lots.map lotV)))) (hE : E.length = 12) (hn : lots.length ≤ 100) :
    mE XL (.comp false 1 (.loc 12) [.mk [12] true .rng [(.kI 1), (.kI 9)] [(.cmp .ne (.comp false 2 (.kI 1) [.mk [13, 14] false .vals [(.loc 5)] [(.and_ [(.cmp .ne (.loc 12) (.loc 14)), (.or_ [(.cmp .isin (.loc 12) (.loc 13)), (.cmp .isin (.neg (.loc 12)) (.loc 13))])])]]) (.lst false []))]]) E G = some (.lst ((r8.filter (dueQ lots)).map iN), G) := by
  obtain ⟨x, rfl⟩ := len12 hE
  have h5' : x 5 = some (.lst (lots.map lotV)) := by
    have : some (x 5) = some (some (MV.lst (lots.map lotV))) := h5
    exact Option.some.inj this
  rw [h5']
  refine comp1G (l := r8) iN (dueQ lots) iN (es2 kI_eq kI_eq) so_19 rfl (src_no _ _) (fun v hv => ?_) (by decide)
  refine ⟨[x 0, x 1, x 2, x 3, x 4, some (.lst (lots.map lotV)), x 6, x 7, x 8, x 9, x 10, x 11] ++ [some (iN v)], rfl, ?_, fun _ => loc_eq rfl⟩
  have hin : mE XL (.comp false 2 (.kI 1) [.mk [13, 14] false .vals [(.loc 5)] [(.and_ [(.cmp .ne (.loc 12) (.loc 14)), (.or_ [(.cmp .isin (.loc 12) (.loc 13)), (.cmp .isin (.neg (.loc 12)) (.loc 13))])])]]) ([x 0, x 1, x 2, x 3, x 4, some (.lst (lots.map lotV)), x 6, x 7, x 8, x 9, x 10, x 11] ++ [some (iN v)]) G = some (.lst (((lots.filter (pp v)).map fun _ => (1 : Int)).map .int), G) := by
    have := comp_lst (X := XL) (ρ := [x 0, x 1, x 2, x 3, x 4, some (.lst (lots.map lotV)), x 6, x 7, x 8, x 9, x 10, x 11] ++ [some (iN v)]) (G := G) (k := 2) (elt := .kI 1) (src := .loc 5) (tgt := [13, 14]) (one := false) (ifs := [(.and_ [(.cmp .ne (.loc 12) (.loc 14)), (.or_ [(.cmp .isin (.loc 12) (.loc 13)), (.cmp .isin (.neg (.loc 12)) (.loc 13))])])]) (l := lots) lotV (pp v) (fun _ => .int 1) (loc_eq rfl) (fun p hp =>
      ⟨([x 0, x 1, x 2, x 3, x 4, some (.lst (lots.map lotV)), x 6, x 7, x 8, x 9, x 10, x 11] ++ [some (iN v)]) ++ [some (.lst (p.1.map .int)), some (.int p.2)], rfl, and_t' (and2_eq (cmp_eq (loc_eq rfl) (loc_eq rfl) ne_int) (or2_eq (cmp_eq (loc_eq rfl) (loc_eq rfl) (in_lst _ _)) (cmp_eq (neg_eq (loc_eq rfl)) (loc_eq rfl) (in_lst _ _)))), fun _ => kI_eq⟩) (by omega)
    rw [this, List.map_map]; rfl
  refine and_t' (cmp_eq hin (lstF_eq es0) ?_)
  exact ne_lst _ []
end
end Mine.Law
end
section
set_option autoImplicit false
set_option linter.unusedVariables false
set_option linter.unusedSimpArgs false
set_option linter.unusedSectionVars false
set_option maxRecDepth 10000
namespace Mine.Law

noncomputable def Wd (f cl : GO) (c1 c2 c3 : Co) (tail : GH) : GH := f :: cl :: (blk 2 c1 ++ (blk 23 c2 ++ (blk 44 c3 ++ tail)))
section
variable (f cl : GO) (c1 c2 c3 : Co) (tail : GH)
theorem wd1 : Wd f cl c1 c2 c3 tail = inn [f, cl] ((blk 23 c2 ++ blk 44 c3) ++ tail) c1 := by kernel_rfl
theorem wd2 : Wd f cl c1 c2 c3 tail = inn (f :: cl :: blk 2 c1) (blk 44 c3 ++ tail) c2 := by kernel_rfl
theorem wd3 : Wd f cl c1 c2 c3 tail = inn (f :: cl :: (blk 2 c1 ++ blk 23 c2)) ([] ++ tail) c3 := by kernel_rfl
end

section
variable {pre P tail : GH} {c : Co}
theorem inn_tail (hP : pre.length + 21 + P.length = 65) (k : Nat) : (inn pre (P ++ tail) c)[65 + k]? = tail[k]? := by
  have e : inn pre (P ++ tail) c = inn pre P c ++ tail := by unfold inn; rw [List.append_assoc, List.append_assoc, List.append_assoc]
  rw [e, List.getElem?_append_right (by rw [inn_len]; omega), inn_len, hP, Nat.add_sub_cancel_left]
structure Fr (lv : Nat → Int) (c : Co) : Prop where
  n : NOk lv c
  s : c.seen = List.replicate 9 false
  z : Sz 0 c
theorem noted_at {lv : Nat → Int} {lots : List (List Int × Int)} (hP : pre.length + 21 + P.length = 65) (F : Fr lv c) (hn : lots.length ≤ 20) (hl : ∀ p ∈ lots, LotOk p) :
    ∃ c' : Co, mcall prog 64 18 f_law_noted [.obj c_Search pre.length, .lst (lots.map lotV)] (inn pre (P ++ tail) c) = some (.tup [.int ((nall lv S0 lots).told : Int), .ref (65 + tail.length), .ref (65 + tail.length + 1)], inn pre (P ++ (tail ++ [.lst ((nall lv S0 lots).rest.map .int), .lst ((nall lv S0 lots).roots.map iN)])) c') ∧ NOk lv c' ∧ c'.seen = (nall lv S0 lots).seen ∧ Sz lots.length c' := by
  obtain ⟨c', e, n, s, z⟩ := noted_spec (pre := pre) (post := P ++ tail) F.n F.z (by decide) (by omega) hl
  rw [F.s] at e s
  have hr : nR pre (P ++ tail) = 65 + tail.length := by unfold nR; rw [List.length_append]; omega
  rw [hr] at e
  unfold inn2 at e
  rw [List.append_assoc] at e
  rw [Nat.zero_add] at z
  exact ⟨c', e, n, s, z⟩
theorem look_at {lv : Nat → Int} {S : NS} {lots : List (List Int × Int)} {q : Nat → Bool} {k1 k : Nat} {ρ : Lo} (hP : pre.length + 21 + P.length = 65) (N : NOk lv c) (Z : Sz k c) (hk : k ≤ 20) (hs : c.seen = S.seen) (I : NInv lv (Hit lots) (Lit lots) S) (hq : ∀ v, 1 ≤ v → v ≤ 8 → (Hit lots v ↔ q v = true)) (hb : ∀ v, 0 ≤ lv v ∧ lv v ≤ 3)
    (hl : ∀ p ∈ lots, LotOk p) (hn : lots.length ≤ 20) (h1 : tail[k1]? = some (.lst (S.rest.map .int))) (h2 : tail[k1 + 1]? = some (.lst (S.roots.map iN)))
    (e10 : ρ[10]? = some (some (.obj c_Search pre.length))) (e5 : ρ[5]? = some (some (.lst (lots.map lotV)))) (e11 : ρ[11]? = some (some (.tup [.int (S.told : Int), .ref (65 + k1), .ref (65 + k1 + 1)]))) (e7 : ρ[7]? = some (some (.lst ((r8.filter q).map iN)))) :
    ∃ c' : Co, mSs XL lookB ρ (inn pre (P ++ tail) c) = some (.next, ρ, inn pre (P ++ (tail ++ [.lst [], .lst []])) c') := by
  obtain ⟨c', e⟩ := look_spec (pre := pre) (post := P ++ tail) (r1 := 65 + k1) (r2 := 65 + k1 + 1) N Z hk hs I hq hb hl hn (by rw [inn_tail hP]; exact h1) (by rw [Nat.add_assoc, inn_tail hP]; exact h2) e10 e5 e11 e7
  rw [List.append_assoc] at e
  exact ⟨c', e⟩
end

theorem whole_len (cls : List Cl) : (whole cls).length = cls.length := by unfold whole; rw [List.length_map]
theorem halves_len' (cls : List Cl) : (halves cls).length = 2 * cls.length := by
  have := halves_len cls
  unfold halves
  induction cls with
  | nil => rfl
  | cons c r ih => rw [List.flatMap_cons, List.length_append, ih (halves_len r)]; simp only [List.length_cons, List.length_nil]; omega

theorem plain2 (ns : List Int) (hns : ns.length ≤ 63) : ∃ W d G', d ≤ 100 ∧ mcall prog W d f_law [.lst (ns.map .int)] [] = some (.bool true, G') := by
  suffices h : ∃ G', mcall prog 64 19 f_law [.lst (ns.map .int)] [] = some (.bool true, G') by
    obtain ⟨G', h⟩ := h
    exact ⟨64, 19, G', by decide, h⟩
  rw [mcall_of (mf := d_law) rfl rfl]
  obtain ⟨sc, hsc⟩ : ∃ sc : MV, sc = .lst (ns.map .int) := ⟨_, rfl⟩
  obtain ⟨cells, hcells⟩ : ∃ cells : List Int, cells = (ns.take 50).map fun x => ((x.natAbs : Int)).fmod 1000003 := ⟨_, rfl⟩
  have t1 : mS XL (.asg 1 (.dct [n_cells, n_spot] [(.comp false 1 (.bin .mod (.blt .abs (.blt .int (.loc 12))) (.kI 1000003)) [.mk [12] true .vals [(.slc (.loc 0) .kN (.kI 50))] []]), (.kI 0)])) [some sc, none, none, none, none, none, none, none, none, none, none, none] [] = some (.next, [some sc, some (.ref 0), none, none, none, none, none, none, none, none, none, none], [fd cells 0]) := by
    have a := comp_lst (X := XL) (ρ := [some sc, none, none, none, none, none, none, none, none, none, none, none]) (G := []) (k := 1) (elt := .bin .mod (.blt .abs (.blt .int (.loc 12))) (.kI 1000003)) (src := .slc (.loc 0) .kN (.kI 50)) (tgt := [12]) (one := true) (ifs := []) (l := ns.take 50) .int (fun _ => true) (fun x => .int (((x.natAbs : Int)).fmod 1000003)) (slc_eq (loc_eq rfl) kN_eq kI_eq (by
      subst hsc
      show some (MV.lst (((ns.map .int).take 50).drop 0)) = _
      rw [List.drop_zero, List.map_take])) (fun x hx =>
      ⟨[some sc, none, none, none, none, none, none, none, none, none, none, none] ++ [some (.int x)], rfl, and_nil, fun _ => bin_eq (blt_eq (blt_eq (loc_eq rfl) rfl) rfl) kI_eq rfl⟩) (by rw [List.length_take]; omega)
    rw [filter_true] at a
    have b : mE XL (.dct [n_cells, n_spot] [(.comp false 1 (.bin .mod (.blt .abs (.blt .int (.loc 12))) (.kI 1000003)) [.mk [12] true .vals [(.slc (.loc 0) .kN (.kI 50))] []]), (.kI 0)]) [some sc, none, none, none, none, none, none, none, none, none, none, none] [] = some (.ref 0, [fd cells 0]) := by
      refine bnd (o := mEs XL _ _ _) (es2 a kI_eq) ((if_pos rfl).trans ?_)
      rw [hcells]
      unfold fd
      rw [List.map_map]
      rfl
    exact asg_eq b rfl
  obtain ⟨row, s0, s1, s2, cls, s, hp, hr, hrow, b0, b1, b2, hcl, hcn⟩ := plan_spec cells
  have t2 : mS XL (.asgT [2, 3, 4] (.call f_law_plan [(.loc 1)])) [some sc, some (.ref 0), none, none, none, none, none, none, none, none, none, none] [fd cells 0] = some (.next, [some sc, some (.ref 0), some (.lst (row.map .int)), some (.lst [.int s0, .int s1, .int s2]), some (.ref 1), none, none, none, none, none, none, none], [fd cells s, .lst (cls.map Cl.v)]) :=
    asgT_eq (call_eq (es1 (loc_eq rfl)) hp) rfl
  obtain ⟨f, hf⟩ : ∃ f : GO, f = fd cells s := ⟨_, rfl⟩
  obtain ⟨cl, hcl'⟩ : ∃ cl : GO, cl = .lst (cls.map Cl.v) := ⟨_, rfl⟩
  rw [← hf, ← hcl'] at t2
  obtain ⟨rv, hrv⟩ : ∃ rv : MV, rv = .lst (row.map .int) := ⟨_, rfl⟩
  obtain ⟨zv, hzv⟩ : ∃ zv : MV, zv = .lst [.int s0, .int s1, .int s2] := ⟨_, rfl⟩
  rw [← hrv, ← hzv] at t2
  have hG1 : ([f, cl] : GH)[1]? = some (.lst (cls.map Cl.v)) := by rw [hcl']; rfl
  have hwo := whole_ok hcl
  have hwl := whole_len cls
  obtain ⟨lots, hlots⟩ : ∃ lots, lots = whole cls := ⟨_, rfl⟩
  obtain ⟨hvs, hhvs⟩ : ∃ hvs, hvs = halves cls := ⟨_, rfl⟩
  have t3 : mS XL (.asg 5 (.comp false 3 (.tup [(.loc 12), (.loc 13)]) [.mk [12, 13, 14] false .vals [(.loc 4)] []])) [some sc, some (.ref 0), some rv, some zv, some (.ref 1), none, none, none, none, none, none, none] [f, cl] = some (.next, [some sc, some (.ref 0), some rv, some zv, some (.ref 1), some (.lst (lots.map lotV)), none, none, none, none, none, none], [f, cl]) := by
    rw [hlots]
    exact asg_eq (lots_eq rfl rfl hG1 hcn) rfl
  have t4 : mS XL (.asg 6 (.comp false 4 (.tup [(.loc 15), (.loc 13)]) [.mk [12, 13, 14] false .vals [(.loc 4)] [], .mk [15] true .vals [(.tup [(.slc (.loc 12) .kN (.loc 14)), (.slc (.loc 12) (.loc 14) .kN)])] []])) [some sc, some (.ref 0), some rv, some zv, some (.ref 1), some (.lst (lots.map lotV)), none, none, none, none, none, none] [f, cl] = some (.next, [some sc, some (.ref 0), some rv, some zv, some (.ref 1), some (.lst (lots.map lotV)), some (.lst (hvs.map lotV)), none, none, none, none, none], [f, cl]) := by
    rw [hhvs]
    exact asg_eq (halves_eq rfl rfl hG1 hcn) rfl
  rw [← hlots] at hwo hwl
  have hho : ∀ p ∈ hvs, LotOk p := by rw [hhvs]; exact halves_ok hcl
  have hhl : hvs.length ≤ 20 := by rw [hhvs, halves_len']; omega
  obtain ⟨q, hq⟩ : ∃ q, q = dueQ lots := ⟨_, rfl⟩
  have hqi : ∀ v, 1 ≤ v → v ≤ 8 → (Hit lots v ↔ q v = true) := fun v _ _ => by rw [hq]; exact dueQ_iff lots v
  obtain ⟨dv, hdv⟩ : ∃ dv : MV, dv = .lst ((r8.filter q).map iN) := ⟨_, rfl⟩
  obtain ⟨lo, hlo⟩ : ∃ lo : MV, lo = .lst (lots.map lotV) := ⟨_, rfl⟩
  obtain ⟨ha, hha⟩ : ∃ ha : MV, ha = .lst (hvs.map lotV) := ⟨_, rfl⟩
  have t5 : mS XL (.asg 7 (.comp false 1 (.loc 12) [.mk [12] true .rng [(.kI 1), (.kI 9)] [(.cmp .ne (.comp false 2 (.kI 1) [.mk [13, 14] false .vals [(.loc 5)] [(.and_ [(.cmp .ne (.loc 12) (.loc 14)), (.or_ [(.cmp .isin (.loc 12) (.loc 13)), (.cmp .isin (.neg (.loc 12)) (.loc 13))])])]]) (.lst false []))]])) [some sc, some (.ref 0), some rv, some zv, some (.ref 1), some lo, some ha, none, none, none, none, none] [f, cl] = some (.next, [some sc, some (.ref 0), some rv, some zv, some (.ref 1), some lo, some ha, some dv, none, none, none, none], [f, cl]) := by
    rw [hdv, hq, hlo]
    exact asg_eq (due_eq rfl rfl (by omega)) rfl
  rw [← hlo] at t3 t4
  rw [← hha] at t4
  obtain ⟨lv, hlv⟩ : ∃ lv, lv = lvF row s0 s1 s2 := ⟨_, rfl⟩
  have hb : ∀ v, 0 ≤ lv v ∧ lv v ≤ 3 := fun v => by rw [hlv]; exact lv_bound b0 b1 b2 row v
  have core : ∀ {pre : GH}, FreshAt pre → ∃ c : Co, Fr lv c ∧ ∀ (ρ : Lo), ρ[2]? = some (some rv) → ρ[3]? = some (some zv) → mE XL (.call f_law_core [(.loc 2), (.loc 3)]) ρ pre = some (.obj c_Search pre.length, inn pre [] c) := fun {pre} F => by
    obtain ⟨c, e, n, sn, x1, x2, x3, x4⟩ := core_spec F hr hrow b0 b1 b2
    rw [hlv]
    refine ⟨c, ⟨n, sn, ⟨by rw [x1]; rfl, by rw [x2]; rfl, by rw [x3]; rfl, by rw [x4]; rfl⟩⟩, fun ρ h2 h3 => ?_⟩
    rw [hrv] at h2
    rw [hzv] at h3
    exact call_eq (es2 (loc_eq h2) (loc_eq h3)) e
  obtain ⟨c1, F1, k1⟩ := core (fresh2 [f, cl] rfl)
  obtain ⟨c2, F2, k2⟩ := core (fresh23 (inn [f, cl] [] c1) rfl)
  obtain ⟨c3, F3, k3⟩ := core (fresh44 (inn (inn [f, cl] [] c1) [] c2) rfl)
  have hW : inn (inn (inn [f, cl] [] c1) [] c2) [] c3 = Wd f cl c1 c2 c3 [] := by kernel_rfl
  have t6 : mS XL (.asg 8 (.comp false 1 (.call f_law_core [(.loc 2), (.loc 3)]) [.mk [12] true .rng [(.kI 3)] []])) [some sc, some (.ref 0), some rv, some zv, some (.ref 1), some lo, some ha, some dv, none, none, none, none] [f, cl] = some (.next, [some sc, some (.ref 0), some rv, some zv, some (.ref 1), some lo, some ha, some dv, some (.lst [.obj c_Search 2, .obj c_Search 23, .obj c_Search 44]), none, none, none], Wd f cl c1 c2 c3 []) := by
    have := comp3 (X := XL) (ρ := [some sc, some (.ref 0), some rv, some zv, some (.ref 1), some lo, some ha, some dv, none, none, none, none]) (G := [f, cl]) (k := 1) (elt := .call f_law_core [(.loc 2), (.loc 3)]) (tgt := [12]) (one := true) (sk := .rng) (srcs := [.kI 3]) (v1 := .int 0) (v2 := .int 1) (v3 := .int 2) (es1 kI_eq) (so_rng (n := 3) rfl (by decide)) rfl (k1 _ rfl rfl) rfl (k2 _ rfl rfl) rfl (k3 _ rfl rfl)
    rw [hW] at this
    exact asg_eq this rfl
  have hrl : ∀ p ∈ lots.reverse, LotOk p := fun p hp => hwo p (List.mem_reverse.mp hp)
  obtain ⟨d1, e1, n1, s1', z1⟩ := noted_at (pre := [f, cl]) (P := blk 23 c2 ++ blk 44 c3) (tail := []) (lots := lots) rfl F1 (by omega) hwo
  obtain ⟨T1, hT1⟩ : ∃ T1 : GH, T1 = [] ++ [.lst ((nall lv S0 lots).rest.map .int), .lst ((nall lv S0 lots).roots.map iN)] := ⟨_, rfl⟩
  rw [← hT1, ← wd1, ← wd1] at e1
  obtain ⟨d2, e2, n2, s2', z2⟩ := noted_at (pre := f :: cl :: blk 2 d1) (P := blk 44 c3) (tail := T1) (lots := hvs) rfl F2 hhl hho
  have hS2 : nall lv S0 hvs = nall lv S0 lots := by rw [hhvs, hlots]; exact nall_halves cls S0
  rw [hS2] at e2 s2'
  obtain ⟨T2, hT2⟩ : ∃ T2 : GH, T2 = T1 ++ [.lst ((nall lv S0 lots).rest.map .int), .lst ((nall lv S0 lots).roots.map iN)] := ⟨_, rfl⟩
  rw [← hT2, ← wd2, ← wd2] at e2
  obtain ⟨d3, e3, n3, s3', z3⟩ := noted_at (pre := f :: cl :: (blk 2 d1 ++ blk 23 d2)) (P := []) (tail := T2) (lots := lots.reverse) rfl F3 (by rw [List.length_reverse]; omega) hrl
  obtain ⟨T3, hT3⟩ : ∃ T3 : GH, T3 = T2 ++ [.lst ((nall lv S0 lots.reverse).rest.map .int), .lst ((nall lv S0 lots.reverse).roots.map iN)] := ⟨_, rfl⟩
  rw [← hT3, ← wd3, ← wd3] at e3
  obtain ⟨S1, hS1⟩ : ∃ S1, S1 = nall lv S0 lots := ⟨_, rfl⟩
  obtain ⟨S3, hS3⟩ : ∃ S3, S3 = nall lv S0 lots.reverse := ⟨_, rfl⟩
  have I1 : NInv lv (Hit lots) (Lit lots) S1 := by rw [hS1]; exact nall0 hwo
  have I3 : NInv lv (Hit lots) (Lit lots) S3 := by
    rw [hS3]
    exact ((nall0 hrl).ext fun v _ _ => hit_rev lots v).mono fun x h => (lit_rev lots x).mp h
  rw [← hS1] at e1 s1' e2 s2' hT1 hT2
  rw [← hS3] at e3 s3' hT3
  have l1 : T1.length = 2 := by rw [hT1]; rfl
  have l2 : T2.length = 4 := by rw [hT2, List.length_append, l1]; rfl
  rw [l1] at e2
  rw [l2] at e3
  obtain ⟨f1, hf1⟩ : ∃ f1 : MV, f1 = .tup [.int (S1.told : Int), .ref 65, .ref 66] := ⟨_, rfl⟩
  obtain ⟨f2, hf2⟩ : ∃ f2 : MV, f2 = .tup [.int (S1.told : Int), .ref 67, .ref 68] := ⟨_, rfl⟩
  obtain ⟨f3, hf3⟩ : ∃ f3 : MV, f3 = .tup [.int (S3.told : Int), .ref 69, .ref 70] := ⟨_, rfl⟩
  have t7 : mS XL (.asg 9 (.comp false 2 (.call f_law_noted [(.loc 12), (.loc 13)]) [.mk [12, 13] false .zip [(.loc 8), (.lst false [(.loc 5), (.loc 6), (.rev (.loc 5))])] []])) [some sc, some (.ref 0), some rv, some zv, some (.ref 1), some lo, some ha, some dv, some (.lst [.obj c_Search 2, .obj c_Search 23, .obj c_Search 44]), none, none, none] (Wd f cl c1 c2 c3 []) = some (.next, [some sc, some (.ref 0), some rv, some zv, some (.ref 1), some lo, some ha, some dv, some (.lst [.obj c_Search 2, .obj c_Search 23, .obj c_Search 44]), some (.lst [f1, f2, f3]), none, none], Wd f cl d1 d2 d3 T3) := by
    have hrev : revO (Wd f cl c1 c2 c3 []) lo = some (.lst (lots.reverse.map lotV)) := by rw [hlo, List.map_reverse]; rfl
    rw [← hlo] at e1
    rw [← hha] at e2
    have := comp3 (X := XL) (ρ := [some sc, some (.ref 0), some rv, some zv, some (.ref 1), some lo, some ha, some dv, some (.lst [.obj c_Search 2, .obj c_Search 23, .obj c_Search 44]), none, none, none]) (G := Wd f cl c1 c2 c3 []) (k := 2) (elt := .call f_law_noted [(.loc 12), (.loc 13)]) (tgt := [12, 13]) (one := false) (sk := .zip) (srcs := [(.loc 8), (.lst false [(.loc 5), (.loc 6), (.rev (.loc 5))])]) (v1 := .tup [.obj c_Search 2, lo]) (v2 := .tup [.obj c_Search 23, ha]) (v3 := .tup [.obj c_Search 44, .lst (lots.reverse.map lotV)])
      (es2 (loc_eq rfl) (lstF_eq (es3 (loc_eq rfl) (loc_eq rfl) (rev_eq (loc_eq rfl) hrev)))) rfl rfl (call_eq (es2 (loc_eq rfl) (loc_eq rfl)) e1) rfl (call_eq (es2 (loc_eq rfl) (loc_eq rfl)) e2) rfl (call_eq (es2 (loc_eq rfl) (loc_eq rfl)) e3)
    rw [hf1, hf2, hf3]
    exact asg_eq this rfl
  have g65 : ∀ k, (Wd f cl d1 d2 d3 T3)[65 + k]? = T3[k]? := fun k => by rw [wd1]; exact inn_tail rfl k
  have q0 : T3[0]? = some (.lst (S1.rest.map .int)) := by rw [hT3, hT2, hT1]; rfl
  have q1 : T3[1]? = some (.lst (S1.roots.map iN)) := by rw [hT3, hT2, hT1]; rfl
  have q2 : T3[2]? = some (.lst (S1.rest.map .int)) := by rw [hT3, hT2, hT1]; rfl
  have q3 : T3[3]? = some (.lst (S1.roots.map iN)) := by rw [hT3, hT2, hT1]; rfl
  have q4 : T3[4]? = some (.lst (S3.rest.map .int)) := by rw [hT3, hT2, hT1]; rfl
  have q5 : T3[5]? = some (.lst (S3.roots.map iN)) := by rw [hT3, hT2, hT1]; rfl
  obtain ⟨E, hE⟩ : ∃ E : Option MV → Option MV → Lo, E = fun x10 x11 => [some sc, some (.ref 0), some rv, some zv, some (.ref 1), some lo, some ha, some dv, some (.lst [.obj c_Search 2, .obj c_Search 23, .obj c_Search 44]), some (.lst [f1, f2, f3]), x10, x11] := ⟨_, rfl⟩
  have t8 : mE XL (.cmp .ne (.sub (.loc 9) (.kI 0)) (.sub (.loc 9) (.kI 1))) (E none none) (Wd f cl d1 d2 d3 T3) = some (.bool false, Wd f cl d1 d2 d3 T3) := by
    refine cmp_eq (v := f1) (w := f2) (sub_eq (v := .lst [f1, f2, f3]) (w := .int 0) (loc_eq (by rw [hE]; rfl)) kI_eq rfl) (sub_eq (v := .lst [f1, f2, f3]) (w := .int 1) (loc_eq (by rw [hE]; rfl)) kI_eq rfl) ?_
    rw [hf1, hf2]
    exact ne_fnd (t := (S1.told : Int)) (R := S1.rest) (Q := cI S1.roots) (dat_fnd ((g65 0).trans q0) (((g65 1).trans q1).trans (by rw [iN_map]))) (dat_fnd ((g65 2).trans q2) (((g65 3).trans q3).trans (by rw [iN_map])))
  have E5 : ∀ x10 x11, (E x10 x11)[5]? = some (some (.lst (lots.map lotV))) := fun _ _ => by rw [hE, ← hlo]; rfl
  have E7 : ∀ x10 x11, (E x10 x11)[7]? = some (some (.lst ((r8.filter q).map iN))) := fun _ _ => by rw [hE, ← hdv]; rfl
  obtain ⟨m1, u1⟩ := look_at (pre := [f, cl]) (P := blk 23 d2 ++ blk 44 d3) (tail := T3) (c := d1) (k1 := 0) (ρ := E (some (.obj c_Search 2)) (some f1)) rfl n1 z1 (by omega) s1' I1 hqi hb hwo (by omega) q0 q1 (by rw [hE]; rfl) (E5 _ _) (by rw [hE, hf1]; rfl) (E7 _ _)
  rw [← wd1, ← wd1] at u1
  obtain ⟨m2, u2⟩ := look_at (pre := f :: cl :: blk 2 m1) (P := blk 44 d3) (tail := T3 ++ [.lst [], .lst []]) (c := d2) (k1 := 2) (ρ := E (some (.obj c_Search 23)) (some f2)) rfl n2 z2 (by omega) s2' I1 hqi hb hwo (by omega) (by rw [hT3, hT2, hT1]; rfl) (by rw [hT3, hT2, hT1]; rfl) (by rw [hE]; rfl) (E5 _ _) (by rw [hE, hf2]; rfl) (E7 _ _)
  rw [← wd2, ← wd2] at u2
  obtain ⟨m3, u3⟩ := look_at (pre := f :: cl :: (blk 2 m1 ++ blk 23 m2)) (P := []) (tail := T3 ++ [.lst [], .lst []] ++ [.lst [], .lst []]) (c := d3) (k1 := 4) (ρ := E (some (.obj c_Search 44)) (some f3)) rfl n3 z3 (by rw [List.length_reverse]; omega) s3' I3 hqi hb hwo (by omega) (by rw [hT3, hT2, hT1]; rfl) (by rw [hT3, hT2, hT1]; rfl) (by rw [hE]; rfl) (E5 _ _) (by rw [hE, hf3]; rfl) (E7 _ _)
  rw [← wd3, ← wd3] at u3
  have t9 : mS XL (.forS [10, 11] false .zip [(.loc 8), (.loc 9)] lookB) (E none none) (Wd f cl d1 d2 d3 T3) = some (.next, E (some (.obj c_Search 44)) (some f3), Wd f cl m1 m2 m3 (T3 ++ [.lst [], .lst []] ++ [.lst [], .lst []] ++ [.lst [], .lst []])) := by
    refine for3 (v1 := .tup [.obj c_Search 2, f1]) (v2 := .tup [.obj c_Search 23, f2]) (v3 := .tup [.obj c_Search 44, f3]) (es2 (loc_eq (v := .lst [.obj c_Search 2, .obj c_Search 23, .obj c_Search 44]) (by rw [hE]; rfl)) (loc_eq (v := .lst [f1, f2, f3]) (by rw [hE]; rfl))) rfl ?_ u1 ?_ u2 ?_ u3
    · rw [hE]; rfl
    · rw [hE]; rfl
    · rw [hE]; rfl
  refine ⟨Wd f cl m1 m2 m3 (T3 ++ [.lst [], .lst []] ++ [.lst [], .lst []] ++ [.lst [], .lst []]), ?_⟩
  show outO (mSs XL [.asg 1 _, .asgT _ _, .asg 5 _, .asg 6 _, .asg 7 _, .asg 8 _, .asg 9 _, .ifS _ [.ret _] [], .forS _ _ _ _ lookB, .ret _] [some (.lst (ns.map .int)), none, none, none, none, none, none, none, none, none, none, none] []) = _
  rw [← hsc, seq_next t1, seq_next t2, seq_next t3, seq_next t4, seq_next t5, seq_next t6, seq_next t7]
  rw [show ([some sc, some (.ref 0), some rv, some zv, some (.ref 1), some lo, some ha, some dv, some (.lst [.obj c_Search 2, .obj c_Search 23, .obj c_Search 44]), some (.lst [f1, f2, f3]), none, none] : Lo) = E none none by rw [hE]]
  rw [seq_next ((if_f t8).trans seq_nil), seq_next t9, seq_stop (ret_eq kB_eq) (by intro q; cases q)]
  rfl
end Mine.Law
end
theorem PySem.Challenge.cw_qz0032_02_holds : PySem.Challenge.rw_qz0032_02.Holds :=
  Mine.law2 Mine.Law.plain2
