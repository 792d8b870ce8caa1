import PyProof.Rows.All
import PySem.Str
import HandS.ForMost
import HandS.Exc
import HandS.Dict
import KE.KDictKeyed
import KE.KeyNested
import Wide.All
import OpenK.AllK
import Wide.FinOn
import HandS.WordsExc
import HandS.ExcOwn
import HandS.ExcInit
import HandS.ExcCtx
import HandS.Ends
import HandS.Walk
import HandS.Rev
import PyProof.EqLayable
import KE.LtData
import HandS.TupAny
import HandS.Wide
import HandS.Deep
import HandS.IsInst
import HandS.Conv
import HandS.TupLen
import HandS.WordsDict
import KE.SortData
import HandS.TupSets
import HandS.SortInts
import HandS.Small
import HandS.More
import PyProof.DictCompW
import HandS.DictComp
import HandS.Words
import HandS.NamedTupSort
import PyProof.InstNe
import HandS.Style
import KE.GoesEnum
import KE.KDictDisplayH
import KE.DataMinMax
import HandS.DictEq
import KE.KDictCopyH
import HandS.Iter
import KE.KIndexOf
import HandS.ExcIs
import HandS.ExcField
import HandS.TupLe
import HandS.SetFor
import HandS.Zip
import PyProof.SetRoads
import PyProof.ReprRoads
import HandS.Text
import HandS.HotCalls
import HandS.TupMul
import HandS.Strs
import HandS.WideBits
import KE.KDictWalk
import KE.GoesMore
import HandS.Sort
import KE.KDictZip
import HandS.Call
import PySem.Challenge.RW_evenorders_k70_whole_most_asks_by_all_ga
import KE.RegKIsAll
section
set_option linter.all false
/-! The evaluator: Python's values by value, environments of slots, a state-and-exception monad. Plain Lean. -/
namespace DL
open PySem (Str)

/-- a value by value; ins c fs: an instance of the class number c, its attributes in order; scr: the script's list -/
inductive D where
  | non | bl (b : Bool) | int (i : Int) | str (x : Str)
  | tup (xs : List D) | lst (xs : List D) | set (xs : List D)
  | dic (t : Bool) (kvs : List (D × D)) | ins (c : Nat) (fs : List D)
  | scr (xs : List D)
  | fdc (t : Bool) (kvs : List (D × D))
  | ptup (xs : List D)
  | dcn (kvs : List (D × D))
  | opq
  deriving Inhabited

/-- a slot of an environment: empty; a frozen value; a mutable object that only this name holds; one that the caller lent; a lent one, frozen since -/
inductive Slot where
  | no | val (d : D) | own (d : D) | brw (d : D) | fbr (d : D)
  deriving Inhabited

abbrev Env := List Slot

/-- an expression's result: a frozen value; a new object; what slot i holds -/
inductive RV where
  | fz (d : D) | tmp (d : D) | loc (i : Nat)
  deriving Inhabited

/-- an exception: its class, its attributes -/
structure Exn where
  c : Nat
  fs : List D

inductive Res (α : Type) where
  | ok (a : α) (r : Env) | exc (x : Exn) (r : Env) | bad

def M (α : Type) := Env → Res α

def pur {α : Type} (a : α) : M α := fun r => .ok a r
def badM {α : Type} : M α := fun _ => .bad
def bnd {α β : Type} (m : M α) (k : α → M β) : M β := fun r => match m r with
  | .ok a r' => k a r'
  | .exc x r' => .exc x r'
  | .bad => .bad

theorem bnd_assoc {α β γ : Type} (m : M α) (k : α → M β) (l : β → M γ) : bnd (bnd m k) l = bnd m fun a => bnd (k a) l := by
  funext r
  unfold bnd
  cases m r <;> rfl
theorem bnd_pur {α : Type} (m : M α) : bnd m pur = m := by
  funext r
  unfold bnd
  cases m r <;> rfl

/-! ### results -/
def vw (r : Env) : RV → Option D
  | .fz d => some d
  | .tmp d => some d
  | .loc i => match r[i]? with
    | some (.val d) => some d
    | some (.own d) => some d
    | some (.brw d) => some d
    | some (.fbr d) => some d
    | _ => none
def frz : RV → M D
  | .fz d => pur d
  | .tmp d => pur d
  | .loc i => fun r => match r[i]? with
    | some (.own d) => .ok d (r.set i (.val d))
    | some (.brw d) => .ok d (r.set i (.fbr d))
    | some (.val d) => .ok d r
    | some (.fbr d) => .ok d r
    | _ => .bad
/-- the value of a result, as it stands -/
def vwM (v : RV) : M D := fun r => match vw r v with
  | some d => .ok d r
  | none => .bad
def lift {α : Type} : Option α → M α
  | some a => pur a
  | none => badM

/-! ### expressions -/
def eVar (i : Nat) : M RV := fun r => match r[i]? with
  | some (.val d) => .ok (.fz d) r
  | some (.fbr d) => .ok (.fz d) r
  | some (.own _) => .ok (.loc i) r
  | some (.brw _) => .ok (.loc i) r
  | _ => .bad
def eC (d : D) : M RV := pur (.fz d)
/-- a value, frozen -/
def eF (a : M RV) : M D := bnd a frz
def eFs : List (M RV) → M (List D)
  | [] => pur []
  | a :: as => bnd (eF a) fun d => bnd (eFs as) fun ds => pur (d :: ds)
/-- (a, b, ..) and [a, b, ..]; at most line many -/
def line : Nat := 16777216
def eTup (as : List (M RV)) : M RV := bnd (eFs as) fun ds => pur (.fz (.tup ds))
def eLst (as : List (M RV)) : M RV := bnd (eFs as) fun ds => pur (.tmp (.lst ds))
def eOp1 (f : D → Option RV) (a : M RV) : M RV := bnd a fun x => bnd (vwM x) fun d => lift (f d)
def eOp2 (f : D → D → Option RV) (a b : M RV) : M RV := bnd a fun x => bnd b fun y => bnd (vwM x) fun d => bnd (vwM y) fun e => lift (f d e)

/-! ### truth, tests -/
def tru : D → Option Bool
  | .non => some false
  | .bl b => some b
  | .int i => some (i != 0)
  | .str x => some (x.length != 0)
  | .tup xs => some (!xs.isEmpty)
  | .lst xs => some (!xs.isEmpty)
  | .dic _ kvs => some (!kvs.isEmpty)
  | .set _ => none
  | .ins _ _ => none
  | .fdc _ _ => none
  | .scr _ => none
  | .ptup _ => none
  | .dcn _ => none
  | .opq => none
/-- a test whose value is a bool -/
def tV (a : M RV) : M Bool := bnd a fun x => match x with
  | .fz (.bl b) => pur b
  | _ => badM
def tT (a : M RV) : M Bool := bnd a fun x => bnd (vwM x) fun d => lift (tru d)
def tAnd (a b : M Bool) : M Bool := bnd a fun x => if x then b else pur false
def tOr (a b : M Bool) : M Bool := bnd a fun x => if x then pur true else b
def tNot (a : M Bool) : M Bool := bnd a fun x => pur (!x)
def eB (a : M Bool) : M RV := bnd a fun x => pur (.fz (.bl x))
def eIf (c : M Bool) (a b : M RV) : M RV := bnd c fun x => if x then a else b

/-! ### statements -/
inductive Flow where
  | nx | ret (v : RV) | brk | cnt

abbrev S := M Flow
def sNx : S := pur .nx
def sSeq (a b : S) : S := bnd a fun f => match f with
  | .nx => b
  | .ret v => pur (.ret v)
  | .brk => pur .brk
  | .cnt => pur .cnt
/-- slot i is stored; a lent one isn't -/
def put (i : Nat) (x : Slot) : M Unit := fun r => match r[i]? with
  | some .no => .ok () (r.set i x)
  | some (.val _) => .ok () (r.set i x)
  | some (.own _) => .ok () (r.set i x)
  | _ => .bad
/-- what a result becomes in a slot -/
def asSlot : RV → M Slot
  | .fz d => pur (.val d)
  | .tmp d => pur (.own d)
  | .loc i => bnd (frz (.loc i)) fun d => pur (.val d)
def sSet (i : Nat) (a : M RV) : S := bnd a fun v => bnd (asSlot v) fun s => bnd (put i s) fun _ => pur .nx
def sRet (a : M RV) : S := bnd a fun v => pur (.ret v)
def sExpr (a : M RV) : S := bnd a fun _ => pur .nx
def sIf (c : M Bool) (a b : S) : S := bnd c fun x => if x then a else b
def sRaise (c : Nat) (as : List (M RV)) : S := bnd (eFs as) fun ds => fun r => .exc ⟨c, ds⟩ r

/-! ### loops -/
/-- a target: a name, or a tuple of targets -/
inductive Tg where
  | nm (i : Nat) | tp (ts : List Tg)
mutual
def Tg.ns : Tg → List Nat
  | .nm i => [i]
  | .tp ts => Tg.nss ts
def Tg.nss : List Tg → List Nat
  | [] => []
  | t :: ts => t.ns ++ Tg.nss ts
end
mutual
def asg : Tg → D → M Unit
  | .nm i, d => put i (.val d)
  | .tp ts, d => match d with
    | .tup ds => asgs ts ds
    | _ => badM
def asgs : List Tg → List D → M Unit
  | [], [] => pur ()
  | t :: ts, d :: ds => bnd (asg t d) fun _ => asgs ts ds
  | _, _ => badM
end
def forGo (t : Tg) (body : S) : List D → S
  | [] => pur .nx
  | d :: ds => bnd (asg t d) fun _ => bnd body fun f => match f with
    | .nx => forGo t body ds
    | .cnt => forGo t body ds
    | .brk => pur .nx
    | .ret v => pur (.ret v)
def seqOf : D → Option (List D)
  | .lst xs => some xs
  | .tup xs => some xs
  | .ptup xs => some xs
  | _ => none
def iSeq (a : M RV) : M (List D) := bnd (eF a) fun d => lift (seqOf d)
def rng (lo hi : Int) : List D := (List.range (hi - lo).toNat).map fun (i : Nat) => D.int (lo + (i : Int))
def big62 (i : Int) : Bool := decide (-(2 ^ 62) ≤ i) && decide (i < 2 ^ 62)
def iRng1 (a : M RV) : M (List D) := bnd a fun x => match x with
  | .fz (.int j) => if big62 j then pur (rng 0 j) else badM
  | _ => badM
def iRng2 (a b : M RV) : M (List D) := bnd a fun x => bnd b fun y => match x, y with
  | .fz (.int i), .fz (.int j) => if big62 i && big62 j then pur (rng i j) else badM
  | _, _ => badM
def sFor (t : Tg) (it : M (List D)) (body : S) : S := bnd it fun ds => forGo t body ds
def whileGo (c : M Bool) (body : S) : Nat → S
  | 0 => badM
  | n + 1 => bnd c fun x => if x then (bnd body fun f => match f with
    | .nx => whileGo c body n
    | .cnt => whileGo c body n
    | .brk => pur .nx
    | .ret v => pur (.ret v)) else pur .nx
/-- turns enough -/
def many : Nat := 1000000000
def sWhile (c : M Bool) (body : S) : S := whileGo c body many

/-! ### comprehensions: nothing is raised in one -/
/-- the block's own names are empty ahead of each turn and behind the last -/
def wip : List Nat → M Unit
  | [] => pur ()
  | i :: is => bnd (wip is) fun _ => put i .no
def compGo (is : List Nat) (t : Tg) (c : M Bool) (e : M RV) : List D → List D → M (List D)
  | [], acc => pur acc
  | d :: ds, acc => bnd (asg t d) fun _ => bnd c fun x => if x then (bnd (eF e) fun y => bnd (wip is) fun _ => if acc.length < line then compGo is t c e ds (acc ++ [y]) else badM) else (bnd (wip is) fun _ => compGo is t c e ds acc)
def noexc {α : Type} (m : M α) : M α := fun r => match m r with
  | .exc _ _ => .bad
  | x => x
/-- the names around that are called as the block's own -/
def plainAt (r : Env) (i : Nat) : Bool := match r[i]? with
  | some .no => true
  | some (.val _) => true
  | _ => false
/-- m, run with the slots is empty; they are as before behind it -/
def rest (is : List Nat) (r0 r : Env) : Env := is.foldr (fun i r => r.set i (r0.getD i .no)) r
def inBlk {α : Type} (is : List Nat) (m : M α) : M α := fun r => if is.all (plainAt r) then
  (match bnd (wip is) (fun _ => noexc m) r with
    | .ok a r' => .ok a (rest is r r')
    | _ => .bad) else .bad
def eComp (is : List Nat) (t : Tg) (it : M (List D)) (c : M Bool) (e : M RV) : M RV :=
  bnd it fun ds => bnd (inBlk is (compGo is t c e ds [])) fun ys => pur (.tmp (.lst ys))
def tYes : M Bool := pur true

/-! ### functions -/
/-- a def: from the arguments' slots to its result and the arguments' slots behind -/
abbrev Fn := List Slot → Res RV
/-- the result as the caller gets it -/
def fin (n : Nat) (v : RV) : M RV := match v with
  | .fz d => pur (.fz d)
  | .tmp d => pur (.tmp d)
  | .loc i => fun r => match r[i]? with
    | some (.own d) => if i < n then .ok (.fz d) (r.set i (.val d)) else .ok (.tmp d) r
    | some (.brw d) => .ok (.fz d) (r.set i (.fbr d))
    | some (.val d) => .ok (.fz d) r
    | some (.fbr d) => .ok (.fz d) r
    | _ => .bad
/-- a def of n parameters and k further names -/
def fn (n k : Nat) (body : S) : Fn := fun args => if args.length = n then
  (match body (args ++ List.replicate k .no) with
    | .ok .nx r => .ok (.fz .non) (r.take n)
    | .ok (.ret v) r => (match fin n v r with
      | .ok w r' => .ok w (r'.take n)
      | _ => .bad)
    | .exc x r => .exc x (r.take n)
    | _ => .bad) else .bad
/-- an argument's slot for the callee -/
def argSlot (v : RV) (r : Env) : Option Slot := match v with
  | .fz d => some (.val d)
  | .tmp d => some (.own d)
  | .loc i => match r[i]? with
    | some (.own d) => some (.brw d)
    | some (.brw d) => some (.brw d)
    | some (.val d) => some (.val d)
    | some (.fbr d) => some (.val d)
    | _ => none
def argSlots (r : Env) : List RV → Option (List Slot)
  | [] => some []
  | v :: vs => match argSlot v r, argSlots r vs with
    | some s, some ss => some (s :: ss)
    | _, _ => none
/-- the caller's slot behind the call -/
def backOne (v : RV) (s : Slot) (r : Env) : Option Env := match v with
  | .loc i => match r[i]?, s with
    | some (.own _), .brw d => some (r.set i (.own d))
    | some (.own _), .fbr d => some (r.set i (.val d))
    | some (.brw _), .brw d => some (r.set i (.brw d))
    | some (.brw _), .fbr d => some (r.set i (.fbr d))
    | some (.val _), _ => some r
    | some (.fbr _), _ => some r
    | _, _ => none
  | _ => some r
def backAll : List RV → List Slot → Env → Option Env
  | [], [], r => some r
  | v :: vs, s :: ss, r => match backOne v s r with
    | some r' => backAll vs ss r'
    | none => none
  | _, _, _ => none
def locs : List RV → List Nat
  | [] => []
  | .loc i :: vs => i :: locs vs
  | _ :: vs => locs vs
def callFn (f : Fn) (vs : List RV) : M RV := fun r =>
  if (locs vs).Nodup then
    (match argSlots r vs with
    | some ss => (match f ss with
      | .ok w ss' => (match backAll vs ss' r with
        | some r' => .ok w r'
        | none => .bad)
      | .exc x ss' => (match backAll vs ss' r with
        | some r' => .exc x r'
        | none => .bad)
      | .bad => .bad)
    | none => .bad) else .bad
def eArgs : List (M RV) → M (List RV)
  | [] => pur []
  | a :: as => bnd a fun v => bnd (eArgs as) fun vs => pur (v :: vs)
def eCall (f : Fn) (as : List (M RV)) : M RV := bnd (eArgs as) fun vs => callFn f vs
/-- an argument that the callee may keep: frozen -/
def eFz (a : M RV) : M RV := bnd (eF a) fun d => pur (.fz d)

end DL

end

section
set_option Elab.async false
set_option linter.all false
set_option maxRecDepth 100000
/-! Dicts whose keys are whole numbers in tuples in tuples: what is true of the one object. -/
namespace DL
open PySem L2 PyProof.Rows
/-- a key: a whole number, or a tuple of keys -/
inductive IK where
  | num (i : Int)
  | tup (l : List IK)
mutual
def IK.nk : IK → NestedKey
  | .num i => .num i
  | .tup l => .tup (IK.nks l)
def IK.nks : List IK → List NestedKey
  | [] => []
  | k :: l => k.nk :: IK.nks l
end
mutual
theorem nk_inj : ∀ {k l : IK}, k.nk = l.nk → k = l
  | .num a, .num b, h => by
    unfold IK.nk at h
    rw [NestedKey.num.inj h]
  | .num _, .tup _, h => by unfold IK.nk at h; cases h
  | .tup _, .num _, h => by unfold IK.nk at h; cases h
  | .tup a, .tup b, h => by
    unfold IK.nk at h
    rw [nks_inj (NestedKey.tup.inj h)]
theorem nks_inj : ∀ {k l : List IK}, IK.nks k = IK.nks l → k = l
  | [], [], _ => rfl
  | [], _ :: _, h => by unfold IK.nks at h; cases h
  | _ :: _, [], h => by unfold IK.nks at h; cases h
  | a :: k, b :: l, h => by
    unfold IK.nks at h
    obtain ⟨h1, h2⟩ := List.cons.inj h
    rw [nk_inj h1, nks_inj h2]
end
instance : DecidableEq IK := fun a b => if h : a.nk = b.nk then .isTrue (nk_inj h) else .isFalse fun e => h (e ▸ rfl)
mutual
theorem nk_hash (w w' : World) : ∀ k : IK, k.nk.hash w = k.nk.hash w'
  | .num i => by unfold IK.nk; rfl
  | .tup l => by
    unfold IK.nk
    show reduceHash (Builtin.Tuple.tupleHashOf (NestedKey.hashes w (IK.nks l))) = reduceHash (Builtin.Tuple.tupleHashOf (NestedKey.hashes w' (IK.nks l)))
    rw [nks_hash w w' l]
theorem nks_hash (w w' : World) : ∀ l : List IK, NestedKey.hashes w (IK.nks l) = NestedKey.hashes w' (IK.nks l)
  | [] => rfl
  | k :: l => by
    unfold IK.nks
    show NestedKey.hash w k.nk :: NestedKey.hashes w (IK.nks l) = NestedKey.hash w' k.nk :: NestedKey.hashes w' (IK.nks l)
    rw [nk_hash w w' k, nks_hash w w' l]
end
/-- how deep a key may be -/
def ikMax : Nat := 8
def IK.flat (k : IK) : Bool := decide (k.nk.depth ≤ ikMax)
/-- the kind of keys: whole numbers in tuples in tuples -/
def rowsKind (P : Program) (w : World) : HeapKind P w IK where
  is := fun h k a => NestedIs h k.nk (.ref a) ∧ k.nk.depth ≤ ikMax
  hash := fun k => k.nk.hash w
  draws := fun k => k.nk.draws
  room := fun A => A.units + ikMax < cLine
  inj := fun p q => nk_inj (NestedIs.inj _ _ _ p.1 q.1)
  keeps := fun {h1 h2 k a d o es ep} p got isd same => by
    refine ⟨NestedIs.at (fun c oc vs m gc ic => ?_) k.nk _ p.1, p.2⟩
    by_cases z : c = d
    · subst z
      rw [got] at gc
      cases gc
      rw [isd] at ic
      cases ic
    · exact (same.2 c z).trans gc
  pyHash := fun ru p q => pyHash_key _ _ _ _ _ p.1 (Nat.lt_of_le_of_lt (Nat.add_le_add_left p.2 _) ru) q
  eqBool := fun {A E s x y a b Q} ru p q r => eqAt_key x.nk y.nk A s _ _ p.1 q.1 (Nat.lt_of_le_of_lt (Nat.add_le_add_left (Nat.le_trans (Nat.min_le_left _ _) p.2) _) ru) _ _ _ _ (by
    have e : decide (x.nk = y.nk) = decide (x = y) := decide_eq_decide.mpr ⟨nk_inj, fun z => by rw [z]⟩
    rw [← NestedKey.decide_eq, e]
    exact r)
  quiet := fun {A E s k a Q} p r => quiet_key k.nk _ ikMax s p.1 p.2 A E Q r
abbrev NEnt := IK × Addr × V
abbrev KNrel : List NEnt → List (IK × Addr × Value) → Prop := Paired fun p q => p.1 = q.1 ∧ p.2.1 = q.2.1 ∧ RelV p.2.2 q.2.2
/-- at a stands a dict of these entries -/
def PhiN (a : Addr) (xs : List NEnt) (h : Heap) : Prop := (a == sysModules) = false ∧ xs.length ≤ sizeLine ∧ ∃ vs, KNrel xs vs ∧ ∃ o es ep, h.get? a = some o ∧ o.ExactDict ∧ o.data = .dict es ep ∧
  (∀ (P : Program) (w : World), es.toList = vs.map (entryOfKey (rowsKind P w))) ∧ (vs.map (·.1)).Nodup
theorem PhiN.stay {a : Addr} {xs : List NEnt} {h h' : Heap} (x : PhiN a xs h) (k : ∀ o, h.get? a = some o → h'.get? a = some o) : PhiN a xs h' := by
  obtain ⟨h0, h1, vs, h2, o, es, ep, h3, h4⟩ := x
  exact ⟨h0, h1, vs, h2, o, es, ep, k _ h3, h4⟩
theorem PhiN.obj {P : Program} {w : World} {H : Hp} {a : Addr} {xs : List NEnt} {h : Heap} (x : PhiN a xs h) : ObjOk P w H h a (.ext (PhiN a xs)) := by
  refine ⟨x, ?_, fun h1 h2 y k => y.stay k⟩
  obtain ⟨h0, h1, vs, h2, o, es, ep, h3, h4⟩ := x
  exact ⟨o, h3⟩
/-- its address is the tracked one -/
theorem PhiN.at {P : Program} {w : World} {H : Hp} {a a' : Addr} {xs : List NEnt} {h : Heap} (x : ObjOk P w H h a (.ext (PhiN a' xs))) : a' = a ∧ PhiN a xs h := by
  obtain ⟨p, ⟨o, e⟩, st⟩ := x
  have z : a' = a := Classical.byContradiction fun ne => by
    have q := st h (PySem.W.hideAll h [a']) p fun o e => PySem.W.hideAll_get [a'] e fun m => ne (List.mem_singleton.mp m).symm
    obtain ⟨_, _, vs, _, o, es, ep, h3, _⟩ := q
    rw [PySem.W.hideAll_none [a'] (List.mem_singleton.mpr rfl)] at h3
    cases h3
  subst z
  exact ⟨rfl, p⟩
mutual
/-- this value is the key -/
inductive IsK (H : Hp) : V → IK → Prop
  | int (i : Int) : IsK H (.int i) (.num i)
  | tup {c : Addr} {vs : List V} {l : List IK} : Rd H c (.tup vs) → IsKs H vs l → IsK H (.ref c) (.tup l)
inductive IsKs (H : Hp) : List V → List IK → Prop
  | nil : IsKs H [] []
  | cons {v : V} {vs : List V} {k : IK} {l : List IK} : IsK H v k → IsKs H vs l → IsKs H (v :: vs) (k :: l)
end
mutual
theorem IsK.is {P : Program} {w : World} {H : Hp} {h : Heap} (ok : HOk P w H h) : ∀ {k : IK} {v : V} {u : Value}, IsK H v k → RelV v u → NestedIs h k.nk u
  | .num i, _, u, .int _, r => by
    obtain ⟨t, rfl⟩ := (show ∃ t, u = Value.int i t from r)
    exact .int _ _
  | .tup l, _, u, .tup rd ks, r => by
    cases (show u = Value.ref _ from r)
    obtain ⟨_, its, rr, o, h1, h2, n, h3⟩ := rd.ok ok
    unfold IK.nk
    exact .tup h1 h2 h3 (by simpa using IsKs.is ok ks rr)
theorem IsKs.is {P : Program} {w : World} {H : Hp} {h : Heap} (ok : HOk P w H h) : ∀ {l : List IK} {vs : List V} {us : List Value}, IsKs H vs l → Vals vs us → NestedAll h (IK.nks l) us
  | [], _, us, .nil, r => by cases r; exact .nil
  | k :: l, _, us, .cons a b, r => by
    cases r with
    | cons q t =>
      unfold IK.nks
      exact .cons (a.is ok q) (b.is ok t)
end
/-- at b stands a key -/
def KeyN (H : Hp) (b : Addr) (k : IK) : Prop := IsK H (.ref b) k ∧ k.flat = true
/-- a stored key -/
def storN (xs : List NEnt) (k : IK) (b : Addr) (v : V) : List NEnt := if (xs.any fun p => decide (p.1 = k)) = true then xs.map fun p => if p.1 = k then (p.1, p.2.1, v) else p else xs ++ [(k, b, v)]
/-- the keys of a dict of rows stand tracked -/
def KeysN (H : Hp) (xs : List NEnt) : Prop := ∀ p ∈ xs, KeyN H p.2.1 p.1
section
variable {X : Cx} {pins : List (Addr × Obj)} {σ : L2.St} {H : Hp} {s : Shared} {a b : Addr} {v : V} {r : Value} {A : Around} {E : Value → Shared → Prop} {xs : List NEnt} {k : IK}
end
end DL

end

section
set_option Elab.async false
set_option linter.all false
set_option maxRecDepth 100000
/-! What values by value have to do with the heap. -/
namespace DL
open PySem L2

/-- the law's classes: their addresses, their attributes in the order of the first stores -/
structure Gm where
  K : PySem.W.Frag
  ct : Nat → Addr
  cf : Nat → List Str

/-- a key by value -/
def keyD : Key → D
  | .inl i => .int i
  | .inr x => .str x

mutual
/-- a value as a key: whole numbers in tuples -/
def ikOf : D → Option IK
  | .int i => some (.num i)
  | .tup xs => (iksOf xs).map .tup
  | .ptup xs => (iksOf xs).map .tup
  | _ => none
def iksOf : List D → Option (List IK)
  | [] => some []
  | x :: xs => match ikOf x, iksOf xs with
    | some k, some l => some (k :: l)
    | _, _ => none
end
def kOf (d : D) : Option IK := match d with
  | .int _ => none
  | d => (ikOf d).bind fun k => if k.flat = true then some k else none

/-- a list that the top has made -/
def KSeq (K : PySem.W.Frag) (a : Addr) (xs : List V) : Prop := ∃ (o : Obj) (its : Array Value) (n : Nat), K.lookup a = some o ∧ o.cls = .type "list" ∧ o.dict = none ∧ o.data = .seq its n ∧ its.size ≤ sizeLine ∧ Vals xs its.toList
/-- what stands tracked -/
def FAt (F : Hp) (a : Addr) (o : HO) : Prop := F a = some o
mutual
inductive Dq (G : Gm) (F : Hp) : V → D → Prop
  | non : Dq G F .non .non
  | bl (b : Bool) : Dq G F (.bl b) (.bl b)
  | int (i : Int) : Dq G F (.int i) (.int i)
  | str (x : Str) : Dq G F (.str x) (.str x)
  | ref {a : Addr} {o : HO} {d : D} : FAt F a o → Ob G F o d → Dq G F (.ref a) d
  | scr {a : Addr} {ob : Obj} {xs : List V} {ds : List D} : F a = some (.frz ob (.lst xs)) → DqA G F xs ds → Dq G F (.ref a) (.scr ds)
  | ksc {a : Addr} {xs : List V} {ds : List D} : KSeq G.K a xs → DqA G F xs ds → Dq G F (.ref a) (.set ds)
  | opq {a : Addr} : Dq G F (.ref a) .opq
inductive Ob (G : Gm) (F : Hp) : HO → D → Prop
  | lst {xs : List V} {ds : List D} : DqA G F xs ds → Ob G F (.lst xs) (.lst ds)
  | tup {xs : List V} {ds : List D} : DqA G F xs ds → Ob G F (.tup xs) (.tup ds)
  | dK {kvs : List (Key × V)} {ds : List (D × D)} : DqK G F kvs ds → Ob G F (.dK kvs) (.dic false ds)
  | dT {kvs : List (List Key × V)} {ds : List (D × D)} : DqT G F kvs ds → Ob G F (.dT kvs) (.dic true ds)
  | ins {dx : Addr} {c : Nat} {fs : List (Str × V)} {ds : List D} : DqF G F (G.cf c) fs ds → Ob G F (.ins (G.ct c) dx fs) (.ins c ds)
  | fdK {o : Obj} {kvs : List (Key × V)} {ds : List (D × D)} : DqK G F kvs ds → Ob G F (.frz o (.dK kvs)) (.fdc false ds)
  | fdT {o : Obj} {kvs : List (List Key × V)} {ds : List (D × D)} : DqT G F kvs ds → Ob G F (.frz o (.dT kvs)) (.fdc true ds)
  | dN {a : Addr} {xs : List NEnt} {ds : List (D × D)} : DqN G F xs ds → Ob G F (.ext (PhiN a xs)) (.dcn ds)
  | ptp {o : Obj} {xs : List V} {ds : List D} : o.cls = .type "tuple" → o.dict = none → DqA G F xs ds → Ob G F (.frz o (.tup xs)) (.ptup ds)
inductive DqA (G : Gm) (F : Hp) : List V → List D → Prop
  | nil : DqA G F [] []
  | cons {v : V} {vs : List V} {d : D} {ds : List D} : Dq G F v d → DqA G F vs ds → DqA G F (v :: vs) (d :: ds)
inductive DqK (G : Gm) (F : Hp) : List (Key × V) → List (D × D) → Prop
  | nil : DqK G F [] []
  | cons {k : Key} {v : V} {kvs : List (Key × V)} {d : D} {ds : List (D × D)} : Dq G F v d → DqK G F kvs ds → DqK G F ((k, v) :: kvs) ((keyD k, d) :: ds)
inductive DqT (G : Gm) (F : Hp) : List (List Key × V) → List (D × D) → Prop
  | nil : DqT G F [] []
  | cons {k : List Key} {v : V} {kvs : List (List Key × V)} {d : D} {ds : List (D × D)} : Dq G F v d → DqT G F kvs ds → DqT G F ((k, v) :: kvs) ((.tup (k.map keyD), d) :: ds)
inductive DqN (G : Gm) (F : Hp) : List NEnt → List (D × D) → Prop
  | nil : DqN G F [] []
  | cons {k : IK} {b : Addr} {v : V} {xs : List NEnt} {kd d : D} {ds : List (D × D)} : Dq G F (.ref b) kd → kOf kd = some k → Dq G F v d → DqN G F xs ds → DqN G F ((k, b, v) :: xs) ((kd, d) :: ds)
inductive DqF (G : Gm) (F : Hp) : List Str → List (Str × V) → List D → Prop
  | nil {ns : List Str} : DqF G F ns [] []
  | cons {n : Str} {ns : List Str} {v : V} {fs : List (Str × V)} {d : D} {ds : List D} : Dq G F v d → DqF G F ns fs ds → DqF G F (n :: ns) ((n, v) :: fs) (d :: ds)
end

def Le (F F' : Hp) : Prop := ∀ a o, F a = some o → F' a = some o
theorem Le.refl (F : Hp) : Le F F := fun _ _ h => h
theorem Le.trans {F F1 F2 : Hp} (a : Le F F1) (b : Le F1 F2) : Le F F2 := fun x o h => b x o (a x o h)
theorem Le.new {F : Hp} {p : Addr} {o : HO} (h : F p = none) : Le F (upd F p o) := fun a u e => by
  rw [upd_ne (ne_of_none e h)]
  exact e
theorem FAt.mono {F F' : Hp} {a : Addr} {o : HO} (e : Le F F') (h : FAt F a o) : FAt F' a o := e _ _ h
mutual
theorem Dq.mono {G : Gm} {F F' : Hp} (e : Le F F') : ∀ {v : V} {d : D}, Dq G F v d → Dq G F' v d
  | _, _, .non => .non
  | _, _, .bl b => .bl b
  | _, _, .int i => .int i
  | _, _, .str x => .str x
  | _, _, .ref h o => .ref (h.mono e) (o.mono e)
  | _, _, .scr h t => .scr (e _ _ h) (t.mono e)
  | _, _, .ksc h t => .ksc h (t.mono e)
  | _, _, .opq => .opq
theorem Ob.mono {G : Gm} {F F' : Hp} (e : Le F F') : ∀ {o : HO} {d : D}, Ob G F o d → Ob G F' o d
  | _, _, .lst h => .lst (h.mono e)
  | _, _, .tup h => .tup (h.mono e)
  | _, _, .dK h => .dK (h.mono e)
  | _, _, .dT h => .dT (h.mono e)
  | _, _, .ins h => .ins (h.mono e)
  | _, _, .fdK h => .fdK (h.mono e)
  | _, _, .fdT h => .fdT (h.mono e)
  | _, _, .ptp c n h => .ptp c n (h.mono e)
  | _, _, .dN h => .dN (h.mono e)
theorem DqA.mono {G : Gm} {F F' : Hp} (e : Le F F') : ∀ {vs : List V} {ds : List D}, DqA G F vs ds → DqA G F' vs ds
  | _, _, .nil => .nil
  | _, _, .cons h t => .cons (h.mono e) (t.mono e)
theorem DqK.mono {G : Gm} {F F' : Hp} (e : Le F F') : ∀ {vs : List (Key × V)} {ds : List (D × D)}, DqK G F vs ds → DqK G F' vs ds
  | _, _, .nil => .nil
  | _, _, .cons h t => .cons (h.mono e) (t.mono e)
theorem DqT.mono {G : Gm} {F F' : Hp} (e : Le F F') : ∀ {vs : List (List Key × V)} {ds : List (D × D)}, DqT G F vs ds → DqT G F' vs ds
  | _, _, .nil => .nil
  | _, _, .cons h t => .cons (h.mono e) (t.mono e)
theorem DqN.mono {G : Gm} {F F' : Hp} (e : Le F F') : ∀ {vs : List NEnt} {ds : List (D × D)}, DqN G F vs ds → DqN G F' vs ds
  | _, _, .nil => .nil
  | _, _, .cons k z h t => .cons (k.mono e) z (h.mono e) (t.mono e)
theorem DqF.mono {G : Gm} {F F' : Hp} (e : Le F F') : ∀ {ns : List Str} {vs : List (Str × V)} {ds : List D}, DqF G F ns vs ds → DqF G F' ns vs ds
  | _, _, _, .nil => .nil
  | _, _, _, .cons h t => .cons (h.mono e) (t.mono e)
end

/-- an object that may be changed -/
def MutO (o : HO) : Prop := Mut (some o)
theorem MutO.ntup {o : HO} (h : MutO o) : ∀ xs, o ≠ .tup xs := fun xs e => by
  subst e
  exact h
theorem mut_lst {xs : List V} : MutO (.lst xs) := trivial

/-- the script, if the top has made it -/
def isK : D → Bool
  | .set _ => true
  | .opq => true
  | _ => false
/-- slot i holds an object of its own -/
def isOwn (r : Env) (i : Nat) : Prop := ∃ d, r[i]? = some (.own d) ∨ r[i]? = some (.brw d)
/-- the entry of a def: the frozen part, the heap, what it may write, which arguments are lent, its arguments -/
structure Bas where
  F : Hp
  H : Hp
  W : Addr → Prop
  L : Nat → Prop
  vs : Nat → Option V
  x : Nat → Prop

structure Stt (G : Gm) (b : Bas) (F H : Hp) (σ : L2.St) (r : Env) : Prop where
  len : r.length = σ.length
  sub : Le F H
  val : ∀ (i : Nat) (d : D), (r[i]? = some (.val d) ∨ r[i]? = some (.fbr d)) → ∃ v, σ[i]? = some (some v) ∧ Dq G F v d
  own : ∀ (i : Nat) (d : D), (r[i]? = some (.own d) ∨ r[i]? = some (.brw d)) → ∃ a o, σ[i]? = some (some (.ref a)) ∧ F a = none ∧ H a = some o ∧ Ob G F o d ∧ MutO o ∧ b.W a
  inj : ∀ (i j : Nat) (a : Addr), isOwn r i → isOwn r j → σ[i]? = some (some (.ref a)) → σ[j]? = some (some (.ref a)) → i = j
  fix : ∀ (i : Nat) (d : D), (r[i]? = some (.brw d) ∨ r[i]? = some (.fbr d)) → ∃ v, b.vs i = some v ∧ σ[i]? = some (some v)
  lent : ∀ i, b.L i → ∃ d, r[i]? = some (.brw d) ∨ r[i]? = some (.fbr d)
  gF : Le b.F F
  nF : ∀ a o, F a = some o → b.F a = some o ∨ b.W a
  kH : ∀ a o, b.H a = some o → ¬ b.W a → H a = some o
  wn : ∀ a, b.H a = none → b.W a
  th : ∀ a, H a = none → b.H a = none
  tp : ∀ a xs, H a = some (.tup xs) → F a = some (.tup xs)
  nk : ∀ (i : Nat) (d : D), r[i]? = some (.fbr d) → isK d = false ∨ b.x i

/-- a is the object of a slot -/
def Own (σ : L2.St) (r : Env) (a : Addr) : Prop := ∃ i, isOwn r i ∧ σ[i]? = some (some (.ref a))

/-- what an expression may change -/
structure Stp (σ : L2.St) (r : Env) (F H F' H' : Hp) : Prop where
  gF : Le F F'
  kH : ∀ a o, H a = some o → ¬ Own σ r a → H' a = some o
  nF : ∀ a o, F' a = some o → F a = some o ∨ Own σ r a ∨ H a = none
  th : ∀ a, H' a = none → H a = none
/-- fewer objects of slots than before -/
def Fewer (σ : L2.St) (r r' : Env) : Prop := ∀ a, Own σ r' a → Own σ r a
theorem Fewer.refl {σ : L2.St} {r : Env} : Fewer σ r r := fun _ h => h
theorem Fewer.trans {σ : L2.St} {r r1 r2 : Env} (a : Fewer σ r r1) (b : Fewer σ r1 r2) : Fewer σ r r2 := fun x h => a x (b x h)
theorem Stp.refl {σ : L2.St} {r : Env} {F H : Hp} : Stp σ r F H F H := ⟨Le.refl _, fun _ _ h _ => h, fun _ _ h => .inl h, fun _ h => h⟩
theorem Stp.trans {σ : L2.St} {r r1 : Env} {F H F1 H1 F2 H2 : Hp} (a : Stp σ r F H F1 H1) (w : Fewer σ r r1) (b : Stp σ r1 F1 H1 F2 H2) : Stp σ r F H F2 H2 where
  gF := a.gF.trans b.gF
  kH := fun x o h n => b.kH x o (a.kH x o h n) fun q => n (w x q)
  nF := fun x o h => by
    rcases b.nF x o h with q | q | q
    · exact a.nF x o q
    · exact .inr (.inl (w x q))
    · exact .inr (.inr (a.th x q))
  th := fun x h => a.th x (b.th x h)

/-- what v is, read at the heap H: a scalar, or an object whose parts are frozen -/
inductive Vw (G : Gm) (F H : Hp) : V → D → Prop
  | non : Vw G F H .non .non
  | bl (b : Bool) : Vw G F H (.bl b) (.bl b)
  | int (i : Int) : Vw G F H (.int i) (.int i)
  | str (x : Str) : Vw G F H (.str x) (.str x)
  | ref {a : Addr} {o : HO} {d : D} : FAt H a o → Ob G F o d → Vw G F H (.ref a) d
  | scr {a : Addr} {ob : Obj} {xs : List V} {ds : List D} : H a = some (.frz ob (.lst xs)) → DqA G F xs ds → Vw G F H (.ref a) (.scr ds)
  | ksc {a : Addr} {xs : List V} {ds : List D} : KSeq G.K a xs → DqA G F xs ds → Vw G F H (.ref a) (.set ds)
  | opq {a : Addr} : Vw G F H (.ref a) .opq
theorem Dq.vw {G : Gm} {F H : Hp} {v : V} {d : D} (e : Le F H) (h : Dq G F v d) : Vw G F H v d := by
  cases h with
  | non => exact .non
  | bl b => exact .bl b
  | int i => exact .int i
  | str x => exact .str x
  | ref h o => exact .ref (h.mono e) o
  | scr h t => exact .scr (e _ _ h) t
  | ksc h t => exact .ksc h t
  | opq => exact .opq

/-- what a result is; a new object is new since H0 -/
inductive RvR (G : Gm) (F H H0 : Hp) (σ : L2.St) (r : Env) : RV → V → Prop
  | fz {d : D} {v : V} : Dq G F v d → RvR G F H H0 σ r (.fz d) v
  | tmp {d : D} {a : Addr} {o : HO} : F a = none → H a = some o → Ob G F o d → MutO o → ¬ Own σ r a → H0 a = none → RvR G F H H0 σ r (.tmp d) (.ref a)
  | loc {i : Nat} {v : V} : σ[i]? = some (some v) → RvR G F H H0 σ r (.loc i) v
section
variable {G : Gm} {F H H0 H00 F' H' : Hp} {σ : L2.St} {r r' : Env} {rv : RV} {v : V} {b : Bas} {d : D}
theorem RvR.pass (h : RvR G F H H0 σ r rv v) (st : Stp σ r F H F' H') (w : Fewer σ r r') : RvR G F' H' H0 σ r' rv v := by
  cases h with
  | fz q => exact .fz (q.mono st.gF)
  | tmp h1 h2 h3 h4 h5 h6 =>
    refine .tmp ?_ (st.kH _ _ h2 h5) (h3.mono st.gF) h4 (fun z => h5 (w _ z)) h6
    rename_i a o
    cases e : F' a with
    | none => rfl
    | some u =>
      rcases st.nF _ _ e with q | q | q
      · rw [h1] at q; cases q
      · exact (h5 q).elim
      · rw [h2] at q; cases q
  | loc e => exact .loc e
theorem RvR.older (h : RvR G F H H0 σ r rv v) (th : ∀ a, H0 a = none → H00 a = none) : RvR G F H H00 σ r rv v := by
  cases h with
  | fz q => exact .fz q
  | tmp h1 h2 h3 h4 h5 h6 => exact .tmp h1 h2 h3 h4 h5 (th _ h6)
  | loc e => exact .loc e
/-- a result's value as it stands -/
theorem RvR.view (S : Stt G b F H σ r) (h : RvR G F H H0 σ r rv v) (e : vw r rv = some d) : Vw G F H v d := by
  cases h with
  | fz q =>
    cases e
    exact q.vw S.sub
  | tmp h1 h2 h3 h4 h5 h6 =>
    cases e
    exact .ref h2 h3
  | loc ev =>
    rename_i i
    have val : (r[i]? = some (.val d) ∨ r[i]? = some (.fbr d)) → Vw G F H v d := fun q => by
      obtain ⟨u, eu, du⟩ := S.val i d q
      rw [ev] at eu
      cases eu
      exact du.vw S.sub
    have own : (r[i]? = some (.own d) ∨ r[i]? = some (.brw d)) → Vw G F H v d := fun q => by
      obtain ⟨a, o, eu, h1, h2, h3, _⟩ := S.own i d q
      rw [ev] at eu
      cases eu
      exact .ref h2 h3
    unfold vw at e
    simp only at e
    split at e
    · rename_i q; cases e; exact val (.inl q)
    · rename_i q; cases e; exact own (.inl q)
    · rename_i q; cases e; exact own (.inr q)
    · rename_i q; cases e; exact val (.inr q)
    · cases e
end
end DL

end

section
set_option Elab.async false
set_option linter.all false
set_option maxRecDepth 100000
/-! Readings of the evaluator's functions: what a function on environments asks of an expression's, a test's, a statement's reading. -/
namespace DL
open PySem L2
theorem Stt.fresh {G : Gm} {b : Bas} {F H : Hp} {σ : L2.St} {r : Env} (S : Stt G b F H σ r) {p : Addr} (h : H p = none) : F p = none ∧ b.W p ∧ ¬ Own σ r p := by
  refine ⟨?_, S.wn p (S.th p h), fun ⟨i, ⟨d, e⟩, q⟩ => ?_⟩
  · cases e : F p with
    | none => rfl
    | some o =>
      have := S.sub p o e
      rw [h] at this
      cases this
  · obtain ⟨a, o, ea, _, ho, _⟩ := S.own i d e
    rw [q] at ea
    cases ea
    rw [h] at ho
    cases ho
/-- H changes elsewhere than at the slots' objects and the frozen part -/
theorem Stt.heap {G : Gm} {b : Bas} {F H F' H' : Hp} {σ : L2.St} {r : Env} (S : Stt G b F H σ r) (e : Le F F') (sub : Le F' H') (own : ∀ a o, Own σ r a → H a = some o → F' a = none ∧ H' a = some o) (nF : ∀ a o, F' a = some o → F a = some o ∨ b.W a) (kH : ∀ a o, H a = some o → ¬ b.W a → H' a = some o) (th : ∀ a, H' a = none → H a = none) (tp : ∀ a xs, H' a = some (.tup xs) → F' a = some (.tup xs)) :
    Stt G b F' H' σ r where
  len := S.len
  sub := sub
  val := fun i d q => by
    obtain ⟨v, e1, e2⟩ := S.val i d q
    exact ⟨v, e1, e2.mono e⟩
  own := fun i d q => by
    obtain ⟨a, o, e1, e2, e3, e4, e5, e6⟩ := S.own i d q
    obtain ⟨f1, f2⟩ := own a o ⟨i, ⟨d, q⟩, e1⟩ e3
    exact ⟨a, o, e1, f1, f2, e4.mono e, e5, e6⟩
  inj := S.inj
  fix := S.fix
  lent := S.lent
  gF := S.gF.trans e
  nF := fun a o q => (nF a o q).elim (fun q => S.nF a o q) .inr
  kH := fun a o q n => kH a o (S.kH a o q n) n
  wn := S.wn
  th := fun a q => S.th a (th a q)
  tp := tp
  nk := S.nk

/-- what a primitive makes: a scalar or something frozen; a new object, kept or frozen -/
inductive NewR (G : Gm) (F H : Hp) : Hp → Hp → RV → V → Prop
  | old {d : D} {v : V} : Dq G F v d → NewR G F H F H (.fz d) v
  | tmp {p : Addr} {o : HO} {d : D} : H p = none → Ob G F o d → MutO o → NewR G F H F (upd H p o) (.tmp d) (.ref p)
  | new {p : Addr} {o : HO} {d : D} : H p = none → Ob G F o d → NewR G F H (upd F p o) (upd H p o) (.fz d) (.ref p)
section
variable {G : Gm} {b : Bas} {F H H0 F' H' : Hp} {σ : L2.St} {r : Env} {rv : RV} {v : V} {p : Addr} {o : HO} {d : D}
theorem Stt.upd1 (S : Stt G b F H σ r) (h : H p = none) (ht : ∀ xs, o ≠ .tup xs) : Stt G b F (upd H p o) σ r := by
  obtain ⟨h1, h2, h3⟩ := S.fresh h
  refine S.heap (Le.refl _) (S.sub.trans (Le.new h)) (fun a u q e => ?_) (fun a u q => .inl q) (fun a u q _ => Le.new h a u q) (fun a q => ?_) (fun a xs q => ?_)
  · refine ⟨?_, Le.new h a u e⟩
    obtain ⟨i, ⟨d, q⟩, ei⟩ := q
    obtain ⟨a', o', e1, e2, _⟩ := S.own i d q
    rw [ei] at e1
    cases e1
    exact e2
  · by_cases z : a = p
    · rw [z]; exact h
    · rw [upd_ne z] at q; exact q
  · by_cases z : a = p
    · subst z; rw [upd_same] at q; exact (ht xs (Option.some.inj q)).elim
    · rw [upd_ne z] at q; exact S.tp a xs q
theorem Stt.upd1F (S : Stt G b F H σ r) (h : H p = none) : Stt G b (L2.upd F p o) (L2.upd H p o) σ r := by
  obtain ⟨h1, h2, h3⟩ := S.fresh h
  refine S.heap (Le.new h1) (fun a u q => ?_) (fun a u q e => ?_) (fun a u q => ?_) (fun a u q _ => Le.new h a u q) (fun a q => ?_) (fun a xs q => ?_)
  · by_cases z : a = p
    · subst z; rw [upd_same] at q ⊢; exact q
    · rw [upd_ne z] at q ⊢; exact S.sub _ _ q
  · have z : a ≠ p := fun z => h3 (z ▸ q)
    rw [upd_ne z, upd_ne z]
    obtain ⟨i, ⟨d, q⟩, ei⟩ := q
    obtain ⟨a', o', e1, e2, _⟩ := S.own i d q
    rw [ei] at e1
    cases e1
    exact ⟨e2, e⟩
  · by_cases z : a = p
    · exact .inr (z ▸ h2)
    · rw [upd_ne z] at q; exact .inl q
  · by_cases z : a = p
    · rw [z]; exact h
    · rw [upd_ne z] at q; exact q
  · by_cases z : a = p
    · subst z; rw [upd_same] at q ⊢; exact q
    · rw [upd_ne z] at q ⊢; exact S.tp a xs q
theorem Stp.new (S : Stt G b F H σ r) (h : H p = none) : Stp σ r F H F (L2.upd H p o) := by
  refine ⟨Le.refl _, fun a u q _ => Le.new h a u q, fun a u q => .inl q, fun a q => ?_⟩
  by_cases z : a = p
  · rw [z]; exact h
  · rw [upd_ne z] at q; exact q
theorem Stp.newF (S : Stt G b F H σ r) (h : H p = none) : Stp σ r F H (L2.upd F p o) (L2.upd H p o) := by
  obtain ⟨h1, h2, h3⟩ := S.fresh h
  refine ⟨Le.new h1, fun a u q _ => Le.new h a u q, fun a u q => ?_, fun a q => ?_⟩
  · by_cases z : a = p
    · exact .inr (.inr (z ▸ h))
    · rw [upd_ne z] at q; exact .inl q
  · by_cases z : a = p
    · rw [z]; exact h
    · rw [upd_ne z] at q; exact q
theorem NewR.ok (n : NewR G F H F' H' rv v) (S : Stt G b F H σ r) (th : ∀ a, H a = none → H0 a = none) : Stt G b F' H' σ r ∧ Stp σ r F H F' H' ∧ RvR G F' H' H0 σ r rv v := by
  cases n with
  | old q => exact ⟨S, Stp.refl, .fz q⟩
  | tmp h ob mu =>
    obtain ⟨h1, h2, h3⟩ := S.fresh h
    exact ⟨S.upd1 h mu.ntup, Stp.new S h, .tmp h1 upd_same ob mu h3 (th _ h)⟩
  | new h ob =>
    obtain ⟨h1, h2, h3⟩ := S.fresh h
    exact ⟨S.upd1F h, Stp.newF S h, .fz (.ref upd_same (ob.mono (Le.new h1)))⟩
end

/-- an exception: its class, its attributes in its dict -/
def ExR (G : Gm) (F H : Hp) (x : Exn) (cls : Value) (d : Option Addr) : Prop :=
  cls = .ref (G.ct x.c) ∧ ((x.fs = [] ∧ d = none) ∨ ∃ dd fs, d = some dd ∧ F dd = some (.xd fs) ∧ DqF G F (G.cf x.c) fs x.fs)

/-- the wish of what is let out, what every base must say -/
structure EK where
  w : WX
  pb : Bas → Prop
abbrev EK.B (E : EK) := { b : Bas // E.pb b }
/-- a def's own -/
abbrev EK.of (E : XK) : EK := ⟨fun cls d _ H => E cls d H, fun _ => True⟩

/-- inside a comprehension nothing is let out -/
abbrev EK.no (E : EK) : EK := ⟨fun _ _ _ _ => False, E.pb⟩
/-- a wish that does not look at the slots -/
abbrev EK.un (E : XK) (pb : Bas → Prop) : EK := ⟨fun cls d _ H => E cls d H, pb⟩

/-- what is wanted behind a run of the evaluator -/
def Out (G : Gm) (E : EK) (b : Bas) (F H : Hp) (σ : L2.St) (r : Env) {α : Type} (res : Res α) (K : α → Env → Hp → Hp → Prop) : Prop := match res with
  | .ok a r' => ∀ F' H', Stt G b F' H' σ r' → Stp σ r F H F' H' → Fewer σ r r' → K a r' F' H'
  | .exc x r' => ∀ cls d F' H', Stt G b F' H' σ r' → Le F F' → ExR G F' H' x cls d → E.w cls d σ H'
  | .bad => False
section
variable {G : Gm} {E : EK} {b : Bas} {F H : Hp} {σ : L2.St} {r : Env} {α β : Type} {m : M α} {k : α → M β}
theorem Out.bnd {K : β → Env → Hp → Hp → Prop} (h : Out G E b F H σ r (bnd m k r) K) : Out G E b F H σ r (m r) fun a r1 F1 H1 => Out G E b F1 H1 σ r1 (k a r1) K := by
  unfold DL.bnd at h
  cases e : m r with
  | ok a r1 =>
    rw [e] at h
    intro F1 H1 S1 st1 w1
    have h : Out G E b F H σ r (k a r1) K := h
    show Out G E b F1 H1 σ r1 (k a r1) K
    cases e2 : k a r1 with
    | ok c r2 =>
      rw [e2] at h
      intro F2 H2 S2 st2 w2
      exact h F2 H2 S2 (st1.trans w1 st2) (w1.trans w2)
    | exc x r2 =>
      rw [e2] at h
      exact fun cls d F2 H2 S2 le x => h cls d F2 H2 S2 (st1.gF.trans le) x
    | bad =>
      rw [e2] at h
      exact h
  | exc x r1 =>
    rw [e] at h
    exact h
  | bad =>
    rw [e] at h
    exact h
theorem Out.mono {res : Res α} {K K' : α → Env → Hp → Hp → Prop} (h : Out G E b F H σ r res K) (hk : ∀ a r1 F1 H1, Stt G b F1 H1 σ r1 → Stp σ r F H F1 H1 → Fewer σ r r1 → K a r1 F1 H1 → K' a r1 F1 H1) : Out G E b F H σ r res K' := by
  cases res with
  | ok a r1 => exact fun F1 H1 S1 st1 w1 => hk a r1 F1 H1 S1 st1 w1 (h F1 H1 S1 st1 w1)
  | exc x r1 => exact h
  | bad => exact h
/-- a step that changes the environment's frozen part alone -/
theorem Out.pur {a : α} {K : α → Env → Hp → Hp → Prop} (h : Out G E b F H σ r (pur a r) K) {F' H' : Hp} (S : Stt G b F' H' σ r) (st : Stp σ r F H F' H') : K a r F' H' := h F' H' S st Fewer.refl
theorem Out.vwM {x : RV} {k : D → M β} {K : β → Env → Hp → Hp → Prop} (h : Out G E b F H σ r (DL.bnd (vwM x) k r) K) : ∃ d, vw r x = some d ∧ Out G E b F H σ r (k d r) K := by
  unfold DL.bnd DL.vwM at h
  cases e : vw r x with
  | none =>
    rw [e] at h
    exact False.elim h
  | some d =>
    rw [e] at h
    exact ⟨d, rfl, h⟩
theorem Out.lift {o : Option α} {K : α → Env → Hp → Hp → Prop} (h : Out G E b F H σ r (lift o r) K) : ∃ a, o = some a ∧ Out G E b F H σ r (DL.pur a r) K := by
  cases o with
  | none => exact False.elim h
  | some a => exact ⟨a, rfl, h⟩
end

/-! ### the readings -/
def tOf (G : Gm) (E : EK) (f : M RV) : TE := fun σ H Q => ∃ (b : E.B) (F : Hp) (r : Env), Stt G b.1 F H σ r ∧ Out G E b.1 F H σ r (f r) fun rv r1 F1 H1 => ∀ v, RvR G F1 H1 H σ r1 rv v → Q v H1
def tdOf (G : Gm) (E : EK) (f : M D) : TE := fun σ H Q => ∃ (b : E.B) (F : Hp) (r : Env), Stt G b.1 F H σ r ∧ Out G E b.1 F H σ r (f r) fun d r1 F1 H1 => ∀ v, Dq G F1 v d → Q v H1
def ttOf (G : Gm) (E : EK) (f : M Bool) : TT := fun σ H Q => ∃ (b : E.B) (F : Hp) (r : Env), Stt G b.1 F H σ r ∧ Out G E b.1 F H σ r (f r) fun c r1 F1 H1 => Q c H1
inductive RvRs (G : Gm) (F H H0 : Hp) (σ : L2.St) (r : Env) : List RV → List V → Prop
  | nil : RvRs G F H H0 σ r [] []
  | cons {rv : RV} {v : V} {rvs : List RV} {vs : List V} : RvR G F H H0 σ r rv v → RvRs G F H H0 σ r rvs vs → (∀ d, rv = .tmp d → ∀ (j : Nat) (d' : D), rvs[j]? = some (.tmp d') → vs[j]? ≠ some v) → RvRs G F H H0 σ r (rv :: rvs) (v :: vs)
def taOf (G : Gm) (E : EK) (f : M (List RV)) : TA := fun σ H Q => ∃ (b : E.B) (F : Hp) (r : Env), Stt G b.1 F H σ r ∧ Out G E b.1 F H σ r (f r) fun rvs r1 F1 H1 => ∀ vs, RvRs G F1 H1 H σ r1 rvs vs → Q vs H1
def tasOf (G : Gm) (E : EK) (f : M (List D)) : TA := fun σ H Q => ∃ (b : E.B) (F : Hp) (r : Env), Stt G b.1 F H σ r ∧ Out G E b.1 F H σ r (f r) fun ds r1 F1 H1 => ∀ vs, DqA G F1 vs ds → Q vs H1
/-- behind a statement; F0: the frozen part ahead of it -/
def OutS (G : Gm) (E : EK) (b : Bas) (F0 : Hp) (res : Res Flow) (D : Ends) : Prop := match res with
  | .ok .nx r => ∀ σ F H, Stt G b F H σ r → Le F0 F → D.nx σ H
  | .ok .brk r => ∀ σ F H, Stt G b F H σ r → Le F0 F → D.bk σ H
  | .ok .cnt r => ∀ σ F H, Stt G b F H σ r → Le F0 F → D.ct σ H
  | .ok (.ret rv) r => ∀ σ F H v, Stt G b F H σ r → RvR G F H b.H σ r rv v → D.rt v H
  | .exc x r => ∀ cls d σ F H, Stt G b F H σ r → Le F0 F → ExR G F H x cls d → E.w cls d σ H
  | .bad => False
def tsOf (G : Gm) (E : EK) (f : S) : TS := fun D σ H => ∃ (b : E.B) (F : Hp) (r : Env), Stt G b.1 F H σ r ∧ OutS G E b.1 F (f r) D
theorem OutS.older {G : Gm} {E : EK} {b : Bas} {F0 F1 : Hp} {res : Res Flow} {D : Ends} (h : OutS G E b F0 res D) (le : Le F0 F1) : OutS G E b F1 res D := by
  cases res with
  | ok fl r =>
    cases fl with
    | nx => exact fun σ F H S l => h σ F H S (le.trans l)
    | brk => exact fun σ F H S l => h σ F H S (le.trans l)
    | cnt => exact fun σ F H S l => h σ F H S (le.trans l)
    | ret rv => exact h
  | exc x r => exact fun cls d σ F H S l x => h cls d σ F H S (le.trans l) x
  | bad => exact h

theorem PE_mono {X : Cx} {e : Expr} {t t' : TE} (h : PE X e t) (w : ∀ σ H Q, t' σ H Q → t σ H Q) : PE X e t' := ⟨fun pins s σ H Q I q => h.run pins s σ H Q I (w σ H Q q)⟩
theorem PT_mono {X : Cx} {e : Expr} {t t' : TT} (h : PT X e t) (w : ∀ σ H Q, t' σ H Q → t σ H Q) : PT X e t' := ⟨fun pins s σ H Q I q => h.run pins s σ H Q I (w σ H Q q)⟩
theorem PA_mono {X : Cx} {e : List Expr} {t t' : TA} (h : PA X e t) (w : ∀ σ H Q, t' σ H Q → t σ H Q) : PA X e t' := ⟨fun pos pins s σ H Q I q => h.run pos pins s σ H Q I (w σ H Q q)⟩
theorem PS_mono {X : Cx} {e : Stmt} {t t' : TS} (h : PS X e t) (w : ∀ D σ H, t' D σ H → t D σ H) : PS X e t' := ⟨fun pins s σ H D I q => h.run pins s σ H D I (w D σ H q)⟩
theorem PSs_mono {X : Cx} {e : List Stmt} {t t' : TS} (h : PSs X e t) (w : ∀ D σ H, t' D σ H → t D σ H) : PSs X e t' := ⟨fun pins s σ H D I q => h.run pins s σ H D I (w D σ H q)⟩

/-! ### names, constants, operators -/
section
variable {X : Cx} {G : Gm} {E : EK} {a c e : Expr} {fa fb fc : M RV} {pos : Pos}
theorem de_var (i : Nat) {x : Str} (hN : X.N[i]? = some x := by rfl) (hv : Vis X.env.scope x := by first | exact Or.inl rfl | exact Or.inr (Or.inl rfl) | exact Or.inr (Or.inr rfl)) (hd : (x == ("__debug__" : Str)) = false := by decide)
    (hcd : (x == ("__classdict__" : Str)) = false := by decide) : PE X (.Name x pos) (tOf G E (eVar i)) := PE_mono (pe_var hN hv hd hcd) fun σ H Q ⟨b, F, r, S, h⟩ => by
  have val : ∀ d, (r[i]? = some (.val d) ∨ r[i]? = some (.fbr d)) → Out G E b F H σ r (Res.ok (.fz d) r) (fun rv r1 F1 H1 => ∀ v, RvR G F1 H1 H σ r1 rv v → Q v H1) → ∃ v, σ[i]? = some (some v) ∧ Q v H := fun d q h => by
    obtain ⟨v, e1, e2⟩ := S.val i d q
    exact ⟨v, e1, h F H S Stp.refl Fewer.refl v (.fz e2)⟩
  have own : ∀ d, (r[i]? = some (.own d) ∨ r[i]? = some (.brw d)) → Out G E b F H σ r (Res.ok (.loc i) r) (fun rv r1 F1 H1 => ∀ v, RvR G F1 H1 H σ r1 rv v → Q v H1) → ∃ v, σ[i]? = some (some v) ∧ Q v H := fun d q h => by
    obtain ⟨x, o, e1, _⟩ := S.own i d q
    exact ⟨_, e1, h F H S Stp.refl Fewer.refl _ (.loc e1)⟩
  unfold eVar at h
  show ∃ v, σ[i]? = some (some v) ∧ Q v H
  split at h
  · rename_i q; exact val _ (.inl q) h
  · rename_i q; exact val _ (.inr q) h
  · rename_i q; exact own _ (.inl q) h
  · rename_i q; exact own _ (.inr q) h
  · exact False.elim h
theorem PE_c {v : V} {d : D} (h : PE X e (tC v)) (q : ∀ F, Dq G F v d) : PE X e (tOf G E (eC d)) := PE_mono h fun σ H Q ⟨b, F, r, S, h⟩ => h F H S Stp.refl Fewer.refl v (.fz (q F))
theorem de_int {i : Int} {j} : PE X (.Constant (.int i) j pos) (tOf G E (eC (.int i))) := PE_c pe_int fun _ => .int i
theorem de_bl {i : Bool} {j} : PE X (.Constant (.bool i) j pos) (tOf G E (eC (.bl i))) := PE_c pe_bl fun _ => .bl i
theorem de_non {j} : PE X (.Constant .none j pos) (tOf G E (eC .non)) := PE_c pe_non fun _ => .non
/-- an operator by values -/
def Tps (F H : Hp) : Prop := ∀ a xs, H a = some (.tup xs) → F a = some (.tup xs)
def OpD (G : Gm) (r : R2) (g : D → D → Option RV) : Prop := ∀ (F H : Hp) (x y : V) (d e : D) (rv : RV) (Q : VK), Le F H → Tps F H → Vw G F H x d → Vw G F H y e → g d e = some rv → (∀ v F' H', NewR G F H F' H' rv v → Q v H') → r x y H Q
def OpD1 (G : Gm) (r : V → Hp → VK → Prop) (g : D → Option RV) : Prop := ∀ (F H : Hp) (x : V) (d : D) (rv : RV) (Q : VK), Le F H → Tps F H → Vw G F H x d → g d = some rv → (∀ v F' H', NewR G F H F' H' rv v → Q v H') → r x H Q
theorem op2_rd {r : R2} {g : D → D → Option RV} (hr : OpD G r g) : ∀ σ H Q, tOf G E (eOp2 g fa fb) σ H Q → tOf G E fa σ H fun x H1 => tOf G E fb σ H1 fun y H2 => r x y H2 Q := fun σ H Q ⟨b, F, en, S, h⟩ => by
  refine ⟨b, F, en, S, h.bnd.mono fun x r1 F1 H1 S1 st1 w1 h1 v1 q1 => ⟨b, F1, r1, S1, h1.bnd.mono fun y r2 F2 H2 S2 st2 w2 h2 v2 q2 => ?_⟩⟩
  obtain ⟨d1, e1, h2⟩ := h2.vwM
  obtain ⟨d2, e2, h2⟩ := h2.vwM
  obtain ⟨rv, e3, h2⟩ := h2.lift
  refine hr F2 H2 v1 v2 d1 d2 rv Q S2.sub S2.tp ((q1.pass st2 w2).view S2 e1) (q2.view S2 e2) e3 fun v F3 H3 n => ?_
  obtain ⟨S3, st3, q3⟩ := n.ok (H0 := H) S2 fun a z => st1.th a (st2.th a z)
  exact h2.pur S3 st3 v q3
theorem de_op {op : Operator} {r : R2} {g : D → D → Option RV} (ho : OpR X (binaryOp op) r) (hr : OpD G r g) (ha : PE X a (tOf G E fa)) (hb : PE X c (tOf G E fb)) : PE X (.BinOp a op c pos) (tOf G E (eOp2 g fa fb)) :=
  PE_mono (pe_op ho ha hb) (op2_rd hr)
theorem de_cmp {op : CmpOp} {r : R2} {g : D → D → Option RV} (ho : OpR X (compareOp op) r) (hr : OpD G r g) (ha : PE X a (tOf G E fa)) (hb : PE X c (tOf G E fb)) (hm : behindInMarks op c = false) : PE X (.Compare a [op] [c] pos) (tOf G E (eOp2 g fa fb)) :=
  PE_mono (pe_cmpR ho ha hb hm) (op2_rd hr)
theorem op1_rd {r : V → Hp → VK → Prop} {g : D → Option RV} (hr : OpD1 G r g) : ∀ σ H Q, tOf G E (eOp1 g fa) σ H Q → tOf G E fa σ H fun x H1 => r x H1 Q := fun σ H Q ⟨b, F, en, S, h⟩ => by
  refine ⟨b, F, en, S, h.bnd.mono fun x r1 F1 H1 S1 st1 w1 h1 v1 q1 => ?_⟩
  obtain ⟨d1, e1, h2⟩ := h1.vwM
  obtain ⟨rv, e3, h2⟩ := h2.lift
  refine hr F1 H1 v1 d1 rv Q S1.sub S1.tp (q1.view S1 e1) e3 fun v F3 H3 n => ?_
  obtain ⟨S3, st3, q3⟩ := n.ok (H0 := H) S1 fun a z => st1.th a z
  exact h2.pur S3 st3 v q3
end
end DL

end

section
set_option Elab.async false
set_option linter.all false
set_option maxRecDepth 100000
/-! Freezing, displays, arguments, tests. -/
namespace DL
open PySem L2
theorem own_set_ne {σ : L2.St} {r : Env} {i : Nat} {s : Slot} (hs : ∀ d, s ≠ .own d ∧ s ≠ .brw d) : Fewer σ r (r.set i s) := fun a ⟨j, ⟨d, q⟩, e⟩ => by
  by_cases z : j = i
  · subst z
    rw [List.getElem?_set] at q
    simp only [if_true] at q
    split at q
    · rcases q with q | q
      · exact ((hs d).1 (Option.some.inj q)).elim
      · exact ((hs d).2 (Option.some.inj q)).elim
    · rcases q with q | q <;> cases q
  · rw [List.getElem?_set_ne (Ne.symm z)] at q
    exact ⟨j, ⟨d, q⟩, e⟩
theorem lt_of_get {α : Type} {r : List α} {i : Nat} {x : α} (h : r[i]? = some x) : i < r.length := (List.getElem?_eq_some_iff.mp h).1
section
variable {G : Gm} {E : EK} {b : Bas} {F H F1 H1 : Hp} {σ : L2.St} {r r1 r2 : Env} {rv : RV} {v : V} {d : D} {a : Addr} {o : HO}
/-- a slot's object is frozen -/
theorem Stt.frzL (S : Stt G b F H σ r) {i : Nat} {s : Slot} (sv : (s = .val d ∧ r[i]? = some (.own d)) ∨ (s = .fbr d ∧ r[i]? = some (.brw d))) : ∃ (a : Addr) (o : HO), σ[i]? = some (some (.ref a)) ∧ F a = none ∧ H a = some o ∧
    Stt G b (L2.upd F a o) H σ (r.set i s) ∧ Dq G (L2.upd F a o) (.ref a) d := by
  have h : r[i]? = some (.own d) ∨ r[i]? = some (.brw d) := sv.elim (fun z => .inl z.2) fun z => .inr z.2
  obtain ⟨a, o, e1, e2, e3, e4, e5, e6⟩ := S.own i d h
  have hi : i < r.length := h.elim lt_of_get lt_of_get
  have le : Le F (L2.upd F a o) := Le.new e2
  have dq : Dq G (L2.upd F a o) (.ref a) d := .ref upd_same (e4.mono le)
  have self : ∀ s : Slot, (r.set i s)[i]? = some s := fun s => by rw [List.getElem?_set_self hi]
  have other : ∀ (s : Slot) (j : Nat), j ≠ i → (r.set i s)[j]? = r[j]? := fun s j z => List.getElem?_set_ne (Ne.symm z)
  refine ⟨a, o, e1, e2, e3, ⟨?_, ?_, ?_, ?_, ?_, ?_, ?_, S.gF.trans le, ?_, S.kH, S.wn, S.th, fun x xs q => le _ _ (S.tp x xs q), fun j u q => ?_⟩, dq⟩
  · rw [List.length_set]; exact S.len
  · intro x u q
    by_cases z : x = a
    · subst z; rw [upd_same] at q; cases q; exact e3
    · rw [upd_ne z] at q; exact S.sub x u q
  · intro j u q
    by_cases z : j = i
    · subst z
      rw [self] at q
      have eu : u = d := by
        rcases sv with ⟨rfl, _⟩ | ⟨rfl, _⟩ <;> rcases q with q | q <;> cases q <;> rfl
      subst eu
      exact ⟨_, e1, dq⟩
    · rw [other s j z] at q
      obtain ⟨v, q1, q2⟩ := S.val j u q
      exact ⟨v, q1, q2.mono le⟩
  · intro j u q
    by_cases z : j = i
    · subst z
      rw [self] at q
      rcases sv with ⟨rfl, _⟩ | ⟨rfl, _⟩ <;> rcases q with q | q <;> cases q
    · rw [other s j z] at q
      obtain ⟨x, p, q1, q2, q3, q4, q5, q6⟩ := S.own j u q
      have ne : x ≠ a := fun e => z (S.inj j i a ⟨u, q⟩ ⟨d, h⟩ (e ▸ q1) e1)
      exact ⟨x, p, q1, by rw [upd_ne ne]; exact q2, q3, q4.mono le, q5, q6⟩
  · intro j k x hj hk
    have old : ∀ j, isOwn (r.set i s) j → isOwn r j := fun j ⟨u, q⟩ => by
      by_cases z : j = i
      · subst z
        rw [self] at q
        rcases sv with ⟨rfl, _⟩ | ⟨rfl, _⟩ <;> rcases q with q | q <;> cases q
      · rw [other s j z] at q
        exact ⟨u, q⟩
    exact S.inj j k x (old j hj) (old k hk)
  · intro j u q
    by_cases z : j = i
    · subst z
      rw [self] at q
      rcases sv with ⟨rfl, hb⟩ | ⟨rfl, hb⟩
      · rcases q with q | q <;> cases q
      · exact S.fix j d (.inl hb)
    · rw [other s j z] at q
      exact S.fix j u q
  · intro j hj
    obtain ⟨u, q⟩ := S.lent j hj
    by_cases z : j = i
    · subst z
      rw [self]
      rcases sv with ⟨rfl, hb⟩ | ⟨rfl, hb⟩
      · rcases q with q | q <;> rw [hb] at q <;> cases q
      · exact ⟨d, .inr rfl⟩
    · rw [other s j z]
      exact ⟨u, q⟩
  · intro x u q
    by_cases z : x = a
    · exact .inr (z ▸ e6)
    · rw [upd_ne z] at q; exact S.nF x u q
  · by_cases z : j = i
    · subst z
      rw [self] at q
      rcases sv with ⟨rfl, _⟩ | ⟨rfl, _⟩
      · cases q
      · cases q
        exact .inl (by cases e4 <;> rfl)
    · rw [other s j z] at q; exact S.nk j u q
/-- a new object is frozen -/
theorem Stt.frzT (S : Stt G b F H σ r) (h1 : F a = none) (h2 : H a = some o) (h3 : ¬ Own σ r a) (h4 : b.W a) : Stt G b (L2.upd F a o) H σ r := by
  refine S.heap (Le.new h1) (fun x u q => ?_) (fun x u q e => ?_) (fun x u q => ?_) (fun x u q _ => q) (fun x q => q) (fun x xs q => Le.new h1 _ _ (S.tp x xs q))
  · by_cases z : x = a
    · subst z; rw [upd_same] at q; cases q; exact h2
    · rw [upd_ne z] at q; exact S.sub x u q
  · have z : x ≠ a := fun z => h3 (z ▸ q)
    rw [upd_ne z]
    obtain ⟨i, ⟨d, q⟩, ei⟩ := q
    obtain ⟨a', o', e1, e2, _⟩ := S.own i d q
    rw [ei] at e1
    cases e1
    exact ⟨e2, e⟩
  · by_cases z : x = a
    · exact .inr (z ▸ h4)
    · rw [upd_ne z] at q; exact .inl q
theorem frz_ok (S : Stt G b F H σ r) (S1 : Stt G b F1 H1 σ r1) (st : Stp σ r F H F1 H1) (w : Fewer σ r r1) (q : RvR G F1 H1 H σ r1 rv v) (e : frz rv r1 = .ok d r2) :
    ∃ F2, Stt G b F2 H1 σ r2 ∧ Stp σ r F H F2 H1 ∧ Fewer σ r r2 ∧ Le F1 F2 ∧ Dq G F2 v d := by
  cases q with
  | fz q =>
    cases e
    exact ⟨F1, S1, st, w, Le.refl _, q⟩
  | tmp h1 h2 h3 h4 h5 h6 =>
    cases e
    rename_i a o
    have le : Le F1 (upd F1 a o) := Le.new h1
    refine ⟨upd F1 a o, S1.frzT h1 h2 h5 (S.wn a (S.th a h6)), ⟨st.gF.trans le, st.kH, fun x u q => ?_, st.th⟩, w, le, .ref upd_same (h3.mono le)⟩
    by_cases z : x = a
    · exact .inr (.inr (z ▸ h6))
    · rw [upd_ne z] at q; exact st.nF x u q
  | loc ev =>
    rename_i i
    unfold frz at e
    simp only at e
    have own : ∀ s, ((s = .val d ∧ r1[i]? = some (.own d)) ∨ (s = .fbr d ∧ r1[i]? = some (.brw d))) → r2 = r1.set i s → ∃ F2, Stt G b F2 H1 σ r2 ∧ Stp σ r F H F2 H1 ∧ Fewer σ r r2 ∧ Le F1 F2 ∧ Dq G F2 v d := fun s sv er => by
      obtain ⟨a, o, e1, e2, e3, S2, dq⟩ := S1.frzL sv
      have q : r1[i]? = some (.own d) ∨ r1[i]? = some (.brw d) := sv.elim (fun z => .inl z.2) fun z => .inr z.2
      rw [← er] at S2
      rw [ev] at e1
      cases e1
      have le : Le F1 (upd F1 a o) := Le.new e2
      have fw : Fewer σ r1 r2 := by
        rw [er]
        refine own_set_ne fun u => ?_
        rcases sv with ⟨rfl, _⟩ | ⟨rfl, _⟩ <;> exact ⟨(fun z => nomatch z), (fun z => nomatch z)⟩
      refine ⟨upd F1 a o, S2, ⟨st.gF.trans le, st.kH, fun x u q' => ?_, st.th⟩, w.trans fw, le, dq⟩
      by_cases z : x = a
      · exact .inr (.inl (w x ⟨i, ⟨d, q⟩, z ▸ ev⟩))
      · rw [upd_ne z] at q'; exact st.nF x u q'
    have val : (r1[i]? = some (.val d) ∨ r1[i]? = some (.fbr d)) → r2 = r1 → ∃ F2, Stt G b F2 H1 σ r2 ∧ Stp σ r F H F2 H1 ∧ Fewer σ r r2 ∧ Le F1 F2 ∧ Dq G F2 v d := fun q er => by
      obtain ⟨u, e1, e2⟩ := S1.val i d q
      rw [ev] at e1
      cases e1
      exact ⟨F1, er ▸ S1, st, er ▸ w, Le.refl _, e2⟩
    split at e
    · rename_i q
      cases e
      exact own _ (.inl ⟨rfl, q⟩) rfl
    · rename_i q
      cases e
      exact own _ (.inr ⟨rfl, q⟩) rfl
    · rename_i q
      cases e
      exact val (.inl q) rfl
    · rename_i q
      cases e
      exact val (.inr q) rfl
    · cases e
theorem frz_noexc {x : Exn} : frz rv r1 ≠ .exc x r2 := fun e => by
  cases rv with
  | fz d => cases e
  | tmp d => cases e
  | loc i =>
    unfold frz at e
    simp only at e
    split at e <;> cases e
/-- behind freezing: h speaks of the whole -/
theorem Out.frz {β : Type} {k : D → M β} {K : β → Env → Hp → Hp → Prop} (h : Out G E b F H σ r (DL.bnd (DL.frz rv) k r1) K) (S : Stt G b F H σ r) (S1 : Stt G b F1 H1 σ r1) (st : Stp σ r F H F1 H1) (w : Fewer σ r r1) (q : RvR G F1 H1 H σ r1 rv v) :
    ∃ d r2 F2, Stt G b F2 H1 σ r2 ∧ Stp σ r F H F2 H1 ∧ Fewer σ r r2 ∧ Le F1 F2 ∧ Dq G F2 v d ∧ Out G E b F H σ r (k d r2) K := by
  unfold DL.bnd at h
  cases e : DL.frz rv r1 with
  | ok d r2 =>
    rw [e] at h
    obtain ⟨F2, S2, st2, w2, le, dq⟩ := frz_ok S S1 st w q e
    exact ⟨d, r2, F2, S2, st2, w2, le, dq, h⟩
  | exc x r2 => exact (frz_noexc e).elim
  | bad =>
    rw [e] at h
    exact False.elim h
/-- the parts of a run, all told from its begin -/
theorem Out.bnd0 {α β : Type} {m : M α} {k : α → M β} {K : β → Env → Hp → Hp → Prop} (h : Out G E b F H σ r (DL.bnd m k r) K) : Out G E b F H σ r (m r) fun a r1 F1 H1 => Out G E b F H σ r (k a r1) K := by
  unfold DL.bnd at h
  cases e : m r with
  | ok a r1 =>
    rw [e] at h
    intro F1 H1 S1 st1 w1
    exact h
  | exc x r1 =>
    rw [e] at h
    exact h
  | bad =>
    rw [e] at h
    exact h
/-- told from a later moment -/
theorem Out.later {α : Type} {res : Res α} {K : α → Env → Hp → Hp → Prop} (h : Out G E b F H σ r res K) (st : Stp σ r F H F1 H1) (w : Fewer σ r r1) : Out G E b F1 H1 σ r1 res K := by
  cases res with
  | ok a r2 => exact fun F2 H2 S2 st2 w2 => h F2 H2 S2 (st.trans w st2) (w.trans w2)
  | exc x r2 => exact fun cls d F2 H2 S2 le x => h cls d F2 H2 S2 (st.gF.trans le) x
  | bad => exact h
end
section
variable {X : Cx} {G : Gm} {E : EK} {a c e : Expr} {fa fb fc : M RV} {pos : Pos} {es : List Expr}
theorem frz_rd : ∀ σ H Q, tdOf G E (eF fa) σ H Q → tOf G E fa σ H Q := fun σ H Q ⟨b, F, r, S, h⟩ => by
  refine ⟨b, F, r, S, h.bnd0.mono fun rv r1 F1 H1 S1 st1 w1 h1 v q => ?_⟩
  have h1' : Out G E b F H σ r (DL.bnd (frz rv) (fun d => pur d) r1) fun d r1 F1 H1 => ∀ v, Dq G F1 v d → Q v H1 := by
    have z : DL.bnd (frz rv) (fun d => pur d) r1 = frz rv r1 := by
      unfold DL.bnd
      cases frz rv r1 <;> rfl
    rw [z]
    exact h1
  obtain ⟨d, r2, F2, S2, st2, w2, le, dq, h2⟩ := h1'.frz S S1 st1 w1 q
  exact h2 F2 H1 S2 st2 w2 v dq
theorem de_eF (h : PE X e (tOf G E fa)) : PE X e (tdOf G E (eF fa)) := PE_mono h frz_rd
/-- arguments that are frozen one by one -/
theorem das_nil : PA X [] (tasOf G E (eFs [])) := PA_mono pa_nil fun σ H Q ⟨b, F, r, S, h⟩ => h F H S Stp.refl Fewer.refl [] .nil
theorem das_cons {fs : List (M RV)} (ha : PE X e (tOf G E fa)) (hr : PA X es (tasOf G E (eFs fs))) (hs : starEach (e :: es) X.env = (false, eval e X.env) :: starEach es X.env := by rfl) : PA X (e :: es) (tasOf G E (eFs (fa :: fs))) :=
  PA_mono (pa_cons (de_eF ha) hr hs) fun σ H Q ⟨b, F, r, S, h⟩ => by
    refine ⟨b, F, r, S, h.bnd.mono fun d r1 F1 H1 S1 st1 w1 h1 v q => ⟨b, F1, r1, S1, h1.bnd.mono fun ds r2 F2 H2 S2 st2 w2 h2 vs qs => ?_⟩⟩
    exact h2 F2 H2 S2 Stp.refl Fewer.refl (v :: vs) (.cons (q.mono st2.gF) qs)
theorem DqA.length {F : Hp} : ∀ {vs : List V} {ds : List D}, DqA G F vs ds → vs.length = ds.length
  | _, _, .nil => rfl
  | _, _, .cons _ t => congrArg (· + 1) (DqA.length t)
theorem efs_len : ∀ {fs : List (M RV)} {r r1 : Env} {ds : List D}, eFs fs r = .ok ds r1 → ds.length = fs.length
  | [], r, r1, ds, h => by cases h; rfl
  | f :: fs, r, r1, ds, h => by
    unfold eFs at h
    unfold bnd at h
    cases e : eF f r with
    | ok d r2 =>
      rw [e] at h
      simp only at h
      cases e2 : eFs fs r2 with
      | ok ds' r3 =>
        rw [e2] at h
        cases h
        rw [List.length_cons, List.length_cons, efs_len e2]
      | exc x r3 => rw [e2] at h; cases h
      | bad => rw [e2] at h; cases h
    | exc x r2 => rw [e] at h; cases h
    | bad => rw [e] at h; cases h
theorem de_tup {fs : List (M RV)} {k} (h : PA X es (tasOf G E (eFs fs))) (hl : fs.length ≤ 1000 := by decide) : PE X (.Tuple es k pos) (tOf G E (eTup fs)) :=
  PE_mono (pe_tup h) fun σ H Q ⟨b, F, r, S, h⟩ => by
    refine ⟨b, F, r, S, ?_⟩
    have h0 := h.bnd0
    cases e : eFs fs r with
    | exc x r1 => rw [e] at h0; exact h0
    | bad => rw [e] at h0; exact h0
    | ok ds r1 =>
      rw [e] at h0
      intro F1 H1 S1 st1 w1 vs q
      have h1 := h0 F1 H1 S1 st1 w1
      have el : vs.length ≤ sizeLine := by
        rw [q.length, efs_len e]
        exact Nat.le_trans hl (by decide)
      refine ⟨el, fun p hp => ?_⟩
      obtain ⟨S2, st2, q2⟩ := (NewR.new (G := G) (F := F1) (H := H1) (o := .tup vs) (d := .tup ds) hp (.tup q)).ok (H0 := H) S1 st1.th
      exact h1 _ _ S2 (st1.trans w1 st2) w1 _ q2
theorem de_lst {fs : List (M RV)} (h : PA X es (tasOf G E (eFs fs))) (hl : fs.length ≤ 1000 := by decide) : PE X (.List es pos) (tOf G E (eLst fs)) :=
  PE_mono (pe_lst h) fun σ H Q ⟨b, F, r, S, h⟩ => by
    refine ⟨b, F, r, S, ?_⟩
    have h0 := h.bnd0
    cases e : eFs fs r with
    | exc x r1 => rw [e] at h0; exact h0
    | bad => rw [e] at h0; exact h0
    | ok ds r1 =>
      rw [e] at h0
      intro F1 H1 S1 st1 w1 vs q
      have h1 := h0 F1 H1 S1 st1 w1
      have el : vs.length ≤ sizeLine := by
        rw [q.length, efs_len e]
        exact Nat.le_trans hl (by decide)
      refine ⟨el, fun p hp => ?_⟩
      obtain ⟨S2, st2, q2⟩ := (NewR.tmp (G := G) (F := F1) (H := H1) (o := .lst vs) (d := .lst ds) hp (.lst q) mut_lst).ok (H0 := H) S1 st1.th
      exact h1 _ _ S2 (st1.trans w1 st2) w1 _ q2

/-! ### tests -/
theorem dt_V (h : PE X e (tOf G E fa)) (whole : ∀ w, isTrue e X.env w = (do let v ← w; standAt e.pos; holding [v] (truthy v)) := by intro _; rfl) : PT X e (ttOf G E (tV fa)) := PT_mono (pt_val h whole) fun σ H Q ⟨b, F, r, S, h⟩ => by
  refine ⟨b, F, r, S, h.bnd0.mono fun rv r1 F1 H1 S1 st1 w1 h1 v q => ?_⟩
  cases q with
  | fz q =>
    rename_i d
    cases q with
    | bl k => exact ⟨k, rfl, h1 F1 H1 S1 st1 w1⟩
    | ref _ ob => cases ob <;> exact False.elim h1
    | scr _ _ => exact False.elim h1
    | ksc _ _ => exact False.elim h1
    | _ => exact False.elim h1
  | _ => exact False.elim h1
theorem dw_and1 {f : M Bool} (h : PT X e (ttOf G E f)) : PW X (.BoolOp .And [e] pos) (ttOf G E f) := pw_and1 h
theorem dw_or1 {f : M Bool} (h : PT X e (ttOf G E f)) : PW X (.BoolOp .Or [e] pos) (ttOf G E f) := pw_or1 h
theorem PW_mono {e : Expr} {t t' : TT} (h : PW X e t) (w : ∀ σ H Q, t' σ H Q → t σ H Q) : PW X e t' := ⟨fun wh pins s σ H Q I q => h.run wh pins s σ H Q I (w σ H Q q)⟩
theorem dw_and {f g : M Bool} (ha : PT X a (ttOf G E f)) (hb : PW X (.BoolOp .And (c :: es) pos) (ttOf G E g)) : PW X (.BoolOp .And (a :: c :: es) pos) (ttOf G E (tAnd f g)) := PW_mono (pw_and ha hb) fun σ H Q ⟨b, F, r, S, h⟩ => by
  refine ⟨b, F, r, S, h.bnd.mono fun k r1 F1 H1 S1 st1 w1 h1 => ?_⟩
  cases k with
  | true => exact iteT ⟨b, F1, r1, S1, h1⟩
  | false => exact iteF (h1 F1 H1 S1 Stp.refl Fewer.refl)
theorem dw_or {f g : M Bool} (ha : PT X a (ttOf G E f)) (hb : PW X (.BoolOp .Or (c :: es) pos) (ttOf G E g)) : PW X (.BoolOp .Or (a :: c :: es) pos) (ttOf G E (tOr f g)) := PW_mono (pw_or ha hb) fun σ H Q ⟨b, F, r, S, h⟩ => by
  refine ⟨b, F, r, S, h.bnd.mono fun k r1 F1 H1 S1 st1 w1 h1 => ?_⟩
  cases k with
  | false => exact iteF ⟨b, F1, r1, S1, h1⟩
  | true => exact iteT (h1 F1 H1 S1 Stp.refl Fewer.refl)
theorem dt_not {f : M Bool} (h : PT X a (ttOf G E f)) : PT X (.UnaryOp .Not a pos) (ttOf G E (tNot f)) := PT_mono (pt_not h) fun σ H Q ⟨b, F, r, S, h⟩ =>
  ⟨b, F, r, S, h.bnd.mono fun k r1 F1 H1 S1 st1 w1 h1 => h1 F1 H1 S1 Stp.refl Fewer.refl⟩
theorem de_ifExp {f : M Bool} (hc : PT X e (ttOf G E f)) (ha : PE X a (tOf G E fa)) (hb : PE X c (tOf G E fb)) : PE X (.IfExp e a c pos) (tOf G E (eIf f fa fb)) := PE_mono (pe_ifExp hc ha hb) fun σ H Q ⟨b, F, r, S, h⟩ => by
  refine ⟨b, F, r, S, h.bnd.mono fun k r1 F1 H1 S1 st1 w1 h1 => ?_⟩
  have old : ∀ {f : M RV}, Out G E b F1 H1 σ r1 (f r1) (fun rv r1 F1 H1 => ∀ v, RvR G F1 H1 H σ r1 rv v → Q v H1) → tOf G E f σ H1 Q := fun h => ⟨b, F1, r1, S1, h.mono fun rv r2 F2 H2 S2 st2 w2 h2 v q => h2 v (q.older st1.th)⟩
  cases k with
  | true => exact iteT (old h1)
  | false => exact iteF (old h1)
end
end DL

end

section
set_option Elab.async false
set_option linter.all false
set_option maxRecDepth 100000
/-! Statements. -/
namespace DL
open PySem L2
section
variable {G : Gm} {E : EK} {b : Bas} {F H F1 H1 : Hp} {σ : L2.St} {r r1 r2 : Env} {rv : RV} {v : V} {d : D} {a : Addr} {o : HO} {i : Nat}
/-- a slot that is not lent -/
def Free (r : Env) (i : Nat) : Prop := r[i]? = some .no ∨ (∃ d, r[i]? = some (.val d)) ∨ ∃ d, r[i]? = some (.own d)
theorem Free.lt (h : Free r i) : i < r.length := by
  rcases h with h | ⟨d, h⟩ | ⟨d, h⟩ <;> exact lt_of_get h
theorem put_cases {x : Slot} {u : Unit} (e : put i x r = .ok u r1) : Free r i ∧ r1 = r.set i x := by
  unfold put at e
  split at e
  · rename_i q; cases e; exact ⟨.inl q, rfl⟩
  · rename_i q; cases e; exact ⟨.inr (.inl ⟨_, q⟩), rfl⟩
  · rename_i q; cases e; exact ⟨.inr (.inr ⟨_, q⟩), rfl⟩
  · cases e
theorem put_bad {x : Slot} : (∃ r1, put i x r = .ok () r1) ∨ put i x r = .bad := by
  unfold put
  split
  · exact .inl ⟨_, rfl⟩
  · exact .inl ⟨_, rfl⟩
  · exact .inl ⟨_, rfl⟩
  · exact .inr rfl
theorem Stt.put (S : Stt G b F H σ r) {x : Slot} (hf : Free r i) (hx : (∃ d, x = .val d ∧ Dq G F v d) ∨ (∃ d a o, x = .own d ∧ v = .ref a ∧ F a = none ∧ H a = some o ∧ Ob G F o d ∧ MutO o ∧ b.W a ∧ ¬ Own σ r a)) : Stt G b F H (σ.set i (some v)) (r.set i x) := by
  have hi : i < r.length := hf.lt
  have hs : i < σ.length := by rw [← S.len]; exact hi
  have rs : (r.set i x)[i]? = some x := List.getElem?_set_self hi
  have ro : ∀ j, j ≠ i → (r.set i x)[j]? = r[j]? := fun j z => List.getElem?_set_ne (Ne.symm z)
  have ss : (σ.set i (some v))[i]? = some (some v) := List.getElem?_set_self hs
  have so : ∀ j, j ≠ i → (σ.set i (some v))[j]? = σ[j]? := fun j z => List.getElem?_set_ne (Ne.symm z)
  have nb : ∀ d, x ≠ .brw d ∧ x ≠ .fbr d := fun d => by
    rcases hx with ⟨d', e, _⟩ | ⟨d', a, o, e, _⟩ <;> subst e <;> exact ⟨(fun z => nomatch z), (fun z => nomatch z)⟩
  refine ⟨by rw [List.length_set, List.length_set]; exact S.len, S.sub, ?_, ?_, ?_, ?_, ?_, S.gF, S.nF, S.kH, S.wn, S.th, S.tp, ?_⟩
  · intro j u q
    by_cases z : j = i
    · subst z
      rw [rs] at q
      rcases hx with ⟨d', e, dq⟩ | ⟨d', a, o, e, _⟩ <;> subst e
      · rcases q with q | q <;> cases q
        exact ⟨v, ss, dq⟩
      · rcases q with q | q <;> cases q
    · rw [ro j z] at q
      rw [so j z]
      exact S.val j u q
  · intro j u q
    by_cases z : j = i
    · subst z
      rw [rs] at q
      rcases hx with ⟨d', e, dq⟩ | ⟨d', a, o, e, ev, h1, h2, h3, h4, h5, _⟩ <;> subst e
      · rcases q with q | q <;> cases q
      · rcases q with q | q <;> cases q
        exact ⟨a, o, by rw [ss, ev], h1, h2, h3, h4, h5⟩
    · rw [ro j z] at q
      rw [so j z]
      exact S.own j u q
  · have key : ∀ j k a, isOwn (r.set i x) j → isOwn (r.set i x) k → (σ.set i (some v))[j]? = some (some (.ref a)) → (σ.set i (some v))[k]? = some (some (.ref a)) → j ≠ i → j = k := fun j k a oj ok ej ek zj => by
      obtain ⟨u, q⟩ := oj
      rw [ro j zj] at q
      rw [so j zj] at ej
      by_cases zk : k = i
      · exfalso
        subst zk
        rw [ss] at ek
        cases ek
        obtain ⟨u', q'⟩ := ok
        rw [rs] at q'
        rcases hx with ⟨d', e, dq⟩ | ⟨d', a', o, e, ev, h1, h2, h3, h4, h5, h6⟩ <;> subst e
        · rcases q' with q' | q' <;> cases q'
        · cases ev
          exact h6 ⟨j, ⟨u, q⟩, ej⟩
      · obtain ⟨u', q'⟩ := ok
        rw [ro k zk] at q'
        rw [so k zk] at ek
        exact S.inj j k a ⟨u, q⟩ ⟨u', q'⟩ ej ek
    intro j k a oj ok ej ek
    by_cases zj : j = i
    · by_cases zk : k = i
      · rw [zj, zk]
      · exact (key k j a ok oj ek ej zk).symm
    · exact key j k a oj ok ej ek zj
  · intro j u q
    by_cases z : j = i
    · subst z
      rw [rs] at q
      rcases q with q | q
      · exact ((nb u).1 (Option.some.inj q)).elim
      · exact ((nb u).2 (Option.some.inj q)).elim
    · rw [ro j z] at q
      rw [so j z]
      exact S.fix j u q
  · intro j hj
    obtain ⟨u, q⟩ := S.lent j hj
    by_cases z : j = i
    · exfalso
      subst z
      rcases hf with h | ⟨d, h⟩ | ⟨d, h⟩ <;> rw [h] at q <;> rcases q with q | q <;> cases q
    · rw [ro j z]
      exact ⟨u, q⟩
  · intro j u q
    by_cases z : j = i
    · subst z
      rw [rs] at q
      exact ((nb u).2 (Option.some.inj q)).elim
    · rw [ro j z] at q
      exact S.nk j u q

theorem OutS.bnd {α : Type} {m : M α} {k : α → S} {D : Ends} {F0 : Hp} (h : OutS G E b F0 (bnd m k r) D) (l0 : Le F0 F := by exact Le.refl _) : Out G E b F H σ r (m r) fun a r1 F1 H1 => OutS G E b F0 (k a r1) D := by
  unfold DL.bnd at h
  cases e : m r with
  | ok a r1 =>
    rw [e] at h
    intro F1 H1 S1 st1 w1
    exact h
  | exc x r1 =>
    rw [e] at h
    exact fun cls d F' H' S' l x => h cls d σ F' H' S' (l0.trans l) x
  | bad =>
    rw [e] at h
    exact h
/-- slot i is stored -/
theorem OutS.set {D : Ends} (h : OutS G E b F (DL.bnd (asSlot rv) (fun s => DL.bnd (DL.put i s) fun _ => pur Flow.nx) r1) D) (S : Stt G b F H σ r) (S1 : Stt G b F1 H1 σ r1) (st : Stp σ r F H F1 H1) (w : Fewer σ r r1) (q : RvR G F1 H1 H σ r1 rv v) :
    D.nx (σ.set i (some v)) H1 := by
  have fin : ∀ {x : Slot} {r2 : Env} {F2 : Hp}, Stt G b F2 H1 σ r2 → Le F F2 → OutS G E b F (DL.bnd (DL.put i x) (fun _ => pur Flow.nx) r2) D →
      ((∃ d, x = .val d ∧ Dq G F2 v d) ∨ (∃ d a o, x = .own d ∧ v = .ref a ∧ F2 a = none ∧ H1 a = some o ∧ Ob G F2 o d ∧ MutO o ∧ b.W a ∧ ¬ Own σ r2 a)) → D.nx (σ.set i (some v)) H1 := fun {x r2 F2} S2 le h hx => by
    rcases put_bad (i := i) (r := r2) (x := x) with ⟨r3, e⟩ | e
    · obtain ⟨hf, er⟩ := put_cases e
      have h : OutS G E b F (.ok Flow.nx r3) D := by
        unfold DL.bnd at h
        rw [e] at h
        exact h
      exact h _ F2 H1 (er ▸ S2.put hf hx) le
    · unfold DL.bnd at h
      rw [e] at h
      exact False.elim h
  cases q with
  | fz q => exact fin S1 st.gF h (.inl ⟨_, rfl, q⟩)
  | tmp h1 h2 h3 h4 h5 h6 => exact fin S1 st.gF h (.inr ⟨_, _, _, rfl, rfl, h1, h2, h3, h4, S.wn _ (S.th _ h6), h5⟩)
  | loc ev =>
    rename_i j
    have h' : OutS G E b F (DL.bnd (frz (.loc j)) (fun d => DL.bnd (DL.put i (.val d)) fun _ => pur Flow.nx) r1) D := by
      have z : DL.bnd (asSlot (.loc j)) (fun s => DL.bnd (DL.put i s) fun _ => pur Flow.nx) = DL.bnd (frz (.loc j)) (fun d => DL.bnd (DL.put i (.val d)) fun _ => pur Flow.nx) :=
        bnd_assoc (frz (.loc j)) (fun d => pur (Slot.val d)) (fun s => DL.bnd (DL.put i s) fun _ => pur Flow.nx)
      rw [← z]
      exact h
    unfold DL.bnd at h'
    cases e : frz (.loc j) r1 with
    | ok d r2 =>
      rw [e] at h'
      obtain ⟨F2, S2, st2, w2, le, dq⟩ := frz_ok S S1 st w (.loc ev) e
      exact fin S2 st2.gF h' (.inl ⟨_, rfl, dq⟩)
    | exc x r2 => exact (frz_noexc e).elim
    | bad =>
      rw [e] at h'
      exact False.elim h'
end
section
variable {X : Cx} {G : Gm} {E : EK} {a c e : Expr} {fa fb fc : M RV} {pos : Pos} {es : List Expr} {st : Stmt} {rest : List Stmt} {f g : S}
theorem ds_set {i : Nat} {x : Str} {pos' : Pos} (hN : X.N.Nodup) (he : PE X e (tOf G E fa)) (hi : X.N[i]? = some x := by rfl) (hx : Loc X.env.scope x := by first | exact Or.inl rfl | exact Or.inr rfl) (hs : swapsWith e (some (.Name x pos')) pos.line X.env = pure false := by rfl)
    (hf : X.fn x = true ∨ X.env.scope.names.lookup x = some .local := by first | exact .inl rfl | exact .inr rfl | assumption) : PS X (.Assign [.Name x pos'] e pos) (tsOf G E (sSet i fa)) :=
  PS_mono (ps_set hN hi hx he hs hf) fun D σ H ⟨b, F, r, S, h⟩ => ⟨b, F, r, S, h.bnd.mono fun rv r1 F1 H1 S1 st1 w1 h1 v q => h1.set S S1 st1 w1 q⟩
theorem ds_ret (he : PE X e (tOf G E fa)) : PS X (.Return (some e) pos) (tsOf G E (sRet fa)) :=
  PS_mono (ps_ret he) fun D σ H ⟨b, F, r, S, h⟩ => ⟨b, F, r, S, h.bnd.mono fun rv r1 F1 H1 S1 st1 w1 h1 v q => h1 σ F1 H1 v S1 (q.older S.th)⟩
theorem ds_expr (he : PE X e (tOf G E fa)) (hs : swapsWith e none pos.line X.env = pure false := by rfl) : PS X (.Expr e pos) (tsOf G E (sExpr fa)) :=
  PS_mono (ps_expr he hs) fun D σ H ⟨b, F, r, S, h⟩ => ⟨b, F, r, S, h.bnd.mono fun rv r1 F1 H1 S1 st1 w1 h1 v q => h1 σ F1 H1 S1 st1.gF⟩
theorem ds_if {t : M Bool} {xs ys : List Stmt} (hc : PT X c (ttOf G E t)) (ha : PSs X xs (tsOf G E f)) (hb : PSs X ys (tsOf G E g)) : PS X (.If c xs ys pos) (tsOf G E (sIf t f g)) :=
  PS_mono (ps_if hc ha hb) fun D σ H ⟨b, F, r, S, h⟩ => ⟨b, F, r, S, h.bnd.mono fun k r1 F1 H1 S1 st1 w1 h1 => by
    cases k with
    | true => exact iteT ⟨b, F1, r1, S1, OutS.older h1 st1.gF⟩
    | false => exact iteF ⟨b, F1, r1, S1, OutS.older h1 st1.gF⟩⟩
theorem dss_nil : PSs X [] (tsOf G E sNx) := PSs_mono pss_nil fun D σ H ⟨b, F, r, S, h⟩ => h σ F H S (Le.refl _)
theorem dss_one (h : PS X st (tsOf G E f)) : PSs X [st] (tsOf G E f) := pss_one h
theorem dss_cons (h1 : PS X st (tsOf G E f)) (h2 : PSs X rest (tsOf G E g)) : PSs X (st :: rest) (tsOf G E (sSeq f g)) :=
  PSs_mono (pss_cons h1 h2) fun D σ H ⟨b, F, r, S, h⟩ => ⟨b, F, r, S, by
    have h : OutS G E b F (bnd f (fun fl => match fl with
      | .nx => g
      | .ret v => pur (.ret v)
      | .brk => pur .brk
      | .cnt => pur .cnt) r) D := h
    unfold bnd at h
    cases e : f r with
    | ok fl r1 =>
      rw [e] at h
      cases fl with
      | nx => exact fun σ1 F1 H1 S1 le => ⟨b, F1, r1, S1, OutS.older h le⟩
      | ret v => exact h
      | brk => exact h
      | cnt => exact h
    | exc x r1 =>
      rw [e] at h
      exact h
    | bad =>
      rw [e] at h
      exact h⟩
end
end DL

end

section
set_option Elab.async false
set_option linter.all false
set_option maxRecDepth 100000
set_option maxHeartbeats 1000000
/-! Calls of the text's own defs. -/
namespace DL
open PySem L2
theorem RvRs.older {G : Gm} {F H H0 H00 : Hp} {σ : L2.St} {r : Env} (th : ∀ a, H0 a = none → H00 a = none) : ∀ {rvs : List RV} {vs : List V}, RvRs G F H H0 σ r rvs vs → RvRs G F H H00 σ r rvs vs
  | _, _, .nil => .nil
  | _, _, .cons h t n => .cons (h.older th) (t.older th) n
theorem RvRs.length {G : Gm} {F H H0 : Hp} {σ : L2.St} {r : Env} : ∀ {rvs : List RV} {vs : List V}, RvRs G F H H0 σ r rvs vs → rvs.length = vs.length
  | _, _, .nil => rfl
  | _, _, .cons _ t _ => congrArg (· + 1) t.length
theorem RvRs.get {G : Gm} {F H H0 : Hp} {σ : L2.St} {r : Env} : ∀ {rvs : List RV} {vs : List V} {j : Nat} {rv : RV}, RvRs G F H H0 σ r rvs vs → rvs[j]? = some rv → ∃ v, vs[j]? = some v ∧ RvR G F H H0 σ r rv v
  | _, _, j, rv, .nil, e => by simp at e
  | _, _, 0, rv, .cons h _ _, e => by
    have e' := Option.some.inj e
    subst e'
    exact ⟨_, rfl, h⟩
  | _, _, j + 1, rv, .cons _ t _, e => by
    obtain ⟨v, e1, e2⟩ := t.get (j := j) (by simpa using e)
    exact ⟨v, by simpa using e1, e2⟩
theorem RvRs.dist {G : Gm} {F H H0 : Hp} {σ : L2.St} {r : Env} : ∀ {rvs : List RV} {vs : List V} {j k : Nat} {d d' : D} {v : V}, RvRs G F H H0 σ r rvs vs → rvs[j]? = some (.tmp d) → rvs[k]? = some (.tmp d') → vs[j]? = some v → vs[k]? = some v → j = k
  | _, _, j, k, d, d', v, .nil, e, _, _, _ => by simp at e
  | _, _, 0, 0, d, d', v, .cons _ _ _, _, _, _, _ => rfl
  | _, _, 0, k + 1, d, d', v, .cons h t n, e1, e2, e3, e4 => by
    exfalso
    have e1' := Option.some.inj e1
    have e3' := Option.some.inj e3
    subst e3'
    exact n d e1' k d' (by simpa using e2) (by simpa using e4)
  | _, _, j + 1, 0, d, d', v, .cons h t n, e1, e2, e3, e4 => by
    exfalso
    have e2' := Option.some.inj e2
    have e4' := Option.some.inj e4
    subst e4'
    exact n d' e2' j d (by simpa using e1) (by simpa using e3)
  | _, _, j + 1, k + 1, d, d', v, .cons h t n, e1, e2, e3, e4 => congrArg (· + 1) (t.dist (by simpa using e1) (by simpa using e2) (by simpa using e3) (by simpa using e4))
section
variable {X : Cx} {G : Gm} {E : EK} {a c e : Expr} {fa fb fc : M RV} {pos : Pos} {es : List Expr}
theorem da_nil : PA X [] (taOf G E (eArgs [])) := PA_mono pa_nil fun σ H Q ⟨b, F, r, S, h⟩ => h F H S Stp.refl Fewer.refl [] .nil
theorem RvRs.pass {F H F' H' H0 : Hp} {σ : L2.St} {r r' : Env} (st : Stp σ r F H F' H') (w : Fewer σ r r') : ∀ {rvs : List RV} {vs : List V}, RvRs G F H H0 σ r rvs vs → RvRs G F' H' H0 σ r' rvs vs
  | _, _, .nil => .nil
  | _, _, .cons h t n => .cons (h.pass st w) (t.pass st w) n
theorem da_cons {fs : List (M RV)} (ha : PE X e (tOf G E fa)) (hr : PA X es (taOf G E (eArgs fs))) (hs : starEach (e :: es) X.env = (false, eval e X.env) :: starEach es X.env := by rfl) : PA X (e :: es) (taOf G E (eArgs (fa :: fs))) :=
  PA_mono (pa_cons ha hr hs) fun σ H Q ⟨b, F, r, S, h⟩ => by
    refine ⟨b, F, r, S, h.bnd.mono fun rv r1 F1 H1 S1 st1 w1 h1 v q => ⟨b, F1, r1, S1, h1.bnd.mono fun rvs r2 F2 H2 S2 st2 w2 h2 vs qs => ?_⟩⟩
    refine h2 F2 H2 S2 Stp.refl Fewer.refl (v :: vs) (.cons (q.pass st2 w2) (qs.older st1.th) fun d ed j d' ej ev => ?_)
    subst ed
    obtain ⟨v', e1, q'⟩ := qs.get ej
    rw [ev] at e1
    cases e1
    cases q with
    | tmp h1 h2 h3 h4 h5 h6 =>
      cases q' with
      | tmp g1 g2 g3 g4 g5 g6 =>
        rw [h2] at g6
        cases g6
end

/-! ### what a def promises -/
/-- what it may write: its lent and given objects, new ones -/
def WOf (vs : List V) (args : List Slot) (H : Hp) : Addr → Prop := fun a => Own (vs.map some) args a ∨ H a = none
def BasOf (F H : Hp) (vs : List V) (args : List Slot) : Bas := ⟨F, H, WOf vs args H, fun i => ∃ d, args[i]? = some (Slot.brw d), fun i => vs[i]?, fun _ => False⟩
/-- the caller's view of a def's end -/
structure Post (G : Gm) (F H : Hp) (W : Addr → Prop) (vs : List V) (args : List Slot) (r : Env) (F' H' : Hp) : Prop where
  sub : Le F' H'
  gF : Le F F'
  nF : ∀ a o, F' a = some o → F a = some o ∨ W a
  kH : ∀ a o, H a = some o → ¬ W a → H' a = some o
  th : ∀ a, H' a = none → H a = none
  tp : ∀ a xs, H' a = some (.tup xs) → F' a = some (.tup xs)
  nk : ∀ (i : Nat) (d : D), r[i]? = some (Slot.fbr d) → isK d = false
  lent : ∀ (i : Nat) (d : D), args[i]? = some (Slot.brw d) → ∃ d, r[i]? = some (Slot.brw d) ∨ r[i]? = some (Slot.fbr d)
  brw : ∀ (i : Nat) (d : D), r[i]? = some (Slot.brw d) → ∃ a o, vs[i]? = some (V.ref a) ∧ F' a = none ∧ H' a = some o ∧ Ob G F' o d ∧ MutO o
  fbr : ∀ (i : Nat) (d : D), r[i]? = some (Slot.fbr d) → ∃ v, vs[i]? = some v ∧ Dq G F' v d
/-- its result: a new object is none that was lent -/
inductive RetR (G : Gm) (F' H' : Hp) (W : Addr → Prop) (vs : List V) (r : Env) : RV → V → Prop
  | fz {d : D} {v : V} : Dq G F' v d → RetR G F' H' W vs r (.fz d) v
  | tmp {d : D} {a : Addr} {o : HO} : F' a = none → H' a = some o → Ob G F' o d → MutO o → W a → (∀ (j : Nat) (d : D), r[j]? = some (Slot.brw d) → vs[j]? ≠ some (V.ref a)) → RetR G F' H' W vs r (.tmp d) (.ref a)
def spOf (G : Gm) (f : Fn) : Sp := fun vs H Q E => ∃ F args, args.length = vs.length ∧ Stt G (BasOf F H vs args) F H (vs.map some) args ∧ (match f args with
  | .ok rv r => ∀ v F' H', Post G F H (WOf vs args H) vs args r F' H' → RetR G F' H' (WOf vs args H) vs r rv v → Q v H'
  | .exc x r => ∀ cls d F' H', Post G F H (WOf vs args H) vs args r F' H' → ExR G F' H' x cls d → E cls d H'
  | .bad => False)
section
variable {G : Gm} {F H F' H' : Hp} {σ : L2.St} {r r1 : Env} {vs : List V} {args : List Slot} {rv : RV} {v : V} {n : Nat}
theorem take_get {α : Type} {r : List α} {n i : Nat} {x : α} (h : (r.take n)[i]? = some x) : r[i]? = some x ∧ i < n := by
  rw [List.getElem?_take] at h
  split at h
  · rename_i q; exact ⟨h, q⟩
  · cases h
theorem Stt.post (S : Stt G (BasOf F H vs args) F' H' σ r) (hn : args.length = n) : Post G F H (WOf vs args H) vs args (r.take n) F' H' where
  sub := S.sub
  gF := S.gF
  nF := S.nF
  kH := S.kH
  th := S.th
  tp := S.tp
  nk := fun i d q => (S.nk i d (take_get q).1).elim id False.elim
  lent := fun i d q => by
    obtain ⟨d', q'⟩ := S.lent i ⟨d, q⟩
    have hi : i < n := by rw [← hn]; exact lt_of_get q
    refine ⟨d', ?_⟩
    rw [List.getElem?_take_of_lt hi]
    exact q'
  brw := fun i d q => by
    obtain ⟨q', _⟩ := take_get q
    obtain ⟨a, o, e1, e2, e3, e4, e5, e6⟩ := S.own i d (.inr q')
    obtain ⟨v, f1, f2⟩ := S.fix i d (.inl q')
    rw [e1] at f2
    cases f2
    exact ⟨a, o, f1, e2, e3, e4, e5⟩
  fbr := fun i d q => by
    obtain ⟨q', _⟩ := take_get q
    obtain ⟨v, e1, e2⟩ := S.val i d (.inr q')
    obtain ⟨v', f1, f2⟩ := S.fix i d (.inr q')
    rw [e1] at f2
    cases f2
    exact ⟨v, f1, e2⟩
/-- a def's end: the result is handed over -/
theorem fin_ok (S : Stt G (BasOf F H vs args) F' H' σ r) (q : RvR G F' H' H σ r rv v) {w : RV} (e : fin n rv r = .ok w r1) (hn : args.length = n) :
    ∃ F2, Post G F H (WOf vs args H) vs args (r1.take n) F2 H' ∧ RetR G F2 H' (WOf vs args H) vs (r1.take n) w v := by
  cases q with
  | fz q => cases e; exact ⟨F', S.post hn, .fz q⟩
  | tmp h1 h2 h3 h4 h5 h6 =>
    cases e
    refine ⟨F', S.post hn, .tmp h1 h2 h3 h4 (.inr h6) fun j d q z => h5 ?_⟩
    obtain ⟨q', _⟩ := take_get q
    obtain ⟨v, f1, f2⟩ := S.fix j d (.inl q')
    rw [show (BasOf F H vs args).vs j = vs[j]? from rfl, z] at f1
    cases f1
    exact ⟨j, ⟨d, .inr q'⟩, f2⟩
  | loc ev =>
    rename_i i
    unfold fin at e
    simp only at e
    split at e
    · rename_i d q
      split at e
      · cases e
        obtain ⟨a, o, e1, e2, e3, S2, dq⟩ := S.frzL (s := .val d) (.inl ⟨rfl, q⟩)
        rw [ev] at e1
        cases e1
        exact ⟨_, S2.post hn, .fz dq⟩
      · rename_i hi
        cases e
        obtain ⟨a, o, e1, e2, e3, e4, e5, e6⟩ := S.own i d (.inl q)
        rw [ev] at e1
        cases e1
        refine ⟨F', S.post hn, .tmp e2 e3 e4 e5 e6 fun j d' q' z => ?_⟩
        obtain ⟨q'', hj⟩ := take_get q'
        obtain ⟨v, f1, f2⟩ := S.fix j d' (.inl q'')
        rw [show (BasOf F H vs args).vs j = vs[j]? from rfl, z] at f1
        cases f1
        have z' := S.inj i j a ⟨d, .inl q⟩ ⟨d', .inr q''⟩ ev f2
        omega
    · rename_i d q
      cases e
      obtain ⟨a, o, e1, e2, e3, S2, dq⟩ := S.frzL (s := .fbr d) (.inr ⟨rfl, q⟩)
      rw [ev] at e1
      cases e1
      exact ⟨_, S2.post hn, .fz dq⟩
    · rename_i d q
      cases e
      obtain ⟨u, e1, e2⟩ := S.val i d (.inl q)
      rw [ev] at e1
      cases e1
      exact ⟨F', S.post hn, .fz e2⟩
    · rename_i d q
      cases e
      obtain ⟨u, e1, e2⟩ := S.val i d (.inr q)
      rw [ev] at e1
      cases e1
      exact ⟨F', S.post hn, .fz e2⟩
    · cases e
end
end DL

end

section
set_option Elab.async false
set_option linter.all false
set_option maxRecDepth 100000
set_option maxHeartbeats 2000000
/-! Promises of defs where no repr is under way: room, the def, its calls, the law's end. -/
namespace DL
open PySem L2 PySem.Spec PyProof.Rows
/-- room, and nothing that guards a repr -/
structure Room (n : Nat) (A : Around) : Prop where
  ok : L2.Room n A
  gd : A.guards = some []
namespace Room
variable {n m : Nat} {A : Around}
theorem hd (r : DL.Room n A) : A.handled = none := r.ok.hd
theorem dp (r : DL.Room n A) : A.depth + 3 * n + 5 < recursionLimit := r.ok.dp
theorem un (r : DL.Room n A) : A.units + 16 * n + 200 < cLine := r.ok.un
theorem depth (r : DL.Room n A) : A.depth < recursionLimit := r.ok.depth
theorem units (r : DL.Room n A) : A.units + 64 < cLine := r.ok.units
theorem mono (r : DL.Room n A) (h : m ≤ n) : DL.Room m A := ⟨r.ok.mono h, r.gd⟩
theorem deeper (r : DL.Room (n + 1) A) (e : PySem.Env) : DL.Room n (A.deeper e) := ⟨r.ok.deeper e, r.gd⟩
theorem in1 (r : DL.Room (n + 1) A) : DL.Room n A.in1 := ⟨r.ok.in1, r.gd⟩
theorem make (r : DL.Room (n + 1) A) (C : Addr) (us : List Value) (kw : List (Str × Value)) : DL.Room n (A.under (.builtin "type.__call__" ⟨.ref C :: us, kw⟩)) :=
  ⟨r.ok.make C us kw, by
    have e : (Code.builtin "type.__call__" ⟨.ref C :: us, kw⟩).guards = [] := by simp [Code.guards, Code.isGuard, guardIds]
    simp only [Around.under, e, pushGuards, r.gd]⟩
end Room
theorem hu_of {n : Nat} {A : Around} (r : DL.Room n A) : A.units + 1 < cLine := L2.hu_of r.ok
/-- what a def promises there -/
structure FnOk (P : Program) (w : World) (K : PySem.W.Frag) (mg : Str → Option Value) (base : Heap) (CX : CXT) (n : Nat) (f : Addr) (fd : FuncData) (ps : List Str) (sp : Sp) : Prop where
  len : ∀ xs H Q E, sp xs H Q E → xs.length = ps.length
  run : ∀ (A : Around) (below : List PySem.Env) (s : Shared) (H : Hp) (as : Args) (us : List Value) (xs : List V) (Q : VK) (E : XK), Room n A → Env0 P w K mg base A below s H → BindsTo s fd as (ps.zip us) → Vals xs us → sp xs H Q E →
    codeAny (model P w) A (.call (.ref f) as) (CR CX below P w H s Q E) s
section
variable {P : Program} {w : World} {K : PySem.W.Frag} {mg : Str → Option Value} {base : Heap}
theorem FnOk.mono {CX : CXT} {m n : Nat} {f : Addr} {fd : FuncData} {ps : List Str} {sp : Sp} (F : FnOk P w K mg base CX m f fd ps sp) (h : m ≤ n) : FnOk P w K mg base CX n f fd ps sp := by
  refine ⟨F.len, ?_⟩
  intro A below s H as us xs Q E r
  exact F.run A below s H as us xs Q E (r.mono h)
theorem FnOk.imp {CX : CXT} {n : Nat} {f : Addr} {fd : FuncData} {ps : List Str} {sp sp2 : Sp} (F : FnOk P w K mg base CX n f fd ps sp) (h : ∀ xs H Q E, sp2 xs H Q E → sp xs H Q E) : FnOk P w K mg base CX n f fd ps sp2 := by
  refine ⟨fun xs H Q E q => F.len xs H Q E (h xs H Q E q), ?_⟩
  intro A below s H as us xs Q E r e b v z
  exact F.run A below s H as us xs Q E r e b v (h xs H Q E z)
theorem okX {x qual : Str} {st : Stmt} {f : Addr} {fd : FuncData} {N ps : List Str} {n : Nat} {sp : Sp} (F : Fun K x qual st f fd) (S : FnScope N ps (defScope st)) (len : ∀ xs H Q E, sp xs H Q E → xs.length = ps.length)
    (body : ∀ (cdv : Value) (A : Around) (below : List PySem.Env) (s : Shared) (H : Hp) (xs : List V) (Q : VK) (E : XK), Room n (A.deeper (envOfC qual (defScope st) s.heap.objs.size f cdv)) → sp xs H Q E →
      ∃ t, PSs (cxOf (L2N.CX P w) P w K mg base N qual (defScope st) f cdv A below s H E) (defBody st) t ∧ t { nx := fun _ H' => Q .non H', rt := Q } (start N xs) H) : FnOk P w K mg base (L2N.CX P w) (n + 1) f fd ps sp := by
  obtain ⟨y1, y2, y3, y4, y5, y6, cdv, y8, y9, rfl, at0, cod⟩ := F.ex
  constructor
  · exact len
  intro A below s H as us xs Q E room e0 bnd rel spx
  have lx := len xs H Q E spx
  have kin : K.In s.heap := e0.mod.kin.keeps fun a o z => (e0.bs a o z).1
  have nol : s.heap.NoLimit := e0.mod.nolimit.keeps fun a o z => (e0.bs a o z).1
  refine codeAny_call_function room.depth (kin f _ at0) rfl S.co S.gen rfl (PySem.W.codeRec_of kin cod) (bnd _ _ _ _ ?_)
  refine wpAny_newFunctionEnv_cells S.kind (fun z hz => ?_) (fun en ee s1 ic => ?_)
  · cases S.par z.1 (List.of_mem_zip (a := z.1) (b := z.2) hz).1 with
    | inl q => left; exact q
    | inr q => right; exact ⟨q, PySem.W.cellsFrom_some _ _ _ (Or.inl q)⟩
  · subst ee
    refine ⟨nol.keeps ic.toInCall.keep, codeAny_func ?_⟩
    obtain ⟨t, pt, go⟩ := body cdv A below s H xs Q E (room.deeper _) spx
    have I := inv_start (CX := L2N.CX P w) (P := P) (w := w) (K := K) (mg := mg) (base := base) (E := E) S room.hd e0 lx rel ic
    refine wpAny_mono (pt.run [] s1 (start N xs) H _ I go) ?_ (fun _ _ z => z)
    intro fl s2 z
    cases fl with
    | ret u => exact let ⟨v, σ2, H2, J, rv, q⟩ := z; ⟨v, H2, J.os, J.bare, J.base, J.hok, rv, q⟩
    | next => exact let ⟨σ2, H2, J, q⟩ := z; ⟨V.non, H2, J.os, J.bare, J.base, J.hok, rfl, q⟩
    | brk => exact let ⟨_, _, _, q⟩ := z; False.elim q
    | cont => exact let ⟨_, _, _, q⟩ := z; False.elim q
end
section
variable {X : Cx} {CX : CXT} {n : Nat} {f C : Addr} {fd : FuncData} {ps : List Str} {sp : Sp}
/-- the callee runs; E: what is wanted of an exception -/
theorem run_gn {A : Around} {pins : List (Addr × Obj)} {σ : L2.St} {H : Hp} {s : Shared} {Q : VK} {E : XK} {us : List Value} {xs : List V} (F : FnOk X.prog X.w X.K X.mg X.base CX n f fd ps sp) (room : Room n A) (e0 : Env0 X.prog X.w X.K X.mg X.base A X.stack s H) (bd : Binds X.K fd ps [])
    (pass : ∀ e s', CX X.stack H s E e s' → X.xe e s') (I : Inv X pins σ H s) (rel : Vals xs us) (go : sp xs H Q E) : wpAny (model X.prog X.w) A (call (.ref f) us) (EP X pins σ Q) X.xe s := by
  have lu : us.length = ps.length := rel.length.symm.trans (F.len xs H Q E go)
  have bd2 := bd s us I.kIn ((congrArg List.length (List.append_nil us)).trans lu)
  rw [List.append_nil] at bd2
  refine wpAny_call (codeAny_mono (F.run A X.stack s H ⟨us, []⟩ us xs Q E room e0 bd2 rel go) ?_)
  intro r s2 z
  match r, z with
  | .error e, z => exact pass e s2 z
  | .ok (.ret u), z => exact I.after z
  | .ok .next, z => exact z.elim
  | .ok .brk, z => exact z.elim
  | .ok .cont, z => exact z.elim
variable {E : L2.St → XK} {x m : Str} {p pos apos : Pos} {e o : Expr} {es : List Expr} {ta : TE} {t : TA}
theorem pe_callG (F : FnOk X.prog X.w X.K X.mg X.base CX n f fd ps sp) (room : Room n X.A) (hg : Gl X x) (hm : X.mg x = some (.ref f)) (kp : PySem.W.keepIn X.K (.ref f) = true) (bd : Binds X.K fd ps []) (pass : ∀ σ, PassesAt CX X σ (E σ)) (ha : PA X (e :: es) t)
    (db : (x == ("__debug__" : Str)) = false := by decide) (st : starEach (e :: es) X.env = (false, eval e X.env) :: starEach es X.env := by rfl) (pl : (backTo pos (starEach es X.env)).any (·.1) = false := by rfl) :
    PE X (.Call (.Name x p) (e :: es) [] pos) (tCallS sp E t) := by
  constructor
  intro pins s σ H Q I go
  refine wpAny_Call_Name_kw (ld_glob I hg hm (PySem.W.callWith_K (h₀ := X.base) I.ok.mod.kin kp (thn (ha.run pos pins s σ H _ I go) ?_) st pl) db)
  intro us s1 ⟨xs, H1, I1, rel, q⟩
  exact ⟨I1.kIn, run_gn F room I1.env0 bd (fun e2 s2 z => pass σ pins H1 s1 e2 s2 I1 z) I1 rel q⟩
theorem pe_methG {E : XK} {pl : Sem Bool} (he : PE X o ta) (c : Cls X.K C) (hm : Meth X.K C m f) (F : FnOk X.prog X.w X.K X.mg X.base CX n f fd ps sp) (room : Room n X.A) (bd : Binds X.K fd ps []) (pass : Passes CX X E) (ha : PA X (e :: es) t)
    (st : starEach (e :: es) X.env = (false, eval e X.env) :: starEach es X.env := by rfl) (pn : (backTo pos (starEach es X.env)).any (·.1) = false := by rfl)
    (tr : eval (.Call (.Attribute o m apos) (e :: es) [] pos) X.env = (do
      let w ← eval o X.env; standAt apos.atName
      let (g, fst) ← holding [w] (getMethod w m pl); callWith pos g fst (backTo pos (starEach (e :: es) X.env)) (backToKw pos (keywordEach [] X.env))) := by rfl) :
    PE X (.Call (.Attribute o m apos) (e :: es) [] pos) (tMeth C m sp [] E ta t) := by
  constructor
  intro pins s σ H Q I go
  refine PySem.W.methodCall_KW (pl := pl) (thn (he.run pins s σ H _ I go) ?_) tr
  rintro u s1 ⟨y, H1, I1, ry, a, dx, fs, rfl, ea, no, q⟩
  have eu : u = Value.ref a := ry
  cases eu
  refine getmeth_ok I1 ea c hm no (PySem.W.callWith_K (first := [.ref a]) (h₀ := X.base) I.ok.mod.kin hm.kp (thn (ha.run pos pins s1 σ H1 _ I1 q) ?_) st pn)
  intro us s2 ⟨xs, H2, I2, rel, q2⟩
  have q2 : sp (V.ref a :: (xs ++ [])) H2 Q E := q2
  rw [List.append_nil] at q2
  exact ⟨I2.kIn, run_gn (us := .ref a :: us) F room I2.env0 bd (fun e2 s3 z => pass pins σ H2 s2 e2 s3 I2 z) I2 (.cons (a := V.ref a) rfl rel) q2⟩
theorem pe_makeG {E : XK} (M : Mk X.K C f) (F : FnOk X.prog X.w X.K X.mg X.base CX n f fd ps sp) (room : Room (n + 1) X.A) (hg : Gl X x) (hm : X.mg x = some (.ref C)) (bd : Binds X.K fd ps []) (pass : Passes CX X E) (ha : PA X (e :: es) t)
    (db : (x == ("__debug__" : Str)) = false := by decide) (st : starEach (e :: es) X.env = (false, eval e X.env) :: starEach es X.env := by rfl) (pn : (backTo pos (starEach es X.env)).any (·.1) = false := by rfl) :
    PE X (.Call (.Name x p) (e :: es) [] pos) (tMake C sp [] E t) := by
  constructor
  intro pins s0 σ H0 Q I0 go
  refine wpAny_Call_Name_kw (ld_glob I0 hg hm (PySem.W.callWith_K (h₀ := X.base) I0.ok.mod.kin M.kp (thn (ha.run pos pins s0 σ H0 _ I0 go) ?_) st pn) db)
  intro us s ⟨xs, H, I, rel, q⟩
  refine ⟨I.kIn, ?_⟩
  have q1 := q (s.heap.objs.size + 1) s.heap.objs.size (I.hok.fresh (Nat.le_succ _)) (I.hok.fresh (Nat.le_refl _)) (Nat.ne_of_lt (Nat.lt_succ_self _))
  rw [List.append_nil] at q1
  have J := Inv.made (C := C) I
  have rel2 : Vals (V.ref (s.heap.objs.size + 1) :: xs) (Value.ref (s.heap.objs.size + 1) :: us) := .cons rfl rel
  have lu : (Value.ref (s.heap.objs.size + 1) :: us).length = ps.length := rel2.length.symm.trans (F.len _ _ _ _ q1)
  have bd2 := bd _ (Value.ref (s.heap.objs.size + 1) :: us) J.kIn ((congrArg List.length (List.append_nil _)).trans lu)
  rw [List.append_nil] at bd2
  refine wpAny_call (make_map (f := f) I.kIn M.makes M.init (beq_iff_eq.mp M.fn) (codeAny_mono (F.run _ X.stack _ _ ⟨_, []⟩ _ _ _ E (room.make C us []) (J.env0.make C us []) bd2 rel2 q1) ?_))
  intro r s2 z
  match r, z with
  | .error e2, z => exact pass pins σ _ _ e2 s2 J z
  | .ok .next, z => exact z.elim
  | .ok .brk, z => exact z.elim
  | .ok .cont, z => exact z.elim
  | .ok (.ret u), z =>
    obtain ⟨v, H2, J2, rv, ev, q3⟩ := J.after z
    cases ev
    exact ⟨rv, V.ref (s.heap.objs.size + 1), H2, J2, rfl, q3⟩
theorem takesN {Y : Cx} : L2N.Takes Y (fun _ _ _ _ => False) := fun _ _ ⟨_, _, _, _, _, _, _, _, _, _, _, _, _, _, _, _, z⟩ => z.elim
end
/-! ### the law's end -/
section
variable {P : Program} {w : World} {K : PySem.W.Frag} {mg mb : Str → Option Value} {CX : CXT} {n : Nat} {fa a : Addr} {fd : FuncData} {x : Str} {sp : Sp} {s1 : Shared} {vs : List Value} {ns : List Int}
/-- what the law's call has to show -/
abbrev LawR (s1 : Shared) : Result → Shared → Prop := fun r s2 => r = .ok (.ret (.bool true)) ∧ OldK s1.heap s2.heap ∧ s2.os = s1.os ∧ AllBare s2.gens
/-- H: at most the script at a is tracked -/
theorem law_core (KX : K.In s1.heap) (gm : s1.heap.Ns mainGlobals mg) (bm : s1.heap.Ns builtinsNs mb) (bb : ∀ y : Str, y ≠ "__name__" → mb y = bootBuiltins y) (nol : s1.heap.NoLimit) (gn : s1.gens = #[])
    (at0 : s1.heap.get? a = some { cls := .type "list", data := .seq vs.toArray }) (room : Room n callerA)
    (F : ∀ b : Heap, K.In b → b.Ns mainGlobals mg → FnOk P w K mg b CX n fa fd [x] sp) (bd : ∀ (s : Shared) (u : Value), BindsTo s fd ⟨[u], []⟩ [(x, u)]) (noexc : ∀ H e s2, CX [] H s1 (fun _ _ _ => False) e s2 → False)
    (H : Hp) (on : Only H) (ok : HOk P w H s1.heap) (hA : ∀ b, H b ≠ none → b = a) (hK : H a ≠ none → K.lookup a = none) (go : sp [.ref a] H (fun v _ => v = .bl true) fun _ _ _ => False) :
    codeAny (model P w) callerA (.call (.ref fa) ⟨[.ref a], []⟩) (LawR s1) s1 := by
  have isA : ∀ {b : Addr} {u : HO}, H b = some u → b = a := fun {b u} q => hA b (q ▸ Option.some_ne_none u)
  have stay : ∀ {b : Addr} {o : Obj}, s1.heap.get? b = some o → H b = none → (hidT s1.heap H).get? b = some o := hidT_get
  have nsK : ∀ {b : Addr} {m : Str → Option Value}, s1.heap.Ns b m → (hidT s1.heap H).Ns b m := by
    rintro b m ⟨o, es, ep, e, d, r⟩
    refine ⟨o, es, ep, stay e ?_, d, r⟩
    cases q : H b with
    | none => rfl
    | some u =>
      cases isA q
      cases at0.symm.trans e
      exact nomatch (show Data.seq vs.toArray _ = Data.dict es ep from d)
  have kb : K.In (hidT s1.heap H) := by
    intro b o e
    refine stay (KX b o e) ?_
    cases q : H b with
    | none => rfl
    | some u =>
      cases isA q
      cases (hK (q ▸ Option.some_ne_none u)).symm.trans e
  have md : Mod K mg (hidT s1.heap H) := by
    obtain ⟨mc, c1, c2⟩ := nol
    exact ⟨kb, nsK gm, ⟨mb, nsK bm, bb⟩, mc, nsK c1, c2⟩
  have e0 : Env0 P w K mg (hidT s1.heap H) callerA [] s1 H := by
    refine ⟨rfl, md, fun b o e => of_hidT e, Nat.le_of_eq (hidT_size _ _), trivial, ?_, ok, .of_eq gn⟩
    intro b z
    exact nomatch (show b ∈ ([] : List Addr) from z)
  refine codeAny_mono ((F _ kb (nsK gm)).run callerA [] s1 H ⟨[.ref a], []⟩ [.ref a] [.ref a] _ _ room e0 (bd s1 (.ref a)) (.cons rfl .nil) go) ?_
  intro r s2 z
  match r, z with
  | .error e, z => exact (noexc H e s2 z).elim
  | .ok .next, z => exact z.elim
  | .ok .brk, z => exact z.elim
  | .ok .cont, z => exact z.elim
  | .ok (.ret u), z =>
    obtain ⟨v, H2, eo, bare, un, ok2, rv, q⟩ := z
    cases (show v = .bl true from q)
    cases (show u = Value.bool true from rv)
    refine ⟨rfl, OldK.of_keep (fun b o e => ?_), eo, bare⟩
    rcases on b with z | ⟨ob, ys, z⟩
    · exact un.keep b o e z (fun y => nomatch (show b ∈ ([] : List Addr) from y)) (fun y => nomatch y)
    · obtain ⟨e1, _⟩ := ok b _ z
      obtain ⟨e2, _⟩ := ok2 b _ (un.frzs b ob _ z)
      cases e1.symm.trans e
      exact e2
theorem law_run (KX : K.In s1.heap) (gm : s1.heap.Ns mainGlobals mg) (bm : s1.heap.Ns builtinsNs mb) (bb : ∀ y : Str, y ≠ "__name__" → mb y = bootBuiltins y) (nol : s1.heap.NoLimit) (gn : s1.gens = #[])
    (at0 : s1.heap.get? a = some { cls := .type "list", data := .seq vs.toArray }) (iv : IntsAre vs ns) (few : ns.length ≤ sizeLine) (room : Room n callerA)
    (F : ∀ b : Heap, K.In b → b.Ns mainGlobals mg → FnOk P w K mg b CX n fa fd [x] sp) (bd : ∀ (s : Shared) (u : Value), BindsTo s fd ⟨[u], []⟩ [(x, u)]) (noexc : ∀ H e s2, CX [] H s1 (fun _ _ _ => False) e s2 → False)
    (go : ∀ H : Hp, Only H → SqL K H a (ns.map V.int) → sp [.ref a] H (fun v _ => v = .bl true) fun _ _ _ => False) :
    codeAny (model P w) callerA (.call (.ref fa) ⟨[.ref a], []⟩) (LawR s1) s1 := by
  have rv := vals_ints iv
  have lv : (ns.map V.int).length ≤ sizeLine := by rw [List.length_map]; exact few
  cases hk : K.lookup a with
  | some o =>
    have e := (KX a o hk).symm.trans at0
    cases e
    have on : Only (fun _ => none) := fun _ => .inl rfl
    exact law_core KX gm bm bb nol gn at0 room F bd noexc _ on (fun b u z => nomatch (show (none : Option HO) = some u from z)) (fun b z => (z rfl).elim) (fun z => (z rfl).elim)
      (go _ on (.inr ⟨_, vs.toArray, _, hk, rfl, rfl, rfl, by rw [List.size_toArray, iv.length]; exact few, by simpa using rv⟩))
  | none =>
    have on : Only (fun b => if b = a then some (.frz { cls := .type "list", data := .seq vs.toArray } (.lst (ns.map V.int))) else none) := by
      intro b
      by_cases e : b = a
      · exact .inr ⟨_, _, if_pos e⟩
      · exact .inl (if_neg e)
    refine law_core KX gm bm bb nol gn at0 room F bd noexc _ on ?_ ?_ (fun _ => hk) (go _ on (.inl (.inr ⟨_, if_pos rfl⟩)))
    · intro b u z
      by_cases e : b = a
      · cases (if_pos e).symm.trans z
        cases e
        exact ⟨at0, lv, vs, _, rv, at0⟩
      · cases (if_neg e).symm.trans z
    · intro b z
      exact Classical.byContradiction fun e => z (if_neg e)
theorem walk_gn {l : PySem.W.OpenLaw} {m n : Nat} {q : Program} {loose : List Str} {XP : (Str → Option Value) → Heap → Prop} {YP : World → Heap → Prop} {d : DefRec} {K : Params → PySem.W.Frag} {CX : World → CXT} {sp : World → Sp} {x : Str}
    (hm : l.most = some m) (few : m ≤ sizeLine) (hdf : d.params.defaults = []) (room : Room n callerA) (hY : ∀ (w : World) (h : Heap), YP w h → (K w.params).In h)
    (F : ∀ (w : World) (mg : Str → Option Value) (fa : Addr) (h : Heap), (K w.params).In h → h.Ns mainGlobals mg → mg d.name = some (.ref fa) →
      ∃ fd : FuncData, (∀ (s : Shared) (u : Value), BindsTo s fd ⟨[u], []⟩ [(x, u)]) ∧ ∀ b : Heap, (K w.params).In b → b.Ns mainGlobals mg → FnOk l.prog w (K w.params) mg b (CX w) n fa fd [x] (sp w))
    (go : ∀ (w : World) (H : Hp) (a : Addr) (ns : List Int), ns.length ≤ m → Only H → SqL (K w.params) H a (ns.map V.int) → sp w [.ref a] H (fun v _ => v = .bl true) fun _ _ _ => False)
    (noexc : ∀ (w : World) (H : Hp) (s : Shared) (e : Value) (s2 : Shared), CX w [] H s (fun _ _ _ => False) e s2 → False) :
    PySem.W.WalkO q loose XP YP l.row.toRowW d [] (fun f us => PySem.call f us) := by
  apply Att.attach_call hm hdf
  intro w s0 s1 mg mb fa o pm cd doc a us ns G Y _ _ _ hmg at0 iv hl hg
  obtain ⟨fd, bd, hF⟩ := F w mg fa _ (hY w _ Y) G.T.g hmg
  exact law_run (hY w _ Y) G.T.g G.T.b G.T.builtins G.T.nolimit hg at0 iv (Nat.le_trans hl few) room hF bd (noexc w · s1 · ·) (fun H on sq => go w H a ns hl on sq)
end
end DL

end

section
set_option Elab.async false
set_option linter.all false
set_option maxRecDepth 100000
set_option maxHeartbeats 1000000
/-! A def by its body; its calls. -/
namespace DL
open PySem L2 PyProof.Rows
section
variable {G : Gm} {b : Bas} {F H F' H' F1 H1 : Hp} {σ : L2.St} {r r1 : Env} {vs : List V} {args : List Slot} {rv : RV} {v : V} {n k : Nat}
theorem get_more {α : Type} {l : List α} {x y : α} {k i : Nat} (h : (l ++ List.replicate k x)[i]? = some y) : l[i]? = some y ∨ y = x := by
  by_cases hi : i < l.length
  · rw [List.getElem?_append_left hi] at h
    exact .inl h
  · rw [List.getElem?_append_right (Nat.le_of_not_lt hi), List.getElem?_replicate] at h
    split at h
    · exact .inr (Option.some.inj h).symm
    · cases h
theorem get_old {α : Type} {l : List α} {x y : α} {k i : Nat} (h : l[i]? = some y) : (l ++ List.replicate k x)[i]? = some y := by
  rw [List.getElem?_append_left (lt_of_get h)]
  exact h
theorem Stt.more (S : Stt G b F H σ r) (k : Nat) : Stt G b F H (σ ++ List.replicate k none) (r ++ List.replicate k .no) := by
  have g : ∀ {i : Nat} {s : Slot}, (r ++ List.replicate k Slot.no)[i]? = some s → s ≠ .no → r[i]? = some s := fun {i s} h n => (get_more h).elim id fun z => (n z).elim
  have gs : ∀ {i : Nat} {a : Addr}, (σ ++ List.replicate k none)[i]? = some (some (V.ref a)) → σ[i]? = some (some (V.ref a)) := fun {i a} h => (get_more h).elim id fun z => nomatch z
  have io : ∀ {i : Nat}, isOwn (r ++ List.replicate k .no) i → isOwn r i := fun {i} ⟨d, q⟩ => ⟨d, q.imp (fun q => g q (fun z => nomatch z)) (fun q => g q (fun z => nomatch z))⟩
  refine ⟨?_, S.sub, ?_, ?_, ?_, ?_, ?_, S.gF, S.nF, S.kH, S.wn, S.th, S.tp, fun i d q => S.nk i d (g q (fun z => nomatch z))⟩
  · rw [List.length_append, List.length_append, List.length_replicate, List.length_replicate, S.len]
  · intro i d q
    obtain ⟨v, e1, e2⟩ := S.val i d (q.imp (fun q => g q (fun z => nomatch z)) (fun q => g q (fun z => nomatch z)))
    exact ⟨v, get_old e1, e2⟩
  · intro i d q
    obtain ⟨a, o, e1, e2⟩ := S.own i d (q.imp (fun q => g q (fun z => nomatch z)) (fun q => g q (fun z => nomatch z)))
    exact ⟨a, o, get_old e1, e2⟩
  · intro i j a oi oj ei ej
    exact S.inj i j a (io oi) (io oj) (gs ei) (gs ej)
  · intro i d q
    obtain ⟨v, e1, e2⟩ := S.fix i d (q.imp (fun q => g q (fun z => nomatch z)) (fun q => g q (fun z => nomatch z)))
    exact ⟨v, e1, get_old e2⟩
  · intro i h
    obtain ⟨d, q⟩ := S.lent i h
    exact ⟨d, q.imp get_old get_old⟩
end
section
variable {P : Program} {w : World} {K : PySem.W.Frag} {mg : Str → Option Value} {base : Heap} {G : Gm}
/-- THE RULE for a def -/
theorem fn_def {x qual : Str} {st : Stmt} {f : Addr} {fd : FuncData} {N ps : List Str} {lv n k : Nat} {body : S} (F : Fun K x qual st f fd) (S : FnScope N ps (defScope st)) (hn : ps.length = n) (hk : N.length = n + k)
    (hb : ∀ (cdv : Value) (A : Around) (outer : List PySem.Env) (s : Shared) (H : Hp) (E : XK), Room lv (A.deeper (envOfC qual (defScope st) s.heap.objs.size f cdv)) →
      PSs (cxOf (L2N.CX P w) P w K mg base N qual (defScope st) f cdv A outer s H E) (defBody st) (tsOf G (.of E) body)) : FnOk P w K mg base (L2N.CX P w) (lv + 1) f fd ps (spOf G (fn n k body)) := by
  have hlen : ∀ vs H Q E, spOf G (fn n k body) vs H Q E → vs.length = n := fun vs H Q E ⟨F0, args, hl, S0, h⟩ => by
    rw [← hl]
    by_cases e : args.length = n
    · exact e
    · unfold fn at h
      rw [if_neg e] at h
      exact False.elim h
  refine okX F S (fun vs H Q E h => (hlen vs H Q E h).trans hn.symm) (fun cdv A outer s H vs Q E hr h => ⟨tsOf G (.of E) body, hb cdv A outer s H E hr, ?_⟩)
  have hv := hlen vs H Q E h
  obtain ⟨F0, args, hl, S0, h⟩ := h
  have ha : args.length = n := hl.trans hv
  have es : L2.start N vs = vs.map some ++ List.replicate k none := by
    unfold L2.start
    rw [hk, hv]
    rw [Nat.add_sub_cancel_left]
  rw [es]
  refine ⟨⟨BasOf F0 H vs args, trivial⟩, F0, args ++ List.replicate k .no, S0.more k, ?_⟩
  unfold fn at h
  rw [if_pos ha] at h
  cases e : body (args ++ List.replicate k .no) with
  | bad =>
    rw [e] at h
    exact False.elim h
  | exc x r =>
    rw [e] at h
    exact fun cls d σ F1 H1 S1 _ hx => h cls d F1 H1 (S1.post ha) hx
  | ok fl r =>
    rw [e] at h
    cases fl with
    | nx => exact fun σ F1 H1 S1 _ => h .non F1 H1 (S1.post ha) (.fz .non)
    | brk => exact False.elim h
    | cnt => exact False.elim h
    | ret rv =>
      intro σ F1 H1 v S1 q
      have h : match (match fin n rv r with
        | .ok w r' => Res.ok w (r'.take n)
        | _ => .bad) with
        | .ok rv r => ∀ v F' H', Post G F0 H (WOf vs args H) vs args r F' H' → RetR G F' H' (WOf vs args H) vs r rv v → Q v H'
        | .exc x r => ∀ cls d F' H', Post G F0 H (WOf vs args H) vs args r F' H' → ExR G F' H' x cls d → E cls d H'
        | .bad => False := h
      cases e2 : fin n rv r with
      | ok w r2 =>
        rw [e2] at h
        obtain ⟨F2, p, q2⟩ := fin_ok S1 q e2 ha
        exact h v F2 H1 p q2
      | exc x r2 =>
        rw [e2] at h
        exact False.elim h
      | bad =>
        rw [e2] at h
        exact False.elim h
end
/-! ### the call -/
section
variable {G : Gm} {b : Bas} {F H F' H' F1 H1 : Hp} {σ : L2.St} {r r1 : Env} {vs : List V} {args : List Slot} {rv : RV} {rvs : List RV} {v : V} {n k : Nat}
theorem argSlots_get : ∀ {rvs : List RV} {ss : List Slot} {j : Nat} {s : Slot}, argSlots r rvs = some ss → ss[j]? = some s → ∃ rv, rvs[j]? = some rv ∧ argSlot rv r = some s
  | [], ss, j, s, h, e => by cases h; simp at e
  | rv :: rvs, ss, j, s, h, e => by
    unfold argSlots at h
    cases e1 : argSlot rv r with
    | none => rw [e1] at h; cases h
    | some s1 =>
      rw [e1] at h
      cases e2 : argSlots r rvs with
      | none => rw [e2] at h; cases h
      | some s2 =>
        rw [e2] at h
        cases h
        cases j with
        | zero =>
          have e' := Option.some.inj e
          subst e'
          exact ⟨rv, rfl, e1⟩
        | succ j =>
          obtain ⟨x, q1, q2⟩ := argSlots_get (j := j) e2 (by simpa using e)
          exact ⟨x, by simpa using q1, q2⟩
theorem argSlots_len : ∀ {rvs : List RV} {ss : List Slot}, argSlots r rvs = some ss → ss.length = rvs.length
  | [], ss, h => by cases h; rfl
  | rv :: rvs, ss, h => by
    unfold argSlots at h
    cases e1 : argSlot rv r with
    | none => rw [e1] at h; cases h
    | some s1 =>
      rw [e1] at h
      cases e2 : argSlots r rvs with
      | none => rw [e2] at h; cases h
      | some s2 =>
        rw [e2] at h
        cases h
        exact congrArg (· + 1) (argSlots_len e2)
theorem locs_get : ∀ {rvs : List RV} {j i : Nat}, rvs[j]? = some (.loc i) → i ∈ locs rvs
  | [], j, i, h => by simp at h
  | rv :: rvs, 0, i, h => by
    have h' := Option.some.inj h
    subst h'
    exact List.mem_cons_self
  | rv :: rvs, j + 1, i, h => by
    have m := locs_get (rvs := rvs) (j := j) (i := i) (by simpa using h)
    cases rv with
    | loc k => exact List.mem_cons_of_mem _ m
    | fz d => exact m
    | tmp d => exact m
theorem locs_inj : ∀ {rvs : List RV} {j k i : Nat}, (locs rvs).Nodup → rvs[j]? = some (.loc i) → rvs[k]? = some (.loc i) → j = k
  | [], j, k, i, _, h, _ => by simp at h
  | rv :: rvs, 0, 0, i, _, _, _ => rfl
  | rv :: rvs, 0, k + 1, i, nd, h, h' => by
    exfalso
    have e := Option.some.inj h
    subst e
    exact (List.nodup_cons.mp nd).1 (locs_get (by simpa using h'))
  | rv :: rvs, j + 1, 0, i, nd, h, h' => by
    exfalso
    have e := Option.some.inj h'
    subst e
    exact (List.nodup_cons.mp nd).1 (locs_get (by simpa using h))
  | rv :: rvs, j + 1, k + 1, i, nd, h, h' => by
    have nd' : (locs rvs).Nodup := by
      cases rv with
      | loc m => exact (List.nodup_cons.mp nd).2
      | fz d => exact nd
      | tmp d => exact nd
    exact congrArg (· + 1) (locs_inj nd' (by simpa using h) (by simpa using h'))
/-- what an argument's slot says -/
inductive ArgC (r : Env) (rv : RV) : Slot → Prop
  | fz {d : D} : rv = .fz d → ArgC r rv (.val d)
  | tmp {d : D} : rv = .tmp d → ArgC r rv (.own d)
  | lend {i : Nat} {d : D} : rv = .loc i → (r[i]? = some (.own d) ∨ r[i]? = some (.brw d)) → ArgC r rv (.brw d)
  | val {i : Nat} {d : D} : rv = .loc i → (r[i]? = some (.val d) ∨ r[i]? = some (.fbr d)) → ArgC r rv (.val d)
theorem argC {s : Slot} (h : argSlot rv r = some s) : ArgC r rv s := by
  cases rv with
  | fz d => cases h; exact .fz rfl
  | tmp d => cases h; exact .tmp rfl
  | loc i =>
    unfold argSlot at h
    simp only at h
    split at h
    · rename_i q; cases h; exact .lend rfl (.inl q)
    · rename_i q; cases h; exact .lend rfl (.inr q)
    · rename_i q; cases h; exact .val rfl (.inl q)
    · rename_i q; cases h; exact .val rfl (.inr q)
    · cases h
theorem FAt.no {a : Addr} {o : HO} (h : FAt F a o) (e : F a = none) : False := by
  have h : F a = some o := h
  rw [h] at e
  cases e
/-- the callee's begin -/
theorem args_ok (S : Stt G b F1 H1 σ r1) (q : RvRs G F1 H1 H σ r1 rvs vs) (ha : argSlots r1 rvs = some args) (hn : (locs rvs).Nodup) : Stt G (BasOf F1 H1 vs args) F1 H1 (vs.map some) args := by
  have at_ : ∀ {j : Nat} {s : Slot}, args[j]? = some s → ∃ rv v, rvs[j]? = some rv ∧ vs[j]? = some v ∧ RvR G F1 H1 H σ r1 rv v ∧ ArgC r1 rv s := fun {j s} e => by
    obtain ⟨rv, e1, e2⟩ := argSlots_get ha e
    obtain ⟨v, e3, e4⟩ := q.get e1
    exact ⟨rv, v, e1, e3, e4, argC e2⟩
  have mv : ∀ {j : Nat} {v : V}, vs[j]? = some v → (vs.map some)[j]? = some (some v) := fun {j v} e => by rw [List.getElem?_map, e]; rfl
  have vm : ∀ {j : Nat} {v : V}, (vs.map some)[j]? = some (some v) → vs[j]? = some v := fun {j v} e => by
    rw [List.getElem?_map] at e
    cases q : vs[j]? with
    | none => rw [q] at e; cases e
    | some u => rw [q] at e; cases e; rfl
  refine ⟨?_, S.sub, ?_, ?_, ?_, ?_, ?_, Le.refl _, fun a o h => .inl h, fun a o h _ => h, fun a h => .inr h, fun a h => h, S.tp, fun i d e => ?_⟩
  · rw [argSlots_len ha, List.length_map, q.length]
  · intro i d e
    rcases e with e | e
    · obtain ⟨rv, v, e1, e2, e3, e4⟩ := at_ e
      refine ⟨v, mv e2, ?_⟩
      cases e4 with
      | fz z => subst z; cases e3 with | fz q => exact q
      | val z1 z2 =>
        subst z1
        cases e3 with
        | loc ev =>
          obtain ⟨u, f1, f2⟩ := S.val _ d z2
          rw [ev] at f1
          cases f1
          exact f2
    · obtain ⟨rv, v, e1, e2, e3, e4⟩ := at_ e
      cases e4
  · intro i d e
    rcases e with e | e
    · obtain ⟨rv, v, e1, e2, e3, e4⟩ := at_ e
      cases e4 with
      | tmp z =>
        subst z
        cases e3 with
        | tmp h1 h2 h3 h4 h5 h6 => exact ⟨_, _, mv e2, h1, h2, h3, h4, .inl ⟨i, ⟨d, .inl e⟩, mv e2⟩⟩
    · obtain ⟨rv, v, e1, e2, e3, e4⟩ := at_ e
      cases e4 with
      | lend z1 z2 =>
        subst z1
        cases e3 with
        | loc ev =>
          obtain ⟨a, o, f1, f2, f3, f4, f5, f6⟩ := S.own _ d z2
          rw [ev] at f1
          cases f1
          exact ⟨a, o, mv e2, f2, f3, f4, f5, .inl ⟨i, ⟨d, .inr e⟩, mv e2⟩⟩
  · intro i j a oi oj ei ej
    have ei' := vm ei
    have ej' := vm ej
    have cl : ∀ {i : Nat}, isOwn args i → vs[i]? = some (V.ref a) → (∃ d, rvs[i]? = some (.tmp d) ∧ ¬ Own σ r1 a) ∨ (∃ m, rvs[i]? = some (.loc m) ∧ isOwn r1 m ∧ σ[m]? = some (some (.ref a))) := fun {i} ⟨d, e⟩ ev => by
      rcases e with e | e
      · obtain ⟨rv, v, e1, e2, e3, e4⟩ := at_ e
        rw [ev] at e2
        cases e2
        cases e4 with
        | tmp z =>
          subst z
          cases e3 with
          | tmp h1 h2 h3 h4 h5 h6 => exact .inl ⟨d, e1, h5⟩
      · obtain ⟨rv, v, e1, e2, e3, e4⟩ := at_ e
        rw [ev] at e2
        cases e2
        cases e4 with
        | lend z1 z2 =>
          subst z1
          cases e3 with
          | loc q => exact .inr ⟨_, e1, ⟨d, z2⟩, q⟩
    rcases cl oi ei' with ⟨d, f1, f2⟩ | ⟨m, f1, f2, f3⟩
    · rcases cl oj ej' with ⟨d', g1, g2⟩ | ⟨m', g1, g2, g3⟩
      · exact q.dist f1 g1 ei' ej'
      · exact (f2 ⟨m', g2, g3⟩).elim
    · rcases cl oj ej' with ⟨d', g1, g2⟩ | ⟨m', g1, g2, g3⟩
      · exact (g2 ⟨m, f2, f3⟩).elim
      · have z := S.inj m m' a f2 g2 f3 g3
        subst z
        exact locs_inj hn f1 g1
  · intro i d e
    rcases e with e | e
    · obtain ⟨rv, v, e1, e2, e3, e4⟩ := at_ e
      exact ⟨v, e2, mv e2⟩
    · obtain ⟨rv, v, e1, e2, e3, e4⟩ := at_ e
      exact ⟨v, e2, mv e2⟩
  · rintro i ⟨d, e⟩
    exact ⟨d, .inl e⟩
  · obtain ⟨rv, v, e1, e2, e3, e4⟩ := at_ e
    cases e4
end
end DL

end

section
set_option Elab.async false
set_option linter.all false
set_option maxRecDepth 100000
set_option maxHeartbeats 1000000
/-! Behind a call. -/
namespace DL
open PySem L2 PyProof.Rows
section
variable {G : Gm} {b : Bas} {F H F0 H0 F' H' F1 H1 F2 H2 : Hp} {σ : L2.St} {r r0 r1 r2 : Env} {vs : List V} {args ss : List Slot} {rv w : RV} {rvs : List RV} {v : V} {n k : Nat} {E : EK}
/-- what becomes of a lent slot -/
inductive BackT (r : Env) (i : Nat) : Slot → Slot → Prop
  | own {d d' : D} : r[i]? = some (.own d) → BackT r i (.brw d') (.own d')
  | val {d d' : D} : r[i]? = some (.own d) → BackT r i (.fbr d') (.val d')
  | brw {d d' : D} : r[i]? = some (.brw d) → BackT r i (.brw d') (.brw d')
  | fbr {d d' : D} : r[i]? = some (.brw d) → BackT r i (.fbr d') (.fbr d')
theorem BackT.lt {i : Nat} {s t : Slot} (h : BackT r i s t) : i < r.length := by
  cases h <;> (rename_i q; exact lt_of_get q)
theorem backOne_at {s : Slot} (h : backOne rv s r = some r2) : ((∀ i, rv ≠ .loc i) ∧ r2 = r) ∨ (∃ i, rv = .loc i ∧ r2 = r ∧ ((∃ d, r[i]? = some (.val d)) ∨ ∃ d, r[i]? = some (.fbr d))) ∨ ∃ i t, rv = .loc i ∧ r2 = r.set i t ∧ BackT r i s t := by
  cases rv with
  | fz d => cases h; exact .inl ⟨(fun i z => nomatch z), rfl⟩
  | tmp d => cases h; exact .inl ⟨(fun i z => nomatch z), rfl⟩
  | loc i =>
    unfold backOne at h
    simp only at h
    split at h
    · rename_i q; cases h; exact .inr (.inr ⟨i, _, rfl, rfl, .own q⟩)
    · rename_i q; cases h; exact .inr (.inr ⟨i, _, rfl, rfl, .val q⟩)
    · rename_i q; cases h; exact .inr (.inr ⟨i, _, rfl, rfl, .brw q⟩)
    · rename_i q; cases h; exact .inr (.inr ⟨i, _, rfl, rfl, .fbr q⟩)
    · rename_i q; cases h; exact .inr (.inl ⟨i, rfl, rfl, .inl ⟨_, q⟩⟩)
    · rename_i q; cases h; exact .inr (.inl ⟨i, rfl, rfl, .inr ⟨_, q⟩⟩)
    · cases h
/-- the environment behind a call, slot by slot -/
inductive BackR (r : Env) (rvs : List RV) (ss : List Slot) (i : Nat) : Slot → Prop
  | same {s : Slot} : r[i]? = some s → (∀ (j : Nat) (d : D), rvs[j]? = some (RV.loc i) → s ≠ .own d ∧ s ≠ .brw d) → BackR r rvs ss i s
  | back {j : Nat} {s t : Slot} : rvs[j]? = some (RV.loc i) → ss[j]? = some s → BackT r i s t → BackR r rvs ss i t
theorem BackT.of {r r' : Env} {i : Nat} {s t : Slot} (h : BackT r i s t) (e : r[i]? = r'[i]?) : BackT r' i s t := by
  cases h with
  | own q => rw [e] at q; exact .own q
  | val q => rw [e] at q; exact .val q
  | brw q => rw [e] at q; exact .brw q
  | fbr q => rw [e] at q; exact .fbr q
theorem backAll_get : ∀ {rvs : List RV} {ss : List Slot} {r r2 : Env}, backAll rvs ss r = some r2 → (locs rvs).Nodup → r2.length = r.length ∧ ∀ i s, r2[i]? = some s → BackR r rvs ss i s
  | [], [], r, r2, h, _ => by
    cases h
    exact ⟨rfl, fun i s e => .same e fun j d q => by simp at q⟩
  | [], _ :: _, r, r2, h, _ => by cases h
  | _ :: _, [], r, r2, h, _ => by cases h
  | rv :: rvs, s0 :: ss, r, r2, h, nd => by
    unfold backAll at h
    cases e : backOne rv s0 r with
    | none => rw [e] at h; cases h
    | some r' =>
      rw [e] at h
      have nd' : (locs rvs).Nodup := by
        cases rv with
        | loc m => exact (List.nodup_cons.mp nd).2
        | fz d => exact nd
        | tmp d => exact nd
      obtain ⟨hl, hg⟩ := backAll_get (r := r') h nd'
      -- what the rest says of a slot that rv is not about
      have tail : ∀ {i : Nat} {s : Slot}, BackR r' rvs ss i s → r'[i]? = r[i]? → (rv = .loc i → ∀ d, s ≠ .own d ∧ s ≠ .brw d) → BackR r (rv :: rvs) (s0 :: ss) i s := fun {i s} h er hn => by
        cases h with
        | same q n =>
          refine .same (er ▸ q) fun j d z => ?_
          match j, z with
          | 0, z => exact hn (Option.some.inj z) d
          | j + 1, z => exact n j d (by simpa using z)
        | back q1 q2 q3 => exact .back (j := _ + 1) (by simpa using q1) (by simpa using q2) (q3.of er)
      rcases backOne_at e with ⟨hn, er⟩ | ⟨i0, erv, er, hv⟩ | ⟨i0, t, erv, er, ht⟩
      · subst er
        exact ⟨hl, fun i s q => tail (hg i s q) rfl fun z => (hn i z).elim⟩
      · subst er
        refine ⟨hl, fun i s q => ?_⟩
        have b := hg i s q
        by_cases z : i = i0
        · subst z
          subst erv
          refine tail b rfl fun _ d => ?_
          cases b with
          | same q' n =>
            rcases hv with ⟨u, hv⟩ | ⟨u, hv⟩ <;> rw [hv] at q' <;> cases q' <;> exact ⟨(fun z => nomatch z), (fun z => nomatch z)⟩
          | back q1 q2 q3 => exact ((List.nodup_cons.mp nd).1 (locs_get q1)).elim
        · exact tail b rfl fun z' => (z (by rw [erv] at z'; exact (RV.loc.inj z').symm)).elim
      · subst er
        refine ⟨by rw [hl, List.length_set], fun i s q => ?_⟩
        have b := hg i s q
        by_cases z : i = i0
        · subst z
          subst erv
          cases b with
          | same q' n =>
            rw [List.getElem?_set_self ht.lt] at q'
            cases q'
            exact .back (j := 0) rfl rfl ht
          | back q1 q2 q3 => exact ((List.nodup_cons.mp nd).1 (locs_get q1)).elim
        · exact tail b (List.getElem?_set_ne (Ne.symm z)) fun z' => (z (by rw [erv] at z'; exact (RV.loc.inj z').symm)).elim

theorem back_less (hb : backAll rvs ss r = some r2) (hn : (locs rvs).Nodup) : ∀ i, isOwn r2 i → isOwn r i := fun i ⟨d, e⟩ => by
  obtain ⟨hl, hg⟩ := backAll_get hb hn
  have cs : ∀ {s : Slot}, r2[i]? = some s → (s = .own d ∨ s = .brw d) → isOwn r i := fun {s} e es => by
    cases hg i s e with
    | same q n => rcases es with rfl | rfl; exact ⟨d, .inl q⟩; exact ⟨d, .inr q⟩
    | back q1 q2 q3 =>
      cases q3 with
      | own q => exact ⟨_, .inl q⟩
      | brw q => exact ⟨_, .inr q⟩
      | val q => exact ⟨_, .inl q⟩
      | fbr q => exact ⟨_, .inr q⟩
  rcases e with e | e
  · exact cs e (.inl rfl)
  · exact cs e (.inr rfl)
/-- the caller's state behind a call; W, its objects -/
theorem back_okW (S : Stt G b F H σ r) (st : Stp σ r0 F0 H0 F H) (fw : ∀ a, Own σ r a → Own σ r0 a ∨ H0 a = none) (wn : ∀ a, H0 a = none → b.W a) (q : RvRs G F H H0 σ r rvs vs) (ha : argSlots r rvs = some args) (hn : (locs rvs).Nodup) (p : Post G F H (WOf vs args H) vs args ss F' H') (hb : backAll rvs ss r = some r2) :
    Stt G b F' H' σ r2 ∧ Stp σ r0 F0 H0 F' H' ∧ Fewer σ r r2 ∧ ∀ rv v, RetR G F' H' (WOf vs args H) vs ss rv v → RvR G F' H' H0 σ r2 rv v := by
  obtain ⟨hl, hg⟩ := backAll_get hb hn
  -- an argument's object
  have arg : ∀ {i : Nat} {a : Addr}, isOwn args i → (vs.map some)[i]? = some (some (V.ref a)) → (Own σ r a ∧ ∃ m d, rvs[i]? = some (.loc m) ∧ σ[m]? = some (some (.ref a)) ∧ args[i]? = some (.brw d) ∧ isOwn r m) ∨ (H0 a = none ∧ ¬ Own σ r a ∧ F a = none) := fun {i a} ⟨d, e⟩ ev => by
    have ev' : vs[i]? = some (V.ref a) := by
      rw [List.getElem?_map] at ev
      cases q : vs[i]? with
      | none => rw [q] at ev; cases ev
      | some u => rw [q] at ev; cases ev; rfl
    rcases e with e | e
    · obtain ⟨rv, e1, e2⟩ := argSlots_get ha e
      obtain ⟨v, e3, e4⟩ := q.get e1
      rw [ev'] at e3
      cases e3
      cases argC e2 with
      | tmp z =>
        subst z
        cases e4 with
        | tmp h1 h2 h3 h4 h5 h6 => exact .inr ⟨h6, h5, h1⟩
    · obtain ⟨rv, e1, e2⟩ := argSlots_get ha e
      obtain ⟨v, e3, e4⟩ := q.get e1
      rw [ev'] at e3
      cases e3
      cases argC e2 with
      | lend z1 z2 =>
        subst z1
        cases e4 with
        | loc q => exact .inl ⟨⟨_, ⟨d, z2⟩, q⟩, _, d, e1, q, e, ⟨d, z2⟩⟩
  have wcase : ∀ a, WOf vs args H a → Own σ r a ∨ H0 a = none := fun a h => by
    rcases h with ⟨i, o, e⟩ | h
    · exact (arg o e).imp (fun z => z.1) fun z => z.1
    · exact .inr (st.th a h)
  have wb : ∀ a, WOf vs args H a → b.W a := fun a h => by
    rcases wcase a h with ⟨i, ⟨d, e⟩, ei⟩ | h
    · obtain ⟨a', o, e1, _, _, _, _, e6⟩ := S.own i d e
      rw [ei] at e1
      cases e1
      exact e6
    · exact wn a h
  -- the objects of the slots that are not lent stand
  have stay : ∀ {i : Nat} {d : D} {a : Addr}, (r[i]? = some (.own d) ∨ r[i]? = some (.brw d)) → (∀ j : Nat, rvs[j]? ≠ some (.loc i)) → σ[i]? = some (some (.ref a)) → ¬ WOf vs args H a := fun {i d a} e hj ei h => by
    rcases h with ⟨j, o, ej⟩ | h
    · rcases arg o ej with ⟨_, m, d', e1, e2, e3, e4⟩ | ⟨_, h2, _⟩
      · have z := S.inj i m a ⟨d, e⟩ e4 ei e2
        subst z
        exact hj j e1
      · exact h2 ⟨i, ⟨d, e⟩, ei⟩
    · obtain ⟨a', o, e1, _, e3, _⟩ := S.own i d e
      rw [ei] at e1
      cases e1
      rw [h] at e3
      cases e3
  have noF : ∀ a, F a = none → ¬ WOf vs args H a → F' a = none := fun a h1 h2 => by
    cases e : F' a with
    | none => rfl
    | some u =>
      rcases p.nF a u e with q | q
      · rw [h1] at q; cases q
      · exact (h2 q).elim
  have less : ∀ i, isOwn r2 i → isOwn r i := back_less hb hn
  have fw2 : Fewer σ r r2 := fun a ⟨i, o, e⟩ => ⟨i, less i o, e⟩
  -- a lent slot's argument
  have lent : ∀ {i j : Nat} {s : Slot}, rvs[j]? = some (.loc i) → ss[j]? = some s → ∀ v, vs[j]? = some v → σ[i]? = some (some v) := fun {i j s} e1 e2 v ev => by
    obtain ⟨v', e3, e4⟩ := q.get e1
    rw [ev] at e3
    cases e3
    cases e4 with
    | loc q => exact q
  have S2 : Stt G b F' H' σ r2 := by
    refine ⟨hl.trans S.len, p.sub, ?_, ?_, fun i j a oi oj => S.inj i j a (less i oi) (less j oj), ?_, ?_, S.gF.trans p.gF, ?_, ?_, S.wn, fun a h => S.th a (p.th a h), p.tp, ?_⟩
    · have cs : ∀ {i : Nat} {s : Slot} {d : D}, r2[i]? = some s → (s = .val d ∨ s = .fbr d) → ∃ v, σ[i]? = some (some v) ∧ Dq G F' v d := fun {i s d} e es => by
        have old : (r[i]? = some (.val d) ∨ r[i]? = some (.fbr d)) → ∃ v, σ[i]? = some (some v) ∧ Dq G F' v d := fun h => by
          obtain ⟨v, e1, e2⟩ := S.val i d h
          exact ⟨v, e1, e2.mono p.gF⟩
        have new : ∀ {j : Nat}, rvs[j]? = some (.loc i) → ss[j]? = some (.fbr d) → ∃ v, σ[i]? = some (some v) ∧ Dq G F' v d := fun {j} q1 q2 => by
          obtain ⟨v, e1, e2⟩ := p.fbr j d q2
          exact ⟨v, lent q1 q2 v e1, e2⟩
        cases hg i s e with
        | same q n =>
          rcases es with rfl | rfl
          · exact old (.inl q)
          · exact old (.inr q)
        | back q1 q2 q3 =>
          cases q3 with
          | own q => rcases es with z | z <;> cases z
          | brw q => rcases es with z | z <;> cases z
          | val q => rcases es with z | z <;> cases z; exact new q1 q2
          | fbr q => rcases es with z | z <;> cases z; exact new q1 q2
      exact fun i d e => e.elim (fun e => cs e (.inl rfl)) fun e => cs e (.inr rfl)
    · have cs : ∀ {i : Nat} {s : Slot} {d : D}, r2[i]? = some s → (s = .own d ∨ s = .brw d) → ∃ a o, σ[i]? = some (some (.ref a)) ∧ F' a = none ∧ H' a = some o ∧ Ob G F' o d ∧ MutO o ∧ b.W a := fun {i s d} e es => by
        have old : (r[i]? = some (.own d) ∨ r[i]? = some (.brw d)) → (∀ j : Nat, rvs[j]? ≠ some (.loc i)) → ∃ a o, σ[i]? = some (some (.ref a)) ∧ F' a = none ∧ H' a = some o ∧ Ob G F' o d ∧ MutO o ∧ b.W a := fun h hj => by
          obtain ⟨a, o, e1, e2, e3, e4, e5, e6⟩ := S.own i d h
          have nw := stay h hj e1
          exact ⟨a, o, e1, noF a e2 nw, p.kH a o e3 nw, e4.mono p.gF, e5, e6⟩
        have new : ∀ {j : Nat} {d0 : D}, rvs[j]? = some (.loc i) → ss[j]? = some (.brw d) → (r[i]? = some (.own d0) ∨ r[i]? = some (.brw d0)) → ∃ a o, σ[i]? = some (some (.ref a)) ∧ F' a = none ∧ H' a = some o ∧ Ob G F' o d ∧ MutO o ∧ b.W a := fun {j d0} q1 q2 q3 => by
          obtain ⟨a, o, e1, e2, e3, e4, e5⟩ := p.brw j d q2
          have ei := lent q1 q2 _ e1
          obtain ⟨a', o', f1, _, _, _, _, f6⟩ := S.own i d0 q3
          rw [ei] at f1
          cases f1
          exact ⟨a, o, ei, e2, e3, e4, e5, f6⟩
        cases hg i s e with
        | same q n =>
          have hj : ∀ j : Nat, rvs[j]? ≠ some (.loc i) := fun j z => by
            rcases es with rfl | rfl
            · exact (n j d z).1 rfl
            · exact (n j d z).2 rfl
          rcases es with rfl | rfl
          · exact old (.inl q) hj
          · exact old (.inr q) hj
        | back q1 q2 q3 =>
          cases q3 with
          | own q => rcases es with z | z <;> cases z; exact new q1 q2 (.inl q)
          | brw q => rcases es with z | z <;> cases z; exact new q1 q2 (.inr q)
          | val q => rcases es with z | z <;> cases z
          | fbr q => rcases es with z | z <;> cases z
      exact fun i d e => e.elim (fun e => cs e (.inl rfl)) fun e => cs e (.inr rfl)
    · have cs : ∀ {i : Nat} {s : Slot} {d : D}, r2[i]? = some s → (s = .brw d ∨ s = .fbr d) → ∃ v, b.vs i = some v ∧ σ[i]? = some (some v) := fun {i s d} e es => by
        cases hg i s e with
        | same q n =>
          rcases es with rfl | rfl
          · exact S.fix i d (.inl q)
          · exact S.fix i d (.inr q)
        | back q1 q2 q3 =>
          cases q3 with
          | own q => rcases es with z | z <;> cases z
          | val q => rcases es with z | z <;> cases z
          | brw q => exact S.fix i _ (.inl q)
          | fbr q => exact S.fix i _ (.inl q)
      exact fun i d e => e.elim (fun e => cs e (.inl rfl)) fun e => cs e (.inr rfl)
    · intro i hi
      obtain ⟨d, e⟩ := S.lent i hi
      have il : i < r2.length := by rw [hl]; exact e.elim lt_of_get lt_of_get
      have g : r2[i]? = some r2[i] := List.getElem?_eq_getElem il
      generalize r2[i] = s at g
      cases hg i s g with
      | same q n => exact ⟨d, by rw [g, ← q]; exact e⟩
      | back q1 q2 q3 =>
        cases q3 with
        | own q => rcases e with e | e <;> rw [q] at e <;> cases e
        | val q => rcases e with e | e <;> rw [q] at e <;> cases e
        | brw q => exact ⟨_, .inl g⟩
        | fbr q => exact ⟨_, .inr g⟩
    · intro a o e
      rcases p.nF a o e with q | q
      · exact S.nF a o q
      · exact .inr (wb a q)
    · exact fun a o e n => p.kH a o (S.kH a o e n) fun z => n (wb a z)
    · intro i d e
      cases hg i _ e with
      | same q n => exact S.nk i d q
      | back q1 q2 q3 =>
        cases q3 with
        | fbr q => exact .inl (p.nk _ d q2)
  refine ⟨S2, ⟨st.gF.trans p.gF, fun a o e n => ?_, fun a o e => ?_, fun a h => st.th a (p.th a h)⟩, fw2, fun rv v h => ?_⟩
  · refine p.kH a o (st.kH a o e n) fun z => ?_
    rcases wcase a z with z | z
    · exact (fw a z).elim n fun z => by rw [z] at e; cases e
    · rw [z] at e; cases e
  · rcases p.nF a o e with q | q
    · exact st.nF a o q
    · exact .inr ((wcase a q).elim (fw a) .inr)
  · cases h with
    | fz q => exact .fz q
    | tmp h1 h2 h3 h4 h5 h6 =>
      rename_i d a o
      -- no slot's object is it
      have nown : ¬ Own σ r2 a := fun ⟨i, ⟨d', e⟩, ei⟩ => by
        have g : ∀ {s : Slot}, r2[i]? = some s → (s = .own d' ∨ s = .brw d') → False := fun {s} e es => by
          cases hg i s e with
          | same q n =>
            have hj : ∀ j : Nat, rvs[j]? ≠ some (.loc i) := fun j z => by
              rcases es with rfl | rfl
              · exact (n j d' z).1 rfl
              · exact (n j d' z).2 rfl
            rcases es with rfl | rfl
            · exact stay (.inl q) hj ei h5
            · exact stay (.inr q) hj ei h5
          | back q1 q2 q3 =>
            obtain ⟨v', f1, f2⟩ := q.get q1
            have ev : v' = .ref a := by
              cases f2 with
              | loc q => rw [ei] at q; cases q; rfl
            subst ev
            cases q3 with
            | own q => exact h6 _ _ q2 f1
            | brw q => exact h6 _ _ q2 f1
            | val q => rcases es with z | z <;> cases z
            | fbr q => rcases es with z | z <;> cases z
        exact e.elim (fun e => g e (.inl rfl)) fun e => g e (.inr rfl)
      have new : H0 a = none := by
        rcases h5 with ⟨i, o', e⟩ | h
        · rcases arg o' e with ⟨_, m, d', e1, e2, e3, e4⟩ | ⟨h, _⟩
          · exfalso
            obtain ⟨d2, e5⟩ := p.lent i d' e3
            have ev : vs[i]? = some (V.ref a) := by
              rw [List.getElem?_map] at e
              cases q : vs[i]? with
              | none => rw [q] at e; cases e
              | some u => rw [q] at e; cases e; rfl
            rcases e5 with e5 | e5
            · exact h6 i d2 e5 ev
            · obtain ⟨v', f1, f2⟩ := p.fbr i d2 e5
              rw [ev] at f1
              cases f1
              cases f2 with
              | ref f _ => exact FAt.no f h1
              | scr f _ => rw [h1] at f; cases f
              | ksc f _ => exact nomatch p.nk i _ e5
              | opq => exact nomatch p.nk i _ e5
          · exact h
        · exact st.th a h
      exact .tmp h1 h2 h3 h4 nown new
theorem back_ok (S0 : Stt G b F0 H0 σ r0) (S : Stt G b F H σ r) (st : Stp σ r0 F0 H0 F H) (fw : Fewer σ r0 r) (q : RvRs G F H H0 σ r rvs vs) (ha : argSlots r rvs = some args) (hn : (locs rvs).Nodup) (p : Post G F H (WOf vs args H) vs args ss F' H') (hb : backAll rvs ss r = some r2) :
    Stt G b F' H' σ r2 ∧ Stp σ r0 F0 H0 F' H' ∧ Fewer σ r0 r2 ∧ ∀ rv v, RetR G F' H' (WOf vs args H) vs ss rv v → RvR G F' H' H0 σ r2 rv v := by
  obtain ⟨h1, h2, h3, h4⟩ := back_okW S st (fun a z => .inl (fw a z)) (fun a z => S0.wn a (S0.th a z)) q ha hn p hb
  exact ⟨h1, h2, fw.trans h3, h4⟩
end
section
variable {X : Cx} {G : Gm} {E : EK} {lv : Nat} {f : Addr} {fd : FuncData} {ps : List Str} {x : Str} {p pos : Pos} {e : Expr} {es : List Expr} {fs : List (M RV)} {g : Fn}
theorem call_rd : ∀ σ H Q, tOf G E (eCall g fs) σ H Q → taOf G E (eArgs fs) σ H fun vs H1 => spOf G g vs H1 Q (WE E.w σ) := fun σ H Q ⟨b, F, r, S, h⟩ => by
  refine ⟨b, F, r, S, h.bnd0.mono fun rvs r1 F1 H1 S1 st1 w1 h1 vs q => ?_⟩
  unfold callFn at h1
  split at h1
  · rename_i nd
    cases e1 : argSlots r1 rvs with
    | none => rw [e1] at h1; exact False.elim h1
    | some args =>
      rw [e1] at h1
      refine ⟨F1, args, by rw [argSlots_len e1, q.length], args_ok S1 q e1 nd, ?_⟩
      cases e2 : g args with
      | bad =>
        simp only [e2] at h1
        exact False.elim h1
      | ok w ss =>
        simp only [e2] at h1
        cases e3 : backAll rvs ss r1 with
        | none => simp only [e3] at h1; exact False.elim h1
        | some r2 =>
          simp only [e3] at h1
          intro v F2 H2 po re
          obtain ⟨S2, st2, w2, rr⟩ := back_ok S S1 st1 w1 q e1 nd po e3
          exact h1 F2 H2 S2 st2 w2 v (rr w v re)
      | exc y ss =>
        simp only [e2] at h1
        cases e3 : backAll rvs ss r1 with
        | none => simp only [e3] at h1; exact False.elim h1
        | some r2 =>
          simp only [e3] at h1
          intro cls d F2 H2 po ex
          obtain ⟨S2, _⟩ := back_ok S S1 st1 w1 q e1 nd po e3
          exact h1 cls d F2 H2 S2 (st1.gF.trans po.gF) ex
  · exact False.elim h1
theorem de_call (Fk : FnOk X.prog X.w X.K X.mg X.base (L2N.CX X.prog X.w) lv f fd ps (spOf G g)) (hr : Room lv X.A) (hg : Gl X x) (hm : X.mg x = some (.ref f)) (hk : PySem.W.keepIn X.K (.ref f) = true) (hb : Binds X.K fd ps []) (hx : ∀ σ, PassesAt (L2N.CX X.prog X.w) X σ (WE E.w σ))
    (ha : PA X (e :: es) (taOf G E (eArgs fs))) (hdb : (x == ("__debug__" : Str)) = false := by decide) (he : starEach (e :: es) X.env = (false, eval e X.env) :: starEach es X.env := by rfl) (hpl : (backTo pos (starEach es X.env)).any (·.1) = false := by rfl) :
    PE X (.Call (.Name x p) (e :: es) [] pos) (tOf G E (eCall g fs)) :=
  PE_mono (pe_callG Fk hr hg hm hk hb hx ha hdb he hpl) call_rd
end
end DL

end

section
set_option Elab.async false
set_option linter.all false
set_option maxRecDepth 100000
set_option maxHeartbeats 1000000
/-! Targets, what is walked, loops. -/
namespace DL
open PySem L2 PyProof.Rows
section
variable {G : Gm} {b : Bas} {F H F' H' F1 H1 F2 H2 : Hp} {σ σ' : L2.St} {r r0 r1 r2 : Env} {v : V} {d : D} {E : EK}
theorem put_res {i : Nat} {x : Slot} : (∃ r1, put i x r = .ok () r1 ∧ Free r i ∧ r1 = r.set i x) ∨ put i x r = .bad := by
  rcases put_bad (i := i) (x := x) (r := r) with ⟨r1, e⟩ | e
  · exact .inl ⟨r1, e, put_cases e⟩
  · exact .inr e
/-- the same but for some slots -/
structure But (is : List Nat) (σ σ' : L2.St) : Prop where
  len : σ'.length = σ.length
  get : ∀ j, j ∉ is → σ'[j]? = σ[j]?
theorem But.refl {is : List Nat} : But is σ σ := ⟨rfl, fun _ _ => rfl⟩
theorem But.trans {is js : List Nat} {σ1 σ2 σ3 : L2.St} (a : But is σ1 σ2) (b : But js σ2 σ3) : But (is ++ js) σ1 σ3 := ⟨b.len.trans a.len, fun j h => by
  rw [List.mem_append, not_or] at h
  rw [b.get j h.2, a.get j h.1]⟩
theorem But.set {i : Nat} {x : Option V} : But [i] σ (σ.set i x) := ⟨List.length_set .., fun j h => List.getElem?_set_ne (fun z => h (by rw [z]; exact List.mem_singleton.mpr rfl))⟩
/-- a target's reading -/
def tgOf (G : Gm) (t : Tg) : TG := fun v σ H Q => ∃ b F r d, Stt G b F H σ r ∧ Dq G F v d ∧ (match asg t d r with
  | .ok _ r' => ∀ σ', Stt G b F H σ' r' → But t.ns σ σ' → (∀ a, Own σ' r' a → Own σ r a) → Q σ' H
  | _ => False)
def tgsOf (G : Gm) (ts : List Tg) : TGs := fun vs σ H Q => ∃ b F r ds, Stt G b F H σ r ∧ DqA G F vs ds ∧ (match asgs ts ds r with
  | .ok _ r' => ∀ σ', Stt G b F H σ' r' → But (Tg.nss ts) σ σ' → (∀ a, Own σ' r' a → Own σ r a) → Q σ' H
  | _ => False)
theorem own_put (i : Nat) (v : V) (d : D) : ∀ a, Own (σ.set i (some v)) (r.set i (.val d)) a → Own σ r a := fun a ⟨j, ⟨u, q⟩, e⟩ => by
  by_cases z : j = i
  · subst z
    rw [List.getElem?_set] at q
    simp only [if_true] at q
    split at q <;> rcases q with q | q <;> cases q
  · rw [List.getElem?_set_ne (Ne.symm z)] at q e
    exact ⟨j, ⟨u, q⟩, e⟩
end
section
variable {X : Cx} {G : Gm} {pos : Pos}
theorem PG_mono {e : Expr} {t t' : TG} (h : PG X e t) (w : ∀ v σ H Q, t' v σ H Q → t v σ H Q) : PG X e t' := ⟨fun pins s σ H v u Q I r q => h.run pins s σ H v u Q I r (w v σ H Q q)⟩
theorem PGs_mono {e : List Expr} {t t' : TGs} (h : PGs X e t) (w : ∀ v σ H Q, t' v σ H Q → t v σ H Q) : PGs X e t' := ⟨fun pins s σ H vs us Q I r q => h.run pins s σ H vs us Q I r (w vs σ H Q q)⟩
theorem dg_name {i : Nat} {x : Str} (hN : X.N.Nodup) (hi : X.N[i]? = some x := by rfl) (hx : Loc X.env.scope x := by first | exact Or.inl rfl | exact Or.inr rfl) (hf : X.fn x = true ∨ X.env.scope.names.lookup x = some .local := by first | exact .inl rfl | exact .inr rfl | assumption) :
    PG X (.Name x pos) (tgOf G (.nm i)) := PG_mono (pg_name hN hi hx hf) fun v σ H Q ⟨b, F, r, d, S, dq, h⟩ => by
  show Q (σ.set i (some v)) H
  unfold asg at h
  rcases put_res (i := i) (x := .val d) (r := r) with ⟨r1, e, hf, er⟩ | e
  · rw [e] at h
    subst er
    exact h _ (S.put hf (.inl ⟨d, rfl, dq⟩)) But.set (own_put i v d)
  · rw [e] at h
    exact False.elim h
theorem dgs_nil : PGs X [] (tgsOf G []) := PGs_mono pgs_nil fun vs σ H Q ⟨b, F, r, ds, S, dq, h⟩ => by
  cases dq with
  | nil => exact ⟨rfl, h σ S But.refl fun _ z => z⟩
  | cons q qs => exact False.elim h
theorem dgs_cons {e : Expr} {es : List Expr} {t : Tg} {ts : List Tg} (h1 : PG X e (tgOf G t)) (h2 : PGs X es (tgsOf G ts))
    (hs : (assignEach (e :: es) X.env).map (·.2) = assign e X.env :: (assignEach es X.env).map (·.2) := by rfl) : PGs X (e :: es) (tgsOf G (t :: ts)) := PGs_mono (pgs_cons h1 h2 hs) fun vs σ H Q ⟨b, F, r, ds, S, dq, h⟩ => by
  cases dq with
  | nil => exact False.elim h
  | @cons v vs d ds q qs =>
    unfold asgs bnd at h
    refine ⟨v, vs, rfl, b, F, r, d, S, q, ?_⟩
    cases e : asg t d r with
    | ok u r1 =>
      rw [e] at h
      intro σ1 S1 b1 o1
      refine ⟨b, F, r1, ds, S1, qs, ?_⟩
      simp only at h
      cases e2 : asgs ts ds r1 with
      | ok u2 r2 =>
        rw [e2] at h
        exact fun σ2 S2 b2 o2 => h σ2 S2 (b1.trans b2) fun a z => o1 a (o2 a z)
      | exc x r2 => rw [e2] at h; exact False.elim h
      | bad => rw [e2] at h; exact False.elim h
    | exc x r1 => rw [e] at h; exact False.elim h
    | bad => rw [e] at h; exact False.elim h
theorem FAt.tup {K : PySem.W.Frag} {F : Hp} {a : Addr} {xs : List V} (h : FAt F a (.tup xs)) : SqT K F a xs := by
  exact .inl (.inl h)
theorem FAt.lst {K : PySem.W.Frag} {F : Hp} {a : Addr} {xs : List V} (h : FAt F a (.lst xs)) : SqL K F a xs := by
  exact .inl (.inl h)
theorem asgs_len : ∀ {ts : List Tg} {ds : List D} {r : Env} {u : Unit} {r1 : Env}, asgs ts ds r = .ok u r1 → ds.length = ts.length
  | [], [], _, _, _, _ => rfl
  | [], _ :: _, _, _, _, h => by cases h
  | _ :: _, [], _, _, _, h => by cases h
  | t :: ts, d :: ds, r, u, r1, h => by
    unfold asgs bnd at h
    cases e : asg t d r with
    | ok u r2 =>
      rw [e] at h
      exact congrArg (· + 1) (asgs_len (ts := ts) (ds := ds) h)
    | exc x r2 => rw [e] at h; cases h
    | bad => rw [e] at h; cases h
mutual
theorem asg_noexc : ∀ {t : Tg} {d : D} {r r1 : Env} {x : Exn}, asg t d r ≠ .exc x r1
  | .nm i, d, r, r1, x => fun e => by
    unfold asg at e
    rcases put_bad (i := i) (r := r) (x := .val d) with ⟨r2, z⟩ | z <;> rw [z] at e <;> cases e
  | .tp ts, d, r, r1, x => fun e => by
    unfold asg at e
    cases d with
    | tup ds => exact asgs_noexc e
    | _ => cases e
theorem asgs_noexc : ∀ {ts : List Tg} {ds : List D} {r r1 : Env} {x : Exn}, asgs ts ds r ≠ .exc x r1
  | [], [], _, _, _ => fun e => by cases e
  | [], _ :: _, _, _, _ => fun e => by cases e
  | _ :: _, [], _, _, _ => fun e => by cases e
  | t :: ts, d :: ds, r, r1, x => fun e => by
    unfold asgs bnd at e
    cases e1 : asg t d r with
    | ok u r2 => rw [e1] at e; exact asgs_noexc (ts := ts) (ds := ds) e
    | exc y r2 => exact asg_noexc e1
    | bad => rw [e1] at e; cases e
end
theorem dg_tup {es : List Expr} {k : Nat} {ts : List Tg} (hK : X.K = G.K) (hc : X.calm = true) (h : PGs X es (tgsOf G ts)) (hn : (assignEach es X.env).length = ts.length := by rfl) (hst : (assignEach es X.env).findIdx? (·.1) = none := by rfl) :
    PG X (.Tuple es k pos) (tgOf G (.tp ts)) := PG_mono (pg_tup (n := ts.length) hc h hn hst) fun v σ H Q ⟨b, F, r, d, S, dq, h⟩ => by
  cases dq with
  | @ref a o d f ob =>
    cases ob with
    | @tup vs ds q =>
      unfold asg at h
      refine ⟨a, vs, rfl, (f.mono S.sub).tup, ?_, b, F, r, ds, S, q, h⟩
      simp only at h
      cases e : asgs ts ds r with
      | ok u r1 => rw [q.length, asgs_len e]
      | exc x r1 => rw [e] at h; exact False.elim h
      | bad => rw [e] at h; exact False.elim h
    | _ => exact False.elim h
  | _ => exact False.elim h
end
/-! ### what is walked -/
/-- the iterator J gives ds, one by one, while the frozen part grows from F1 -/
def ItOk (G : Gm) (b : Bas) (J : It) (ds : List D) (F1 : Hp) : Prop := ∃ Gd Y, Walk J ds.length Gd Y ∧ (∀ F H σ r, Stt G b F H σ r → Le F1 F → Gd H) ∧
  ∀ i F H σ r x H', i < ds.length → Stt G b F H σ r → Le F1 F → Y i H x H' → ∃ F' d, ds[i]? = some d ∧ Stt G b F' H' σ r ∧ Stp σ r F H F' H' ∧ Dq G F' x d
def iOf (G : Gm) (E : EK) (f : M (List D)) : TI := fun σ H R => ∃ (b : E.B) (F : Hp) (r : Env), Stt G b.1 F H σ r ∧ Out G E b.1 F H σ r (f r) fun ds r1 F1 H1 => ∀ J, ItOk G b.1 J ds F1 → R J H1
section
variable {X : Cx} {G : Gm} {E : EK} {pos : Pos} {tg iter : Expr}
theorem PI_mono {w w' : TI} (h : PI X tg iter w) (m : ∀ σ H R, w' σ H R → w σ H R) : PI X tg iter w' := ⟨fun pins s σ H R I q => h.run pins s σ H R I (m σ H R q)⟩
theorem PI_or {w w' : TI} (h : PI X tg iter w) (h' : PI X tg iter w') : PI X tg iter (fun σ H R => w σ H R ∨ w' σ H R) := ⟨fun pins s σ H R I q => q.elim (h.run pins s σ H R I) (h'.run pins s σ H R I)⟩
theorem itOk_at {b : Bas} {J : It} {vs : List V} {ds : List D} {F1 : Hp} {Gd : Hp → Prop} (w : Walk J vs.length Gd (YAt vs)) (hg : ∀ F H σ r, Stt G b F H σ r → Le F1 F → Gd H) (q : DqA G F1 vs ds) : ItOk G b J ds F1 := by
  have get : ∀ {vs : List V} {ds : List D} {i : Nat} {x : V}, DqA G F1 vs ds → vs[i]? = some x → ∃ d, ds[i]? = some d ∧ Dq G F1 x d := by
    intro vs
    induction vs with
    | nil => intro ds i x q e; simp at e
    | cons v vs ih =>
      intro ds i x q e
      cases q with
      | cons h t =>
        cases i with
        | zero => cases (Option.some.inj e); exact ⟨_, rfl, h⟩
        | succ i =>
          obtain ⟨d, e1, e2⟩ := ih t (i := i) (by simpa using e)
          exact ⟨d, by simpa using e1, e2⟩
  refine ⟨Gd, YAt vs, by rw [← q.length]; exact w, hg, fun i F H σ r x H' hi S le y => ?_⟩
  obtain ⟨e, y⟩ := y
  subst e
  obtain ⟨d, e1, e2⟩ := get q y
  exact ⟨F, d, e1, S, Stp.refl, e2.mono le⟩
theorem di_seq {e : Expr} {f : M RV} (hK : X.K = G.K) (h : PE X e (tOf G E f)) : PI X tg e (iOf G E (iSeq f)) := by
  have hd := de_eF h
  refine PI_mono (PI_or (pi_list hd) (pi_tup hd)) fun σ H R ⟨b, F, r, S, h⟩ => ?_
  have h0 := h.bnd
  have lst : ∀ ds0 r1, eF f r = .ok (.lst ds0) r1 → iList X.K (tdOf G E (eF f)) σ H R := fun ds0 r1 e => by
    refine ⟨b, F, r, S, ?_⟩
    rw [e] at h0 ⊢
    intro F1 H1 S1 st1 w1 v q
    have h1 := h0 F1 H1 S1 st1 w1
    cases q with
    | ref fa ob =>
      cases ob with
      | lst q =>
        rename_i a vs
        exact ⟨a, rfl, ⟨vs, (fa.mono S1.sub).lst⟩, h1 F1 H1 S1 Stp.refl Fewer.refl _ (itOk_at walk_list (fun F2 H2 σ2 r2 S2 le => (fa.mono (le.trans S2.sub)).lst) q)⟩
  have tup : ∀ ds0 r1, eF f r = .ok (.tup ds0) r1 → iTup X.K (tdOf G E (eF f)) σ H R := fun ds0 r1 e => by
    refine ⟨b, F, r, S, ?_⟩
    rw [e] at h0 ⊢
    intro F1 H1 S1 st1 w1 v q
    have h1 := h0 F1 H1 S1 st1 w1
    cases q with
    | ref fa ob =>
      cases ob with
      | tup q =>
        rename_i a vs
        exact ⟨a, rfl, ⟨vs, (fa.mono S1.sub).tup⟩, h1 F1 H1 S1 Stp.refl Fewer.refl _ (itOk_at walk_tup (fun F2 H2 σ2 r2 S2 le => (fa.mono (le.trans S2.sub)).tup) q)⟩
  have ptup : ∀ ds0 r1, eF f r = .ok (.ptup ds0) r1 → iTup X.K (tdOf G E (eF f)) σ H R := fun ds0 r1 e => by
    refine ⟨b, F, r, S, ?_⟩
    rw [e] at h0 ⊢
    intro F1 H1 S1 st1 w1 v q
    have h1 := h0 F1 H1 S1 st1 w1
    cases q with
    | ref fa ob =>
      cases ob with
      | ptp c n q =>
        rename_i a o vs
        have sq : ∀ {F2 H2 : Hp}, Le F1 F2 → Le F2 H2 → SqT X.K H2 a vs := fun l1 l2 => .inl (.inr ⟨o, (fa.mono (l1.trans l2))⟩)
        exact ⟨a, rfl, ⟨vs, sq (Le.refl _) S1.sub⟩, h1 F1 H1 S1 Stp.refl Fewer.refl _ (itOk_at walk_tup (fun F2 H2 σ2 r2 S2 le => sq le S2.sub) q)⟩
  have bad : ∀ d r1, eF f r = .ok d r1 → seqOf d = none → iList X.K (tdOf G E (eF f)) σ H R := fun d r1 e en => by
    refine ⟨b, F, r, S, ?_⟩
    rw [e] at h0 ⊢
    intro F1 H1 S1 st1 w1 v q
    have h1 := h0 F1 H1 S1 st1 w1
    have h1 : Out G E b F1 H1 σ r1 (lift (seqOf d) r1) (fun ds r1 F1 H1 => ∀ (J : It), ItOk G b J ds F1 → R J H1) := h1
    rw [en] at h1
    exact False.elim h1
  cases e : eF f r with
  | ok d r1 =>
    cases d with
    | lst ds => exact .inl (lst ds r1 e)
    | tup ds => exact .inr (tup ds r1 e)
    | ptup ds => exact .inr (ptup ds r1 e)
    | _ => exact .inl (bad _ r1 e rfl)
  | exc x r1 => exact .inl ⟨b, F, r, S, by rw [e] at h0 ⊢; exact h0⟩
  | bad => exact .inl ⟨b, F, r, S, by rw [e] at h0 ⊢; exact h0⟩
theorem big62_iff {i : Int} (h : big62 i = true) : -(2 ^ 62) ≤ i ∧ i < 2 ^ 62 := by
  unfold big62 at h
  rw [Bool.and_eq_true, decide_eq_true_eq, decide_eq_true_eq] at h
  exact h
theorem itOk_rng {b : Bas} {lo hi : Int} {F1 : Hp} : ItOk G b (Itr lo (hi - lo).toNat) (rng lo hi) F1 := by
  have hl : (rng lo hi).length = (hi - lo).toNat := by unfold rng; rw [List.length_map, List.length_range]
  refine ⟨fun _ => True, YFn fun i => .int (lo + i), by rw [hl]; exact walk_range, fun _ _ _ _ _ _ => trivial, fun i F H σ r x H' hi S le y => ?_⟩
  obtain ⟨e, y⟩ := y
  subst e y
  refine ⟨F, .int (lo + i), ?_, S, Stp.refl, .int _⟩
  unfold rng
  rw [hl] at hi
  rw [List.getElem?_map, List.getElem?_range hi]
  rfl
theorem di_rng1 {a : Expr} {f : M RV} {p : Pos} (hg : Gl X "range") (hm : X.mg "range" = none) (h : PE X a (tOf G E f)) (hs : starEach [a] X.env = [(false, eval a X.env)] := by rfl) : PI X tg (.Call (.Name "range" p) [a] [] pos) (iOf G E (iRng1 f)) :=
  PI_mono (pi_range1 hg hm (pa_cons h pa_nil (by exact hs)) hs) fun σ H R ⟨b, F, r, S, h⟩ => by
    refine ⟨b, F, r, S, h.bnd.mono fun rv r1 F1 H1 S1 st1 w1 h1 v q => ?_⟩
    cases q with
    | fz q =>
      rename_i d
      cases q with
      | int j =>
        have h1 : Out G E b F1 H1 σ r1 ((if big62 j then pur (rng 0 j) else badM) r1) _ := h1
        by_cases hb : big62 j = true
        · rw [if_pos hb] at h1
          obtain ⟨b1, b2⟩ := big62_iff hb
          have z := h1 F1 H1 S1 Stp.refl Fewer.refl (Itr 0 (j - 0).toNat) itOk_rng
          rw [Int.sub_zero] at z
          exact ⟨j, rfl, b1, b2, z⟩
        · rw [if_neg hb] at h1
          exact False.elim h1
      | ref _ ob => cases ob <;> exact False.elim h1
      | _ => exact False.elim h1
    | _ => exact False.elim h1
theorem di_rng2 {a c : Expr} {f g : M RV} {p : Pos} (hg : Gl X "range") (hm : X.mg "range" = none) (h : PE X a (tOf G E f)) (h' : PE X c (tOf G E g)) (hs : starEach [a, c] X.env = [(false, eval a X.env), (false, eval c X.env)] := by rfl) (hs2 : starEach [c] X.env = [(false, eval c X.env)] := by rfl) :
    PI X tg (.Call (.Name "range" p) [a, c] [] pos) (iOf G E (iRng2 f g)) :=
  PI_mono (pi_range2 hg hm (pa_cons h (pa_cons h' pa_nil (by exact hs2)) (by rw [hs, hs2])) hs hs2) fun σ H R ⟨b, F, r, S, h⟩ => by
    refine ⟨b, F, r, S, h.bnd.mono fun rv r1 F1 H1 S1 st1 w1 h1 v q => ⟨b, F1, r1, S1, h1.bnd.mono fun rv2 r2 F2 H2 S2 st2 w2 h2 v2 q2 => ?_⟩⟩
    cases q with
    | fz q =>
      cases q with
      | int i =>
        cases q2 with
        | fz q2 =>
          cases q2 with
          | int j =>
            have h2 : Out G E b F2 H2 σ r2 ((if big62 i && big62 j then pur (rng i j) else badM) r2) _ := h2
            by_cases hb : (big62 i && big62 j) = true
            · rw [if_pos hb] at h2
              rw [Bool.and_eq_true] at hb
              obtain ⟨b1, b2⟩ := big62_iff hb.1
              obtain ⟨b3, b4⟩ := big62_iff hb.2
              exact ⟨i, j, rfl, ⟨b1, b2, b3, b4⟩, h2 F2 H2 S2 Stp.refl Fewer.refl _ itOk_rng⟩
            · rw [if_neg hb] at h2
              exact False.elim h2
          | ref _ ob => cases ob <;> exact False.elim h2
          | _ => exact False.elim h2
        | _ => exact False.elim h2
      | ref _ ob => cases ob <;> (first | exact False.elim h2 | (cases q2 <;> exact False.elim h2))
      | _ => first | exact False.elim h2 | (cases q2 <;> exact False.elim h2)
    | _ => first | exact False.elim h2 | (cases q2 <;> exact False.elim h2)

/-! ### for, while -/
theorem ds_for {body : List Stmt} {t : Tg} {it : M (List D)} {f : S} (hp : PassesOwn (model X.prog X.w) X.A X.env X.xe) (hc : X.calm = true) (hi : PI X tg iter (iOf G E it)) (hg : PG X tg (tgOf G t)) (hb : PSs X body (tsOf G E f))
    (hs : ∀ x, foldedSetIterable iter X.env x = pure x := by intro _; rfl) : PS X (.For tg iter body [] pos) (tsOf G E (sFor t it f)) :=
  PS_mono (ps_for hp hc hi hg hb hs) fun D σ H ⟨b, F, r, S, h⟩ => by
    refine ⟨b, F, r, S, h.bnd.mono fun ds r1 F1 H1 S1 st1 w1 h1 J ok => ?_⟩
    obtain ⟨Gd, Y, w, g1, g2⟩ := ok
    refine for_it w (fun i σ H => ∃ F r, Stt G b F H σ r ∧ Le F1 F ∧ OutS G E b F (forGo t f (ds.drop i) r) D) ⟨F1, r1, S1, Le.refl _, OutS.older h1 st1.gF⟩ (fun i σ H hi ⟨F, r, S, le, _⟩ => g1 F H σ r S le) ?_ ?_
    · rintro i x σ H H' hi ⟨F, r, S, le, h⟩ y
      obtain ⟨F', d, e1, S', st', dq⟩ := g2 i F H σ r x H' hi S le y
      have ed : ds.drop i = d :: ds.drop (i + 1) := by
        obtain ⟨hi', e2⟩ := List.getElem?_eq_some_iff.mp e1
        rw [List.drop_eq_getElem_cons hi', e2]
      rw [ed] at h
      refine ⟨b, F', r, d, S', dq, ?_⟩
      unfold forGo bnd at h
      cases e : asg t d r with
      | ok u r2 =>
        rw [e] at h
        intro σ2 S2 b2 o2
        refine ⟨b, F', r2, S2, ?_⟩
        simp only at h
        have h : OutS G E b F (bnd f (fun fl => match fl with
          | .nx => forGo t f (ds.drop (i + 1))
          | .cnt => forGo t f (ds.drop (i + 1))
          | .brk => pur .nx
          | .ret v => pur (.ret v)) r2) D := h
        unfold bnd at h
        cases e3 : f r2 with
        | ok fl r3 =>
          rw [e3] at h
          have next : OutS G E b F (forGo t f (ds.drop (i + 1)) r3) D → ∀ σ3 F3 H3, Stt G b F3 H3 σ3 r3 → Le F' F3 → ∃ F r, Stt G b F H3 σ3 r ∧ Le F1 F ∧ OutS G E b F (forGo t f (ds.drop (i + 1)) r) D := fun h σ3 F3 H3 S3 l => ⟨F3, r3, S3, le.trans (st'.gF.trans l), OutS.older h (st'.gF.trans l)⟩
          cases fl with
          | nx => exact fun σ3 F3 H3 S3 l => next h σ3 F3 H3 S3 l
          | cnt => exact fun σ3 F3 H3 S3 l => next h σ3 F3 H3 S3 l
          | brk => exact fun σ3 F3 H3 S3 l => h σ3 F3 H3 S3 (st'.gF.trans l)
          | ret v => exact h
        | exc x r3 => rw [e3] at h; exact fun cls d σ3 F3 H3 S3 l z => h cls d σ3 F3 H3 S3 (st'.gF.trans l) z
        | bad => rw [e3] at h; exact False.elim h
      | exc x r2 => exact (asg_noexc e).elim
      | bad => rw [e] at h; exact False.elim h
    · rintro σ H ⟨F, r, S, le, h⟩
      rw [List.drop_length] at h
      exact h σ F H S (Le.refl _)
end
end DL

end

section
set_option Elab.async false
set_option linter.all false
set_option maxRecDepth 100000
set_option maxHeartbeats 1000000
/-! Comprehensions. -/
namespace DL
open PySem L2 PyProof.Rows
section
variable {G : Gm} {b : Bas} {F H F' H' F1 H1 F2 H2 : Hp} {σ σ' : L2.St} {r r0 r1 r2 r' : Env} {v : V} {d : D} {E : EK} {a : Addr} {o : HO}
theorem Stp.then' (h : Stp σ r F H F1 H1) (w : ∀ a, Own σ' r' a → Own σ r a) (k : Stp σ' r' F1 H1 F2 H2) : Stp σ r F H F2 H2 where
  gF := h.gF.trans k.gF
  kH := fun x o q n => k.kH x o (h.kH x o q n) fun z => n (w x z)
  nF := fun x o q => by
    rcases k.nF x o q with q | q | q
    · exact h.nF x o q
    · exact .inr (.inl (w x q))
    · exact .inr (.inr (h.th x q))
  th := fun x q => h.th x (k.th x q)
/-- an object that is no slot's is changed -/
theorem Stt.poke (S : Stt G b F H σ r) (h1 : F a = none) (h2 : ¬ Own σ r a) (h3 : b.W a) (h4 : H a ≠ none) (ht : ∀ xs, o ≠ .tup xs) : Stt G b F (L2.upd H a o) σ r := by
  refine S.heap (Le.refl _) (fun x u q => ?_) (fun x u q e => ?_) (fun x u q => .inl q) (fun x u q n => ?_) (fun x q => ?_) (fun x xs q => ?_)
  · have z : x ≠ a := fun z => by rw [z, h1] at q; cases q
    rw [upd_ne z]; exact S.sub x u q
  · have z : x ≠ a := fun z => h2 (z ▸ q)
    refine ⟨?_, by rw [upd_ne z]; exact e⟩
    obtain ⟨i, ⟨d, q⟩, ei⟩ := q
    obtain ⟨a', o', e1, e2, _⟩ := S.own i d q
    rw [ei] at e1
    cases e1
    exact e2
  · have z : x ≠ a := fun z => n (z ▸ h3)
    rw [upd_ne z]; exact q
  · by_cases z : x = a
    · subst z; rw [upd_same] at q; cases q
    · rw [upd_ne z] at q; exact q
  · by_cases z : x = a
    · subst z; rw [upd_same] at q; exact (ht xs (Option.some.inj q)).elim
    · rw [upd_ne z] at q; exact S.tp x xs q
/-- a slot is emptied -/
theorem Stt.blank {i : Nat} (S : Stt G b F H σ r) (hf : Free r i) : Stt G b F H (σ.set i none) (r.set i .no) := by
  have hi : i < r.length := hf.lt
  have rs : (r.set i Slot.no)[i]? = some Slot.no := List.getElem?_set_self hi
  have ro : ∀ j, j ≠ i → (r.set i Slot.no)[j]? = r[j]? := fun j z => List.getElem?_set_ne (Ne.symm z)
  have so : ∀ j, j ≠ i → (σ.set i none)[j]? = σ[j]? := fun j z => List.getElem?_set_ne (Ne.symm z)
  have ne : ∀ {j : Nat} {s : Slot}, (r.set i Slot.no)[j]? = some s → s ≠ .no → j ≠ i := fun {j s} q n z => by
    subst z
    rw [rs] at q
    exact n (Option.some.inj q).symm
  have io : ∀ {j : Nat}, isOwn (r.set i Slot.no) j → j ≠ i ∧ isOwn r j := fun {j} ⟨d, q⟩ => by
    have z : j ≠ i := q.elim (fun q => ne q (fun z => nomatch z)) fun q => ne q (fun z => nomatch z)
    exact ⟨z, d, by rw [ro j z] at q; exact q⟩
  refine ⟨by rw [List.length_set, List.length_set]; exact S.len, S.sub, ?_, ?_, ?_, ?_, ?_, S.gF, S.nF, S.kH, S.wn, S.th, S.tp, ?_⟩
  · intro j u q
    have z : j ≠ i := q.elim (fun q => ne q (fun z => nomatch z)) fun q => ne q (fun z => nomatch z)
    rw [ro j z] at q
    rw [so j z]
    exact S.val j u q
  · intro j u q
    have z : j ≠ i := q.elim (fun q => ne q (fun z => nomatch z)) fun q => ne q (fun z => nomatch z)
    rw [ro j z] at q
    rw [so j z]
    exact S.own j u q
  · intro j k x oj ok ej ek
    obtain ⟨zj, oj⟩ := io oj
    obtain ⟨zk, ok⟩ := io ok
    rw [so j zj] at ej
    rw [so k zk] at ek
    exact S.inj j k x oj ok ej ek
  · intro j u q
    have z : j ≠ i := q.elim (fun q => ne q (fun z => nomatch z)) fun q => ne q (fun z => nomatch z)
    rw [ro j z] at q
    rw [so j z]
    exact S.fix j u q
  · intro j hj
    obtain ⟨u, q⟩ := S.lent j hj
    have z : j ≠ i := fun z => by
      subst z
      rcases hf with h | ⟨d, h⟩ | ⟨d, h⟩ <;> rw [h] at q <;> rcases q with q | q <;> cases q
    exact ⟨u, by rw [ro j z]; exact q⟩
  · intro j u q
    have z : j ≠ i := ne q (fun z => nomatch z)
    rw [ro j z] at q
    exact S.nk j u q
theorem own_blank {i : Nat} : ∀ a, Own (σ.set i none) (r.set i .no) a → Own σ r a := fun a ⟨j, ⟨u, q⟩, e⟩ => by
  by_cases z : j = i
  · subst z
    rw [List.getElem?_set] at q
    simp only [if_true] at q
    split at q <;> rcases q with q | q <;> cases q
  · rw [List.getElem?_set_ne (Ne.symm z)] at q e
    exact ⟨j, ⟨u, q⟩, e⟩
theorem wip_ok : ∀ {is : List Nat} {r r' : Env} {σ : L2.St} {F H : Hp}, wip is r = .ok () r' → Stt G b F H σ r → Stt G b F H (wipe σ is) r' ∧ (∀ a, Own (wipe σ is) r' a → Own σ r a) ∧ (∀ i ∈ is, r'[i]? = some .no) ∧ (∀ j, j ∉ is → r'[j]? = r[j]?) ∧ r'.length = r.length
  | [], r, r', σ, F, H, e, S => by
    cases e
    exact ⟨S, fun _ z => z, (fun i h => by cases h), fun _ _ => rfl, rfl⟩
  | i :: is, r, r', σ, F, H, e, S => by
    unfold wip bnd at e
    cases e1 : wip is r with
    | ok u r1 =>
      rw [e1] at e
      obtain ⟨S1, o1, n1, g1, l1⟩ := wip_ok e1 S
      rcases put_res (i := i) (x := .no) (r := r1) with ⟨r2, e2, hf, er⟩ | e2
      · have z : r2 = r' := by
          have e : put i .no r1 = .ok () r' := e
          rw [e2] at e
          cases e
          rfl
        subst z
        subst er
        refine ⟨S1.blank hf, fun a h => o1 a (own_blank a h), fun j hj => ?_, fun j hj => ?_, by rw [List.length_set, l1]⟩
        · by_cases z : j = i
          · subst z; exact List.getElem?_set_self hf.lt
          · rw [List.getElem?_set_ne (Ne.symm z)]
            exact n1 j ((List.mem_cons.mp hj).resolve_left z)
        · rw [List.mem_cons, not_or] at hj
          rw [List.getElem?_set_ne (Ne.symm hj.1)]
          exact g1 j hj.2
      · have e : put i .no r1 = .ok () r' := e
        rw [e2] at e
        cases e
    | exc x r1 => rw [e1] at e; cases e
    | bad => rw [e1] at e; cases e
theorem wipe_ext : ∀ {is : List Nat} {σ σ' : L2.St}, σ'.length = σ.length → (∀ j, j ∉ is → σ'[j]? = σ[j]?) → wipe σ' is = wipe σ is := fun {is σ σ'} hl h => by
  refine List.ext_getElem? fun j => ?_
  by_cases hj : j ∈ is
  · have none_ : ∀ {is : List Nat} {σ : L2.St}, j ∈ is → j < σ.length → (wipe σ is)[j]? = some none := by
      intro is
      induction is with
      | nil => intro σ h; cases h
      | cons i is ih =>
        intro σ h hl
        unfold wipe
        by_cases z : j = i
        · subst z
          exact List.getElem?_set_self (by rw [wipe_length]; exact hl)
        · rw [List.getElem?_set_ne (Ne.symm z)]
          exact ih ((List.mem_cons.mp h).resolve_left z) hl
    by_cases hlt : j < σ.length
    · rw [none_ hj hlt, none_ hj (by rw [hl]; exact hlt)]
    · rw [List.getElem?_eq_none (by rw [wipe_length]; omega), List.getElem?_eq_none (by rw [wipe_length]; omega)]
  · rw [wipe_out hj, wipe_out hj, h j hj]
theorem rest_get : ∀ {is : List Nat} {r0 r : Env} {j : Nat}, (rest is r0 r)[j]? = if j ∈ is then (r[j]?).map fun _ => r0.getD j .no else r[j]?
  | [], r0, r, j => by simp [rest]
  | i :: is, r0, r, j => by
    have ih := rest_get (is := is) (r0 := r0) (r := r) (j := j)
    have e : rest (i :: is) r0 r = (rest is r0 r).set i (r0.getD i .no) := rfl
    rw [e, List.getElem?_set]
    by_cases z : i = j
    · subst z
      have hl : (rest is r0 r).length = r.length := by
        have all : ∀ (is : List Nat), (rest is r0 r).length = r.length := fun is => by
          induction is with
          | nil => rfl
          | cons k ks ih =>
            show ((rest ks r0 r).set k (r0.getD k .no)).length = _
            rw [List.length_set, ih]
        exact all is
      rw [if_pos rfl, if_pos List.mem_cons_self, hl]
      by_cases hlt : i < r.length
      · rw [if_pos hlt, List.getElem?_eq_getElem hlt]
        rfl
      · rw [if_neg hlt, List.getElem?_eq_none (Nat.le_of_not_lt hlt)]
        rfl
    · rw [if_neg z, ih]
      by_cases m : j ∈ is
      · rw [if_pos m, if_pos (List.mem_cons_of_mem _ m)]
      · rw [if_neg m, if_neg (fun q => m ((List.mem_cons.mp q).resolve_left fun e => z e.symm))]
theorem rest_len (is : List Nat) (r0 r : Env) : (rest is r0 r).length = r.length := by
  induction is with
  | nil => rfl
  | cons k ks ih =>
    show ((rest ks r0 r).set k (r0.getD k .no)).length = _
    rw [List.length_set, ih]
/-- behind the block -/
theorem Stt.rest {is : List Nat} (S1 : Stt G b F1 H1 σ r1) (hp : is.all (plainAt r1) = true) (S : Stt G b F H (wipe σ is) r') (le : Le F1 F) : Stt G b F H σ (rest is r1 r') ∧ ∀ a, Own σ (DL.rest is r1 r') a → Own (wipe σ is) r' a := by
  have inn : ∀ {j : Nat} {s : Slot}, j ∈ is → (DL.rest is r1 r')[j]? = some s → s ≠ .no → r1[j]? = some s ∧ ∃ d, s = .val d := fun {j s} m e n => by
    rw [rest_get, if_pos m] at e
    have p := List.all_eq_true.mp hp j m
    cases e1 : r'[j]? with
    | none => rw [e1] at e; cases e
    | some t =>
      rw [e1] at e
      have e : r1.getD j .no = s := Option.some.inj e
      unfold plainAt at p
      rw [List.getD_eq_getElem?_getD] at e
      split at p
      · rename_i q; rw [q] at e; exact (n e.symm).elim
      · rename_i d q; rw [q] at e; exact ⟨by rw [q]; exact congrArg some e, d, e.symm⟩
      · cases p
  have out : ∀ {j : Nat}, j ∉ is → (DL.rest is r1 r')[j]? = r'[j]? := fun {j} m => by rw [rest_get, if_neg m]
  have sg : ∀ {j : Nat}, j ∉ is → (wipe σ is)[j]? = σ[j]? := fun {j} m => wipe_out m
  have io : ∀ {j : Nat}, isOwn (DL.rest is r1 r') j → j ∉ is ∧ isOwn r' j := fun {j} ⟨d, q⟩ => by
    by_cases m : j ∈ is
    · exfalso
      rcases q with q | q
      · obtain ⟨_, d', e⟩ := inn m q (fun z => nomatch z); cases e
      · obtain ⟨_, d', e⟩ := inn m q (fun z => nomatch z); cases e
    · exact ⟨m, d, by rw [out m] at q; exact q⟩
  refine ⟨⟨?_, S.sub, ?_, ?_, ?_, ?_, ?_, S.gF, S.nF, S.kH, S.wn, S.th, S.tp, fun j d q => ?_⟩, fun a ⟨j, o, e⟩ => ?_⟩
  · rw [rest_len, S.len, wipe_length]
  · intro j d q
    by_cases m : j ∈ is
    · rcases q with q | q
      · obtain ⟨e, _⟩ := inn m q (fun z => nomatch z)
        obtain ⟨v, e1, e2⟩ := S1.val j d (.inl e)
        exact ⟨v, e1, e2.mono le⟩
      · obtain ⟨_, d', e⟩ := inn m q (fun z => nomatch z); cases e
    · rw [out m] at q
      rw [← sg m]
      exact S.val j d q
  · intro j d q
    obtain ⟨m, _⟩ := io ⟨d, q⟩
    rw [out m] at q
    rw [← sg m]
    exact S.own j d q
  · intro i j a oi oj ei ej
    obtain ⟨mi, oi⟩ := io oi
    obtain ⟨mj, oj⟩ := io oj
    rw [← sg mi] at ei
    rw [← sg mj] at ej
    exact S.inj i j a oi oj ei ej
  · intro j d q
    by_cases m : j ∈ is
    · rcases q with q | q
      · obtain ⟨_, d', e⟩ := inn m q (fun z => nomatch z); cases e
      · obtain ⟨_, d', e⟩ := inn m q (fun z => nomatch z); cases e
    · rw [out m] at q
      rw [← sg m]
      exact S.fix j d q
  · intro j hj
    obtain ⟨d, q⟩ := S.lent j hj
    by_cases m : j ∈ is
    · exfalso
      obtain ⟨v, f1, f2⟩ := S.fix j d q
      have z := (wipe_some f2).2
      exact z m
    · exact ⟨d, by rw [out m]; exact q⟩
  · by_cases m : j ∈ is
    · obtain ⟨_, d', e⟩ := inn m q (fun z => nomatch z); cases e
    · rw [out m] at q
      exact S.nk j d q
  · obtain ⟨m, o⟩ := io o
    exact ⟨j, o, by rw [sg m]; exact e⟩
theorem Out.inBlk {α β : Type} {is : List Nat} {m : M α} {k : α → M β} {K : β → Env → Hp → Hp → Prop} (h : Out G E b F H σ r (DL.bnd (DL.inBlk is m) k r1) K) :
    is.all (plainAt r1) = true ∧ ∃ rw a r', wip is r1 = .ok () rw ∧ m rw = .ok a r' ∧ Out G E b F H σ r (k a (DL.rest is r1 r')) K := by
  unfold DL.bnd DL.inBlk at h
  by_cases c : is.all (plainAt r1) = true
  · rw [if_pos c] at h
    refine ⟨c, ?_⟩
    unfold DL.bnd at h
    cases e : wip is r1 with
    | ok u rw_ =>
      rw [e] at h
      simp only [noexc] at h
      cases e2 : m rw_ with
      | ok a r' =>
        rw [e2] at h
        exact ⟨rw_, a, r', rfl, e2, h⟩
      | exc x r' => rw [e2] at h; exact False.elim h
      | bad => rw [e2] at h; exact False.elim h
    | exc x rw_ => rw [e] at h; exact False.elim h
    | bad => rw [e] at h; exact False.elim h
  · rw [if_neg c] at h
    exact False.elim h
end
theorem dpts_nil {X : Cx} {G : Gm} {E : EK} : PTs X [] (ttOf G E DL.tYes) := ⟨fun pins s σ H Q I ⟨b, F, r, S, h⟩ => pts_nil.run pins s σ H Q I (h F H S Stp.refl Fewer.refl)⟩
theorem dpts_one {X : Cx} {G : Gm} {E : EK} {c : Expr} {f : M Bool} (h : PT X c (ttOf G E f)) : PTs X [c] (ttOf G E f) := pts_one h
section
variable {X : Cx} {G : Gm} {E : EK} {pos : Pos}
/-- the comprehension's reading -/
theorem comp_rd {is : List Nat} {t : Tg} {it : M (List D)} {c : M Bool} {f : M RV} {K0 : List V → V → Hp → Prop} (hts : ∀ j ∈ t.ns, j ∈ is) : ∀ σ H Q, tOf G E (eComp is t it c f) σ H Q → tLc (iOf G E it) (tgOf G t) (ttOf G E.no c) (tOf G E.no f) is σ H Q := fun σ H Q ⟨b, F, r, S, h⟩ => by
  refine ⟨b, F, r, S, h.bnd0.mono fun ds r1 F1 H1 S1 st1 w1 h1 J ok => ?_⟩
  intro L hL
  obtain ⟨hp, rw_, ys, rE, e1, e2, h2⟩ := h1.inBlk
  obtain ⟨Gd, Y, w, g1, g2⟩ := ok
  obtain ⟨S2, o2, n2, gg2, l2⟩ := wip_ok e1 S1
  obtain ⟨fr1, fr2, fr3⟩ := S1.fresh hL
  have S3 : Stt G b F1 (upd H1 L (.lst [])) (wipe σ is) rw_ := S2.upd1 hL (fun xs z => nomatch z)
  have nL0 : ¬ Own (wipe σ is) rw_ L := fun z => fr3 (o2 L z)
  have stL : Stp σ r1 F1 H1 F1 (upd H1 L (.lst [])) := Stp.new S1 hL
  refine lc_it w (fun i H => ∃ F r acc accD, Stt G b F H (wipe σ is) r ∧ Stp σ r1 F1 H1 F H ∧ (∀ a, Own (wipe σ is) r a → Own σ r1 a) ∧ F L = none ∧ H L = some (.lst acc) ∧ DqA G F acc accD ∧ compGo is t c f (ds.drop i) accD r = .ok ys rE)
    ⟨F1, rw_, [], [], S3, stL, o2, fr1, upd_same, .nil, e2⟩ (fun i H hi ⟨F, r, acc, accD, S, st, _⟩ => g1 F H _ r S st.gF) ?_ ?_
  · rintro i x H2 H3 hi ⟨F2, r2, acc, accD, S, st, ow, fL, hLs, qa, run⟩ y
    obtain ⟨F3, d, ed, S', st', dq⟩ := g2 i F2 H2 _ r2 x H3 hi S st.gF y
    have edr : ds.drop i = d :: ds.drop (i + 1) := by
      obtain ⟨hi', e⟩ := List.getElem?_eq_some_iff.mp ed
      rw [List.drop_eq_getElem_cons hi', e]
    rw [edr] at run
    have nL : ¬ Own (wipe σ is) r2 L := fun z => fr3 (ow L z)
    have keepL : ∀ {σ' : L2.St} {r' : Env} {Fa Ha Fb Hb : Hp} {u : HO}, Stp σ' r' Fa Ha Fb Hb → ¬ Own σ' r' L → Fa L = none → Ha L = some u → Fb L = none ∧ Hb L = some u := fun {σ' r' Fa Ha Fb Hb u} st n f h => by
      refine ⟨?_, st.kH L u h n⟩
      cases e : Fb L with
      | none => rfl
      | some u' =>
        rcases st.nF L u' e with q | q | q
        · rw [f] at q; cases q
        · exact (n q).elim
        · rw [h] at q; cases q
    obtain ⟨fL3, hL3⟩ := keepL st' nL fL hLs
    have st3 : Stp σ r1 F1 H1 F3 H3 := st.then' ow st'
    refine ⟨b, F3, r2, d, S', dq, ?_⟩
    unfold compGo at run
    rw [show (bnd (asg t d) fun _ => bnd c fun x => if x then (bnd (eF f) fun y => bnd (wip is) fun _ => if accD.length < line then compGo is t c f (ds.drop (i + 1)) (accD ++ [y]) else badM) else (bnd (wip is) fun _ => compGo is t c f (ds.drop (i + 1)) accD)) r2 = _ from rfl] at run
    unfold bnd at run
    cases e3 : asg t d r2 with
    | exc y r3 => rw [e3] at run; cases run
    | bad => rw [e3] at run; cases run
    | ok u r3 =>
      rw [e3] at run
      intro σ3 S4 b4 o4
      have hw : wipe σ3 is = wipe σ is := by
        have z : wipe σ3 is = wipe (wipe σ is) is := wipe_ext b4.len fun j hj => b4.get j fun q => hj (hts j q)
        rw [z]
        exact wipe_ext (wipe_length _ _) fun j hj => wipe_out hj
      refine ⟨hw, b, F3, r3, S4, ?_⟩
      simp only at run
      cases e4 : c r3 with
      | exc y r4 => rw [e4] at run; cases run
      | bad => rw [e4] at run; cases run
      | ok k r4 =>
        rw [e4] at run
        intro F4 H4 S5 st5 w5
        have ow3 : ∀ a, Own σ3 r3 a → Own σ r1 a := fun a z => ow a (o4 a z)
        have ow4 : ∀ a, Own σ3 r4 a → Own σ r1 a := fun a z => ow3 a (w5 a z)
        obtain ⟨fL4, hL4⟩ := keepL st5 (fun z => fr3 (ow3 L z)) fL3 hL3
        have st4 : Stp σ r1 F1 H1 F4 H4 := st3.then' ow3 st5
        cases k with
        | false =>
          refine iteF ?_
          have run : bnd (wip is) (fun _ => compGo is t c f (ds.drop (i + 1)) accD) r4 = .ok ys rE := run
          unfold bnd at run
          cases e5 : wip is r4 with
          | exc y r5 => rw [e5] at run; cases run
          | bad => rw [e5] at run; cases run
          | ok u r5 =>
            rw [e5] at run
            obtain ⟨S6, o6, _⟩ := wip_ok e5 S5
            rw [hw] at S6 o6
            exact ⟨F4, r5, acc, accD, S6, st4, fun a z => ow4 a (o6 a z), fL4, hL4, qa.mono (st'.gF.trans st5.gF), run⟩
        | true =>
          refine iteT ?_
          have run : bnd (eF f) (fun y => bnd (wip is) fun _ => if accD.length < line then compGo is t c f (ds.drop (i + 1)) (accD ++ [y]) else badM) r4 = .ok ys rE := run
          unfold bnd at run
          cases e6 : eF f r4 with
          | exc y r5 => rw [e6] at run; cases run
          | bad => rw [e6] at run; cases run
          | ok y r5 =>
            rw [e6] at run
            simp only at run
            refine frz_rd _ _ _ ⟨b, F4, r4, S5, ?_⟩
            rw [e6]
            intro F5 H5 S6 st6 w6 v qv
            obtain ⟨fL5, hL5⟩ := keepL st6 (fun z => fr3 (ow4 L z)) fL4 hL4
            have st7 : Stp σ r1 F1 H1 F5 H5 := st4.then' ow4 st6
            have ow5 : ∀ a, Own σ3 r5 a → Own σ r1 a := fun a z => ow4 a (w6 a z)
            cases e7 : wip is r5 with
            | exc y r6 => rw [e7] at run; cases run
            | bad => rw [e7] at run; cases run
            | ok u r6 =>
              rw [e7] at run
              simp only at run
              by_cases hl : accD.length < line
              · rw [if_pos hl] at run
                obtain ⟨S8, o8, _⟩ := wip_ok e7 S6
                rw [hw] at S8 o8
                have le5 : Le F2 F5 := st'.gF.trans (st5.gF.trans st6.gF)
                have ow8 : ∀ a, Own (wipe σ is) r6 a → Own σ r1 a := fun a z => ow5 a (o8 a z)
                have wL : b.1.W L := fr2
                have S9 : Stt G b F5 (upd H5 L (.lst (acc ++ [v]))) (wipe σ is) r6 := S8.poke fL5 (fun z => fr3 (ow8 L z)) wL (by rw [hL5]; exact fun z => nomatch z) (fun xs z => nomatch z)
                have app : ∀ {vs : List V} {ds : List D}, DqA G F5 vs ds → DqA G F5 (vs ++ [v]) (ds ++ [y]) := by
                  intro vs ds q
                  induction vs generalizing ds with
                  | nil => cases q; exact .cons qv .nil
                  | cons x xs ih => cases q with | cons h t => exact .cons h (ih t)
                refine ⟨acc, hL5, ?_, F5, r6, acc ++ [v], accD ++ [y], S9, ⟨st7.gF, fun a o q n => ?_, st7.nF, fun a q => ?_⟩, ow8, fL5, upd_same, app (qa.mono le5), run⟩
                · rw [qa.length]
                  exact hl
                · have z : a ≠ L := fun z => by rw [z, hL] at q; cases q
                  rw [upd_ne z]
                  exact st7.kH a o q n
                · by_cases z : a = L
                  · rw [z]; exact hL
                  · rw [upd_ne z] at q; exact st7.th a q
              · rw [if_neg hl] at run
                cases run
  · rintro H2 ⟨F2, r2, acc, accD, S, st, ow, fL, hLs, qa, run⟩
    rw [List.drop_length] at run
    have z1 : ys = accD ∧ rE = r2 := by
      unfold compGo at run
      cases run
      exact ⟨rfl, rfl⟩
    obtain ⟨rfl, rfl⟩ := z1
    obtain ⟨S4, o4⟩ := S1.rest hp S st.gF
    refine h2 F2 H2 S4 (st1.trans w1 st) (fun a z => w1 a (ow a (o4 a z))) _ (.tmp fL hLs (.lst qa) mut_lst (fun z => fr3 (ow L (o4 L z))) (st1.th L hL))
theorem de_comp {elt tg iter : Expr} {ifs : List Expr} {scope : Scope} {own : List (Str × Nat)} {is : List Nat} {t : Tg} {it : M (List D)} {c : M Bool} {f : M RV} (hc : X.calm = true) (hN : X.N.Nodup) (his : own.map (·.2) = is) (hts : ∀ j ∈ t.ns, j ∈ is) (hi : PI X tg iter (iOf G E it)) (ok : BlkOk X.N X.env.scope scope own)
    (hg : ∀ (s : Shared) (H : Hp) (C : Addr) (cl : List (Str × Addr)) (fp : List Addr), PG (X.blk s H scope (compEnvC scope cl C X.env) fp) tg (tgOf G t)) (ht : ∀ (s : Shared) (H : Hp) (C : Addr) (cl : List (Str × Addr)) (fp : List Addr), PTs (X.blk s H scope (compEnvC scope cl C X.env) fp) ifs (ttOf G E.no c))
    (he : ∀ (s : Shared) (H : Hp) (C : Addr) (cl : List (Str × Addr)) (fp : List Addr), PE (X.blk s H scope (compEnvC scope cl C X.env) fp) elt (tOf G E.no f)) (hs : ∀ x, foldedSetIterable iter X.env x = pure x := by intro _; rfl) :
    PE X (.ListComp elt [⟨tg, iter, ifs, 0⟩] scope pos) (tOf G E (eComp is t it c f)) := by
  subst his
  exact PE_mono (pe_lc hc hN hi ok hg ht he hs) (comp_rd (K0 := fun _ _ _ => True) hts)
end
end DL

end

section
set_option Elab.async false
set_option linter.all false
set_option maxRecDepth 100000
set_option maxHeartbeats 1000000
/-! Comprehensions of two. -/
namespace DL
open PySem L2 PyProof.Rows
def comp2Go (is is1 : List Nat) (t : Tg) (c : M Bool) (t1 : Tg) (it1 : M (List D)) (c1 : M Bool) (e : M RV) : List D → List D → M (List D)
  | [], acc => pur acc
  | d :: ds, acc => bnd (asg t d) fun _ => bnd c fun x => if x then (bnd it1 fun ds1 => bnd (wip is1) fun _ => bnd (compGo is1 t1 c1 e ds1 acc) fun acc1 => bnd (wip is) fun _ => comp2Go is is1 t c t1 it1 c1 e ds acc1) else (bnd (wip is) fun _ => comp2Go is is1 t c t1 it1 c1 e ds acc)
def eComp2 (is is1 : List Nat) (t : Tg) (it : M (List D)) (c : M Bool) (t1 : Tg) (it1 : M (List D)) (c1 : M Bool) (e : M RV) : M RV :=
  bnd it fun ds => bnd (inBlk is (comp2Go is is1 t c t1 it1 c1 e ds [])) fun ys => pur (.tmp (.lst ys))
section
variable {G : Gm} {b : Bas} {E : EK}
end
section
variable {X : Cx} {G : Gm} {E : EK} {pos : Pos}
end
end DL

end

section
set_option linter.all false
set_option maxRecDepth 100000
/-! The operators and built-ins by values. -/
namespace DL
open PySem (Str PyData)

/-! ### values as the library's data -/
mutual
def toPd : D → Option PyData
  | .non => some .none
  | .bl b => some (.bool b)
  | .int i => some (.int i)
  | .str x => some (.str x)
  | .tup xs => (toPds xs).map .tuple
  | .lst xs => (toPds xs).map .list
  | .scr xs => (toPds xs).map .list
  | .dic _ _ => none
  | .set _ => none
  | .ins _ _ => none
  | .fdc _ _ => none
  | .ptup xs => (toPds xs).map .tuple
  | .dcn _ => none
  | .opq => none
def toPds : List D → Option (List PyData)
  | [] => some []
  | d :: ds => match toPd d, toPds ds with
    | some p, some ps => some (p :: ps)
    | _, _ => none
end
def shp (d : D) : Option PyData := match toPd d with
  | some p => if PySem.SeqAt.shaped p then some p else none
  | none => none
/-! ### operators -/
def oAdd : D → D → Option RV
  | .int i, .int j => some (.fz (.int (i + j)))
  | .str x, .str y => if x.length + y.length ≤ line then some (.fz (.str (x ++ y))) else none
  | .tup xs, .tup ys => if xs.length + ys.length ≤ line then some (.fz (.tup (xs ++ ys))) else none
  | .lst xs, .lst ys => if xs.length + ys.length ≤ line then some (.tmp (.lst (xs ++ ys))) else none
  | _, _ => none
def oSub : D → D → Option RV
  | .int i, .int j => some (.fz (.int (i - j)))
  | _, _ => none
def oMul : D → D → Option RV
  | .int i, .int j => if i.natAbs.log2 + j.natAbs.log2 < 1000000 then some (.fz (.int (i * j))) else none
  | .lst xs, .int k => if -(2 ^ 63) ≤ k ∧ k < 2 ^ 63 ∧ xs.length * k.toNat ≤ line then some (.tmp (.lst (List.replicate k.toNat xs).flatten)) else none
  | _, _ => none
def oDiv : D → D → Option RV
  | .int i, .int j => if 0 < j ∧ j.natAbs.log2 < 9000 then some (.fz (.int (i / j))) else none
  | _, _ => none
def oMod : D → D → Option RV
  | .int i, .int j => if 0 < j then some (.fz (.int (i % j))) else none
  | _, _ => none
def oPow : D → D → Option RV
  | .int i, .int j => if 0 ≤ j ∧ j ≤ 1000000 ∧ i.natAbs < 2 ^ 64 then some (.fz (.int (i ^ j.toNat))) else none
  | _, _ => none
def oNeg : D → Option RV
  | .int i => some (.fz (.int (-i)))
  | _ => none
/-! ### comparisons -/
def ints? : List D → Option (List Int)
  | [] => some []
  | .int i :: ds => (ints? ds).map (i :: ·)
  | _ :: _ => none
def oLt : D → D → Option RV
  | .int i, .int j => some (.fz (.bl (decide (i < j))))
  | .str x, .str y => some (.fz (.bl (decide (x.cps.toList < y.cps.toList))))
  | .tup xs, .tup ys => match ints? xs, ints? ys with
    | some ns, some ms => some (.fz (.bl (decide (ns < ms))))
    | _, _ => none
  | .ptup xs, .ptup ys => match ints? xs, ints? ys with
    | some ns, some ms => some (.fz (.bl (decide (ns < ms))))
    | _, _ => none
  | _, _ => none
def oLe : D → D → Option RV
  | .int i, .int j => some (.fz (.bl (decide (i ≤ j))))
  | _, _ => none
def oGt : D → D → Option RV
  | .int i, .int j => some (.fz (.bl (decide (j < i))))
  | _, _ => none
def oGe : D → D → Option RV
  | .int i, .int j => some (.fz (.bl (decide (j ≤ i))))
  | _, _ => none
def isNon : D → Bool
  | .non => true
  | _ => false
def oIs : D → D → Option RV
  | d, .non => some (.fz (.bl (isNon d)))
  | _, _ => none
def oIsNot : D → D → Option RV
  | d, .non => some (.fz (.bl (!isNon d)))
  | _, _ => none
/-- ==; texts and whole numbers with themselves, else data -/
def eqD (x y : D) : Option Bool := match x, y with
  | .int i, .int j => some (decide (i = j))
  | .str i, .str j => some (decide (i = j))
  | .bl i, .bl j => some (decide (i = j))
  | .non, .non => some true
  | x, y => match shp x, shp y with
    | some p, some q => some (PyData.eqv p q)
    | _, _ => none
def oEq (x y : D) : Option RV := (eqD x y).map fun b => .fz (.bl b)
def oNe (x y : D) : Option RV := (eqD x y).map fun b => .fz (.bl (!b))
/-! ### keys of dicts -/
def keyOf : D → Option (Int ⊕ Str)
  | .int i => some (.inl i)
  | .str x => some (.inr x)
  | _ => none
def keysOf : List D → Option (List (Int ⊕ Str))
  | [] => some []
  | d :: ds => match keyOf d, keysOf ds with
    | some k, some ks => some (k :: ks)
    | _, _ => none
/-- a key as a value: a number, a text, or a tuple of these -/
inductive DKey where
  | one (k : Int ⊕ Str) | row (ks : List (Int ⊕ Str))
  deriving DecidableEq
def dkey : D → Option DKey
  | .int i => some (.one (.inl i))
  | .str x => some (.one (.inr x))
  | .tup xs => (keysOf xs).map .row
  | _ => none
/-- a key of a dict of the kind t -/
def kkey (t : Bool) (d : D) : Option DKey := match t, d with
  | false, .tup _ => none
  | true, .int _ => none
  | true, .str _ => none
  | _, d => dkey d
def look (kvs : List (D × D)) (k : DKey) : Option D := (kvs.find? fun p => dkey p.1 == some k).map (·.2)
def stor (kvs : List (D × D)) (k : D) (v : D) : List (D × D) :=
  if kvs.any fun p => dkey p.1 == dkey k then kvs.map fun p => if dkey p.1 == dkey k then (p.1, v) else p else kvs ++ [(k, v)]
/-! ### in -/
def anyEq (x : D) (ds : List D) : Option Bool := match shp x, shp (.lst ds) with
  | some p, some (.list qs) => some (qs.any fun q => PyData.eqv q p)
  | _, _ => none
def anyEqT (x : D) (ds : List D) : Option Bool := match shp x, shp (.tup ds) with
  | some p, some (.tuple qs) => some (qs.any fun q => PyData.eqv q p)
  | _, _ => none
def inD (x : D) : D → Option Bool
  | .lst ds => anyEq x ds
  | .tup ds => anyEqT x ds
  | .ptup ds => anyEqT x ds
  | .dic t kvs => (kkey t x).map fun k => (look kvs k).isSome
  | _ => none
def oIn (x y : D) : Option RV := (inD x y).map fun b => .fz (.bl b)
def oNotIn (x y : D) : Option RV := (inD x y).map fun b => .fz (.bl (!b))
/-! ### items -/
def atD (xs : List D) (i : Int) : Option D := if 0 ≤ i then (if i < xs.length then xs[i.toNat]? else none) else if -(xs.length : Int) ≤ i then xs[(i + xs.length).toNat]? else none
def oIx : D → D → Option RV
  | .lst xs, .int i => (atD xs i).map .fz
  | .tup xs, .int i => (atD xs i).map .fz
  | .ptup xs, .int i => (atD xs i).map .fz
  | .scr xs, .int i => (atD xs i).map .fz
  | .dic t kvs, k => match kkey t k with
    | some k => (look kvs k).map .fz
    | none => none
  | _, _ => none
/-- the slice lo:hi -/
def sIx (n d : Nat) : Option Int → Nat
  | none => d
  | some v => if v < 0 then (v + (n : Int)).toNat else min v.toNat n
def cutD (xs : List D) (lo hi : Option Int) : List D := (xs.drop (sIx xs.length 0 lo)).take (sIx xs.length xs.length hi - sIx xs.length 0 lo)
/-- a slice by values -/
def oSl (d : D) (lo hi : Option Int) : Option RV := match d with
  | .lst xs => some (.tmp (.lst (cutD xs lo hi)))
  | .scr xs => some (.tmp (.lst (cutD xs lo hi)))
  | .tup xs => some (.fz (.tup (cutD xs lo hi)))
  | .ptup xs => if sIx xs.length 0 lo = 0 ∧ sIx xs.length xs.length hi = xs.length then none else some (.fz (.tup (cutD xs lo hi)))
  | _ => none
def pNone : M (Option Int) := pur none
def pPart (a : M RV) : M (Option Int) := bnd a fun x => match x with
  | .fz (.int i) => pur (some i)
  | _ => badM
def eSl (a : M RV) (lo hi : M (Option Int)) : M RV := bnd a fun x => bnd lo fun l => bnd hi fun h => bnd (vwM x) fun d => lift (oSl d l h)
/-! ### built-ins -/
def oLen : D → Option RV
  | .lst xs => some (.fz (.int xs.length))
  | .tup xs => some (.fz (.int xs.length))
  | .ptup xs => some (.fz (.int xs.length))
  | .scr xs => some (.fz (.int xs.length))
  | .dic _ kvs => some (.fz (.int kvs.length))
  | .str x => if x.length ≤ line then some (.fz (.int x.length)) else none
  | _ => none
def oInt : D → Option RV
  | .int i => some (.fz (.int i))
  | .bl b => some (.fz (.int (if b then 1 else 0)))
  | _ => none
def oAbs : D → Option RV
  | .int i => some (.fz (.int (if i < 0 then -i else i)))
  | _ => none
def oList : D → Option RV
  | .lst xs => some (.tmp (.lst xs))
  | .tup xs => some (.tmp (.lst xs))
  | .scr xs => some (.tmp (.lst xs))
  | .set xs => some (.tmp (.lst xs))
  | .dic _ kvs => some (.tmp (.lst (kvs.map (·.1))))
  | _ => none
def oTuple : D → Option RV
  | .lst xs => some (.fz (.tup xs))
  | .tup xs => some (.fz (.tup xs))
  | _ => none
def bools? : List D → Option (List Bool)
  | [] => some []
  | .bl b :: ds => (bools? ds).map (b :: ·)
  | _ :: _ => none
def oAny : D → Option RV
  | .lst xs => (bools? xs).map fun bs => .fz (.bl (bs.any id))
  | _ => none
def oAll : D → Option RV
  | .lst xs => (bools? xs).map fun bs => .fz (.bl (bs.all id))
  | _ => none
def oSum : D → Option RV
  | .lst xs => (ints? xs).map fun ns => .fz (.int ns.sum)
  | _ => none
/-- min, max of two whole numbers -/
def oMin : D → D → Option RV
  | .int i, .int j => some (.fz (.int (if j < i then j else i)))
  | _, _ => none
def oMax : D → D → Option RV
  | .int i, .int j => some (.fz (.int (if j > i then j else i)))
  | _, _ => none
/-- the least, the most of some whole numbers -/
def leastI : List Int → Int
  | [] => 0
  | [x] => x
  | x :: xs => min x (leastI xs)
def mostI : List Int → Int
  | [] => 0
  | [x] => x
  | x :: xs => max x (mostI xs)
def oMinL : D → Option RV
  | .lst xs => match ints? xs with
    | some (n :: ns) => some (.fz (.int (leastI (n :: ns))))
    | _ => none
  | _ => none
def oMaxL : D → Option RV
  | .lst xs => match ints? xs with
    | some (n :: ns) => some (.fz (.int (mostI (n :: ns))))
    | _ => none
  | _ => none
/-- the built-in class of a value -/
inductive Ty where
  | non | bl | int | str | tup | lst | dic
  deriving DecidableEq
def Ty.nm : Ty → String
  | .non => "NoneType"
  | .bl => "bool"
  | .int => "int"
  | .str => "str"
  | .tup => "tuple"
  | .lst => "list"
  | .dic => "dict"
def tyOf : D → Option Ty
  | .non => some .non
  | .bl _ => some .bl
  | .int _ => some .int
  | .str _ => some .str
  | .tup _ => some .tup
  | .lst _ => some .lst
  | .scr _ => some .lst
  | .dic _ _ => some .dic
  | .set _ => none
  | .ins _ _ => none
  | .fdc _ _ => none
  | .ptup _ => some .tup
  | .dcn _ => none
  | .opq => none
/-- isinstance: by the built-in classes that it is true of, by the own classes -/
def oIsI (f : Ty → Bool) (g : Nat → Option Bool) (d : D) : Option RV := match d with
  | .ins c _ => (g c).map fun b => .fz (.bl b)
  | d => (tyOf d).map fun t => .fz (.bl (f t))
/-! ### sorting -/
inductive SortK where
  | ints (ns : List Int) | rows (nss : List (List Int))
def rows? : List D → Option (List (List Int))
  | [] => some []
  | .tup xs :: ds => match ints? xs, rows? ds with
    | some (n :: ns), some nss => some ((n :: ns) :: nss)
    | _, _ => none
  | _ :: _ => none
def sortInts (ns : List Int) : List Int := ns.mergeSort fun a b => decide (a ≤ b)
def sortRows (nss : List (List Int)) : List (List Int) := nss.mergeSort fun a b => decide (a ≤ b)
def tupI (ns : List Int) : D := .tup (ns.map .int)
def rowsE? : List D → Option (List (List Int))
  | [] => some []
  | .tup xs :: ds => match ints? xs, rowsE? ds with
    | some ns, some nss => some (ns :: nss)
    | _, _ => none
  | _ :: _ => none
/-- a value as the library's data, none for what is none -/
def pdOf (d : D) : PyData := (toPd d).getD .none
def dLe (d e : D) : Bool := !PySem.W.dataLt (pdOf e) (pdOf d)
def likeAll (ps : List PyData) : Bool := ps.all fun p => ps.all fun q => PySem.W.alike p q
def isTup : PyData → Bool
  | .tuple _ => true
  | _ => false
def noTup : PyData → Bool
  | .tuple _ => false
  | .none => false
  | _ => true
/-- values of one kind, sorted -/
def srtG (xs : List D) : Option (List D) := match toPds xs with
  | some ps => if likeAll ps = true ∧ (ps.all isTup = true ∨ ps.all noTup = true) ∧ (ps.all fun p => decide (p.depth ≤ 60)) = true then some (xs.mergeSort dLe) else none
  | none => none
def srt (xs : List D) : Option (List D) := match ints? xs with
  | some ns => some ((sortInts ns).map .int)
  | none => match rowsE? xs with
    | some nss => some ((sortRows nss).map tupI)
    | none => srtG xs
def oSorted : D → Option RV
  | .lst xs => (srt xs).map fun ys => .tmp (.lst ys)
  | .tup xs => (srt xs).map fun ys => .tmp (.lst ys)
  | .ptup xs => (srt xs).map fun ys => .tmp (.lst ys)
  | _ => none
/-- sorted(set(..)) of rows of whole numbers, all of one length -/
def dups : List (List Int) → List (List Int)
  | [] => []
  | x :: xs => if x ∈ dups xs then dups xs else x :: dups xs
def sortSet (nss : List (List Int)) : List (List Int) := sortRows (dups nss)
def rowOk (n : Nat) (x : List Int) : Bool := decide (x.length = n) && x.all fun m => decide (0 ≤ m) && decide (m < 1048576)
def rowsOk : List (List Int) → Bool
  | [] => true
  | x :: xs => (x :: xs).all (rowOk x.length)
def srtSet (xs : List D) : Option RV := match rows? xs with
  | some nss => if rowsOk nss = true ∧ (dups nss).length < 63 then some (.tmp (.lst ((sortSet nss).map tupI))) else none
  | none => none
def oSortSet : D → Option RV
  | .lst xs => srtSet xs
  | .tup xs => srtSet xs
  | _ => none
end DL

end

section
set_option Elab.async false
set_option linter.all false
set_option maxRecDepth 100000
set_option maxHeartbeats 1000000
/-! The operators by values keep what the layer's rules ask. -/
namespace DL
open PySem L2 PyProof.Rows
section
variable {G : Gm} {F H : Hp} {x y v : V} {d e : D} {rv : RV} {Q : VK}
theorem Vw.non_ (h : Vw G F H x .non) : x = .non := by
  cases h with
  | non => rfl
  | ref f o => cases o
theorem Vw.bl_ {b : Bool} (h : Vw G F H x (.bl b)) : x = .bl b := by
  cases h with
  | bl => rfl
  | ref f o => cases o
theorem Vw.int_ {i : Int} (h : Vw G F H x (.int i)) : x = .int i := by
  cases h with
  | int => rfl
  | ref f o => cases o
theorem Vw.str_ {s : Str} (h : Vw G F H x (.str s)) : x = .str s := by
  cases h with
  | str => rfl
  | ref f o => cases o
theorem Vw.tup_ {ds : List D} (h : Vw G F H x (.tup ds)) : ∃ a vs, x = .ref a ∧ H a = some (.tup vs) ∧ DqA G F vs ds := by
  cases h with
  | ref f o => cases o with | tup q => exact ⟨_, _, rfl, f, q⟩
theorem Vw.ptup_ {ds : List D} (h : Vw G F H x (.ptup ds)) : ∃ a o vs, x = .ref a ∧ H a = some (.frz o (.tup vs)) ∧ o.cls = .type "tuple" ∧ o.dict = none ∧ DqA G F vs ds := by
  cases h with
  | ref h o => cases o with | ptp c n q => exact ⟨_, _, _, rfl, h, c, n, q⟩
theorem Vw.lst_ {ds : List D} (h : Vw G F H x (.lst ds)) : ∃ a vs, x = .ref a ∧ H a = some (.lst vs) ∧ DqA G F vs ds := by
  cases h with
  | ref f o => cases o with | lst q => exact ⟨_, _, rfl, f, q⟩
theorem Vw.scr_ {ds : List D} (h : Vw G F H x (.scr ds)) : ∃ a ob vs, x = .ref a ∧ H a = some (.frz ob (.lst vs)) ∧ DqA G F vs ds := by
  cases h with
  | ref f o => cases o
  | scr f q => exact ⟨_, _, _, rfl, f, q⟩
theorem Vw.set_ {ds : List D} (h : Vw G F H x (.set ds)) : ∃ a vs, x = .ref a ∧ KSeq G.K a vs ∧ DqA G F vs ds := by
  cases h with
  | ref f o => cases o
  | ksc f q => exact ⟨_, _, rfl, f, q⟩
theorem Vw.dicK_ {kvs : List (D × D)} (h : Vw G F H x (.dic false kvs)) : ∃ a ks, x = .ref a ∧ H a = some (.dK ks) ∧ DqK G F ks kvs := by
  cases h with
  | ref f o => cases o with
    | dK q => exact ⟨_, _, rfl, f, q⟩
theorem Vw.dicT_ {kvs : List (D × D)} (h : Vw G F H x (.dic true kvs)) : ∃ a ks, x = .ref a ∧ H a = some (.dT ks) ∧ DqT G F ks kvs := by
  cases h with
  | ref f o => cases o with
    | dT q => exact ⟨_, _, rfl, f, q⟩
theorem Vw.ins_ {c : Nat} {ds : List D} (h : Vw G F H x (.ins c ds)) : ∃ a dx fs, x = .ref a ∧ H a = some (.ins (G.ct c) dx fs) ∧ DqF G F (G.cf c) fs ds := by
  cases h with
  | ref f o => cases o with | ins q => exact ⟨_, _, _, rfl, f, q⟩
theorem DqA.app {vs ws : List V} {ds es : List D} (h : DqA G F vs ds) (k : DqA G F ws es) : DqA G F (vs ++ ws) (ds ++ es) := by
  induction vs generalizing ds with
  | nil => cases h; exact k
  | cons v vs ih => cases h with | cons h t => exact .cons h (ih t)
theorem DqA.get {vs : List V} {ds : List D} {i : Nat} {d : D} (h : DqA G F vs ds) (e : ds[i]? = some d) : ∃ v, vs[i]? = some v ∧ Dq G F v d := by
  induction vs generalizing ds i with
  | nil => cases h; simp at e
  | cons v vs ih =>
    cases h with
    | cons h t =>
      cases i with
      | zero => cases (Option.some.inj e); exact ⟨v, rfl, h⟩
      | succ i =>
        obtain ⟨w, e1, e2⟩ := ih t (i := i) (by simpa using e)
        exact ⟨w, by simpa using e1, e2⟩
theorem DqA.drop {vs : List V} {ds : List D} (n : Nat) (h : DqA G F vs ds) : DqA G F (vs.drop n) (ds.drop n) := by
  induction n generalizing vs ds with
  | zero => exact h
  | succ n ih =>
    cases h with
    | nil => exact .nil
    | cons h t => exact ih t
theorem DqA.take {vs : List V} {ds : List D} (n : Nat) (h : DqA G F vs ds) : DqA G F (vs.take n) (ds.take n) := by
  induction n generalizing vs ds with
  | zero => exact .nil
  | succ n ih =>
    cases h with
    | nil => exact .nil
    | cons h t => exact .cons h (ih t)
theorem DqA.ints {vs : List V} {ds : List D} {ns : List Int} (h : DqA G F vs ds) (e : ints? ds = some ns) : vs = ns.map V.int := by
  induction vs generalizing ds ns with
  | nil => cases h; cases e; rfl
  | cons v vs ih =>
    cases h with
    | @cons _ _ d ds q t =>
      cases d with
      | int i =>
        unfold ints? at e
        cases e2 : ints? ds with
        | none => rw [e2] at e; cases e
        | some ms =>
          rw [e2] at e
          cases e
          have z := (q.vw (Le.refl F)).int_
          rw [z, ih t e2]
          rfl
      | _ => cases e
theorem DqA.of_ints (ns : List Int) : DqA G F (ns.map V.int) (ns.map D.int) := by
  induction ns with
  | nil => exact .nil
  | cons n ns ih => exact .cons (.int n) ih
theorem DqA.bools {vs : List V} {ds : List D} {bs : List Bool} (h : DqA G F vs ds) (e : bools? ds = some bs) : vs = bs.map V.bl := by
  induction vs generalizing ds bs with
  | nil => cases h; cases e; rfl
  | cons v vs ih =>
    cases h with
    | @cons _ _ d ds q t =>
      cases d with
      | bl i =>
        unfold bools? at e
        cases e2 : bools? ds with
        | none => rw [e2] at e; cases e
        | some ms =>
          rw [e2] at e
          cases e
          have z := (q.vw (Le.refl F)).bl_
          rw [z, ih t e2]
          rfl
      | _ => cases e
theorem line_eq : line = sizeLine := by rw [sizeLine_eq]; rfl
end

section
variable {X : Cx} {G : Gm}
theorem op_addA : OpR X (binaryOp .Add) (fun x y H Q => (rI0 fun i j => .int (i + j)) x y H Q ∨ (∃ i j, x = .str i ∧ y = .str j ∧ i.length + j.length ≤ sizeLine ∧ Q (.str (i ++ j)) H) ∨ rCatA X.K x y H Q ∨ rCat x y H Q) := op_add.or (op_add_str.or (op_catA.or op_cat))
theorem od_add (hK : X.K = G.K) : OpD G (fun x y H Q => (rI0 fun i j => .int (i + j)) x y H Q ∨ (∃ i j, x = .str i ∧ y = .str j ∧ i.length + j.length ≤ sizeLine ∧ Q (.str (i ++ j)) H) ∨ rCatA X.K x y H Q ∨ rCat x y H Q) oAdd := fun F H x y d e rv Q le tp hx hy g q => by
  unfold oAdd at g
  split at g
  · cases g
    exact .inl ⟨_, _, hx.int_, hy.int_, q _ F H (.old (.int _))⟩
  · split at g
    · rename_i hl
      cases g
      rw [line_eq] at hl
      exact .inr (.inl ⟨_, _, hx.str_, hy.str_, hl, q _ F H (.old (.str _))⟩)
    · cases g
  · split at g
    · rename_i xs ys hl
      cases g
      rw [line_eq] at hl
      obtain ⟨a, vs, rfl, ha, qa⟩ := hx.tup_
      obtain ⟨c, ws, rfl, hc, qc⟩ := hy.tup_
      refine .inr (.inr (.inl ⟨a, c, vs, ws, rfl, rfl, SqT.of ha, SqT.of hc, by rw [qa.length, qc.length]; exact hl, fun z => ?_, fun z1 z2 => ?_, fun z1 z2 p hp => ?_⟩))
      · refine q _ F H (.old ?_)
        subst z
        cases qa
        exact .ref (tp _ _ hc) (.tup qc)
      · refine q _ F H (.old ?_)
        subst z2
        cases qc
        rw [List.append_nil]
        exact .ref (tp _ _ ha) (.tup qa)
      · exact q _ _ _ (.new hp (.tup (qa.app qc)))
    · cases g
  · split at g
    · rename_i xs ys hl
      cases g
      rw [line_eq] at hl
      obtain ⟨a, vs, rfl, ha, qa⟩ := hx.lst_
      obtain ⟨c, ws, rfl, hc, qc⟩ := hy.lst_
      exact .inr (.inr (.inr ⟨a, c, vs, ws, rfl, rfl, ha, hc, by rw [qa.length, qc.length]; exact hl, fun p hp => q _ _ _ (.tmp hp (.lst (qa.app qc)) mut_lst)⟩))
    · cases g
  · cases g
theorem od_sub : OpD G (rI0 fun i j => .int (i - j)) oSub := fun F H x y d e rv Q le tp hx hy g q => by
  unfold oSub at g
  split at g
  · cases g
    exact ⟨_, _, hx.int_, hy.int_, q _ F H (.old (.int _))⟩
  · cases g
theorem op_mulA : OpR X (binaryOp .Mult) (fun x y H Q => (rI CMulW fun i j => .int (i * j)) x y H Q ∨ rRep x y H Q) := op_mulW.or op_rep
theorem DqA.rep {F : Hp} {vs : List V} {ds : List D} (h : DqA G F vs ds) (k : Nat) : DqA G F (List.replicate k vs).flatten (List.replicate k ds).flatten := by
  induction k with
  | zero => exact .nil
  | succ k ih =>
    rw [List.replicate_succ, List.replicate_succ, List.flatten_cons, List.flatten_cons]
    exact h.app ih
theorem od_mul : OpD G (fun x y H Q => (rI CMulW fun i j => .int (i * j)) x y H Q ∨ rRep x y H Q) oMul := fun F H x y d e rv Q le tp hx hy g q => by
  unfold oMul at g
  split at g
  · split at g
    · rename_i hl
      cases g
      exact .inl ⟨_, _, hx.int_, hy.int_, hl, q _ F H (.old (.int _))⟩
    · cases g
  · split at g
    · rename_i hl
      cases g
      obtain ⟨a, vs, rfl, ha, qa⟩ := hx.lst_
      rw [line_eq] at hl
      exact .inr ⟨a, _, vs, rfl, hy.int_, ha, hl.1, hl.2.1, by rw [qa.length]; exact hl.2.2, fun p hp => q _ _ _ (.tmp hp (.lst (qa.rep _)) mut_lst)⟩
    · cases g
  · cases g
theorem od_div : OpD G (rI CDivW fun i j => .int (i / j)) oDiv := fun F H x y d e rv Q le tp hx hy g q => by
  unfold oDiv at g
  split at g
  · split at g
    · rename_i hl
      cases g
      exact ⟨_, _, hx.int_, hy.int_, hl, q _ F H (.old (.int _))⟩
    · cases g
  · cases g
theorem od_mod : OpD G (rI (fun _ j => 0 < j) fun i j => .int (i % j)) oMod := fun F H x y d e rv Q le tp hx hy g q => by
  unfold oMod at g
  split at g
  · split at g
    · rename_i hl
      cases g
      exact ⟨_, _, hx.int_, hy.int_, hl, q _ F H (.old (.int _))⟩
    · cases g
  · cases g
theorem od_pow : OpD G (rI CPow fun i j => .int (i ^ j.toNat)) oPow := fun F H x y d e rv Q le tp hx hy g q => by
  unfold oPow at g
  split at g
  · split at g
    · rename_i hl
      cases g
      exact ⟨_, _, hx.int_, hy.int_, hl, q _ F H (.old (.int _))⟩
    · cases g
  · cases g
/-! ### comparisons -/
theorem lexI_eq : ∀ xs ys : List Int, HT.lexLt xs ys = decide (xs < ys)
  | [], [] => by simp [HT.lexLt]
  | [], _ :: _ => by simp [HT.lexLt]
  | _ :: _, [] => by simp [HT.lexLt]
  | x :: xs, y :: ys => by
    rw [HT.lexLt_cons, lexI_eq xs ys]
    by_cases h : x = y
    · rw [if_pos h]; simp [h, List.cons_lt_cons_iff]
    · rw [if_neg h]; simp [h, List.cons_lt_cons_iff]
theorem op_ltA (hu : X.A.units < cLine) : OpR X (compareOp .Lt) (fun x y H Q => (rI0 fun i j => .bl (decide (i < j))) x y H Q ∨ (∃ i j, x = .str i ∧ y = .str j ∧ Q (.bl (decide (i.cps.toList < j.cps.toList))) H) ∨ rLtT X.K x y H Q) := op_lt.or (op_lt_str.or (op_ltT hu))
theorem od_lt : OpD G (fun x y H Q => (rI0 fun i j => .bl (decide (i < j))) x y H Q ∨ (∃ i j, x = .str i ∧ y = .str j ∧ Q (.bl (decide (i.cps.toList < j.cps.toList))) H) ∨ rLtT X.K x y H Q) oLt := fun F H x y d e rv Q le tp hx hy g q => by
  unfold oLt at g
  split at g
  · cases g
    exact .inl ⟨_, _, hx.int_, hy.int_, q _ F H (.old (.bl _))⟩
  · cases g
    exact .inr (.inl ⟨_, _, hx.str_, hy.str_, q _ F H (.old (.bl _))⟩)
  · split at g
    · rename_i ns ms e1 e2
      cases g
      obtain ⟨a, vs, rfl, ha, qa⟩ := hx.tup_
      obtain ⟨c, ws, rfl, hc, qc⟩ := hy.tup_
      refine .inr (.inr ⟨a, c, ns, ms, rfl, rfl, SqT.of (by rw [← qa.ints e1]; exact ha), SqT.of (by rw [← qc.ints e2]; exact hc), ?_⟩)
      rw [lexI_eq]
      exact q _ F H (.old (.bl _))
    · cases g
  · split at g
    · rename_i ns ms e1 e2
      cases g
      obtain ⟨a, o, vs, rfl, ha, _, _, qa⟩ := hx.ptup_
      obtain ⟨c, o2, ws, rfl, hc, _, _, qc⟩ := hy.ptup_
      refine .inr (.inr ⟨a, c, ns, ms, rfl, rfl, .inl (.inr ⟨o, by rw [← qa.ints e1]; exact ha⟩), .inl (.inr ⟨o2, by rw [← qc.ints e2]; exact hc⟩), ?_⟩)
      rw [lexI_eq]
      exact q _ F H (.old (.bl _))
    · cases g
  · cases g
theorem od_le : OpD G (rI0 fun i j => .bl (decide (i ≤ j))) oLe := fun F H x y d e rv Q le tp hx hy g q => by
  unfold oLe at g
  split at g
  · cases g
    exact ⟨_, _, hx.int_, hy.int_, q _ F H (.old (.bl _))⟩
  · cases g
theorem od_gt : OpD G (rI0 fun i j => .bl (decide (j < i))) oGt := fun F H x y d e rv Q le tp hx hy g q => by
  unfold oGt at g
  split at g
  · cases g
    exact ⟨_, _, hx.int_, hy.int_, q _ F H (.old (.bl _))⟩
  · cases g
theorem od_ge : OpD G (rI0 fun i j => .bl (decide (j ≤ i))) oGe := fun F H x y d e rv Q le tp hx hy g q => by
  unfold oGe at g
  split at g
  · cases g
    exact ⟨_, _, hx.int_, hy.int_, q _ F H (.old (.bl _))⟩
  · cases g
theorem Vw.isNon_ {F H : Hp} {x : V} {d : D} (h : Vw G F H x d) : decide (x = .non) = isNon d := by
  cases h with
  | ref f o => cases o <;> rfl
  | _ => rfl
theorem od_is : OpD G (fun x y H Q => y = .non ∧ Q (.bl (decide (x = .non))) H) oIs := fun F H x y d e rv Q le tp hx hy g q => by
  unfold oIs at g
  split at g
  · cases g
    refine ⟨hy.non_, ?_⟩
    rw [hx.isNon_]
    exact q _ F H (.old (.bl _))
  · cases g
/-! ### as the library's data -/
mutual
theorem Dq.dp {F H : Hp} (le : Le F H) : ∀ {v : V} {d : D} {p : PyData}, Dq G F v d → toPd d = some p → Dp G.K H v p
  | _, .non, p, q, e => by cases e; cases (q.vw (Le.refl F)).non_; exact .non
  | _, .bl b, p, q, e => by cases e; cases (q.vw (Le.refl F)).bl_; exact .bl b
  | _, .int i, p, q, e => by cases e; cases (q.vw (Le.refl F)).int_; exact .int i
  | _, .str x, p, q, e => by cases e; cases (q.vw (Le.refl F)).str_; exact .str x
  | _, .tup ds, p, q, e => by
    obtain ⟨a, vs, rfl, h, qa⟩ := (q.vw (Le.refl F)).tup_
    unfold toPd at e
    cases e2 : toPds ds with
    | none => rw [e2] at e; cases e
    | some ps => rw [e2] at e; cases e; exact .tup (SqT.of (le _ _ h)) (DqA.dp le qa e2)
  | _, .lst ds, p, q, e => by
    obtain ⟨a, vs, rfl, h, qa⟩ := (q.vw (Le.refl F)).lst_
    unfold toPd at e
    cases e2 : toPds ds with
    | none => rw [e2] at e; cases e
    | some ps => rw [e2] at e; cases e; exact .lst (SqL.of (le _ _ h)) (DqA.dp le qa e2)
  | _, .scr ds, p, q, e => by
    obtain ⟨a, ob, vs, rfl, h, qa⟩ := (q.vw (Le.refl F)).scr_
    unfold toPd at e
    cases e2 : toPds ds with
    | none => rw [e2] at e; cases e
    | some ps => rw [e2] at e; cases e; exact .lst (.inl (.inr ⟨ob, le _ _ h⟩)) (DqA.dp le qa e2)
  | _, .dic _ _, p, q, e => by cases e
  | _, .set _, p, q, e => by cases e
  | _, .ins _ _, p, q, e => by cases e
  | _, .fdc _ _, p, q, e => by cases e
  | _, .dcn _, p, q, e => by cases e
  | _, .ptup ds, p, q, e => by
    obtain ⟨a, o, vs, rfl, h, _, _, qa⟩ := (q.vw (Le.refl F)).ptup_
    unfold toPd at e
    cases e2 : toPds ds with
    | none => rw [e2] at e; cases e
    | some ps => rw [e2] at e; cases e; exact .tup (.inl (.inr ⟨o, le _ _ h⟩)) (DqA.dp le qa e2)
theorem DqA.dp {F H : Hp} (le : Le F H) : ∀ {vs : List V} {ds : List D} {ps : List PyData}, DqA G F vs ds → toPds ds = some ps → DpAll G.K H vs ps
  | _, [], ps, q, e => by cases e; cases q; exact .nil
  | _, d :: ds, ps, q, e => by
    cases q with
    | cons h t =>
      unfold toPds at e
      cases e1 : toPd d with
      | none => rw [e1] at e; cases e
      | some p =>
        cases e2 : toPds ds with
        | none => rw [e1, e2] at e; cases e
        | some ps => rw [e1, e2] at e; cases e; exact .cons (Dq.dp le h e1) (DqA.dp le t e2)
end
theorem Vw.dp {F H : Hp} (le : Le F H) {v : V} {d : D} {p : PyData} (h : Vw G F H v d) (e : toPd d = some p) : Dp G.K H v p := by
  cases d with
  | tup ds =>
    obtain ⟨a, vs, rfl, h, qa⟩ := h.tup_
    unfold toPd at e
    cases e2 : toPds ds with
    | none => rw [e2] at e; cases e
    | some ps => rw [e2] at e; cases e; exact .tup (SqT.of h) (DqA.dp le qa e2)
  | lst ds =>
    obtain ⟨a, vs, rfl, h, qa⟩ := h.lst_
    unfold toPd at e
    cases e2 : toPds ds with
    | none => rw [e2] at e; cases e
    | some ps => rw [e2] at e; cases e; exact .lst (SqL.of h) (DqA.dp le qa e2)
  | scr ds =>
    obtain ⟨a, ob, vs, rfl, h, qa⟩ := h.scr_
    unfold toPd at e
    cases e2 : toPds ds with
    | none => rw [e2] at e; cases e
    | some ps => rw [e2] at e; cases e; exact .lst (.inl (.inr ⟨ob, h⟩)) (DqA.dp le qa e2)
  | non => cases e; cases h.non_; exact .non
  | bl b => cases e; cases h.bl_; exact .bl b
  | int i => cases e; cases h.int_; exact .int i
  | str x => cases e; cases h.str_; exact .str x
  | dic _ _ => cases e
  | set _ => cases e
  | ins _ _ => cases e
  | fdc _ _ => cases e
  | dcn _ => cases e
  | opq => cases e
  | ptup ds =>
    obtain ⟨a, o, vs, rfl, h, _, _, qa⟩ := h.ptup_
    unfold toPd at e
    cases e2 : toPds ds with
    | none => rw [e2] at e; cases e
    | some ps => rw [e2] at e; cases e; exact .tup (.inl (.inr ⟨o, h⟩)) (DqA.dp le qa e2)
theorem shp_some {d : D} {p : PyData} (h : shp d = some p) : toPd d = some p ∧ SeqAt.shaped p = true := by
  unfold shp at h
  cases e : toPd d with
  | none => rw [e] at h; cases h
  | some q =>
    rw [e] at h
    simp only at h
    split at h
    · rename_i hs; cases h; exact ⟨rfl, hs⟩
    · cases h
def rEqA (K : PySem.W.Frag) : R2 := fun x y H Q => rEq x y H Q ∨ rEqD K x y H Q
def rNeA (K : PySem.W.Frag) : R2 := fun x y H Q => rNe x y H Q ∨ rNeD K x y H Q
theorem op_eqA (hu : X.A.units + 64 < cLine) : OpR X (compareOp .Eq) (rEqA X.K) := op_eq.or (op_eqD hu)
theorem op_neA (hu : X.A.units + 64 < cLine) : OpR X (compareOp .NotEq) (rNeA X.K) := op_ne.or (op_neD hu)
theorem eq_cases {F H : Hp} {x y : V} {d e : D} {b : Bool} (le : Le F H) (hx : Vw G F H x d) (hy : Vw G F H y e) (h : eqD d e = some b) : (scal x y = true ∧ decide (x = y) = b) ∨ ∃ p q, Dp G.K H x p ∧ Dp G.K H y q ∧ SeqAt.shaped p = true ∧ SeqAt.shaped q = true ∧ PyData.eqv p q = b := by
  unfold eqD at h
  split at h
  · cases h
    cases hx.int_
    cases hy.int_
    refine .inl ⟨rfl, ?_⟩
    rw [dec_int]
    exact Bool.beq_eq_decide_eq _ _
  · cases h
    cases hx.str_
    cases hy.str_
    refine .inl ⟨rfl, ?_⟩
    rw [dec_str]
    exact Bool.beq_eq_decide_eq _ _
  · cases h
    cases hx.bl_
    cases hy.bl_
    refine .inl ⟨rfl, ?_⟩
    rw [dec_bl]
    exact Bool.beq_eq_decide_eq _ _
  · cases h
    cases hx.non_
    cases hy.non_
    exact .inl ⟨rfl, rfl⟩
  · split at h
    · rename_i p q e1 e2
      cases h
      obtain ⟨f1, s1⟩ := shp_some e1
      obtain ⟨f2, s2⟩ := shp_some e2
      exact .inr ⟨p, q, hx.dp le f1, hy.dp le f2, s1, s2, rfl⟩
    · cases h
theorem od_eq (hK : X.K = G.K) : OpD G (rEqA X.K) oEq := fun F H x y d e rv Q le tp hx hy g q => by
  unfold oEq at g
  cases e1 : eqD d e with
  | none => rw [e1] at g; cases g
  | some b =>
    rw [e1] at g
    cases g
    rcases eq_cases le hx hy e1 with ⟨h1, h2⟩ | ⟨p, p', h1, h2, h3, h4, h5⟩
    · exact .inl ⟨h1, by rw [h2]; exact q _ F H (.old (.bl b))⟩
    · exact .inr ⟨p, p', by rw [hK]; exact h1, by rw [hK]; exact h2, h3, h4, by rw [h5]; exact q _ F H (.old (.bl b))⟩
theorem od_ne (hK : X.K = G.K) : OpD G (rNeA X.K) oNe := fun F H x y d e rv Q le tp hx hy g q => by
  unfold oNe at g
  cases e1 : eqD d e with
  | none => rw [e1] at g; cases g
  | some b =>
    rw [e1] at g
    cases g
    rcases eq_cases le hx hy e1 with ⟨h1, h2⟩ | ⟨p, p', h1, h2, h3, h4, h5⟩
    · exact .inl ⟨h1, by rw [h2]; exact q _ F H (.old (.bl (!b)))⟩
    · exact .inr ⟨p, p', by rw [hK]; exact h1, by rw [hK]; exact h2, h3, h4, by rw [h5]; exact q _ F H (.old (.bl (!b)))⟩
end
end DL

end

section
set_option Elab.async false
set_option linter.all false
set_option maxRecDepth 100000
set_option maxHeartbeats 1000000
/-! in, items, slices. -/
namespace DL
open PySem L2 PyProof.Rows
section
variable {G : Gm} {F H : Hp} {x y v : V} {d e : D} {rv : RV} {Q : VK}
theorem keyOf_V {k : Key} (h : Dq G F v d) (e : keyOf d = some k) : v = kV k ∧ d = keyD k := by
  cases d with
  | int i => cases e; exact ⟨(h.vw (Le.refl F)).int_, rfl⟩
  | str i => cases e; exact ⟨(h.vw (Le.refl F)).str_, rfl⟩
  | _ => cases e
theorem keysOf_V : ∀ {ds : List D} {vs : List V} {ks : List Key}, DqA G F vs ds → keysOf ds = some ks → vs = ks.map kV ∧ ds = ks.map keyD
  | [], vs, ks, h, e => by cases h; cases e; exact ⟨rfl, rfl⟩
  | d :: ds, vs, ks, h, e => by
    cases h with
    | cons h t =>
      unfold keysOf at e
      cases e1 : keyOf d with
      | none => rw [e1] at e; cases e
      | some k =>
        cases e2 : keysOf ds with
        | none => rw [e1, e2] at e; cases e
        | some ks =>
          rw [e1, e2] at e
          cases e
          obtain ⟨a1, a2⟩ := keyOf_V h e1
          obtain ⟨b1, b2⟩ := keysOf_V t e2
          exact ⟨by rw [a1, b1]; rfl, by rw [a2, b2]; rfl⟩
theorem keyOf_D (k : Key) : keyOf (keyD k) = some k := by
  cases k <;> rfl
theorem keysOf_D : ∀ ks : List Key, keysOf (ks.map keyD) = some ks
  | [] => rfl
  | k :: ks => by
    show keysOf (keyD k :: ks.map keyD) = _
    unfold keysOf
    rw [keyOf_D, keysOf_D ks]
theorem dkey_D (k : Key) : dkey (keyD k) = some (.one k) := by
  cases k <;> rfl
theorem dkey_Ds (ks : List Key) : dkey (.tup (ks.map keyD)) = some (.row ks) := by
  show (keysOf (ks.map keyD)).map DKey.row = _
  rw [keysOf_D]
  rfl
/-- a key of a plain dict -/
theorem kkeyK {k : DKey} (h : Vw G F H x d) (e : kkey false d = some k) : ∃ q, k = .one q ∧ x = kV q ∧ d = keyD q := by
  cases d with
  | int i => cases e; exact ⟨.inl i, rfl, h.int_, rfl⟩
  | str i => cases e; exact ⟨.inr i, rfl, h.str_, rfl⟩
  | _ => cases e
/-- a key of a dict by tuples -/
theorem kkeyT {k : DKey} (h : Vw G F H x d) (e : kkey true d = some k) : ∃ q a, k = .row q ∧ x = .ref a ∧ H a = some (.tup (q.map kV)) ∧ d = .tup (q.map keyD) := by
  cases d with
  | tup ds =>
    obtain ⟨a, vs, rfl, h, qa⟩ := h.tup_
    have e : (keysOf ds).map DKey.row = some k := e
    cases e2 : keysOf ds with
    | none => rw [e2] at e; cases e
    | some ks =>
      rw [e2] at e
      cases e
      obtain ⟨b1, b2⟩ := keysOf_V qa e2
      exact ⟨ks, a, rfl, rfl, b1 ▸ h, by rw [b2]⟩
  | _ => cases e
theorem lookK {ks : List (Key × V)} {kvs : List (D × D)} (h : DqK G F ks kvs) (q : Key) : (∃ d v, look kvs (.one q) = some d ∧ valV ks q = some v ∧ Dq G F v d) ∨ (look kvs (.one q) = none ∧ valV ks q = none) := by
  induction ks generalizing kvs with
  | nil => cases h; exact .inr ⟨rfl, rfl⟩
  | cons p ks ih =>
    cases h with
    | @cons k v _ d ds h t =>
      by_cases z : k = q
      · subst z
        refine .inl ⟨d, v, ?_, valV_pos rfl, h⟩
        unfold look
        rw [List.find?_cons_of_pos (by simp [dkey_D])]
        rfl
      · have e1 : look ((keyD k, d) :: ds) (.one q) = look ds (.one q) := by
          unfold look
          rw [List.find?_cons_of_neg (by simp [dkey_D, z])]
        rw [e1, valV_neg z]
        exact ih t
theorem lookT {ks : List (List Key × V)} {kvs : List (D × D)} (h : DqT G F ks kvs) (q : List Key) : (∃ d v, look kvs (.row q) = some d ∧ valV ks q = some v ∧ Dq G F v d) ∨ (look kvs (.row q) = none ∧ valV ks q = none) := by
  induction ks generalizing kvs with
  | nil => cases h; exact .inr ⟨rfl, rfl⟩
  | cons p ks ih =>
    cases h with
    | @cons k v _ d ds h t =>
      by_cases z : k = q
      · subst z
        refine .inl ⟨d, v, ?_, valV_pos rfl, h⟩
        unfold look
        rw [List.find?_cons_of_pos (by simp [dkey_Ds])]
        rfl
      · have e1 : look ((.tup (k.map keyD), d) :: ds) (.row q) = look ds (.row q) := by
          unfold look
          rw [List.find?_cons_of_neg (by simp [dkey_Ds, z])]
        rw [e1, valV_neg z]
        exact ih t
/-- what a dict holds at a key, by values -/
theorem dget {t : Bool} {kvs : List (D × D)} {k : DKey} (hd : Vw G F H y (.dic t kvs)) (hx : Vw G F H x e) (ek : kkey t e = some k) : ∃ a o, y = .ref a ∧ DGet H a x o ∧ ((∃ d v, look kvs k = some d ∧ o = some v ∧ Dq G F v d) ∨ (look kvs k = none ∧ o = none)) := by
  cases t with
  | false =>
    obtain ⟨a, ks, rfl, ha, qa⟩ := hd.dicK_
    obtain ⟨q, rfl, rfl, _⟩ := kkeyK hx ek
    refine ⟨a, valV ks q, rfl, DGet.k ha, ?_⟩
    rcases lookK qa q with ⟨d, v, h1, h2, h3⟩ | ⟨h1, h2⟩
    · exact .inl ⟨d, v, h1, h2, h3⟩
    · exact .inr ⟨h1, h2⟩
  | true =>
    obtain ⟨a, ks, rfl, ha, qa⟩ := hd.dicT_
    obtain ⟨q, b, rfl, rfl, hb, _⟩ := kkeyT hx ek
    refine ⟨a, valV ks q, rfl, DGet.t ha hb, ?_⟩
    rcases lookT qa q with ⟨d, v, h1, h2, h3⟩ | ⟨h1, h2⟩
    · exact .inl ⟨d, v, h1, h2, h3⟩
    · exact .inr ⟨h1, h2⟩
end
section
variable {X : Cx} {G : Gm}
def rInDic : R2 := fun x y H Q => ∃ a o, y = .ref a ∧ DGet H a x o ∧ Q (.bl o.isSome) H
def rNotInDic : R2 := fun x y H Q => ∃ a o, y = .ref a ∧ DGet H a x o ∧ Q (.bl (!o.isSome)) H
def rInTD (K : PySem.W.Frag) : R2 := fun x y H Q => ∃ d ds, Dp K H x d ∧ Dp K H y (.tuple ds) ∧ SeqAt.shaped d = true ∧ SeqAt.shaped (.tuple ds) = true ∧ Q (.bl (ds.any fun z => PyData.eqv z d)) H
def rNotInTD (K : PySem.W.Frag) : R2 := fun x y H Q => ∃ d ds, Dp K H x d ∧ Dp K H y (.tuple ds) ∧ SeqAt.shaped d = true ∧ SeqAt.shaped (.tuple ds) = true ∧ Q (.bl (!ds.any fun z => PyData.eqv z d)) H
theorem op_inTD (hu : X.A.units + 65 < cLine) : OpR X (compareOp .In) (rInTD X.K) := by
  intro pins s σ H x y v u Q I rx ry h
  obtain ⟨d, ds, hd, he, sd, se, q⟩ := h
  obtain ⟨as, r1⟩ := Dp.reads I d x v hd rx
  obtain ⟨bs, r2⟩ := Dp.reads I (.tuple ds) y u he ry
  exact SeqAt.in_tuple_reads r2 r1 (SeqAt.canLay_of_shaped se) (SeqAt.canLay_of_shaped sd) (room_in_shaped sd hu) ⟨.bl _, H, I, rfl, q⟩
theorem op_notInTD (hu : X.A.units + 65 < cLine) : OpR X (compareOp .NotIn) (rNotInTD X.K) := by
  intro pins s σ H x y v u Q I rx ry h
  obtain ⟨d, ds, hd, he, sd, se, q⟩ := h
  obtain ⟨as, r1⟩ := Dp.reads I d x v hd rx
  obtain ⟨bs, r2⟩ := Dp.reads I (.tuple ds) y u he ry
  exact SeqAt.notIn_tuple_reads r2 r1 (SeqAt.canLay_of_shaped se) (SeqAt.canLay_of_shaped sd) (room_in_shaped sd hu) ⟨.bl _, H, I, rfl, q⟩
theorem op_inDic (hu : X.A.units + 1 < cLine) : OpR X (compareOp .In) rInDic := by
  intro pins s σ H x y v u Q I rx ry h
  obtain ⟨a, o, rfl, g, q⟩ := h
  cases ry
  exact d_in hu I g rx fun s3 I3 => ⟨.bl o.isSome, H, I3, rfl, q⟩
theorem op_notInDic (hu : X.A.units + 1 < cLine) : OpR X (compareOp .NotIn) rNotInDic := by
  intro pins s σ H x y v u Q I rx ry h
  obtain ⟨a, o, rfl, g, q⟩ := h
  cases ry
  exact d_notIn hu I g rx fun s3 I3 => ⟨.bl (!o.isSome), H, I3, rfl, q⟩
def rInA (K : PySem.W.Frag) : R2 := fun x y H Q => rInD K x y H Q ∨ rInTD K x y H Q ∨ rInDic x y H Q
def rNotInA (K : PySem.W.Frag) : R2 := fun x y H Q => rNotInD K x y H Q ∨ rNotInTD K x y H Q ∨ rNotInDic x y H Q
theorem op_inA (hu : X.A.units + 65 < cLine) : OpR X (compareOp .In) (rInA X.K) := (op_inD hu).or ((op_inTD hu).or (op_inDic (by omega)))
theorem op_notInA (hu : X.A.units + 65 < cLine) : OpR X (compareOp .NotIn) (rNotInA X.K) := (op_notInD hu).or ((op_notInTD hu).or (op_notInDic (by omega)))
theorem in_cases {F H : Hp} {x y : V} {d e : D} {b : Bool} (le : Le F H) (hx : Vw G F H x d) (hy : Vw G F H y e) (h : inD d e = some b) :
    (∃ p ds, Dp G.K H x p ∧ Dp G.K H y (.list ds) ∧ SeqAt.shaped p = true ∧ SeqAt.shaped (.list ds) = true ∧ (ds.any fun z => PyData.eqv z p) = b) ∨
    (∃ p ds, Dp G.K H x p ∧ Dp G.K H y (.tuple ds) ∧ SeqAt.shaped p = true ∧ SeqAt.shaped (.tuple ds) = true ∧ (ds.any fun z => PyData.eqv z p) = b) ∨
    ∃ a o, y = .ref a ∧ DGet H a x o ∧ o.isSome = b := by
  unfold inD at h
  split at h
  · unfold anyEq at h
    split at h
    · rename_i p qs e1 e2
      cases h
      obtain ⟨f1, s1⟩ := shp_some e1
      obtain ⟨f2, s2⟩ := shp_some e2
      exact .inl ⟨p, qs, hx.dp le f1, hy.dp le f2, s1, s2, rfl⟩
    · cases h
  · unfold anyEqT at h
    split at h
    · rename_i p qs e1 e2
      cases h
      obtain ⟨f1, s1⟩ := shp_some e1
      obtain ⟨f2, s2⟩ := shp_some e2
      exact .inr (.inl ⟨p, qs, hx.dp le f1, hy.dp le f2, s1, s2, rfl⟩)
    · cases h
  · rename_i ds
    unfold anyEqT at h
    split at h
    · rename_i p qs e1 e2
      cases h
      obtain ⟨f1, s1⟩ := shp_some e1
      obtain ⟨f2, s2⟩ := shp_some e2
      have f3 : toPd (.ptup ds) = some (.tuple qs) := by
        unfold toPd at f2 ⊢
        exact f2
      exact .inr (.inl ⟨p, qs, hx.dp le f1, hy.dp le f3, s1, s2, rfl⟩)
    · cases h
  · rename_i t kvs
    cases ek : kkey t d with
    | none => rw [ek] at h; cases h
    | some k =>
      rw [ek] at h
      obtain ⟨a, o, rfl, g, c⟩ := dget hy hx ek
      refine .inr (.inr ⟨a, o, rfl, g, ?_⟩)
      have h : (look kvs k).isSome = b := Option.some.inj h
      rcases c with ⟨d, v, h1, h2, h3⟩ | ⟨h1, h2⟩
      · rw [← h, h1, h2]; rfl
      · rw [← h, h1, h2]; rfl
  · cases h
theorem od_in (hK : X.K = G.K) : OpD G (rInA X.K) oIn := fun F H x y d e rv Q le tp hx hy g q => by
  unfold oIn at g
  cases e1 : inD d e with
  | none => rw [e1] at g; cases g
  | some b =>
    rw [e1] at g
    cases g
    have q := q _ F H (.old (.bl b))
    rcases in_cases le hx hy e1 with ⟨p, ds, h1, h2, h3, h4, h5⟩ | ⟨p, ds, h1, h2, h3, h4, h5⟩ | ⟨a, o, h1, h2, h5⟩
    · exact .inl ⟨p, ds, hK ▸ h1, hK ▸ h2, h3, h4, by rw [h5]; exact q⟩
    · exact .inr (.inl ⟨p, ds, hK ▸ h1, hK ▸ h2, h3, h4, by rw [h5]; exact q⟩)
    · exact .inr (.inr ⟨a, o, h1, h2, by rw [h5]; exact q⟩)
theorem od_notIn (hK : X.K = G.K) : OpD G (rNotInA X.K) oNotIn := fun F H x y d e rv Q le tp hx hy g q => by
  unfold oNotIn at g
  cases e1 : inD d e with
  | none => rw [e1] at g; cases g
  | some b =>
    rw [e1] at g
    cases g
    have q := q _ F H (.old (.bl (!b)))
    rcases in_cases le hx hy e1 with ⟨p, ds, h1, h2, h3, h4, h5⟩ | ⟨p, ds, h1, h2, h3, h4, h5⟩ | ⟨a, o, h1, h2, h5⟩
    · exact .inl ⟨p, ds, hK ▸ h1, hK ▸ h2, h3, h4, by rw [h5]; exact q⟩
    · exact .inr (.inl ⟨p, ds, hK ▸ h1, hK ▸ h2, h3, h4, by rw [h5]; exact q⟩)
    · exact .inr (.inr ⟨a, o, h1, h2, by rw [h5]; exact q⟩)
/-! ### items -/
def rIxDic : R2 := fun x y H Q => ∃ a v, x = .ref a ∧ DGet H a y (some v) ∧ Q v H
theorem ix_dic (hu : X.A.units + 1 < cLine) : IxR X rIxDic := by
  intro value slice pins s σ H x y v u Q I rx ry h hs
  obtain ⟨a, z, rfl, g, q⟩ := h
  cases rx
  unfold subscriptTail
  refine wpAny_bind ?_
  rw [getitemInPython_of_ne (dict_typeIs I g).not_modules]
  refine wpAny_bind (wpAny_specialOf (dict_typeIs I g) PySem.F.slot_dict_getitem.lookup ?_)
  have fin : wpAny (model X.prog X.w) X.A (subscripted slice false (.ref a) u) (fun r s₃ => wpAny (model X.prog X.w) X.A (letTemporaryGo value (.ref a) r >>= fun _ => pure r) (EP X pins σ Q) X.xe s₃) X.xe s := by
    rw [hs]
    exact wpAny_operating (wpAny_mono (d_getItem (A := X.A) (E := X.xe) hu I g ry fun w' s3 I3 rw' => (⟨z, H, I3, rw', q⟩ : EP X pins σ Q w' s3)) (fun r s₃ h₃ => wpAny_bind (wpAny_letTemporaryGo (wpAny_pure h₃))) fun _ _ x => x)
  first
    | exact wpAny_pure (wpAny_bind fin)
    | exact wpAny_bind (wpAny_pure (wpAny_bind fin))
    | exact wpAny_bind fin
theorem ix_all (hu : X.A.units + 1 < cLine) : IxR X (fun x y H Q => rIxL X.K x y H Q ∨ rIxT X.K x y H Q ∨ rIxDic x y H Q) := ix_list.or (ix_tup.or (ix_dic hu))
theorem atD_at {F : Hp} {vs : List V} {ds : List D} {i : Int} {d : D} (h : DqA G F vs ds) (e : atD ds i = some d) : ∃ v, atI vs i = some v ∧ Dq G F v d := by
  have hl := h.length
  unfold atD at e
  unfold atI ixN
  rw [hl]
  split at e
  · rename_i c
    split at e
    · rename_i c2
      rw [if_pos c, if_pos c2]
      exact h.get e
    · cases e
  · rename_i c
    split at e
    · rename_i c2
      rw [if_neg c, if_pos c2]
      exact h.get e
    · cases e
theorem od_ix (hK : X.K = G.K) : OpD G (fun x y H Q => rIxL X.K x y H Q ∨ rIxT X.K x y H Q ∨ rIxDic x y H Q) oIx := fun F H x y d e rv Q le tp hx hy g q => by
  unfold oIx at g
  split at g
  · rename_i xs i
    obtain ⟨a, vs, rfl, ha, qa⟩ := hx.lst_
    cases ed : atD xs i with
    | none => rw [ed] at g; cases g
    | some d =>
      rw [ed] at g
      cases g
      obtain ⟨v, h1, h2⟩ := atD_at qa ed
      exact .inl ⟨a, vs, i, v, rfl, hy.int_, SqL.of ha, h1, q _ _ _ (.old h2)⟩
  · rename_i xs i
    obtain ⟨a, vs, rfl, ha, qa⟩ := hx.tup_
    cases ed : atD xs i with
    | none => rw [ed] at g; cases g
    | some d =>
      rw [ed] at g
      cases g
      obtain ⟨v, h1, h2⟩ := atD_at qa ed
      exact .inr (.inl ⟨a, vs, i, v, rfl, hy.int_, SqT.of ha, h1, q _ _ _ (.old h2)⟩)
  · rename_i xs i
    obtain ⟨a, o, vs, rfl, ha, _, _, qa⟩ := hx.ptup_
    cases ed : atD xs i with
    | none => rw [ed] at g; cases g
    | some d =>
      rw [ed] at g
      cases g
      obtain ⟨v, h1, h2⟩ := atD_at qa ed
      exact .inr (.inl ⟨a, vs, i, v, rfl, hy.int_, .inl (.inr ⟨o, ha⟩), h1, q _ _ _ (.old h2)⟩)
  · rename_i xs i
    obtain ⟨a, ob, vs, rfl, ha, qa⟩ := hx.scr_
    cases ed : atD xs i with
    | none => rw [ed] at g; cases g
    | some d =>
      rw [ed] at g
      cases g
      obtain ⟨v, h1, h2⟩ := atD_at qa ed
      exact .inl ⟨a, vs, i, v, rfl, hy.int_, .inl (.inr ⟨ob, ha⟩), h1, q _ _ _ (.old h2)⟩
  · rename_i t kvs
    cases ek : kkey t e with
    | none => rw [ek] at g; cases g
    | some k =>
      rw [ek] at g
      have g : (look kvs k).map RV.fz = some rv := g
      obtain ⟨a, o, rfl, dg, c⟩ := dget hx hy ek
      rcases c with ⟨d, v, h1, h2, h3⟩ | ⟨h1, h2⟩
      · rw [h1] at g
        cases g
        rw [h2] at dg
        exact .inr (.inr ⟨a, v, rfl, dg, q _ _ _ (.old h3)⟩)
      · rw [h1] at g
        cases g
  · cases g
theorem de_ix {E : EK} {a c : Expr} {fa fb : M RV} {pos : Pos} {r : R2} {g : D → D → Option RV} (ho : IxR X r) (hr : OpD G r g) (ha : PE X a (tOf G E fa)) (hb : PE X c (tOf G E fb)) (hs : PlainIx c) : PE X (.Subscript a c pos) (tOf G E (eOp2 g fa fb)) :=
  PE_mono (pe_ix ho ha hb hs) (op2_rd hr)
/-! ### slices -/
def toOf (G : Gm) (E : EK) (f : M (Option Int)) : TO := fun σ H Q => ∃ (b : E.B) (F : Hp) (r : Env), Stt G b.1 F H σ r ∧ Out G E b.1 F H σ r (f r) fun o r1 F1 H1 => Q o H1
def rSlL2 (K : PySem.W.Frag) : V → Option Int → Option Int → Hp → VK → Prop := fun x lo hi H Q => rSlL K x lo hi H Q ∨ rSlA K x lo hi H Q
end
end DL

end

section
set_option Elab.async false
set_option linter.all false
set_option maxRecDepth 100000
set_option maxHeartbeats 1000000
/-! Calls of built-ins. -/
namespace DL
open PySem L2 PyProof.Rows
section
variable {X : Cx} {G : Gm} {E : EK} {e e' : Expr} {fa fb : M RV} {p pos : Pos} {x : Str} {r : List V → Hp → VK → Prop} {g : D → Option RV} {id T : String}
/-- f(e), f a built-in function -/
theorem de_b1 (hc : CallR X (.builtin id) r) (hr : OpD1 G (fun v H Q => r [v] H Q) g) (hg : Gl X x) (hm : X.mg x = none) (hv : bootBuiltins x = some (.builtin id)) (ha : PE X e (tOf G E fa)) (hn : x ≠ "__name__" := by decide) (hdb : (x == ("__debug__" : Str)) = false := by decide)
    (he : starEach [e] X.env = (false, eval e X.env) :: starEach [] X.env := by rfl) (hpl : (backTo pos (starEach [] X.env)).any (·.1) = false := by rfl) : PE X (.Call (.Name x p) [e] [] pos) (tOf G E (eOp1 g fa)) :=
  PE_mono (pe_callB hc hg hm hv (pa_cons ha pa_nil he) hn hdb he hpl) (op1_rd hr)
/-- T(e), T a built-in class -/
theorem de_t1 (hc : CallR X (.type T) r) (hr : OpD1 G (fun v H Q => r [v] H Q) g) (hg : Gl X x) (hm : X.mg x = none) (hv : bootBuiltins x = some (.type T)) (ha : PE X e (tOf G E fa)) (hn : x ≠ "__name__" := by decide) (hdb : (x == ("__debug__" : Str)) = false := by decide)
    (he : starEach [e] X.env = (false, eval e X.env) :: starEach [] X.env := by rfl) (hpl : (backTo pos (starEach [] X.env)).any (·.1) = false := by rfl) : PE X (.Call (.Name x p) [e] [] pos) (tOf G E (eOp1 g fa)) :=
  PE_mono (pe_callTy hc hg hm hv (pa_cons ha pa_nil he) hn hdb he hpl) (op1_rd hr)
/-- f(e, e') -/
theorem de_b2 {g : D → D → Option RV} (hc : CallR X (.builtin id) r) (hr : OpD G (fun v u H Q => r [v, u] H Q) g) (hg : Gl X x) (hm : X.mg x = none) (hv : bootBuiltins x = some (.builtin id)) (ha : PE X e (tOf G E fa)) (hb : PE X e' (tOf G E fb)) (hn : x ≠ "__name__" := by decide) (hdb : (x == ("__debug__" : Str)) = false := by decide)
    (he : starEach [e, e'] X.env = (false, eval e X.env) :: starEach [e'] X.env := by rfl) (he' : starEach [e'] X.env = (false, eval e' X.env) :: starEach [] X.env := by rfl) (hpl : (backTo pos (starEach [e'] X.env)).any (·.1) = false := by rfl) : PE X (.Call (.Name x p) [e, e'] [] pos) (tOf G E (eOp2 g fa fb)) :=
  PE_mono (pe_callB hc hg hm hv (pa_cons ha (pa_cons hb pa_nil he') he) hn hdb he hpl) (op2_rd hr)
/-! ### len -/
def rLenA (K : PySem.W.Frag) : List V → Hp → VK → Prop := fun xs H Q => (∃ p ys, xs = [V.ref p] ∧ (SqL K H p ys ∨ SqT K H p ys) ∧ Q (.int ys.length) H) ∨ (∃ z, xs = [V.str z] ∧ z.length ≤ sizeLine ∧ Q (.int z.length) H) ∨ (∃ a kvs, xs = [V.ref a] ∧ H a = some (.dK kvs) ∧ Q (.int kvs.length) H) ∨ rLenT xs H Q
theorem cr_lenA : CallR X (.builtin "len") (rLenA X.K) := call_len_seq.or (call_len_str.or (call_lenD.or call_len_dT))
theorem DqK.length {F : Hp} {ks : List (Key × V)} {kvs : List (D × D)} (h : DqK G F ks kvs) : ks.length = kvs.length := by
  induction ks generalizing kvs with
  | nil => cases h; rfl
  | cons k ks ih => cases h with | cons h t => exact congrArg (· + 1) (ih t)
theorem DqT.length {F : Hp} {ks : List (List Key × V)} {kvs : List (D × D)} (h : DqT G F ks kvs) : ks.length = kvs.length := by
  induction ks generalizing kvs with
  | nil => cases h; rfl
  | cons k ks ih => cases h with | cons h t => exact congrArg (· + 1) (ih t)
theorem od_len {K : PySem.W.Frag} : OpD1 G (fun v H Q => rLenA K [v] H Q) oLen := fun F H x d rv Q le tp hx g q => by
  unfold oLen at g
  split at g
  · cases g
    obtain ⟨a, vs, rfl, ha, qa⟩ := hx.lst_
    exact .inl ⟨a, vs, rfl, .inl (SqL.of ha), by rw [qa.length]; exact q _ _ _ (.old (.int _))⟩
  · cases g
    obtain ⟨a, vs, rfl, ha, qa⟩ := hx.tup_
    exact .inl ⟨a, vs, rfl, .inr (SqT.of ha), by rw [qa.length]; exact q _ _ _ (.old (.int _))⟩
  · cases g
    obtain ⟨a, o, vs, rfl, ha, _, _, qa⟩ := hx.ptup_
    exact .inl ⟨a, vs, rfl, .inr (.inl (.inr ⟨o, ha⟩)), by rw [qa.length]; exact q _ _ _ (.old (.int _))⟩
  · cases g
    obtain ⟨a, ob, vs, rfl, ha, qa⟩ := hx.scr_
    exact .inl ⟨a, vs, rfl, .inl (.inl (.inr ⟨ob, ha⟩)), by rw [qa.length]; exact q _ _ _ (.old (.int _))⟩
  · rename_i t kvs
    cases g
    cases t with
    | false =>
      obtain ⟨a, ks, rfl, ha, qa⟩ := hx.dicK_
      exact .inr (.inr (.inl ⟨a, ks, rfl, ha, by rw [qa.length]; exact q _ _ _ (.old (.int _))⟩))
    | true =>
      obtain ⟨a, ks, rfl, ha, qa⟩ := hx.dicT_
      exact .inr (.inr (.inr ⟨a, ks, rfl, ha, by rw [qa.length]; exact q _ _ _ (.old (.int _))⟩))
  · split at g
    · rename_i z hl
      cases g
      rw [line_eq] at hl
      exact .inr (.inl ⟨_, by rw [hx.str_], hl, q _ _ _ (.old (.int _))⟩)
    · cases g
  · cases g
/-! ### int, abs, min, max -/
theorem od_int : OpD1 G (fun v H Q => (∃ i, [v] = [V.int i] ∧ Q (.int i) H) ∨ ∃ k, [v] = [V.bl k] ∧ Q (.int (if k then 1 else 0)) H) oInt := fun F H x d rv Q le tp hx g q => by
  unfold oInt at g
  split at g
  · cases g
    exact .inl ⟨_, by rw [hx.int_], q _ _ _ (.old (.int _))⟩
  · cases g
    exact .inr ⟨_, by rw [hx.bl_], q _ _ _ (.old (.int _))⟩
  · cases g
theorem od_max : OpD G (fun v u H Q => ∃ i j, [v, u] = [V.int i, V.int j] ∧ Q (.int (if j > i then j else i)) H) oMax := fun F H x y d e rv Q le tp hx hy g q => by
  unfold oMax at g
  split at g
  · cases g
    exact ⟨_, _, by rw [hx.int_, hy.int_], q _ _ _ (.old (.int _))⟩
  · cases g
theorem leastI_is : ∀ (n : Int) (ns : List Int) (m : Int), m ∈ n :: ns → (∀ y, y ∈ n :: ns → m ≤ y) → m = leastI (n :: ns)
  | n, [], m, hm, hy => List.mem_singleton.mp hm
  | n, k :: ns, m, hm, hy => by
    have e : leastI (n :: k :: ns) = min n (leastI (k :: ns)) := rfl
    rw [e]
    have mem : ∀ (k : Int) (ns : List Int), leastI (k :: ns) ∈ k :: ns := by
      intro k ns
      induction ns generalizing k with
      | nil => exact List.mem_singleton.mpr rfl
      | cons j ns ih =>
        have e : leastI (k :: j :: ns) = min k (leastI (j :: ns)) := rfl
        rw [e]
        rcases Int.le_total k (leastI (j :: ns)) with z | z
        · rw [Int.min_eq_left z]; exact List.mem_cons_self
        · rw [Int.min_eq_right z]; exact List.mem_cons_of_mem _ (ih j)
    have h1 := hy n List.mem_cons_self
    have h2 := hy _ (List.mem_cons_of_mem _ (mem k ns))
    rcases List.mem_cons.mp hm with z | z
    · omega
    · have h3 := leastI_is k ns m z fun y h => hy y (List.mem_cons_of_mem _ h)
      omega
theorem mostI_is : ∀ (n : Int) (ns : List Int) (m : Int), m ∈ n :: ns → (∀ y, y ∈ n :: ns → y ≤ m) → m = mostI (n :: ns)
  | n, [], m, hm, hy => List.mem_singleton.mp hm
  | n, k :: ns, m, hm, hy => by
    have e : mostI (n :: k :: ns) = max n (mostI (k :: ns)) := rfl
    rw [e]
    have mem : ∀ (k : Int) (ns : List Int), mostI (k :: ns) ∈ k :: ns := by
      intro k ns
      induction ns generalizing k with
      | nil => exact List.mem_singleton.mpr rfl
      | cons j ns ih =>
        have e : mostI (k :: j :: ns) = max k (mostI (j :: ns)) := rfl
        rw [e]
        rcases Int.le_total k (mostI (j :: ns)) with z | z
        · rw [Int.max_eq_right z]; exact List.mem_cons_of_mem _ (ih j)
        · rw [Int.max_eq_left z]; exact List.mem_cons_self
    have h1 := hy n List.mem_cons_self
    have h2 := hy _ (List.mem_cons_of_mem _ (mem k ns))
    rcases List.mem_cons.mp hm with z | z
    · omega
    · have h3 := mostI_is k ns m z fun y h => hy y (List.mem_cons_of_mem _ h)
      omega
theorem od_minL {K : PySem.W.Frag} : OpD1 G (fun v H Q => rMin K [v] H Q) oMinL := fun F H x d rv Q le tp hx g q => by
  unfold oMinL at g
  split at g
  · split at g
    · rename_i n ns e
      cases g
      obtain ⟨a, vs, rfl, ha, qa⟩ := hx.lst_
      refine ⟨a, n :: ns, rfl, SqL.of (by rw [← qa.ints e]; exact ha), Nat.succ_pos _, fun m hm hy => ?_⟩
      rw [leastI_is n ns m hm hy]
      exact q _ _ _ (.old (.int _))
    · cases g
  · cases g
theorem od_maxL {K : PySem.W.Frag} : OpD1 G (fun v H Q => rMax K [v] H Q) oMaxL := fun F H x d rv Q le tp hx g q => by
  unfold oMaxL at g
  split at g
  · split at g
    · rename_i n ns e
      cases g
      obtain ⟨a, vs, rfl, ha, qa⟩ := hx.lst_
      refine ⟨a, n :: ns, rfl, SqL.of (by rw [← qa.ints e]; exact ha), Nat.succ_pos _, fun m hm hy => ?_⟩
      rw [mostI_is n ns m hm hy]
      exact q _ _ _ (.old (.int _))
    · cases g
  · cases g
/-! ### list, tuple -/
def rListA (K : PySem.W.Frag) : List V → Hp → VK → Prop := fun xs H Q => (∃ p ys, xs = [V.ref p] ∧ (SqL K H p ys ∨ SqT K H p ys) ∧ ∀ l, H l = none → Q (.ref l) (upd H l (.lst ys))) ∨ rListD xs H Q ∨ (∃ d kvs, xs = [V.ref d] ∧ Rd H d (.dT kvs) ∧ ∀ p bs, H p = none → IsKeys H kvs bs → Q (.ref p) (upd H p (.lst (bs.map V.ref))))
theorem cr_listA (hc : X.calm = true) : CallR X (.type "list") (rListA X.K) := call_list_of.or ((call_list_dK hc).or (call_list_dT hc))
theorem DqK.keys {F : Hp} {ks : List (Key × V)} {kvs : List (D × D)} (h : DqK G F ks kvs) : DqA G F (ks.map fun kv => kV kv.1) (kvs.map (·.1)) := by
  induction ks generalizing kvs with
  | nil => cases h; exact .nil
  | cons k ks ih =>
    cases h with
    | @cons k v _ d ds h t =>
      refine .cons ?_ (ih t)
      cases k with
      | inl i => exact .int i
      | inr i => exact .str i
theorem keysA {F : Hp} : ∀ ks : List Key, DqA G F (ks.map kV) (ks.map keyD)
  | [] => .nil
  | .inl i :: ks => .cons (.int i) (keysA ks)
  | .inr i :: ks => .cons (.str i) (keysA ks)
theorem DqT.keys {F H : Hp} {ks : List (List Key × V)} {kvs : List (D × D)} {bs : List Addr} (tp : Tps F H) (h : DqT G F ks kvs) (k : IsKeys H ks bs) : DqA G F (bs.map V.ref) (kvs.map (·.1)) := by
  induction ks generalizing kvs bs with
  | nil => cases h; cases k; exact .nil
  | cons p ks ih =>
    cases h with
    | @cons q v _ d ds h t =>
      cases k with
      | cons e k => exact .cons (.ref (tp _ _ e) (.tup (keysA q))) (ih t k)
theorem od_list {K : PySem.W.Frag} (hK : K = G.K) : OpD1 G (fun v H Q => rListA K [v] H Q) oList := fun F H x d rv Q le tp hx g q => by
  unfold oList at g
  split at g
  · cases g
    obtain ⟨a, vs, rfl, ha, qa⟩ := hx.lst_
    exact .inl ⟨a, vs, rfl, .inl (SqL.of ha), fun p hp => q _ _ _ (.tmp hp (.lst qa) mut_lst)⟩
  · cases g
    obtain ⟨a, vs, rfl, ha, qa⟩ := hx.tup_
    exact .inl ⟨a, vs, rfl, .inr (SqT.of ha), fun p hp => q _ _ _ (.tmp hp (.lst qa) mut_lst)⟩
  · cases g
    obtain ⟨a, ob, vs, rfl, ha, qa⟩ := hx.scr_
    exact .inl ⟨a, vs, rfl, .inl (.inl (.inr ⟨ob, ha⟩)), fun p hp => q _ _ _ (.tmp hp (.lst qa) mut_lst)⟩
  · cases g
    obtain ⟨a, vs, rfl, ha, qa⟩ := hx.set_
    exact .inl ⟨a, vs, rfl, .inl (.inr (hK ▸ ha)), fun p hp => q _ _ _ (.tmp hp (.lst qa) mut_lst)⟩
  · rename_i t kvs
    cases g
    cases t with
    | false =>
      obtain ⟨a, ks, rfl, ha, qa⟩ := hx.dicK_
      exact .inr (.inl ⟨a, ks, rfl, ha, fun p hp => q _ _ _ (.tmp hp (.lst qa.keys) mut_lst)⟩)
    | true =>
      obtain ⟨a, ks, rfl, ha, qa⟩ := hx.dicT_
      exact .inr (.inr ⟨a, ks, rfl, .inl ha, fun p bs hp hb => q _ _ _ (.tmp hp (.lst (qa.keys tp hb)) mut_lst)⟩)
  · cases g
theorem od_tuple {K : PySem.W.Frag} : OpD1 G (fun v H Q => ∃ p ys, [v] = [V.ref p] ∧ ((SqL K H p ys ∧ ∀ l, H l = none → Q (.ref l) (upd H l (.tup ys))) ∨ (SqT K H p ys ∧ Q (.ref p) H))) oTuple := fun F H x d rv Q le tp hx g q => by
  unfold oTuple at g
  split at g
  · cases g
    obtain ⟨a, vs, rfl, ha, qa⟩ := hx.lst_
    exact ⟨a, vs, rfl, .inl ⟨SqL.of ha, fun p hp => q _ _ _ (.new hp (.tup qa))⟩⟩
  · cases g
    obtain ⟨a, vs, rfl, ha, qa⟩ := hx.tup_
    exact ⟨a, vs, rfl, .inr ⟨SqT.of ha, q _ _ _ (.old (.ref (tp _ _ ha) (.tup qa)))⟩⟩
  · cases g
/-! ### any, all, sum -/
theorem od_any {K : PySem.W.Frag} : OpD1 G (fun v H Q => rAny K [v] H Q) oAny := fun F H x d rv Q le tp hx g q => by
  unfold oAny at g
  split at g
  · rename_i xs
    cases e : bools? xs with
    | none => rw [e] at g; cases g
    | some bs =>
      rw [e] at g
      cases g
      obtain ⟨a, vs, rfl, ha, qa⟩ := hx.lst_
      exact ⟨a, bs, rfl, SqL.of (by rw [← qa.bools e]; exact ha), q _ _ _ (.old (.bl _))⟩
  · cases g
theorem od_all {K : PySem.W.Frag} : OpD1 G (fun v H Q => rAll K [v] H Q) oAll := fun F H x d rv Q le tp hx g q => by
  unfold oAll at g
  split at g
  · rename_i xs
    cases e : bools? xs with
    | none => rw [e] at g; cases g
    | some bs =>
      rw [e] at g
      cases g
      obtain ⟨a, vs, rfl, ha, qa⟩ := hx.lst_
      exact ⟨a, bs, rfl, SqL.of (by rw [← qa.bools e]; exact ha), q _ _ _ (.old (.bl _))⟩
  · cases g
theorem od_sum {K : PySem.W.Frag} : OpD1 G (fun v H Q => rSum K [v] H Q) oSum := fun F H x d rv Q le tp hx g q => by
  unfold oSum at g
  split at g
  · rename_i xs
    cases e : ints? xs with
    | none => rw [e] at g; cases g
    | some bs =>
      rw [e] at g
      cases g
      obtain ⟨a, vs, rfl, ha, qa⟩ := hx.lst_
      exact ⟨a, bs, rfl, SqL.of (by rw [← qa.ints e]; exact ha), q _ _ _ (.old (.int _))⟩
  · cases g
/-! ### isinstance -/
/-- what isinstance wants of an own class -/
structure ClsOk (K : PySem.W.Frag) (C : Addr) : Prop where
  cl : Cls K C
  ha : PySem.W.findIn K (.ref C) "__class__" = some (some (.builtin "object.__class__"))
  hn : PySem.W.specialIn K (.builtin "object.__class__") "__get__" = some (some (.builtin "getset_descriptor.__get__"))
  htk : PySem.W.takesIn K (.builtin "object.__class__") = some true
  hm : PySem.W.mroIn K C (.type "object") = some true
theorem tyx_of {K : PySem.W.Frag} {F H : Hp} {x : V} {d : D} {t : Ty} (hx : Vw G F H x d) (h : tyOf d = some t) : TyX K H x (.type t.nm) := by
  cases d with
  | non => cases h; rw [hx.non_]; exact .base .non
  | bl b => cases h; rw [hx.bl_]; exact .base (.bl b)
  | int i => cases h; rw [hx.int_]; exact .base (.int i)
  | str i => cases h; rw [hx.str_]; exact .base (.str i)
  | tup ds => cases h; obtain ⟨a, vs, rfl, ha, _⟩ := hx.tup_; exact .base (.tup ha)
  | lst ds => cases h; obtain ⟨a, vs, rfl, ha, _⟩ := hx.lst_; exact .base (.lst ha)
  | scr ds => cases h; obtain ⟨a, ob, vs, rfl, ha, _⟩ := hx.scr_; exact .base (.frz ha)
  | dic b ds =>
    cases h
    cases b with
    | false => obtain ⟨a, vs, rfl, ha, _⟩ := hx.dicK_; exact .base (.dK ha)
    | true => obtain ⟨a, vs, rfl, ha, _⟩ := hx.dicT_; exact .base (.dT ha)
  | set _ => cases h
  | ins _ _ => cases h
  | fdc _ _ => cases h
  | dcn _ => cases h
  | opq => cases h
  | ptup ds => cases h; obtain ⟨a, o, vs, rfl, ha, _⟩ := hx.ptup_; exact .fTuple ha
theorem od_isi {K : PySem.W.Frag} {c : V} {u : Value} {f : Ty → Bool} {g : Nat → Option Bool} (hc : ClsV c u) (hf : ∀ t : Ty, PySem.W.kitOne K (.type t.nm) u = some (f t)) (hg : ∀ n b, g n = some b → ClsOk K (G.ct n) ∧ PySem.W.kitOne K (.ref (G.ct n)) u = some b) :
    OpD1 G (fun v H Q => rIsi K [v, c] H Q) (oIsI f g) := fun F H x d rv Q le tp hx h q => by
  unfold oIsI at h
  split at h
  · rename_i n ds
    cases e : g n with
    | none => rw [e] at h; cases h
    | some b =>
      rw [e] at h
      cases h
      obtain ⟨ok, k⟩ := hg n b e
      obtain ⟨a, dx, fs, rfl, ha, qa⟩ := hx.ins_
      exact ⟨_, c, _, u, b, rfl, hc, .base (.ins ha ok.cl ok.ha ok.hn ok.htk ok.hm), k, q _ _ _ (.old (.bl b))⟩
  · cases e : tyOf d with
    | none => rw [e] at h; cases h
    | some t =>
      rw [e] at h
      cases h
      exact ⟨x, c, _, u, f t, rfl, hc, tyx_of hx e, hf t, q _ _ _ (.old (.bl _))⟩
/-- isinstance(e, C), C by a name -/
theorem de_isi {c : V} {u : Value} {f : Ty → Bool} {g : Nat → Option Bool} (hk : PE X e' (tC c)) (hc : ClsV c u) (hf : ∀ t : Ty, PySem.W.kitOne X.K (.type t.nm) u = some (f t)) (hq : ∀ n b, g n = some b → ClsOk X.K (G.ct n) ∧ PySem.W.kitOne X.K (.ref (G.ct n)) u = some b)
    (hg : Gl X "isinstance") (hm : X.mg "isinstance" = none) (hv : bootBuiltins "isinstance" = some (.builtin "isinstance")) (ha : PE X e (tOf G E fa))
    (he : starEach [e, e'] X.env = (false, eval e X.env) :: starEach [e'] X.env := by rfl) (he' : starEach [e'] X.env = (false, eval e' X.env) :: starEach [] X.env := by rfl) (hpl : (backTo pos (starEach [e'] X.env)).any (·.1) = false := by rfl) : PE X (.Call (.Name "isinstance" p) [e, e'] [] pos) (tOf G E (eOp1 (oIsI f g) fa)) :=
  PE_mono (pe_callB call_isi hg hm hv (pa_cons ha (pa_cons hk pa_nil he') he) (by decide) (by decide) he hpl) (op1_rd (od_isi hc hf hq))
def fInt : Ty → Bool
  | .int => true
  | .bl => true
  | _ => false
def fBl : Ty → Bool
  | .bl => true
  | _ => false
def fTup : Ty → Bool
  | .tup => true
  | _ => false
def fLst : Ty → Bool
  | .lst => true
  | _ => false
def fStr : Ty → Bool
  | .str => true
  | _ => false
def fDic : Ty → Bool
  | .dic => true
  | _ => false
def fNo : Ty → Bool := fun _ => false
theorem kf_int {K : PySem.W.Frag} (t : Ty) : PySem.W.kitOne K (.type t.nm) (.type "int") = some (fInt t) := by cases t <;> exact kit_ty (by decide +kernel)
theorem kf_bl {K : PySem.W.Frag} (t : Ty) : PySem.W.kitOne K (.type t.nm) (.type "bool") = some (fBl t) := by cases t <;> exact kit_ty (by decide +kernel)
theorem kf_tup {K : PySem.W.Frag} (t : Ty) : PySem.W.kitOne K (.type t.nm) (.type "tuple") = some (fTup t) := by cases t <;> exact kit_ty (by decide +kernel)
end
end DL

end

section
set_option Elab.async false
set_option linter.all false
set_option maxRecDepth 100000
set_option maxHeartbeats 1000000
/-! Sorting values of one kind, tuples without an item among them. -/
namespace DL
open PySem L2 PyProof.Rows PySem.W PySem.SeqAt PySem.Calls
section
variable {prog : Program} {w : World} {A : Around} {E : Value → Shared → Prop} {s : Shared}
/-- the call of a tuple's own __lt__ -/
theorem call_tupLt {Q : Value → Shared → Prop} {l b : Addr} {its its2 : Array Value} {e r : Nat → Bool} (hl : s.heap.IsTuple l its) (hb : s.heap.IsTuple b its2)
    (he : ∀ j (h1 : j < its.size) (h2 : j < its2.size), EqAt A.in1 s its[j] its2[j] (e j)) (hr : ∀ j (h1 : j < its.size) (h2 : j < its2.size), e j = false → RcLt A.in1 s its[j] its2[j] (r j))
    (q : Q (.bool (firstLt e r (decide (its.size < its2.size)) (List.range (min its.size its2.size)))) s) : wpAny (model prog w) A (call (.builtin "tuple.__lt__") [.ref l, .ref b]) Q E s := by
  obtain ⟨⟨c1, d1, x1, s1⟩, o1, e1, n1, f1⟩ := id hl
  obtain ⟨⟨c2, d2, x2, s2⟩, o2, e2, n2, f2⟩ := id hb
  simp only at e1 f1 e2 f2
  subst e1 f1 e2 f2
  exact call_meets F.slot_tuple_lt ⟨_, o1, rfl⟩ F.entry_tuple_lt (F.args_tuple_lt_2 _ _) (tuple_ltAt l b its its2 n1 n2 d1 d2 s1 s2 e r) ⟨o1, o2, he, hr, q⟩
/-- one tuple's key against another's, both of one type -/
theorem one_tup {xs ys : List PyData} {a b : Value} {as bs : List Addr} {Q : Bool → Shared → Prop} (ra : Reads s.heap a (.tuple xs) as) (rb : Reads s.heap b (.tuple ys) bs) (h : alike (.tuple xs) (.tuple ys) = true)
    (hu : A.units + min (PyData.tuple xs).depth (PyData.tuple ys).depth < cLine) (hq : Q (dataLt (.tuple xs) (.tuple ys)) s) : wpAny (model prog w) A (oneLt' true a b) Q E s := by
  have hal : alikeAll xs ys = true := by simpa [alike] using h
  cases ra with
  | @tuple l o vs n _ as1 h1 h2 h3 h4 =>
    cases rb with
    | @tuple l' o' ws n' _ bs1 k1 k2 k3 k4 =>
      have z1 : vs.size = xs.length := by simpa using SeqAt.ReadsAll.length _ _ _ h4
      have z2 : ws.size = ys.length := by simpa using SeqAt.ReadsAll.length _ _ _ k4
      rw [dataLt_tuple, ← firstLt_toks xs ys hal, ← z1, ← z2] at hq
      rw [oneLt'_eq]
      simp only [if_true]
      refine wpAny_bind (wpAny_cRoomFor (room_here hu) ?_)
      refine wpAny_bind (wpAny_callSpecialIfBound?_slot (T := "tuple") ⟨_, h1, h2⟩ F.slot_tuple_lt (call_tupLt (e := pairEq xs ys) (r := fun j => dataLt (xs.getD j .none) (ys.getD j .none)) ⟨_, h1, h2, _, h3⟩ ⟨_, k1, k2, _, k3⟩ (fun j j1 j2 => ?_) (fun j j1 j2 hj => ?_) ?_))
      · have z := eqAt_alikeAll xs ys A.in1 s vs.toList ws.toList _ _ h4 k4 hal (room_in hu) j (by simpa using j1) (by simpa using j2)
        simpa using z
      · have z := rcLt_alikeAll xs ys A.in1 s vs.toList ws.toList _ _ h4 k4 hal (room_in hu) j (by simpa using j1) (by simpa using j2) hj
        simpa using z
      · exact wpAny_truthy_bool hq
/-- what the first look tells of tuples -/
theorem firsts_tup {M : Model} : ∀ {vs : List Value} {ds : List PyData}, EachIs (fun v d => ∃ as, Reads s.heap v d as) vs ds → (∀ d ∈ ds, ∃ xs, d = .tuple xs) → ∃ fs : List (Option Value), fs.length = vs.length ∧ (∀ (i : Nat) x r, ds[i]? = some (.tuple (x :: r)) → ∃ f, fs[i]? = some (some f)) ∧ (∀ i : Nat, ds[i]? = some (.tuple []) → fs[i]? = some none) ∧
    ∀ Q : List (Option Value) → Shared → Prop, Q fs s → wpAny M A (vs.mapM firstOfTuple') Q E s
  | _, _, .nil, _ => ⟨[], rfl, fun i x r e => by simp at e, fun i e => by simp at e, fun Q q => by rw [List.mapM_nil]; exact wpAny_pure q⟩
  | v :: vs, d :: ds, .cons ⟨as, r⟩ t, h => by
    obtain ⟨fs, l, h1, h2, run⟩ := firsts_tup (M := M) t fun d hd => h d (List.mem_cons_of_mem _ hd)
    obtain ⟨xs, rfl⟩ := h d List.mem_cons_self
    cases r with
    | @tuple a o its n _ _ ho hc hd hr =>
      have step : ∀ Q : Option Value → Shared → Prop, Q its[0]? s → wpAny M A (firstOfTuple' (.ref a)) Q E s := fun Q q => by
        rw [kas_first_eq]
        refine wpAny_bind (Looks.here (show Looks M s.heap (typeOf (.ref a)) o.cls from (Looks.ld ho).andThen .now) ?_)
        rw [hc, if_neg (by first | decide | simp)]
        exact wpAny_bind (listItems_at ho hd (wpAny_pure q))
      refine ⟨its[0]? :: fs, by rw [List.length_cons, List.length_cons, l], fun i x r e => ?_, fun i e => ?_, fun Q q => ?_⟩
      · cases i with
        | zero =>
          have e : xs = x :: r := by simpa using e
          subst e
          cases z : its.toList with
          | nil => rw [z] at hr; cases hr
          | cons f fr =>
            have e0 : its[0]? = some f := by rw [← Array.getElem?_toList, z]; rfl
            exact ⟨f, by rw [e0]; rfl⟩
        | succ i => simpa using h1 i x r (by simpa using e)
      · cases i with
        | zero =>
          have e : xs = [] := by simpa using e
          subst e
          cases z : its.toList with
          | nil =>
            have e0 : its[0]? = none := by rw [← Array.getElem?_toList, z]; rfl
            rw [e0]; rfl
          | cons f fr => rw [z] at hr; cases hr
        | succ i => simpa using h2 i (by simpa using e)
      · rw [List.mapM_cons]
        exact wpAny_bind (step _ (wpAny_bind (run (fun bs s' => wpAny M A (pure (its[0]? :: bs)) Q E s') (wpAny_pure q))))
/-- alike tuples can be sorted -/
theorem sortsTup {vs : List Value} {ds : List PyData} (e : EachIs (fun v d => ∃ as, Reads s.heap v d as) vs ds) (hal : AllAlike ds) (ht : ∀ d ∈ ds, ∃ xs, d = .tuple xs) (hu : ∀ d, d ∈ ds → A.units + d.depth < cLine) : SortsAt prog w A s (dataKind s.heap ds) vs := by
  by_cases hne : ∀ d ∈ ds, ∃ x r, d = .tuple (x :: r)
  · exact SortsAt.data e hal (.inl hne) hu
  have room : ∀ {d d' : PyData}, d ∈ ds → A.units + min d.depth d'.depth < cLine := fun {d d'} hd => Nat.lt_of_le_of_lt (Nat.add_le_add_left (Nat.min_le_left _ _) _) (hu d hd)
  obtain ⟨i0, h0, z0⟩ : ∃ i : Nat, ∃ h : i < ds.length, ds[i] = .tuple [] := by
    refine Classical.byContradiction fun c => hne fun d hd => ?_
    obtain ⟨i, hi, e⟩ := List.mem_iff_getElem.mp hd
    obtain ⟨xs, rfl⟩ := ht d hd
    cases xs with
    | nil => exact (c ⟨i, hi, e⟩).elim
    | cons x r => exact ⟨x, r, rfl⟩
  refine ⟨fun v hv => ?_, ?_⟩
  · obtain ⟨d, hd, as, r⟩ := e.left v hv
    exact ⟨_, dataKind_some hal hd r⟩
  have lt1 : H.LtAt prog w A s (dataKind s.heap ds) general' := by
    intro E x y a b Q ha hb hq
    obtain ⟨d, as, hd, ra, rfl⟩ := dataKind_inv ha
    obtain ⟨d', as', hd', rb, rfl⟩ := dataKind_inv hb
    obtain ⟨xs, rfl⟩ := ht d hd
    show wpAny (model prog w) A (oneLt' false x y) Q E s
    exact oneLt_alike (fun z => nomatch z) ra rb (hal _ hd _ hd') (fun z => nomatch z) (room hd) hq
  have lt2 : H.LtAt prog w A s (dataKind s.heap ds) oneType' := by
    intro E x y a b Q ha hb hq
    obtain ⟨d, as, hd, ra, rfl⟩ := dataKind_inv ha
    obtain ⟨d', as', hd', rb, rfl⟩ := dataKind_inv hb
    obtain ⟨xs, rfl⟩ := ht d hd
    obtain ⟨ys, rfl⟩ := ht d' hd'
    rw [keyLt'_oneType]
    exact one_tup ra rb (hal _ hd _ hd') (room hd) hq
  have hl : vs.length = ds.length := e.length
  by_cases hn : ∃ x r, ds[0]? = some (.tuple (x :: r))
  · refine ⟨general', lt1, fun h2 E Q hq => ?_⟩
    obtain ⟨fs, l, h1, h3, run⟩ := firsts_tup (M := model prog w) (A := A) (E := E) e ht
    rw [keyKind'_eq, List.mapM_toArray, map_eq_pure_bind]
    refine wpAny_bind (wpAny_bind (run _ (wpAny_pure ?_)))
    have n0 : fs[i0]? = some none := h3 i0 (by rw [List.getElem?_eq_getElem h0, z0])
    have na : ¬ (fs.toArray.all fun x => x.isSome) = true := fun c => by
      rw [List.all_toArray] at c
      have := List.all_eq_true.mp c none (List.mem_of_getElem? n0)
      cases this
    rw [if_neg na]
    obtain ⟨x, r, hn⟩ := hn
    obtain ⟨f, hf⟩ := h1 0 x r hn
    have e0 : fs.toArray[0]? = some (some f) := by simpa using hf
    rw [e0]
    exact wpAny_pure hq
  · refine ⟨oneType', lt2, fun h2 E Q hq => ?_⟩
    obtain ⟨fs, l, h1, h3, run⟩ := firsts_tup (M := model prog w) (A := A) (E := E) e ht
    rw [keyKind'_eq, List.mapM_toArray, map_eq_pure_bind]
    refine wpAny_bind (wpAny_bind (run _ (wpAny_pure ?_)))
    have d0 : ds[0]? = some (.tuple []) := by
      cases c : ds[0]? with
      | none => rw [List.getElem?_eq_none_iff] at c; omega
      | some d =>
        obtain ⟨xs, rfl⟩ := ht d (List.mem_of_getElem? c)
        cases xs with
        | nil => rfl
        | cons x r => exact (hn ⟨x, r, c⟩).elim
    have n0 : fs[0]? = some none := h3 0 d0
    have na : ¬ (fs.toArray.all fun x => x.isSome) = true := fun c => by
      rw [List.all_toArray] at c
      have := List.all_eq_true.mp c none (List.mem_of_getElem? n0)
      cases this
    rw [if_neg na]
    have e0 : fs.toArray[0]? = some none := by simpa using n0
    rw [e0, if_neg (by simp)]
    rw [oneTypeOnly'_eq, List.mapM_toArray, map_eq_pure_bind]
    refine wpAny_bind (wpAny_bind (wpAny_bind (kas_mapM (r := Value.type "tuple") vs (fun v hv Q' hq' => ?_) (wpAny_pure ?_))))
    · obtain ⟨d, hd, as, r⟩ := e.left v hv
      obtain ⟨xs, rfl⟩ := ht d hd
      exact Looks.here (looks_reads r) hq'
    · have ne : 0 < vs.length := by omega
      have a1 : ((List.map (fun _ => Value.type "tuple") vs).toArray.all fun x => x == Value.type "tuple") = true := by
        rw [List.all_toArray, List.all_map]
        exact List.all_eq_true.mpr fun _ _ => by simp
      have a2 : (List.map (fun _ => Value.type "tuple") vs).toArray[0]? = some (Value.type "tuple") := by
        cases vs with
        | nil => exact absurd ne (by decide)
        | cons v vs => simp
      rw [a2]
      simp only [a1, if_true]
      exact wpAny_pure (wpAny_pure hq)
/-! ### sorted of a tuple -/
theorem collect_tup {l : Addr} {vs : List Value} {Q : List Value → Shared → Prop} (hl : s.heap.IsTuple l vs.toArray)
    (h : Q vs { s with heap := (s.heap.push (seqObj "list" #[] 0)).update s.heap.objs.size (Obj.mapSeq (· ++ vs.toArray)) }) (hsz : vs.length ≤ sizeLine) :
    wpAny (model prog w) A (collect (.ref l)) Q E s := by
  obtain ⟨o, ho, hc, n, hd⟩ := id hl
  have ho2 : (s.heap.push (seqObj "list" #[] 0)).get? l = some o := Heap.get?_push_of_some _ ho
  unfold collect
  refine wpAny_bind (wpAny_runValue (codeAny_builtin entry_proto_collect' ?_))
  show wpAny _ _ (do again (.builtin "list.__iadd__" ⟨[← newList [], .ref l], []⟩)) _ _ s
  refine wpAny_bind (wpAny_newList (wpAny_pure ⟨Code.quiet_builtin _ (by decide +kernel), codeAny_builtin entry_list_iadd' ?_⟩))
  show wpAny _ _ (Builtin.List.listExtendWith (.ref s.heap.objs.size) (.ref l) (.ref s.heap.objs.size)) _ _ { s with heap := s.heap.push (seqObj "list" #[] 0) }
  unfold Builtin.List.listExtendWith
  refine wpAny_bind (wpAny_typeOf (T := "tuple") ⟨o, ho2, hc⟩ ?_)
  have tt : (Value.type "tuple" == Value.type "tuple") = true := by rfl
  rw [if_pos (by rw [tt]; simp)]
  refine wpAny_bind (listItems_at ho2 hd ?_)
  refine wpAny_bind (listItems_at (xs := #[]) (n := 0) (Heap.get?_push_size _ rfl) rfl ?_)
  rw [if_neg (by simp)]
  refine wpAny_bind (listUpdate_at (xs := #[]) (n := 0) (Heap.get?_push_size _ rfl) rfl ?_ (Nat.zero_le _) (by show (#[] ++ vs.toArray).size ≤ sizeLine + 1; simp only [Array.size_append, List.size_toArray, List.length_nil]; omega))
  refine wpAny_pure ?_
  show wpAny (model prog w) A (do
      let o ← load s.heap.objs.size
      match o.data with
      | .seq xs _ => pure xs.toList
      | _ => unsupported "internal:collect") Q E { s with heap := (s.heap.push (seqObj "list" #[] 0)).update s.heap.objs.size (Obj.mapSeq (· ++ vs.toArray)) }
  refine wpAny_bind (wpAny_load (get?_update_seq (Heap.get?_push_size _ rfl) _) ?_)
  show wpAny _ _ (pure ((#[] : Array Value) ++ vs.toArray).toList) Q E _
  rw [show ((#[] : Array Value) ++ vs.toArray).toList = vs by simp]
  exact wpAny_pure h
theorem sort_of_tup {l : Addr} {vs : List Value} {Q : Value → Shared → Prop} (hl : s.heap.IsTuple l vs.toArray) (hL : vs.length ≤ sizeLine)
    (body : ∀ E' : Value → Shared → Prop, wpAny (model prog w) A.in1.in1 (Builtin.«list.sort» ⟨[.ref (s.heap.objs.size + 1)], []⟩) (fun f s' => f = .done (.ret .none) ∧ Q (.ref (s.heap.objs.size + 1)) s') E' { s with heap := copyHeap s.heap vs }) :
    wpAny (model prog w) A (call (.builtin "sorted") [.ref l]) Q E s := by
  refine call_function_entry_kw kind_sorted plain_sorted entry_sorted (args_sorted1 _) ?_
  unfold Builtin.«sorted»
  refine wpAny_bind (m := checkCount "sorted" 1 1 _) (wpAny_pure ?_)
  refine wpAny_bind (collect_tup hl ?_ hL)
  refine wpAny_bind (wpAny_newList ?_ hL)
  have hsz : ((s.heap.push (seqObj "list" #[] 0)).update s.heap.objs.size (Obj.mapSeq (· ++ vs.toArray))).objs.size = s.heap.objs.size + 1 := by
    rw [Heap.size_update, size_push']
  show wpAny _ _ _ _ _ { s with heap := copyHeap s.heap vs }
  rw [hsz]
  refine wpAny_bind (wpAny_holding (wpAny_call_entry_kw slot_list_sort ⟨_, copyHeap_at s.heap vs, rfl⟩ entry_list_sort ?body (args_list_sort _)))
  case body =>
    show wpAny (model prog w) A.in1.in1 (Builtin.«list.sort» ⟨[.ref (s.heap.objs.size + 1)], []⟩) _ _ _
    refine wpAny_mono (body _) (fun f s' hf => ?_) fun _ _ e => e
    obtain ⟨rfl, hq⟩ := hf
    exact ⟨_, rfl, wpAny_pure ⟨_, rfl, hq⟩⟩
theorem sort_vals2 {κ : KeyKind} {l : Addr} {vs : List Value} {Q : Value → Shared → Prop} (hl : s.heap.IsList l vs.toArray ∨ s.heap.IsTuple l vs.toArray) (S : SortsAt prog w A.in1.in1 { s with heap := sortingHeap (copyHeap s.heap vs) (s.heap.objs.size + 1) vs } κ vs) (hL : vs.length ≤ sizeLine)
    (h : Q (.ref (s.heap.objs.size + 1)) { s with heap := sortedAll s.heap vs (sortVals κ false vs vs).toArray }) : wpAny (model prog w) A (call (.builtin "sorted") [.ref l]) Q E s := by
  rcases hl with hl | hl
  · exact sorted_vals hl S hL h
  · exact sort_of_tup hl hL fun _ => list_sort_vals (s := { s with heap := copyHeap s.heap vs }) (copyHeap_at s.heap vs) S hL ⟨rfl, h⟩
end
/-- what can be sorted -/
structure SrtOk (ps : List PyData) : Prop where
  al : AllAlike ps
  kd : (∀ d ∈ ps, ∃ xs, d = .tuple xs) ∨ Sortable ps
  dp : ∀ d ∈ ps, d.depth ≤ 64
def rSortG (K : PySem.W.Frag) : List V → Hp → VK → Prop := fun vs H Q => ∃ (a : Addr) (zs : List (V × PyData)), vs = [V.ref a] ∧ (SqL K H a (zs.map (·.1)) ∨ SqT K H a (zs.map (·.1))) ∧ (∀ z ∈ zs, Dp K H z.1 z.2) ∧ SrtOk (zs.map (·.2)) ∧
  ∀ p, H p = none → Q (.ref p) (upd H p (.lst ((zs.mergeSort (dataLe false (·.2))).map (·.1))))
theorem each_rel : ∀ {us : List Value} {zs : List (V × PyData)}, Vals (zs.map (·.1)) us → EachIs (fun u z => RelV z.1 u) us zs
  | _, [], .nil => .nil
  | _, z :: zs, .cons r t => .cons r (each_rel t)
theorem rel_each : ∀ {us : List Value} {zs : List (V × PyData)}, EachIs (fun u z => RelV z.1 u) us zs → Vals (zs.map (·.1)) us
  | _, [], .nil => .nil
  | _, z :: zs, .cons r t => .cons r (rel_each t)
theorem each_in {α β : Type} {R : α → β → Prop} {S : α → β → Prop} : ∀ {as : List α} {bs : List β}, EachIs R as bs → (∀ a b, b ∈ bs → R a b → S a b) → EachIs S as bs
  | _, _, .nil, _ => .nil
  | _, _, .cons r t, h => .cons (h _ _ List.mem_cons_self r) (each_in t fun a b hb => h a b (List.mem_cons_of_mem _ hb))
theorem cr_sortG {X : Cx} (hu : X.A.units + 66 < cLine) : CallR X (.builtin "sorted") (rSortG X.K) := by
  intro pins s σ H vs us Q I r h
  obtain ⟨a, zs, rfl, hs, hk, ok, q⟩ := h
  obtain ⟨its, rv, hl, hz⟩ : ∃ its : List Value, Vals (zs.map (·.1)) its ∧ (s.heap.IsList a its.toArray ∨ s.heap.IsTuple a its.toArray) ∧ (zs.map (·.1)).length ≤ sizeLine := by
    rcases hs with hs | hs
    · obtain ⟨its, rv, hl, hz⟩ := I.list hs
      exact ⟨its, rv, .inl hl.isList, hz⟩
    · obtain ⟨its, rv, hl, hz⟩ := I.tuple hs
      exact ⟨its, rv, .inr hl, hz⟩
  rw [Vals.ref1 r]
  have e := each_rel rv
  have hlk : zs.length = its.length := by rw [← rv.length, List.length_map]
  have er : EachIs (fun v (b : V × PyData) => ∃ as, Reads s.heap v b.2 as) its zs := each_in e fun u z hz r => Dp.reads I _ _ _ (hk z hz) r
  have hm : ∀ d ∈ zs.map (·.2), X.A.units + 2 + d.depth < cLine := fun d hd => by
    have := ok.dp d hd
    omega
  let hh : Heap := sortingHeap (copyHeap s.heap its) (s.heap.objs.size + 1) its
  have er2 : EachIs (fun v d => ∃ as, Reads hh v d as) its (zs.map (·.2)) := each_map (·.2) (er.mono fun _ _ ⟨as, r⟩ => ⟨as, PyProof.Rows.Reads.keeps (fun _ _ => sorting_copy_old) r⟩)
  have srt : SortsAt X.prog X.w X.A.in1.in1 { s with heap := hh } (dataKind hh (zs.map (·.2))) its := by
    have hm' : ∀ d ∈ zs.map (·.2), X.A.in1.in1.units + d.depth < cLine := hm
    rcases ok.kd with z | z
    · exact sortsTup (s := { s with heap := hh }) er2 ok.al z hm'
    · exact SortsAt.data (s := { s with heap := hh }) er2 ok.al z hm'
  refine sort_vals2 hl srt (by rw [← rv.length]; exact hz) ?_
  have h2 : EachIs (fun u (z : V × PyData) => RelV z.1 u) (sortVals (dataKind hh (zs.map (·.2))) false its its) (zs.mergeSort (dataLe false (·.2))) :=
    sortVals_data false e (er.mono fun _ _ ⟨as, r⟩ => ⟨as, PyProof.Rows.Reads.keeps (fun _ _ => sorting_copy_old) r⟩) ok.al
  generalize sortVals (dataKind hh (zs.map (·.2))) false its its = out at h2
  obtain ⟨ep, he'⟩ := PyProof.Rows.sortedAll_at s.heap its out.toArray
  have hlen : ((zs.mergeSort (dataLe false (·.2))).map (·.1)).length ≤ sizeLine := by
    rw [List.length_map, List.length_mergeSort]
    rw [List.length_map] at hz
    exact hz
  exact ⟨.ref _, upd H (s.heap.objs.size + 1) (.lst ((zs.mergeSort (dataLe false (·.2))).map (·.1))), I.laid (t' := s.toks) (fun _ _ => PyProof.Rows.sortedAll_old) (Nat.le_succ _) ⟨hlen, out, ep, rel_each h2, he'⟩, rfl, q _ (I.hok.fresh (Nat.le_succ _))⟩
/-! ### by values -/
theorem toPds_map : ∀ {xs : List D} {ps : List PyData}, toPds xs = some ps → ps = xs.map pdOf ∧ ∀ d ∈ xs, toPd d = some (pdOf d)
  | [], ps, h => by
    cases h
    exact ⟨rfl, fun d hd => nomatch hd⟩
  | d :: xs, ps, h => by
    unfold toPds at h
    split at h
    · rename_i p ps' e1 e2
      cases h
      obtain ⟨h1, h2⟩ := toPds_map e2
      have e3 : pdOf d = p := by unfold pdOf; rw [e1]; rfl
      refine ⟨by rw [List.map_cons, ← h1, e3], fun x hx => ?_⟩
      rcases List.mem_cons.mp hx with rfl | hx
      · rw [e1, e3]
      · exact h2 x hx
    · cases h
theorem toPds_of : ∀ {xs : List D}, (∀ d ∈ xs, ∃ p, toPd d = some p) → toPds xs = some (xs.map pdOf)
  | [], _ => rfl
  | d :: xs, h => by
    obtain ⟨p, e⟩ := h d List.mem_cons_self
    have e3 : pdOf d = p := by unfold pdOf; rw [e]; rfl
    unfold toPds
    rw [e, toPds_of fun d hd => h d (List.mem_cons_of_mem _ hd), List.map_cons, e3]
theorem srtOk_of {ps : List PyData} (h : likeAll ps = true ∧ (ps.all isTup = true ∨ ps.all noTup = true) ∧ (ps.all fun p => decide (p.depth ≤ 60)) = true) : SrtOk ps := by
  obtain ⟨h1, h2, h3⟩ := h
  refine ⟨fun d hd d' hd' => List.all_eq_true.mp (List.all_eq_true.mp h1 d hd) d' hd', ?_, fun d hd => Nat.le_trans (of_decide_eq_true (List.all_eq_true.mp h3 d hd)) (by decide)⟩
  rcases h2 with h2 | h2
  · refine .inl fun d hd => ?_
    have := List.all_eq_true.mp h2 d hd
    cases d <;> first | exact ⟨_, rfl⟩ | cases this
  · refine .inr (.inr fun d hd => ?_)
    have := List.all_eq_true.mp h2 d hd
    cases d with
    | none => simp [noTup] at this
    | tuple xs => simp [noTup] at this
    | _ => exact ⟨(fun z => nomatch z), fun _ z => nomatch z⟩
theorem dqa_zip {G : Gm} {F : Hp} : ∀ {vs : List V} {ds : List D}, DqA G F vs ds → ∃ ts : List (V × D), vs = ts.map (·.1) ∧ ds = ts.map (·.2) ∧ ∀ t ∈ ts, Dq G F t.1 t.2
  | _, [], h => by cases h; exact ⟨[], rfl, rfl, fun t ht => nomatch ht⟩
  | _, d :: ds, h => by
    cases h with
    | @cons v vs _ _ h t =>
      obtain ⟨ts, rfl, rfl, hk⟩ := dqa_zip t
      refine ⟨(v, d) :: ts, rfl, rfl, fun p hp => ?_⟩
      rcases List.mem_cons.mp hp with z | z
      · subst z; exact h
      · exact hk p z
theorem zip_dqa {G : Gm} {F : Hp} : ∀ {ts : List (V × D)}, (∀ t ∈ ts, Dq G F t.1 t.2) → DqA G F (ts.map (·.1)) (ts.map (·.2))
  | [], _ => .nil
  | t :: ts, h => .cons (h t List.mem_cons_self) (zip_dqa fun t ht => h t (List.mem_cons_of_mem _ ht))
/-- the general rule on a list of values -/
theorem sortG_ok {G : Gm} {F H : Hp} {K : PySem.W.Frag} (hK : K = G.K) {a : Addr} {vs : List V} {xs : List D} {Q : VK} (le : Le F H) (ha : SqL K H a vs ∨ SqT K H a vs) (qa : DqA G F vs xs) (hp : ∀ d ∈ xs, toPd d = some (pdOf d)) (ok : SrtOk (xs.map pdOf))
    (q : ∀ p ws, H p = none → DqA G F ws (xs.mergeSort dLe) → Q (.ref p) (upd H p (.lst ws))) : rSortG K [.ref a] H Q := by
  subst hK
  obtain ⟨ts, rfl, rfl, hk⟩ := dqa_zip qa
  have e1 : (ts.map fun t => (t.1, pdOf t.2)).map (·.1) = ts.map (·.1) := by rw [List.map_map]; rfl
  have e2 : (ts.map fun t => (t.1, pdOf t.2)).map (·.2) = (ts.map (·.2)).map pdOf := by rw [List.map_map, List.map_map]; rfl
  refine ⟨a, ts.map fun t => (t.1, pdOf t.2), rfl, by rw [e1]; exact ha, fun z hz => ?_, by rw [e2]; exact ok, fun p hn => ?_⟩
  · obtain ⟨t, ht, rfl⟩ := List.mem_map.mp hz
    exact Dq.dp le (hk t ht) (hp t.2 (List.mem_map.mpr ⟨t, ht, rfl⟩))
  · have m1 : (ts.map fun t => (t.1, pdOf t.2)).mergeSort (dataLe false (·.2)) = (ts.mergeSort (dataLe false fun t => pdOf t.2)).map fun t => (t.1, pdOf t.2) := (List.map_mergeSort (r := dataLe false fun t : V × D => pdOf t.2) (s := dataLe false fun z : V × PyData => z.2) (f := fun t : V × D => (t.1, pdOf t.2)) (l := ts) (fun _ _ _ _ => rfl)).symm
    have m2 : (ts.map (·.2)).mergeSort dLe = (ts.mergeSort (dataLe false fun t => pdOf t.2)).map (·.2) := (List.map_mergeSort (r := dataLe false fun t : V × D => pdOf t.2) (s := dLe) (f := fun t : V × D => t.2) (l := ts) (fun _ _ _ _ => rfl)).symm
    rw [m1, List.map_map]
    refine q p _ hn ?_
    rw [m2]
    exact zip_dqa fun t ht => hk t ((List.mergeSort_perm ts _).mem_iff.mp ht)
end DL

end

section
set_option Elab.async false
set_option linter.all false
set_option maxRecDepth 100000
set_option maxHeartbeats 3200000
/-! set(xs) of rows of whole numbers, xs a list or a tuple of any length with fewer than 63 different rows; sorted. -/
namespace DL
open PySem L2 PyProof.Rows
open Sem (wp)
/-- fewer than 63 different rows -/
def FewR (ks : List (Addr × List Int)) : Prop := ∀ L : List (List Int), L.Nodup → (∀ k ∈ L, k ∈ ks.map (·.2)) → L.length < 63
section
variable {P : Program} {w : World} {A : Around} {E : Value → Shared → Prop} {s : Shared}
/-- set.update's turns -/
theorem upd_rows {I : Addr} {fp wr : List Addr} {G : Array GenState → Array GenState → Prop} {Pv : Nat → Value → Prop} {St : Nat → Shared → Prop} {R : Result → Shared → Prop} {S : Addr} (ks : List (Addr × List Int))
    (W : WalksS P w A.in1 I fp wr G ks.length Pv St) (hSf : S ∉ fp) (few : FewR ks) (hval : ∀ i v, Pv i v → ∃ p, ks[i]? = some p ∧ v = .ref p.1)
    {h0 : Heap} (hk : ∀ p ∈ ks, IsT P w h0 p.2 p.1) (hS0 : h0.get? S = none) (hw0 : ∀ b ∈ wr, h0.get? b = none) (hu : A.in1.units < cLine) :
    ∀ (k i : Nat) (s : Shared) (L : List (Addr × List Int)) (es : Array (Int × Value)) (ep : Nat) (t : SetTable), i + k = ks.length → St i s → (∀ b o, h0.get? b = some o → s.heap.get? b = some o) → SetTR P w s.heap S L es ep t → Got ks i L →
      (∀ s' L es ep t, Moved (S :: wr) G s s' → SetTR P w s'.heap S L es ep t → Got ks ks.length L → (∀ b o, h0.get? b = some o → s'.heap.get? b = some o) → R (.ok (.ret .none)) s') →
      codeAny (model P w) A (.builtin "set.update.loop" ⟨[.ref S, .ref I], []⟩) R s := by
  have up : ∀ {s s' : Shared}, Moved wr G s s' → (∀ b o, h0.get? b = some o → s.heap.get? b = some o) → ∀ b o, h0.get? b = some o → s'.heap.get? b = some o := fun m q b o e =>
    m.heap b o (fun hb => nomatch (hw0 b hb).symm.trans e) (q b o e)
  have nSw : S ∉ wr := fun h => hSf (W.sub _ h)
  have inS : ∀ b ∈ wr, b ∈ S :: wr := fun b hb => List.mem_cons_of_mem _ hb
  have old : ∀ {i : Nat} {L : List (Addr × List Int)}, Got ks i L → ∀ p ∈ L, p ∈ ks := fun g p hp => List.mem_of_mem_take (g.sub p hp)
  intro k
  induction k with
  | zero =>
    intro i s L es ep t hi st q0 T g done
    refine codeAny_builtin F.entry_set_update_loop ?_
    rw [Around.under_plainId F.plain_set_update_loop _]
    show wpAny _ A.in1 (pyNext (.ref I) >>= _) _ _ s
    have ei : i = ks.length := hi
    subst ei
    refine wpAny_bind (W.done s _ _ st fun s' m => ?_)
    show wpAny _ A.in1 (ret Value.none) _ _ s'
    exact wpAny_pure (done s' L es ep t (m.mono inS) (T.keep (fun o e => m.heap S o nSw e) fun p hp => isT_keep (hk p (old g p hp)) (up m q0)) g (up m q0))
  | succ k ih =>
    intro i s L es ep t hi st q0 T g done
    refine codeAny_builtin F.entry_set_update_loop ?_
    rw [Around.under_plainId F.plain_set_update_loop _]
    show wpAny _ A.in1 (pyNext (.ref I) >>= _) _ _ s
    refine wpAny_bind (W.item i s _ _ (by omega) st fun v s' hP st' m => ?_)
    obtain ⟨x, hx, rfl⟩ := hval i v hP
    have q1 := up m q0
    have T1 : SetTR P w s'.heap S L es ep t := T.keep (fun o e => m.heap S o nSw e) fun q hq => isT_keep (hk q (old g q hq)) q1
    have xt : IsT P w s'.heap x.2 x.1 := isT_keep (hk x (List.mem_of_getElem? hx)) q1
    have few1 : L.length + 1 < 64 := by
      have z := few (L.map (·.2)) T.nd fun k hk => by
        obtain ⟨p, hp, rfl⟩ := List.mem_map.mp hk
        exact List.mem_map.mpr ⟨p, old g p hp, rfl⟩
      rw [List.length_map] at z
      omega
    show wpAny _ A.in1 (holding [Value.ref x.1] (setAdd S (.ref x.1)) >>= _) _ _ s'
    refine wpAny_bind (wpAny_holding ?_)
    unfold setAdd
    refine wpAny_holding (wpAny_bind (wpAny_pyHash_tuple hu xt ?_))
    refine add_at (s := { s' with toks := s'.toks + (x.2.length + 1) }) T1 xt hu few1 fun b h' L' es' ep' t' sb T2 c1 c2 => ?_
    have g' : Got ks (i + 1) L' := (Classical.em (x.2 ∈ L.map (·.2))).elim (fun c => (c1 c).symm ▸ g.same hx c) fun c => g.more hx (c2 c)
    have q2 : ∀ b o, h0.get? b = some o → h'.get? b = some o := fun b o e => (sb.2 b (fun z => by subst z; rw [hS0] at e; cases e)).trans (q1 b o e)
    have st2 := W.frame (i + 1) s' h' (s'.toks + (x.2.length + 1)) st' (Nat.le_add_right _ _) fun b hb o e => (sb.2 b fun z => hSf (z ▸ hb)).trans e
    refine wpAny_pure ⟨plainId_quiet F.plain_set_update_loop _, ih (i + 1) _ L' es' ep' t' (by omega) st2 q2 T2 g' fun s2 L2 es2 ep2 t2 m2 T3 g3 q3 => ?_⟩
    refine done s2 L2 es2 ep2 t2 (Moved.trans W.gtrans ((m.mono inS).then_heap (Nat.le_add_right _ _) fun b o hb e => ?_) m2) T3 g3 q3
    exact (sb.2 b fun z => hb (z ▸ List.mem_cons_self)).trans e
/-- set(xs), xs a list -/
theorem set_of_list {l : Addr} {items : Array Value} (ks : List (Addr × List Int)) {Q : Value → Shared → Prop} (hh : A.handled = none) (hl : s.heap.IsList l items) (hit : items.toList = ks.map fun p => Value.ref p.1)
    (hk : ∀ p ∈ ks, IsT P w s.heap p.2 p.1) (few : FewR ks) (hu : A.units + 3 < cLine)
    (h : ∀ (h' : Heap) (tk : Nat) L es ep t, SetTR P w h' s.heap.objs.size L es ep t → Got ks ks.length L → (∀ b o, s.heap.get? b = some o → h'.get? b = some o) → Q (.ref s.heap.objs.size) { s with heap := h', toks := tk }) :
    wpAny (model P w) A (call (.type "set") [.ref l]) Q E s := by
  have hisz : items.size = ks.length := by
    rw [← Array.length_toList, hit, List.length_map]
  obtain ⟨c, tl, hmro⟩ := F.called_set.mro
  have hmade := F.called_set.made
  have hsub := F.called_set.sub
  refine wpAny_call (codeAny_of_tree ?_)
  show wpAny _ _ (callAny (.type "set") _) _ _ _
  refine wpAny_pure ⟨Code.quiet_builtin _ (by decide +kernel), codeAny_builtin F.entry_type_call ?_⟩
  rw [Around.under_plain (weight_type_call_type "set" [.ref l] []) rfl]
  have h1 := F.called_set.notType
  have h2 := F.called_set.canCreate
  have hct := F.typeCall_set_1 (.ref l)
  repeat (any_goals (first | assumption | wp_step))
  generalize eo : ({ cls := .type "set", dict := none, data := .set #[] 0 (.fresh 0 0 (!w.params.followText "set-order")) } : Obj) = ob
  refine codeAny_mono (code_set_led1 (.ref l) (E := E) (Q₁ := fun obj s₁ => obj = .ref s.heap.objs.size ∧ s₁ = { s with heap := s.heap.push ob }) ⟨rfl, by subst eo; rfl⟩) fun r s₁ hr => ?_
  match r, hr with
  | .error e, hr => exact hr
  | .ok (.ret obj), hr =>
      obtain ⟨rfl, rfl⟩ := hr
      have hS : (s.heap.push ob).get? s.heap.objs.size = some ob := Heap.get?_push_size _ (by rw [← eo]; rfl)
      have hT : Shared.TypeIs { s with heap := s.heap.push ob } (.ref s.heap.objs.size) "set" := ⟨_, hS, by rw [← eo]⟩
      have hli := F.called_set.init.lookup
      have hbi := F.called_set.init.bind (.ref s.heap.objs.size)
      repeat (any_goals (first | assumption | wp_step))
      refine codeAny_mono (codeAny_call_builtin (R := wants (fun r s₂ => r = .none ∧ ∃ h' tk L es ep t, s₂ = { s with heap := h', toks := tk } ∧ SetTR P w h' s.heap.objs.size L es ep t ∧ Got ks ks.length L ∧
          (∀ b o, s.heap.get? b = some o → h'.get? b = some o)) E) F.called_set.init.plain F.entry_set_init (check_set_init_1 hT ?_)) fun r₂ s₂ hr₂ => ?_
      · subst eo
        obtain ⟨⟨ocls, odict, odata, oslots⟩, hol, hcl, nl, hdl⟩ := hl
        simp only at hcl hdl
        subst hcl; subst hdl
        have hol' : (s.heap.push { cls := .type "set", dict := none, data := .set #[] 0 (.fresh 0 0 (!w.params.followText "set-order")) }).get? l = some { cls := .type "list", dict := odict, data := .seq items nl, slots := oslots } := Heap.get?_push_of_some _ hol
        have hsls := F.sub_list_set
        have hslf := F.sub_list_frozenset
        have hne : (Value.type "list" == Value.type "dict") = false := by decide
        have hl1 : (s.heap.push { cls := .type "set", dict := none, data := .set #[] 0 (.fresh 0 0 (!w.params.followText "set-order")) }).IsList l items := ⟨_, hol', rfl, nl, rfl⟩
        unfold Builtin.«set.__init__» noKeywords Builtin.Frozenset.updateFrom
        generalize hPI : pyIter = PI
        wp_walk
        subst hPI
        refine wpAny_pyIter_list (s := { s with heap := s.heap.push { cls := .type "set", dict := none, data := .set #[] 0 (.fresh 0 0 (!w.params.followText "set-order")) } }) hl1 ?_
        refine wpAny_bind (wpAny_runValue ?_)
        have hlS : l < s.heap.objs.size := Heap.lt_size hol
        have z1 : (s.heap.push { cls := .type "set", dict := none, data := .set #[] 0 (.fresh 0 0 (!w.params.followText "set-order")) }).objs.size = s.heap.objs.size + 1 := Heap.size_push ..
        have nI : l ≠ (s.heap.push { cls := .type "set", dict := none, data := .set #[] 0 (.fresh 0 0 (!w.params.followText "set-order")) }).objs.size := by rw [z1]; exact Nat.ne_of_lt (Nat.lt_succ_of_lt hlS)
        have nS : s.heap.objs.size ∉ [(s.heap.push { cls := .type "set", dict := none, data := .set #[] 0 (.fresh 0 0 (!w.params.followText "set-order")) }).objs.size, l] := by
          rw [z1]
          simp only [List.mem_cons, List.not_mem_nil, or_false, not_or]
          exact ⟨Nat.ne_of_lt (Nat.lt_succ_self _), Nat.ne_of_gt hlS⟩
        have hval : ∀ (i : Nat) (v : Value), items[i]? = some v → ∃ p, ks[i]? = some p ∧ v = .ref p.1 := fun i v hv => by
          have q : items.toList[i]? = some v := by rw [Array.getElem?_toList]; exact hv
          rw [hit, List.getElem?_map] at q
          cases hq : ks[i]? with
          | none => rw [hq] at q; cases q
          | some p => rw [hq] at q; exact ⟨p, rfl, (Option.some.inj q).symm⟩
        have free : ∀ b, s.heap.objs.size ≤ b → s.heap.get? b = none := fun b hb => by
          cases q : s.heap.get? b with
          | none => rfl
          | some o => exact absurd (Heap.lt_size q) (Nat.not_lt.mpr hb)
        have W := (Walks.list (A := A.in1.in1.in1) (prog := P) (w := w) (by simp [hh]) _ l nI items).toS
        rw [hisz] at W
        refine upd_rows ks W nS few hval hk (free _ (Nat.le_refl _)) (fun b hb => free b (by rw [List.mem_singleton.mp hb, z1]; exact Nat.le_succ _)) hu ks.length 0 _ [] #[] 0 _ (Nat.zero_add _)
          ⟨⟨_, Heap.get?_push_size _ rfl, rfl, rfl⟩, hl1.push _⟩ (fun b o e => Heap.get?_push_of_some _ (Heap.get?_push_of_some _ e)) (setTR_fresh (Heap.get?_push_of_some _ hS)) (Got.zero ks) fun s' L es ep t m T g q => ?_
        obtain ⟨h', g2, d', tk', os'⟩ := s'
        obtain rfl : g2 = s.gens := m.gens
        obtain rfl : d' = s.drawn := m.drawn
        obtain rfl : os' = s.os := m.os
        refine wpAny_pure ?_
        show wpAny _ _ (ret Value.none) _ _ _
        exact wpAny_pure ⟨rfl, h', tk', L, es, ep, t, rfl, T, g, q⟩
      · match r₂, hr₂ with
        | .error e, hr₂ => exact hr₂
        | .ok (.ret r), hr₂ =>
            obtain ⟨rfl, h', tk, L, es, ep, t, rfl, T, g, q⟩ := hr₂
            repeat (any_goals (first | assumption | wp_step))
            exact h _ _ _ _ _ _ T g q
/-- set(xs), xs a tuple -/
theorem set_of_tuple {l : Addr} {items : Array Value} (ks : List (Addr × List Int)) {Q : Value → Shared → Prop} (hh : A.handled = none) (hl : s.heap.IsTuple l items) (hit : items.toList = ks.map fun p => Value.ref p.1)
    (hk : ∀ p ∈ ks, IsT P w s.heap p.2 p.1) (few : FewR ks) (hu : A.units + 3 < cLine)
    (h : ∀ (h' : Heap) (tk : Nat) L es ep t, SetTR P w h' s.heap.objs.size L es ep t → Got ks ks.length L → (∀ b o, s.heap.get? b = some o → h'.get? b = some o) → Q (.ref s.heap.objs.size) { s with heap := h', toks := tk }) :
    wpAny (model P w) A (call (.type "set") [.ref l]) Q E s := by
  have hisz : items.size = ks.length := by
    rw [← Array.length_toList, hit, List.length_map]
  obtain ⟨c, tl, hmro⟩ := F.called_set.mro
  have hmade := F.called_set.made
  have hsub := F.called_set.sub
  refine wpAny_call (codeAny_of_tree ?_)
  show wpAny _ _ (callAny (.type "set") _) _ _ _
  refine wpAny_pure ⟨Code.quiet_builtin _ (by decide +kernel), codeAny_builtin F.entry_type_call ?_⟩
  rw [Around.under_plain (weight_type_call_type "set" [.ref l] []) rfl]
  have h1 := F.called_set.notType
  have h2 := F.called_set.canCreate
  have hct := F.typeCall_set_1 (.ref l)
  repeat (any_goals (first | assumption | wp_step))
  generalize eo : ({ cls := .type "set", dict := none, data := .set #[] 0 (.fresh 0 0 (!w.params.followText "set-order")) } : Obj) = ob
  refine codeAny_mono (code_set_led1 (.ref l) (E := E) (Q₁ := fun obj s₁ => obj = .ref s.heap.objs.size ∧ s₁ = { s with heap := s.heap.push ob }) ⟨rfl, by subst eo; rfl⟩) fun r s₁ hr => ?_
  match r, hr with
  | .error e, hr => exact hr
  | .ok (.ret obj), hr =>
      obtain ⟨rfl, rfl⟩ := hr
      have hS : (s.heap.push ob).get? s.heap.objs.size = some ob := Heap.get?_push_size _ (by rw [← eo]; rfl)
      have hT : Shared.TypeIs { s with heap := s.heap.push ob } (.ref s.heap.objs.size) "set" := ⟨_, hS, by rw [← eo]⟩
      have hli := F.called_set.init.lookup
      have hbi := F.called_set.init.bind (.ref s.heap.objs.size)
      repeat (any_goals (first | assumption | wp_step))
      refine codeAny_mono (codeAny_call_builtin (R := wants (fun r s₂ => r = .none ∧ ∃ h' tk L es ep t, s₂ = { s with heap := h', toks := tk } ∧ SetTR P w h' s.heap.objs.size L es ep t ∧ Got ks ks.length L ∧
          (∀ b o, s.heap.get? b = some o → h'.get? b = some o)) E) F.called_set.init.plain F.entry_set_init (check_set_init_1 hT ?_)) fun r₂ s₂ hr₂ => ?_
      · subst eo
        obtain ⟨⟨ocls, odict, odata, oslots⟩, hol, hcl, nl, hdl⟩ := hl
        simp only at hcl hdl
        subst hcl; subst hdl
        have hol' : (s.heap.push { cls := .type "set", dict := none, data := .set #[] 0 (.fresh 0 0 (!w.params.followText "set-order")) }).get? l = some { cls := .type "tuple", dict := odict, data := .seq items nl, slots := oslots } := Heap.get?_push_of_some _ hol
        have hsls := F.sub_tuple_set
        have hslf := F.sub_tuple_frozenset
        have hne : (Value.type "tuple" == Value.type "dict") = false := by decide
        have hl1 : (s.heap.push { cls := .type "set", dict := none, data := .set #[] 0 (.fresh 0 0 (!w.params.followText "set-order")) }).IsTuple l items := ⟨_, hol', rfl, nl, rfl⟩
        unfold Builtin.«set.__init__» noKeywords Builtin.Frozenset.updateFrom
        generalize hPI : pyIter = PI
        wp_walk
        subst hPI
        refine wpAny_pyIter_tuple (s := { s with heap := s.heap.push { cls := .type "set", dict := none, data := .set #[] 0 (.fresh 0 0 (!w.params.followText "set-order")) } }) hl1 ?_
        refine wpAny_bind (wpAny_runValue ?_)
        have hlS : l < s.heap.objs.size := Heap.lt_size hol
        have z1 : (s.heap.push { cls := .type "set", dict := none, data := .set #[] 0 (.fresh 0 0 (!w.params.followText "set-order")) }).objs.size = s.heap.objs.size + 1 := Heap.size_push ..
        have nI : l ≠ (s.heap.push { cls := .type "set", dict := none, data := .set #[] 0 (.fresh 0 0 (!w.params.followText "set-order")) }).objs.size := by rw [z1]; exact Nat.ne_of_lt (Nat.lt_succ_of_lt hlS)
        have nS : s.heap.objs.size ∉ [(s.heap.push { cls := .type "set", dict := none, data := .set #[] 0 (.fresh 0 0 (!w.params.followText "set-order")) }).objs.size, l] := by
          rw [z1]
          simp only [List.mem_cons, List.not_mem_nil, or_false, not_or]
          exact ⟨Nat.ne_of_lt (Nat.lt_succ_self _), Nat.ne_of_gt hlS⟩
        have hval : ∀ (i : Nat) (v : Value), items[i]? = some v → ∃ p, ks[i]? = some p ∧ v = .ref p.1 := fun i v hv => by
          have q : items.toList[i]? = some v := by rw [Array.getElem?_toList]; exact hv
          rw [hit, List.getElem?_map] at q
          cases hq : ks[i]? with
          | none => rw [hq] at q; cases q
          | some p => rw [hq] at q; exact ⟨p, rfl, (Option.some.inj q).symm⟩
        have free : ∀ b, s.heap.objs.size ≤ b → s.heap.get? b = none := fun b hb => by
          cases q : s.heap.get? b with
          | none => rfl
          | some o => exact absurd (Heap.lt_size q) (Nat.not_lt.mpr hb)
        have W := (Walks.tuple (A := A.in1.in1.in1) (prog := P) (w := w) (by simp [hh]) _ l nI items).toS
        rw [hisz] at W
        refine upd_rows ks W nS few hval hk (free _ (Nat.le_refl _)) (fun b hb => free b (by rw [List.mem_singleton.mp hb, z1]; exact Nat.le_succ _)) hu ks.length 0 _ [] #[] 0 _ (Nat.zero_add _)
          ⟨⟨_, Heap.get?_push_size _ rfl, rfl, rfl⟩, hl1.push _⟩ (fun b o e => Heap.get?_push_of_some _ (Heap.get?_push_of_some _ e)) (setTR_fresh (Heap.get?_push_of_some _ hS)) (Got.zero ks) fun s' L es ep t m T g q => ?_
        obtain ⟨h', g2, d', tk', os'⟩ := s'
        obtain rfl : g2 = s.gens := m.gens
        obtain rfl : d' = s.drawn := m.drawn
        obtain rfl : os' = s.os := m.os
        refine wpAny_pure ?_
        show wpAny _ _ (ret Value.none) _ _ _
        exact wpAny_pure ⟨rfl, h', tk', L, es, ep, t, rfl, T, g, q⟩
      · match r₂, hr₂ with
        | .error e, hr₂ => exact hr₂
        | .ok (.ret r), hr₂ =>
            obtain ⟨rfl, h', tk, L, es, ep, t, rfl, T, g, q⟩ := hr₂
            repeat (any_goals (first | assumption | wp_step))
            exact h _ _ _ _ _ _ T g q
end
end DL

end

section
set_option Elab.async false
set_option linter.all false
set_option maxRecDepth 100000
set_option maxHeartbeats 1000000
/-! sorted. -/
namespace DL
open PySem L2 PyProof.Rows
theorem le_antisymm_rows {x y : List Int} (h1 : x ≤ y) (h2 : y ≤ x) : x = y := List.le_antisymm h1 h2
theorem eq_of_sorted {α : Type} {r : α → α → Prop} (anti : ∀ x y, r x y → r y x → x = y) : ∀ {l m : List α}, l.Perm m → l.Pairwise r → m.Pairwise r → l = m
  | [], m, p, _, _ => p.nil_eq
  | x :: l, [], p, _, _ => absurd p.symm.nil_eq (by simp)
  | x :: l, y :: m, p, h1, h2 => by
    obtain ⟨a1, a2⟩ := List.pairwise_cons.mp h1
    obtain ⟨b1, b2⟩ := List.pairwise_cons.mp h2
    have e : x = y := by
      rcases List.mem_cons.mp (p.mem_iff.mp List.mem_cons_self) with z | z
      · exact z
      · rcases List.mem_cons.mp (p.symm.mem_iff.mp List.mem_cons_self) with z' | z'
        · exact z'.symm
        · exact anti x y (a1 y z') (b1 x z)
    subst e
    rw [eq_of_sorted anti (List.perm_cons x |>.mp p) a2 b2]
theorem sortInts_sorted (ns : List Int) : (sortInts ns).Pairwise (· ≤ ·) := by
  have h := List.pairwise_mergeSort (le := fun a b : Int => decide (a ≤ b)) (fun a b c h1 h2 => by simp at *; omega) (fun a b => by simp; omega) ns
  exact h.imp fun h => of_decide_eq_true h
theorem sortInts_perm (ns : List Int) : (sortInts ns).Perm ns := List.mergeSort_perm ns _
theorem sortRows_sorted (nss : List (List Int)) : (sortRows nss).Pairwise (· ≤ ·) := by
  have h := List.pairwise_mergeSort (le := fun a b : List Int => decide (a ≤ b)) (fun a b c h1 h2 => decide_eq_true (List.le_trans (of_decide_eq_true h1) (of_decide_eq_true h2))) (fun a b => by
    rcases List.le_total a b with h | h
    · rw [decide_eq_true h]; rfl
    · rw [decide_eq_true h, Bool.or_true]) nss
  exact h.imp fun h => of_decide_eq_true h
theorem sortRows_perm (nss : List (List Int)) : (sortRows nss).Perm nss := List.mergeSort_perm nss _
theorem mem_dups : ∀ {nss : List (List Int)} {x : List Int}, x ∈ dups nss ↔ x ∈ nss
  | [], x => by simp [dups]
  | y :: nss, x => by
    unfold dups
    split
    · rename_i h
      rw [mem_dups, List.mem_cons]
      refine ⟨.inr, fun q => q.elim (fun q => q ▸ mem_dups.mp h) id⟩
    · rw [List.mem_cons, List.mem_cons, mem_dups]
theorem nodup_dups : ∀ nss : List (List Int), (dups nss).Nodup
  | [] => List.nodup_nil
  | y :: nss => by
    unfold dups
    split
    · exact nodup_dups nss
    · rename_i h
      exact List.nodup_cons.mpr ⟨h, nodup_dups nss⟩
theorem nodup_len {α : Type} [BEq α] [LawfulBEq α] : ∀ {l m : List α}, l.Nodup → (∀ x ∈ l, x ∈ m) → l.length ≤ m.length
  | [], _, _, _ => Nat.zero_le _
  | x :: l, m, hn, hs => by
    obtain ⟨h1, h2⟩ := List.nodup_cons.mp hn
    have hx : x ∈ m := hs x List.mem_cons_self
    have ih := nodup_len (l := l) (m := m.erase x) h2 fun y hy => (List.mem_erase_of_ne fun e => h1 (by rw [← e]; exact hy)).2 (hs y (List.mem_cons_of_mem _ hy))
    have e := List.length_erase_of_mem hx
    have hp : 0 < m.length := List.length_pos_of_mem hx
    rw [List.length_cons]
    omega
/-- rows by their codes -/
theorem code_le {B : Int} : ∀ {x y : List Int}, x.length = y.length → TS.Bd B x → TS.Bd B y → TS.code B x ≤ TS.code B y → x ≤ y
  | [], [], _, _, _, _ => List.le_refl _
  | [], _ :: _, h, _, _, _ => by simp at h
  | _ :: _, [], h, _, _, _ => by simp at h
  | a :: x, b :: y, h, hx, hy, hc => by
    have hl : x.length = y.length := by simpa using h
    refine List.not_lt.mp fun q => ?_
    rcases List.cons_lt_cons_iff.mp q with z | ⟨z, q'⟩
    · exact absurd hc (Int.not_le.mpr (TS.code_lt hl.symm hy.tail hx.tail z))
    · subst z
      have hc' : TS.code B x ≤ TS.code B y := by
        have e1 : TS.code B (b :: x) = b * B ^ x.length + TS.code B x := rfl
        have e2 : TS.code B (b :: y) = b * B ^ y.length + TS.code B y := rfl
        rw [e1, e2, hl] at hc
        omega
      exact List.not_lt.mpr (code_le hl hx.tail hy.tail hc') q'
section
variable {G : Gm} {F H : Hp}
/-- rows of whole numbers and their addresses -/
theorem DqA.rows : ∀ {vs : List V} {ds : List D} {nss : List (List Int)}, DqA G F vs ds → rows? ds = some nss → ∃ ks : List (Addr × List Int), vs = ks.map (fun p => V.ref p.1) ∧ ks.map (·.2) = nss ∧ ∀ p ∈ ks, F p.1 = some (.tup (p.2.map V.int)) ∧ p.2 ≠ []
  | _, [], nss, h, e => by cases h; cases e; exact ⟨[], rfl, rfl, fun p hp => nomatch hp⟩
  | _, d :: ds, nss, h, e => by
    cases h with
    | @cons v vs _ _ h t =>
      cases d with
      | tup xs =>
        unfold rows? at e
        split at e
        · rename_i n ns nss' e1 e2
          cases e
          obtain ⟨ks, rfl, rfl, hk⟩ := DqA.rows t e2
          obtain ⟨a, ws, rfl, ha, qa⟩ := (h.vw (Le.refl F)).tup_
          refine ⟨(a, n :: ns) :: ks, rfl, rfl, fun p hp => ?_⟩
          rcases List.mem_cons.mp hp with z | z
          · subst z
            exact ⟨by rw [← qa.ints e1]; exact ha, by simp⟩
          · exact hk p z
        · cases e
      | _ => cases e
theorem rows_Dq {ks : List (Addr × List Int)} (h : ∀ p ∈ ks, F p.1 = some (.tup (p.2.map V.int))) : DqA G F (ks.map fun p => V.ref p.1) ((ks.map (·.2)).map tupI) := by
  induction ks with
  | nil => exact .nil
  | cons p ks ih => exact .cons (.ref (h p List.mem_cons_self) (.tup (DqA.of_ints _))) (ih fun q hq => h q (List.mem_cons_of_mem _ hq))
end
section
variable {X : Cx} {G : Gm}
def encR (b : Addr × List Int) : PyData := .tuple (b.2.map .int)
theorem leR : PySem.W.dataLe false encR = fun p q => decide (p.2 ≤ q.2) := by
  funext p q
  show (!PySem.W.dataLt (.tuple (q.2.map .int)) (.tuple (p.2.map .int))) = _
  rw [PySem.W.dataLt_tuple]
  show (!PySem.W.rowLt (q.2.map .int) (p.2.map .int)) = _
  rw [PySem.W.dataLt_ints]
  by_cases h : q.2 < p.2
  · simp [h, fun r => List.not_lt.mpr r h]
  · simp [h, List.not_lt.mp h]
def rSortA (K : PySem.W.Frag) : List V → Hp → VK → Prop := rSortG K
theorem cr_sortA (hu : X.A.units + 66 < cLine) : CallR X (.builtin "sorted") (rSortA X.K) := cr_sortG hu
theorem pd_int (ns : List Int) : (ns.map D.int).map pdOf = ns.map PyData.int := by rw [List.map_map]; rfl
theorem pd_tupI (ns : List Int) : toPd (tupI ns) = some (.tuple (ns.map PyData.int)) := by
  show (toPds (ns.map D.int)).map PyData.tuple = _
  rw [toPds_of (fun d hd => by obtain ⟨n, _, rfl⟩ := List.mem_map.mp hd; exact ⟨_, rfl⟩), pd_int]
  rfl
theorem pdOf_tupI (ns : List Int) : pdOf (tupI ns) = .tuple (ns.map PyData.int) := by
  unfold pdOf
  rw [pd_tupI]
  rfl
theorem rowsE_eq : ∀ {xs : List D} {nss : List (List Int)}, rowsE? xs = some nss → xs = nss.map tupI
  | [], _, h => by cases h; rfl
  | d :: xs, _, h => by
    cases d with
    | tup ys =>
      unfold rowsE? at h
      split at h
      · rename_i ns nss e1 e2
        cases h
        rw [List.map_cons, ← rowsE_eq e2]
        have z : ∀ {ys : List D} {ns : List Int}, ints? ys = some ns → ys = ns.map D.int := fun {ys} => by
          induction ys with
          | nil => intro ns h; cases h; rfl
          | cons y ys ih =>
            intro ns h
            cases y with
            | int i =>
              unfold ints? at h
              cases e : ints? ys with
              | none => rw [e] at h; cases h
              | some ms => rw [e] at h; cases h; rw [List.map_cons, ← ih e]
            | _ => cases h
        rw [z e1]
        rfl
      · cases h
    | _ => cases h
theorem sortRows_dLe (nss : List (List Int)) : (nss.map tupI).mergeSort dLe = (sortRows nss).map tupI := by
  refine (List.map_mergeSort (r := fun p q : List Int => decide (p ≤ q)) (s := dLe) (f := tupI) (l := nss) (fun p _ q _ => ?_)).symm
  have e := congrFun (congrFun leR ((0 : Nat), p)) ((0 : Nat), q)
  have e2 : dLe (tupI p) (tupI q) = PySem.W.dataLe false encR ((0 : Nat), p) ((0 : Nat), q) := by
    unfold dLe
    rw [pdOf_tupI, pdOf_tupI]
    rfl
  rw [e2, e]
theorem ints_eq : ∀ {xs : List D} {ns : List Int}, ints? xs = some ns → xs = ns.map D.int
  | [], _, h => by cases h; rfl
  | y :: ys, ns, h => by
    cases y with
    | int i =>
      unfold ints? at h
      cases e : ints? ys with
      | none => rw [e] at h; cases h
      | some ms => rw [e] at h; cases h; rw [List.map_cons, ← ints_eq e]
    | _ => cases h
theorem srt_eq {xs ys : List D} (h : srt xs = some ys) : (∀ d ∈ xs, toPd d = some (pdOf d)) ∧ SrtOk (xs.map pdOf) ∧ ys = xs.mergeSort dLe := by
  unfold srt at h
  cases e : ints? xs with
  | some ns =>
    rw [e] at h
    cases h
    obtain rfl := ints_eq e
    refine ⟨fun d hd => ?_, ⟨?_, ?_, ?_⟩, ?_⟩
    · obtain ⟨n, _, rfl⟩ := List.mem_map.mp hd
      rfl
    · rw [pd_int]
      exact PySem.W.AllAlike.of fun _ _ => by simp [PySem.W.alike]
    · rw [pd_int]
      exact .inr (PySem.W.Sortable.others fun _ => ⟨(fun z => nomatch z), fun _ z => nomatch z⟩)
    · rw [pd_int]
      intro d hd
      obtain ⟨n, _, rfl⟩ := List.mem_map.mp hd
      simp [PyData.depth]
    · refine List.map_mergeSort (r := fun p q : Int => decide (p ≤ q)) (s := dLe) (f := D.int) (l := ns) (fun p _ q _ => ?_)
      exact (congrFun (congrFun (PySem.W.dataLe_int (fun b : Int => b)) p) q).symm
  | none =>
    rw [e] at h
    cases e2 : rowsE? xs with
    | some nss =>
      rw [e2] at h
      cases h
      obtain rfl := rowsE_eq e2
      refine ⟨fun d hd => ?_, ⟨?_, ?_, ?_⟩, (sortRows_dLe nss).symm⟩
      · obtain ⟨ns, _, rfl⟩ := List.mem_map.mp hd
        rw [pd_tupI, pdOf_tupI]
      · intro d hd d' hd'
        obtain ⟨_, h1, rfl⟩ := List.mem_map.mp hd
        obtain ⟨_, h2, rfl⟩ := List.mem_map.mp hd'
        obtain ⟨ns, _, rfl⟩ := List.mem_map.mp h1
        obtain ⟨ms, _, rfl⟩ := List.mem_map.mp h2
        rw [pdOf_tupI, pdOf_tupI]
        simp [PySem.W.alike, PySem.W.alike_ints]
      · refine .inl fun d hd => ?_
        obtain ⟨_, h1, rfl⟩ := List.mem_map.mp hd
        obtain ⟨ns, _, rfl⟩ := List.mem_map.mp h1
        exact ⟨_, pdOf_tupI ns⟩
      · intro d hd
        obtain ⟨_, h1, rfl⟩ := List.mem_map.mp hd
        obtain ⟨ns, _, rfl⟩ := List.mem_map.mp h1
        rw [pdOf_tupI, PyData.depth, PySem.W.depth_ints]
        decide
    | none =>
      rw [e2] at h
      unfold srtG at h
      cases e3 : toPds xs with
      | none => rw [e3] at h; cases h
      | some ps =>
        rw [e3] at h
        obtain ⟨rfl, hp⟩ := toPds_map e3
        simp only at h
        split at h
        · rename_i hok
          cases h
          exact ⟨hp, srtOk_of hok, rfl⟩
        · cases h
theorem od_sorted {K : PySem.W.Frag} (hK : K = G.K) : OpD1 G (fun v H Q => rSortA K [v] H Q) oSorted := fun F H x d rv Q le tp hx g q => by
  have fin : ∀ {xs : List D} {a : Addr} {vs : List V}, (srt xs).map (fun ys => RV.tmp (.lst ys)) = some rv → (SqL K H a vs ∨ SqT K H a vs) → DqA G F vs xs → rSortA K [V.ref a] H Q := fun {xs a vs} g ha qa => by
    cases e : srt xs with
    | none => rw [e] at g; cases g
    | some ys =>
      rw [e] at g
      cases g
      obtain ⟨hp, ok, rfl⟩ := srt_eq e
      exact sortG_ok hK le ha qa hp ok fun p ws hp dq => q _ _ _ (.tmp hp (.lst dq) mut_lst)
  unfold oSorted at g
  split at g
  · obtain ⟨a, vs, rfl, ha, qa⟩ := hx.lst_
    exact fin g (.inl (SqL.of ha)) qa
  · obtain ⟨a, vs, rfl, ha, qa⟩ := hx.tup_
    exact fin g (.inr (SqT.of ha)) qa
  · obtain ⟨a, o, vs, rfl, ha, _, _, qa⟩ := hx.ptup_
    exact fin g (.inr (.inl (.inr ⟨o, ha⟩))) qa
  · cases g
/-! ### sorted(set(xs)) -/
/-- set(xs), xs a list or a tuple of rows of whole numbers -/
def rSetA (K : PySem.W.Frag) (P : Program) (w : World) : List V → Hp → VK → Prop := fun xs H Q => ∃ (l : Addr) (ks : List (Addr × List Int)), xs = [V.ref l] ∧ (SqL K H l (ks.map fun p => V.ref p.1) ∨ SqT K H l (ks.map fun p => V.ref p.1)) ∧ (∀ p ∈ ks, SqT K H p.1 (p.2.map V.int)) ∧ FewR ks ∧
  ∀ a L, H a = none → (∀ p ∈ L, p ∈ ks) → (∀ p ∈ ks, p.2 ∈ L.map (·.2)) → Q (.ref a) (upd H a (SetTO P w a L))
theorem cr_setA (hc : X.calm = true) (hu : X.A.units + 3 < cLine) : CallR X (.type "set") (rSetA X.K X.prog X.w) := by
  intro pins s σ H xs us Q I r h
  obtain ⟨l, ks, rfl, hl, hk, hf, q⟩ := h
  rw [Vals.ref1 r]
  have hn : H s.heap.objs.size = none := I.hok.fresh (Nat.le_refl _)
  have fin : ∀ (h' : Heap) (tk : Nat) L es ep t, SetTR X.prog X.w h' s.heap.objs.size L es ep t → Got ks ks.length L → (∀ b o, s.heap.get? b = some o → h'.get? b = some o) → EP X pins σ Q (.ref s.heap.objs.size) { s with heap := h', toks := tk } := fun h' tk L es ep t R g k => by
    refine ⟨.ref s.heap.objs.size, upd H s.heap.objs.size (SetTO X.prog X.w s.heap.objs.size L), I.laid (t' := tk) k (Nat.le_refl _) (setTO_new R.t0), rfl, q _ L hn (fun p hp => ?_) fun p hp => ?_⟩
    · exact List.mem_of_mem_take (g.sub p hp)
    · exact g.all p (by rw [List.take_length]; exact hp)
  rcases hl with hl | hl
  · obtain ⟨its, rv, pl, hz⟩ := I.list hl
    exact set_of_list (P := X.prog) (w := X.w) ks (I.ok.hd hc) pl.isList (by simpa using refs_of_vals rv) (fun p hp => I.isT (hk p hp)) hf hu fin
  · obtain ⟨its, rv, pl, hz⟩ := I.tuple hl
    exact set_of_tuple (P := X.prog) (w := X.w) ks (I.ok.hd hc) pl (by simpa using refs_of_vals rv) (fun p hp => I.isT (hk p hp)) hf hu fin
theorem rowOk_iff {n : Nat} {x : List Int} (h : rowOk n x = true) : x.length = n ∧ TS.Bd 1048576 x := by
  unfold rowOk at h
  rw [Bool.and_eq_true] at h
  refine ⟨of_decide_eq_true h.1, fun m hm => ?_⟩
  have z := List.all_eq_true.mp h.2 m hm
  rw [Bool.and_eq_true] at z
  exact ⟨of_decide_eq_true z.1, of_decide_eq_true z.2⟩
theorem rowsOk_iff {nss : List (List Int)} (h : rowsOk nss = true) (hne : ∀ x ∈ nss, x ≠ []) : ∃ d, 1 ≤ d ∧ ∀ x ∈ nss, x.length = d ∧ TS.Bd 1048576 x := by
  cases nss with
  | nil => exact ⟨1, Nat.le_refl _, fun x hx => nomatch hx⟩
  | cons y nss =>
    refine ⟨y.length, List.length_pos_iff.mpr (hne y List.mem_cons_self), fun x hx => ?_⟩
    exact rowOk_iff (List.all_eq_true.mp h x hx)
theorem de_sortSet {E : EK} {e : Expr} {fa : M RV} {p p2 pos pos2 : Pos} (hK : X.K = G.K) (hc : X.calm = true) (hu : X.A.units + 3 < cLine) (hg : Gl X "sorted") (hm : X.mg "sorted" = none) (hv : bootBuiltins "sorted" = some (.builtin "sorted")) (hg2 : Gl X "set") (hm2 : X.mg "set" = none) (ha : PE X e (tOf G E fa))
    (he : starEach [e] X.env = (false, eval e X.env) :: starEach [] X.env := by rfl) (hpl : (backTo pos2 (starEach [] X.env)).any (·.1) = false := by rfl)
    (he2 : starEach [.Call (.Name "set" p2) [e] [] pos2] X.env = (false, eval (.Call (.Name "set" p2) [e] [] pos2) X.env) :: starEach [] X.env := by rfl) (hpl2 : (backTo pos (starEach [] X.env)).any (·.1) = false := by rfl) :
    PE X (.Call (.Name "sorted" p) [.Call (.Name "set" p2) [e] [] pos2] [] pos) (tOf G E (eOp1 oSortSet fa)) :=
  PE_mono (pe_callB (cr_sortedT hc) hg hm hv (pa_cons (pe_callTy (cr_setA hc hu) hg2 hm2 boot_set (pa_cons ha pa_nil he) (by decide) (by decide) he hpl) pa_nil he2) (by decide) (by decide) he2 hpl2) fun σ H Q ⟨b, F, en, S, h⟩ => by
    refine ⟨b, F, en, S, h.bnd.mono fun x r1 F1 H1 S1 st1 w1 h1 v1 q1 => ?_⟩
    obtain ⟨d1, e1, h2⟩ := h1.vwM
    obtain ⟨rv, e3, h2⟩ := h2.lift
    have hx := q1.view S1 e1
    have seq : ∃ xs, srtSet xs = some rv ∧ ∃ a vs, v1 = .ref a ∧ (SqL X.K H1 a vs ∨ SqT X.K H1 a vs) ∧ DqA G F1 vs xs := by
      unfold oSortSet at e3
      split at e3
      · obtain ⟨a, vs, rfl, ha, qa⟩ := hx.lst_
        exact ⟨_, e3, a, vs, rfl, .inl (SqL.of ha), qa⟩
      · obtain ⟨a, vs, rfl, ha, qa⟩ := hx.tup_
        exact ⟨_, e3, a, vs, rfl, .inr (SqT.of ha), qa⟩
      · cases e3
    obtain ⟨xs, e3, a, vs, rfl, ha, qa⟩ := seq
    unfold srtSet at e3
    cases er : rows? xs with
    | none => rw [er] at e3; cases e3
    | some nss =>
      rw [er] at e3
      simp only at e3
      split at e3
      · rename_i hok
        cases e3
        obtain ⟨ks, rfl, rfl, hk⟩ := qa.rows er
        obtain ⟨dn, hd1, hd2⟩ := rowsOk_iff hok.1 fun x hx => by
          obtain ⟨p, hp, rfl⟩ := List.mem_map.mp hx
          exact (hk p hp).2
        have hS : ∀ p ∈ ks, H1 p.1 = some (.tup (p.2.map V.int)) := fun p hp => S1.sub _ _ (hk p hp).1
        refine ⟨a, ks, rfl, ha, fun p hp => SqT.of (hS p hp), fun L hn hs => ?_, fun t L ht hL1 hL2 => ?_⟩
        · refine Nat.lt_of_le_of_lt (nodup_len hn fun k hk => ?_) hok.2
          exact mem_dups.mpr (hs k hk)
        · have S2 : Stt G b F1 (upd H1 t (SetTO X.prog X.w t L)) σ r1 := S1.upd1 ht (fun xs z => nomatch z)
          have st2 : Stp σ r1 F1 H1 F1 (upd H1 t (SetTO X.prog X.w t L)) := Stp.new S1 ht
          refine ⟨t, L, dn, 1048576, rfl, upd_same, fun p hp => SqT.of (by rw [upd_ne (ne_of_none (hS p (hL1 p hp)) ht)]; exact hS p (hL1 p hp)), hd1, fun p hp => hd2 _ (List.mem_map.mpr ⟨p, hL1 p hp, rfl⟩), fun L' p pm nd few pw hp => ?_⟩
          have mem : ∀ q ∈ L', q ∈ ks := fun q hq => hL1 q (pm.mem_iff.mp hq)
          have e2 : L'.map (·.2) = sortSet (ks.map (·.2)) := by
            refine eq_of_sorted (r := fun x y : List Int => x ≤ y) (fun x y => le_antisymm_rows) ?_ ?_ (sortRows_sorted _)
            · refine List.Perm.trans ?_ (sortRows_perm _).symm
              refine (List.perm_ext_iff_of_nodup nd (nodup_dups _)).mpr fun x => ?_
              rw [mem_dups]
              refine ⟨fun hx => ?_, fun hx => ?_⟩
              · obtain ⟨q, hq, rfl⟩ := List.mem_map.mp hx
                exact List.mem_map.mpr ⟨q, mem q hq, rfl⟩
              · obtain ⟨q, hq, rfl⟩ := List.mem_map.mp hx
                exact (pm.map (·.2)).symm.mem_iff.mp (hL2 q hq)
            · refine List.pairwise_map.mpr (pw.imp_of_mem fun {q r} hq hr hle => ?_)
              obtain ⟨l1, b1⟩ := hd2 q.2 (List.mem_map.mpr ⟨q, mem q hq, rfl⟩)
              obtain ⟨l2, b2⟩ := hd2 r.2 (List.mem_map.mpr ⟨r, mem r hr, rfl⟩)
              exact code_le (l1.trans l2.symm) b1 b2 hle
          have dq : DqA G F1 (L'.map fun q => V.ref q.1) ((sortSet (ks.map (·.2))).map tupI) := by
            rw [← e2]
            exact rows_Dq fun q hq => (hk q (mem q hq)).1
          obtain ⟨S3, st3, q3⟩ := (NewR.tmp (G := G) (F := F1) (o := .lst (L'.map fun q => V.ref q.1)) (d := .lst ((sortSet (ks.map (·.2))).map tupI)) hp (.lst dq) mut_lst).ok (H0 := H) S2 fun a z => st1.th a (st2.th a z)
          exact h2.pur S3 (st2.trans Fewer.refl st3) _ q3
      · cases e3
end
end DL

end

section
set_option Elab.async false
set_option linter.all false
set_option maxRecDepth 100000
set_option maxHeartbeats 1000000
/-! What changes an object of a slot. -/
namespace DL
open PySem L2 PyProof.Rows
/-- the object of slot i is changed by f -/
def mutAt (i : Nat) (f : D → List D → Option (D × D)) (ds : List D) : M RV := fun r => match r[i]? with
  | some (.own d) => (match f d ds with
    | some (d', e) => .ok (.fz e) (r.set i (.own d'))
    | none => .bad)
  | some (.brw d) => (match f d ds with
    | some (d', e) => .ok (.fz e) (r.set i (.brw d'))
    | none => .bad)
  | _ => .bad
/-- x.m(a, ..), x in slot i -/
def rcvL (i : Nat) : M Unit := fun r => match r[i]? with
  | some (.own (.lst _)) => .ok () r
  | some (.brw (.lst _)) => .ok () r
  | _ => .bad
def eMut (i : Nat) (f : D → List D → Option (D × D)) (as : List (M RV)) : M RV := bnd (rcvL i) fun _ => bnd (eFs as) fun ds => mutAt i f ds
/-- x[k] = e, x in slot i -/
def sPut (i : Nat) (f : D → List D → Option (D × D)) (k e : M RV) : S := bnd (eF e) fun d => bnd (eVar i) fun _ => bnd (eF k) fun k => bnd (mutAt i f [k, d]) fun _ => pur .nx
def mAppend (d : D) (as : List D) : Option (D × D) := match d, as with
  | .lst xs, [y] => if xs.length < line then some (.lst (xs ++ [y]), .non) else none
  | _, _ => none
def mInsert (d : D) (as : List D) : Option (D × D) := match d, as with
  | .lst xs, [.int i, y] => if xs.length < line ∧ 0 ≤ i ∧ i < 2 ^ 63 then some (.lst (xs.take i.toNat ++ [y] ++ xs.drop i.toNat), .non) else none
  | _, _ => none
def mExtend (d : D) (as : List D) : Option (D × D) := match d, as with
  | .lst xs, [.lst ys] => if xs.length + ys.length ≤ line then some (.lst (xs ++ ys), .non) else none
  | _, _ => none
def mPop (d : D) (as : List D) : Option (D × D) := match d, as with
  | .lst xs, [] => match xs[xs.length - 1]? with
    | some y => some (.lst xs.dropLast, y)
    | none => none
  | _, _ => none
def mPut (d : D) (as : List D) : Option (D × D) := match d, as with
  | .lst xs, [.int k, v] => match ixN xs.length k with
    | some j => some (.lst (xs.set j v), .non)
    | none => none
  | .dic t kvs, [k, v] => match kkey t k with
    | some _ => if kvs.length < line then some (.dic t (stor kvs k v), .non) else none
    | none => none
  | _, _ => none
section
variable {G : Gm} {E : EK} {b : Bas} {F H : Hp} {σ : L2.St} {r : Env} {i : Nat} {d d' : D} {s : Slot} {a : Addr} {o o' : HO}
theorem Stt.chg (S : Stt G b F H σ r) (h : (r[i]? = some (.own d) ∧ s = .own d') ∨ (r[i]? = some (.brw d) ∧ s = .brw d')) (e1 : σ[i]? = some (some (.ref a))) (h2 : Ob G F o' d') (h3 : MutO o') : Stt G b F (L2.upd H a o') σ (r.set i s) := by
  have hm : r[i]? = some (.own d) ∨ r[i]? = some (.brw d) := h.elim (fun z => .inl z.1) fun z => .inr z.1
  obtain ⟨a', o, e1', fa, ha, _, _, wa⟩ := S.own i d hm
  rw [e1] at e1'
  cases e1'
  have hi : i < r.length := hm.elim lt_of_get lt_of_get
  have self : (r.set i s)[i]? = some s := List.getElem?_set_self hi
  have other : ∀ j, j ≠ i → (r.set i s)[j]? = r[j]? := fun j z => List.getElem?_set_ne (Ne.symm z)
  have old : ∀ j, isOwn (r.set i s) j → isOwn r j := fun j ⟨u, q⟩ => by
    by_cases z : j = i
    · subst z; exact ⟨d, hm⟩
    · rw [other j z] at q; exact ⟨u, q⟩
  refine ⟨by rw [List.length_set]; exact S.len, fun x u q => ?_, fun j u q => ?_, fun j u q => ?_, fun j k x hj hk => S.inj j k x (old j hj) (old k hk), fun j u q => ?_, fun j hj => ?_, S.gF, S.nF, fun x u q n => ?_, S.wn, fun x q => ?_, fun x xs q => ?_, fun j u q => ?_⟩
  · have z : x ≠ a := fun z => by rw [z, fa] at q; cases q
    rw [upd_ne z]; exact S.sub x u q
  · by_cases z : j = i
    · subst z
      rw [self] at q
      rcases h with ⟨_, rfl⟩ | ⟨_, rfl⟩ <;> rcases q with q | q <;> cases q
    · rw [other j z] at q; exact S.val j u q
  · by_cases z : j = i
    · subst z
      rw [self] at q
      have eu : u = d' := by
        rcases h with ⟨_, rfl⟩ | ⟨_, rfl⟩ <;> rcases q with q | q <;> cases q <;> rfl
      subst eu
      exact ⟨a, o', e1, fa, upd_same, h2, h3, wa⟩
    · rw [other j z] at q
      obtain ⟨x, p, q1, q2, q3, q4, q5, q6⟩ := S.own j u q
      have ne : x ≠ a := fun e => z (S.inj j i a ⟨u, q⟩ ⟨d, hm⟩ (e ▸ q1) e1)
      exact ⟨x, p, q1, q2, by rw [upd_ne ne]; exact q3, q4, q5, q6⟩
  · by_cases z : j = i
    · subst z
      rw [self] at q
      rcases h with ⟨_, rfl⟩ | ⟨hb, rfl⟩
      · rcases q with q | q <;> cases q
      · exact S.fix j d (.inl hb)
    · rw [other j z] at q; exact S.fix j u q
  · obtain ⟨u, q⟩ := S.lent j hj
    by_cases z : j = i
    · subst z
      rw [self]
      rcases h with ⟨hb, rfl⟩ | ⟨hb, rfl⟩
      · rcases q with q | q <;> rw [hb] at q <;> cases q
      · exact ⟨d', .inl rfl⟩
    · rw [other j z]; exact ⟨u, q⟩
  · have z : x ≠ a := fun z => n (z ▸ wa)
    rw [upd_ne z]; exact S.kH x u q n
  · by_cases z : x = a
    · subst z; rw [upd_same] at q; cases q
    · rw [upd_ne z] at q; exact S.th x q
  · by_cases z : x = a
    · subst z; rw [upd_same] at q; exact (h3.ntup xs (Option.some.inj q)).elim
    · rw [upd_ne z] at q; exact S.tp x xs q
  · by_cases z : j = i
    · subst z
      rw [self] at q
      rcases h with ⟨_, rfl⟩ | ⟨_, rfl⟩ <;> cases q
    · rw [other j z] at q; exact S.nk j u q
theorem own_chg (h : (r[i]? = some (.own d) ∧ s = .own d') ∨ (r[i]? = some (.brw d) ∧ s = .brw d')) : Fewer σ r (r.set i s) := fun x ⟨j, ⟨u, q⟩, e⟩ => by
  have hm : r[i]? = some (.own d) ∨ r[i]? = some (.brw d) := h.elim (fun z => .inl z.1) fun z => .inr z.1
  by_cases z : j = i
  · subst z; exact ⟨j, ⟨d, hm⟩, e⟩
  · rw [List.getElem?_set_ne (Ne.symm z)] at q; exact ⟨j, ⟨u, q⟩, e⟩
theorem mutAt_ok {f : D → List D → Option (D × D)} {ds : List D} {K : RV → Env → Hp → Hp → Prop} (h : Out G E b F H σ r (mutAt i f ds r) K) (S : Stt G b F H σ r) : ∃ a o d d' e, σ[i]? = some (some (.ref a)) ∧ F a = none ∧ H a = some o ∧ Ob G F o d ∧ f d ds = some (d', e) ∧
    ∀ o', Ob G F o' d' → MutO o' → ∃ r', Stt G b F (L2.upd H a o') σ r' ∧ Stp σ r F H F (L2.upd H a o') ∧ Fewer σ r r' ∧ K (.fz e) r' F (L2.upd H a o') := by
  have go : ∀ d d' e s, ((r[i]? = some (.own d) ∧ s = .own d') ∨ (r[i]? = some (.brw d) ∧ s = .brw d')) → f d ds = some (d', e) → Out G E b F H σ r (Res.ok (.fz e) (r.set i s)) K → ∃ a o d d' e, σ[i]? = some (some (.ref a)) ∧ F a = none ∧ H a = some o ∧ Ob G F o d ∧ f d ds = some (d', e) ∧
    ∀ o', Ob G F o' d' → MutO o' → ∃ r', Stt G b F (L2.upd H a o') σ r' ∧ Stp σ r F H F (L2.upd H a o') ∧ Fewer σ r r' ∧ K (.fz e) r' F (L2.upd H a o') := fun d d' e s hs hf h => by
    have hm : r[i]? = some (.own d) ∨ r[i]? = some (.brw d) := hs.elim (fun z => .inl z.1) fun z => .inr z.1
    obtain ⟨a, o, e1, fa, ha, ob, mo, wa⟩ := S.own i d hm
    refine ⟨a, o, d, d', e, e1, fa, ha, ob, hf, fun o' ob' mo' => ⟨r.set i s, S.chg hs e1 ob' mo', ⟨Le.refl _, fun x u q n => ?_, fun x u q => .inl q, fun x q => ?_⟩, own_chg hs, h F _ (S.chg hs e1 ob' mo') ⟨Le.refl _, fun x u q n => ?_, fun x u q => .inl q, fun x q => ?_⟩ (own_chg hs)⟩⟩
    · have z : x ≠ a := fun z => n (z ▸ ⟨i, ⟨d, hm⟩, e1⟩)
      rw [upd_ne z]; exact q
    · by_cases z : x = a
      · subst z; rw [upd_same] at q; cases q
      · rw [upd_ne z] at q; exact q
    · have z : x ≠ a := fun z => n (z ▸ ⟨i, ⟨d, hm⟩, e1⟩)
      rw [upd_ne z]; exact q
    · by_cases z : x = a
      · subst z; rw [upd_same] at q; cases q
      · rw [upd_ne z] at q; exact q
  unfold mutAt at h
  split at h
  · rename_i d hd
    split at h
    · rename_i d' e hf
      exact go d d' e _ (.inl ⟨hd, rfl⟩) hf h
    · exact False.elim h
  · rename_i d hd
    split at h
    · rename_i d' e hf
      exact go d d' e _ (.inr ⟨hd, rfl⟩) hf h
    · exact False.elim h
  · exact False.elim h
end
/-- a method of lists by values -/
def MutD (G : Gm) (rd : V → List V → Hp → VK → Prop) (f : D → List D → Option (D × D)) : Prop := ∀ (F H : Hp) (a : Addr) (o : HO) (vs : List V) (d d' e : D) (ds : List D) (Q : VK), Le F H → H a = some o → Ob G F o d → DqA G F vs ds → f d ds = some (d', e) →
  (∀ v o', Ob G F o' d' → MutO o' → Dq G F v e → Q v (upd H a o')) → rd (.ref a) vs H Q
section
variable {X : Cx} {G : Gm} {E : EK} {id : String} {rd : V → List V → Hp → VK → Prop} {f : D → List D → Option (D × D)} {i : Nat} {x m : Str} {p apos cpos : Pos} {e : Expr} {es : List Expr} {fs : List (M RV)} {fa : M RV}
theorem rcvL_ok {b : Bas} {F H : Hp} {σ : L2.St} {r : Env} {α : Type} {k : Unit → M α} {K : α → Env → Hp → Hp → Prop} (h : Out G E b F H σ r (bnd (rcvL i) k r) K) (S : Stt G b F H σ r) : ∃ a vs, σ[i]? = some (some (.ref a)) ∧ H a = some (.lst vs) ∧ Out G E b F H σ r (k () r) K := by
  have go : ∀ xs, (r[i]? = some (.own (.lst xs)) ∨ r[i]? = some (.brw (.lst xs))) → ∃ a vs, σ[i]? = some (some (.ref a)) ∧ H a = some (.lst vs) := fun xs q => by
    obtain ⟨a, o, e1, _, ha, ob, _⟩ := S.own i _ q
    cases ob with
    | lst q => exact ⟨a, _, e1, ha⟩
  unfold bnd rcvL at h
  split at h
  · rename_i a r1 e1
    split at e1
    · rename_i xs q
      cases e1
      obtain ⟨a, vs, q1, q2⟩ := go xs (.inl q)
      exact ⟨a, vs, q1, q2, h⟩
    · rename_i xs q
      cases e1
      obtain ⟨a, vs, q1, q2⟩ := go xs (.inr q)
      exact ⟨a, vs, q1, q2, h⟩
    · cases e1
  · rename_i e1
    split at e1 <;> cases e1
  · exact False.elim h
theorem lm_rd (hd : MutD G rd f) : ∀ σ H Q, tOf G E (eMut i f fs) σ H Q → tBM X.K "list" rd (tVar i) (tasOf G E (eFs fs)) σ H Q := fun σ H Q ⟨b, F, r, S, h⟩ => by
  obtain ⟨a, vs, e1, ha, h⟩ := rcvL_ok h S
  refine ⟨_, e1, .inl ⟨rfl, vs, SqL.of ha⟩, b, F, r, S, h.bnd.mono fun ds r1 F1 H1 S1 st1 w1 h1 ws qs => ?_⟩
  obtain ⟨a', o, d, d', c, e2, fa, ha', ob, hf, k⟩ := mutAt_ok h1 S1
  rw [e1] at e2
  cases e2
  exact hd F1 H1 a o ws d d' c ds Q S1.sub ha' ob qs hf fun v o' ob' mo' qv => by
    obtain ⟨r', S2, st2, w2, kk⟩ := k o' ob' mo'
    exact kk v (.fz qv)
theorem de_lm (hv : PE X (.Name x p) (tVar i)) (slot : PySem.Slot "list" m id) (htd : typeOf (.builtin id) = pure (.type "method_descriptor")) (hm : MtR X id rd) (hd : MutD G rd f) (ha : PA X (e :: es) (tasOf G E (eFs fs)))
    (hbase : attributeBase (.Name x p) m X.env (eval (.Name x p) X.env) = eval (.Name x p) X.env := by rfl)
    (hfew : ((backTo cpos (starEach (e :: es) X.env)).all (fun x => !x.1) && (backToKw cpos (keywordEach [] X.env)).all (fun x => x.1.isSome)
      && decide ((e :: es).length + ([] : List Keyword).length + (if ([] : List Keyword).isEmpty then 0 else 1) < 30)) = true := by rfl)
    (hline : (apos.endLine == cpos.line) = true := by rfl) (hs : starEach (e :: es) X.env = (false, eval e X.env) :: starEach es X.env := by rfl) (hplain : (backTo cpos (starEach es X.env)).any (·.1) = false := by rfl) :
    PE X (.Call (.Attribute (.Name x p) m apos) (e :: es) [] cpos) (tOf G E (eMut i f fs)) :=
  PE_mono (pe_bm PySem.F.plainAttrs_list slot htd hm hv ha hbase hfew hline hs hplain) (lm_rd hd)
theorem mh_append : MutD G rAppend mAppend := fun F H a o vs d d' e ds Q le ha ob qs hf q => by
  unfold mAppend at hf
  split at hf
  · rename_i xs y
    split at hf
    · rename_i hl
      cases hf
      cases ob with
      | lst qa =>
        cases qs with
        | cons qy qn =>
          cases qn
          exact ⟨a, _, _, rfl, rfl, ha, by rw [qa.length, ← line_eq]; exact hl, q _ _ (.lst (qa.app (.cons qy .nil))) mut_lst .non⟩
    · cases hf
  · cases hf
theorem mh_insert : MutD G (fun x vs H Q => ∃ (l : Addr) (xs : List V) (i : Int) (y : V), x = .ref l ∧ vs = [.int i, y] ∧ H l = some (.lst xs) ∧ xs.length < sizeLine ∧ 0 ≤ i ∧ i < 2 ^ 63 ∧
    Q .non (upd H l (.lst (xs.take i.toNat ++ [y] ++ xs.drop i.toNat)))) mInsert := fun F H a o vs d d' e ds Q le ha ob qs hf q => by
  unfold mInsert at hf
  split at hf
  · rename_i xs i y
    split at hf
    · rename_i hl
      cases hf
      cases ob with
      | lst qa =>
        cases qs with
        | cons qi qn =>
          cases qn with
          | cons qy qn =>
            cases qn
            cases (qi.vw le).int_
            exact ⟨a, _, _, _, rfl, rfl, ha, by rw [qa.length, ← line_eq]; exact hl.1, hl.2.1, hl.2.2, q _ _ (.lst (((qa.take _).app (.cons qy .nil)).app (qa.drop _))) mut_lst .non⟩
    · cases hf
  · cases hf
theorem mh_extend : MutD G rExtend mExtend := fun F H a o vs d d' e ds Q le ha ob qs hf q => by
  unfold mExtend at hf
  split at hf
  · rename_i xs ys
    split at hf
    · rename_i hl
      cases hf
      cases ob with
      | lst qa =>
        cases qs with
        | cons qy qn =>
          cases qn
          obtain ⟨c, ws, rfl, hc, qc⟩ := (qy.vw le).lst_
          exact ⟨a, c, _, _, rfl, rfl, ha, hc, by rw [qa.length, qc.length, ← line_eq]; exact hl, q _ _ (.lst (qa.app qc)) mut_lst .non⟩
    · cases hf
  · cases hf
theorem DqA.dropLast {F : Hp} {vs : List V} {ds : List D} (h : DqA G F vs ds) : DqA G F vs.dropLast ds.dropLast := by
  rw [List.dropLast_eq_take, List.dropLast_eq_take, h.length]
  exact h.take _
/-! ### x[k] = e -/
def rPutA : TSet := fun o i v H Q => rSetL o i v H Q ∨ rSetD o i v H Q
theorem set_all (hu : X.A.units + 1 < cLine) : PSet X rPutA := by
  intro pins s σ H o i v ov iv u Q I ro ri rv h
  rcases h with h | h
  · exact set_list pins s σ H o i v ov iv u Q I ro ri rv h
  · exact set_dict hu pins s σ H o i v ov iv u Q I ro ri rv h
theorem DqA.set {F : Hp} {vs : List V} {ds : List D} {v : V} {d : D} (h : DqA G F vs ds) (q : Dq G F v d) (j : Nat) : DqA G F (vs.set j v) (ds.set j d) := by
  induction vs generalizing ds j with
  | nil => cases h; exact .nil
  | cons x xs ih =>
    cases h with
    | cons h t =>
      cases j with
      | zero => exact .cons q t
      | succ j => exact .cons h (ih t j)
theorem DqK.any {F : Hp} {ks : List (Key × V)} {kvs : List (D × D)} (h : DqK G F ks kvs) (q : Key) : (ks.any fun kv => decide (kv.1 = q)) = kvs.any fun p => dkey p.1 == dkey (keyD q) := by
  induction ks generalizing kvs with
  | nil => cases h; rfl
  | cons p ks ih =>
    cases h with
    | @cons k _ _ _ _ h t =>
      rw [List.any_cons, List.any_cons, ih t, dkey_D, dkey_D]
      congr 1
      by_cases z : k = q <;> simp [z]
theorem DqK.map {F : Hp} {ks : List (Key × V)} {kvs : List (D × D)} {v : V} {d : D} (h : DqK G F ks kvs) (qv : Dq G F v d) (q : Key) : DqK G F (ks.map fun kv => if kv.1 = q then (kv.1, v) else kv) (kvs.map fun p => if dkey p.1 == dkey (keyD q) then (p.1, d) else p) := by
  induction ks generalizing kvs with
  | nil => cases h; exact .nil
  | cons p ks ih =>
    cases h with
    | @cons k _ _ _ _ h t =>
      rw [List.map_cons, List.map_cons]
      by_cases z : k = q
      · rw [if_pos z, if_pos (by rw [z]; simp)]
        exact .cons qv (ih t)
      · rw [if_neg z, if_neg (by rw [dkey_D, dkey_D]; simp [z])]
        exact .cons h (ih t)
theorem DqK.app {F : Hp} {ks ls : List (Key × V)} {kvs es : List (D × D)} (h : DqK G F ks kvs) (t : DqK G F ls es) : DqK G F (ks ++ ls) (kvs ++ es) := by
  induction ks generalizing kvs with
  | nil => cases h; exact t
  | cons p ks ih => cases h with | cons h t' => exact .cons h (ih t')
theorem DqK.put {F : Hp} {ks : List (Key × V)} {kvs : List (D × D)} {v : V} {d : D} (h : DqK G F ks kvs) (qv : Dq G F v d) (q : Key) : DqK G F (putK ks q v) (stor kvs (keyD q) d) := by
  unfold putK stor
  rw [h.any q]
  split
  · exact h.map qv q
  · exact h.app (.cons qv .nil)
theorem DqT.any {F : Hp} {ks : List (List Key × V)} {kvs : List (D × D)} (h : DqT G F ks kvs) (q : List Key) : (ks.any fun kv => decide (kv.1 = q)) = kvs.any fun p => dkey p.1 == dkey (.tup (q.map keyD)) := by
  induction ks generalizing kvs with
  | nil => cases h; rfl
  | cons p ks ih =>
    cases h with
    | @cons k _ _ _ _ h t =>
      rw [List.any_cons, List.any_cons, ih t, dkey_Ds, dkey_Ds]
      congr 1
      by_cases z : k = q <;> simp [z]
theorem DqT.map {F : Hp} {ks : List (List Key × V)} {kvs : List (D × D)} {v : V} {d : D} (h : DqT G F ks kvs) (qv : Dq G F v d) (q : List Key) : DqT G F (ks.map fun kv => if kv.1 = q then (kv.1, v) else kv) (kvs.map fun p => if dkey p.1 == dkey (.tup (q.map keyD)) then (p.1, d) else p) := by
  induction ks generalizing kvs with
  | nil => cases h; exact .nil
  | cons p ks ih =>
    cases h with
    | @cons k _ _ _ _ h t =>
      rw [List.map_cons, List.map_cons]
      by_cases z : k = q
      · rw [if_pos z, if_pos (by rw [z]; simp)]
        exact .cons qv (ih t)
      · rw [if_neg z, if_neg (by rw [dkey_Ds, dkey_Ds]; simp [z])]
        exact .cons h (ih t)
theorem DqT.app {F : Hp} {ks ls : List (List Key × V)} {kvs es : List (D × D)} (h : DqT G F ks kvs) (t : DqT G F ls es) : DqT G F (ks ++ ls) (kvs ++ es) := by
  induction ks generalizing kvs with
  | nil => cases h; exact t
  | cons p ks ih => cases h with | cons h t' => exact .cons h (ih t')
theorem DqT.put {F : Hp} {ks : List (List Key × V)} {kvs : List (D × D)} {v : V} {d : D} (h : DqT G F ks kvs) (qv : Dq G F v d) (q : List Key) : DqT G F (putK ks q v) (stor kvs (.tup (q.map keyD)) d) := by
  unfold putK stor
  rw [h.any q]
  split
  · exact h.map qv q
  · exact h.app (.cons qv .nil)
theorem put_ok {F H : Hp} {a : Addr} {o : HO} {k v : V} {d d' e dk dv : D} {Q : Hp → Prop} (le : Le F H) (ha : H a = some o) (ob : Ob G F o d) (hk : Dq G F k dk) (hv : Dq G F v dv) (hf : mPut d [dk, dv] = some (d', e)) (q : ∀ o', Ob G F o' d' → MutO o' → Q (upd H a o')) : rPutA (.ref a) k v H Q := by
  unfold mPut at hf
  split at hf
  · rename_i xs k0 v0 e0
    cases e0
    split at hf
    · rename_i j hj
      cases hf
      cases ob with
      | lst qa =>
        cases (hk.vw le).int_
        exact .inl ⟨a, _, _, j, rfl, rfl, ha, by rw [qa.length]; exact hj, q _ (.lst (qa.set hv j)) mut_lst⟩
    · cases hf
  · rename_i t kvs k0 v0 e0
    cases e0
    split at hf
    · rename_i kk ek
      split at hf
      · rename_i hl
        cases hf
        cases t with
        | false =>
          obtain ⟨qk, _, rfl, rfl⟩ := kkeyK (hk.vw le) ek
          cases ob with
          | dK qa =>
            exact .inr ⟨a, _, rfl, DPut.k ha (by rw [qa.length, ← line_eq]; exact hl), q _ (.dK (qa.put hv qk)) trivial⟩
        | true =>
          obtain ⟨qk, c, _, rfl, hc, rfl⟩ := kkeyT (hk.vw le) ek
          cases ob with
          | dT qa =>
            exact .inr ⟨a, _, rfl, DPut.t ha hc (by rw [qa.length, ← line_eq]; exact hl), q _ (.dT (qa.put hv qk)) trivial⟩
      · cases hf
    · cases hf
  · cases hf
theorem ds_put {k v : Expr} {fk fv : M RV} {pos pos' : Pos} (hu : X.A.units + 1 < cLine) (hx : PE X (.Name x p) (tOf G E (eVar i))) (hN : ∀ σ H Q, tOf G E (eVar i) σ H Q → True) (hk : PE X k (tOf G E fk)) (hv : PE X v (tOf G E fv)) (hx2 : PE X (.Name x p) (tVar i))
    (hpg : PG X (.Subscript (.Name x p) k pos') (gSub (tVar i) (tdOf G E (eF fk)) rPutA)) (hs : swapsWithSole [.Subscript (.Name x p) k pos'] v pos.line X.env = pure false := by rfl) (hw : swappedStores [.Subscript (.Name x p) k pos'] v X.env = pure none := by rfl)
    (h1 : (assignEach [.Subscript (.Name x p) k pos'] X.env).map (·.2) = [assign (.Subscript (.Name x p) k pos') X.env] := by rfl) : PS X (.Assign [.Subscript (.Name x p) k pos'] v pos) (tsOf G E (sPut i mPut fk fv)) :=
  PS_mono (ps_asg (de_eF hv) hpg hs hw h1) fun D σ H ⟨b, F, r, S, h⟩ => by
    refine ⟨b, F, r, S, (OutS.bnd h).mono fun d r1 F1 H1 S1 st1 w1 h1 v1 q1 => ?_⟩
    have hvr : ∃ u, σ[i]? = some (some u) ∧ OutS G E b F (bnd (eF fk) (fun k => bnd (mutAt i mPut [k, d]) fun _ => pur .nx) r1) D := by
      unfold bnd eVar at h1
      split at h1
      · rename_i a r2 e1
        split at e1
        · rename_i d0 q
          cases e1
          obtain ⟨u, e2, _⟩ := S1.val i d0 (.inl q)
          exact ⟨u, e2, h1⟩
        · rename_i d0 q
          cases e1
          obtain ⟨u, e2, _⟩ := S1.val i d0 (.inr q)
          exact ⟨u, e2, h1⟩
        · rename_i d0 q
          cases e1
          obtain ⟨u, o, e2, _⟩ := S1.own i d0 (.inl q)
          exact ⟨_, e2, h1⟩
        · rename_i d0 q
          cases e1
          obtain ⟨u, o, e2, _⟩ := S1.own i d0 (.inr q)
          exact ⟨_, e2, h1⟩
        · cases e1
      · rename_i x1 r2 e1
        split at e1 <;> cases e1
      · exact False.elim h1
    obtain ⟨u, eu, h2⟩ := hvr
    refine ⟨u, eu, b, F1, r1, S1, (OutS.bnd (F := F1) (H := H1) (σ := σ) h2 st1.gF).mono fun k r2 F2 H2 S2 st2 w2 h3 v2 q2 => ?_⟩
    obtain ⟨a, o, d0, d', c, e2, fa, ha, ob, hf, kk⟩ := mutAt_ok (OutS.bnd (F := F2) (H := H2) (σ := σ) h3 (st1.gF.trans st2.gF)) S2
    rw [eu] at e2
    cases e2
    refine put_ok S2.sub ha ob q2 (q1.mono st2.gF) hf fun o' ob' mo' => ?_
    obtain ⟨r', S3, st3, w3, k3⟩ := kk o' ob' mo'
    exact k3 σ F2 _ S3 (st1.gF.trans st2.gF)
end
end DL

end

section
set_option Elab.async false
set_option linter.all false
set_option maxRecDepth 100000
set_option maxHeartbeats 1000000
/-! Dict comprehensions, the keys plain or tuples. -/
namespace DL
open PySem L2 PyProof.Rows
def dcGo (is : List Nat) (t : Tg) (c : M Bool) (kd : Bool) (k v : M RV) : List D → List (D × D) → M (List (D × D))
  | [], acc => pur acc
  | d :: ds, acc => bnd (asg t d) fun _ => bnd c fun x => if x then (bnd (eF k) fun y => bnd (eF v) fun z => bnd (wip is) fun _ => if (kkey kd y).isSome = true ∧ acc.length < line then dcGo is t c kd k v ds (stor acc y z) else badM) else (bnd (wip is) fun _ => dcGo is t c kd k v ds acc)
def eDComp (is : List Nat) (t : Tg) (it : M (List D)) (c : M Bool) (kd : Bool) (k v : M RV) : M RV :=
  bnd it fun ds => bnd (inBlk is (dcGo is t c kd k v ds [])) fun kvs => pur (.tmp (.dic kd kvs))
/-- {} -/
def eDict0 (kd : Bool) : M RV := pur (.tmp (.dic kd []))
def dNew (kd : Bool) : HO := match kd with
  | false => .dK []
  | true => .dT []
/-- a dict's object -/
def dObj (kd : Bool) (o : HO) : Prop := match kd with
  | false => ∃ ks, o = .dK ks
  | true => ∃ ks, o = .dT ks
/-- d[y] = v by a comprehension -/
theorem dict_set_ok {X : Cx} {pins : List (Addr × Obj)} {σ : L2.St} {H H' : Hp} {s : Shared} {E : Value → Shared → Prop} {a : Addr} {y v : V} {u r : Value} {Q : Unit → Shared → Prop} (hu : X.A.units + 1 < cLine) (I : Inv X pins σ H s) (g : DPut H a y v H') (ry : RelV y u) (rv : RelV v r) (h : ∀ s', Inv X pins σ H' s' → Q () s') :
    wpAny (model X.prog X.w) X.A (dictSet a u r) Q E s := by
  rcases g with ⟨kvs, k, e, ey, l, eH⟩ | ⟨kvs, k, b, e, ey, eb, l, eH⟩
  · subst ey eH
    exact d_dictSet I e l ry rv h
  · subst ey eH
    cases (show u = Value.ref b from ry)
    obtain ⟨z, hd, xs, rel, dd⟩ := dt_of I.hok e
    have hz : xs.length ≤ sizeLine := by rw [← Paired.length rel]; exact z
    have hl : (putK kvs k v).length ≤ sizeLine := by have := length_putK kvs k v; omega
    refine wpAny_dictSet_heap (hsz := hz) (show X.A.units < cLine by omega) (key_of I.hok eb) dd fun h' dd' hs => h _ ?_
    obtain ⟨q, es, ep, hq, h2, h3, h4, _, h5⟩ := dd'
    refine d_write I (by rw [e]; exact True.intro) hs ⟨q, hq⟩ ⟨hl, hd, _, (rel.put k eb rv).keeps fun c ys ec => ?_, q, es, ep, hq, h2, h3, h4, h5⟩
    rw [upd_ne (ne_of ec e (fun z => nomatch z))]
    exact ec

section
variable {X : Cx}
/-- {k: v for target in iter if ..}: D the new dict -/
def tDcA (kd : Bool) (wi : TI) (g : TG) (tt : TT) (tk tv : TE) (vs : List Nat) : TE := fun σ H Q => wi σ H fun J H1 => ∀ D, H1 D = none → ∃ W : Nat → Nat → Hp → Prop, (∃ m, W 0 m (upd H1 D (dNew kd))) ∧ ∀ i m H, W i m H →
  (J.stop i H ∧ Q (.ref D) H) ∨ (J.go i H ∧ ∃ Nx : Hp → Prop, (∀ H', Nx H' → ∃ m', m' < m ∧ W (i + 1) m' H') ∧ ∀ x H', J.yld i H x H' → g x (wipe σ vs) H' fun σ2 H2 => wipe σ2 vs = wipe σ vs ∧ tt σ2 H2 fun b H3 =>
    if b = true then tk σ2 H3 fun y H4 => tv σ2 H4 fun z H5 => ∃ H6, DPut H5 D y z H6 ∧ Nx H6 else Nx H3)
theorem dNew_ok {P : Program} {w : World} {H : Hp} (kd : Bool) (h : Heap) (hb : sysModules < h.objs.size) : ObjOk P w H (h.push { cls := .type "dict", data := .dict #[] }) h.objs.size (dNew kd) := by
  cases kd with
  | false => exact dk_empty h hb
  | true => exact dt_empty h hb
theorem pe_dcA {kx vx tg iter : Expr} {ifs : List Expr} {scope : Scope} {own : List (Str × Nat)} {pos : Pos} {kd : Bool} {wi : TI} {g : TG} {tt : TT} {tk tv : TE} (hu : X.A.units + 1 < cLine) (hc : X.calm = true) (hN : X.N.Nodup) (hi : PI X tg iter wi) (ok : BlkOk X.N X.env.scope scope own)
    (hg : ∀ (s : Shared) (H : Hp) (C : Addr) (cl : List (Str × Addr)) (fp : List Addr), PG (X.blk s H scope (compEnvC scope cl C X.env) fp) tg g) (ht : ∀ (s : Shared) (H : Hp) (C : Addr) (cl : List (Str × Addr)) (fp : List Addr), PTs (X.blk s H scope (compEnvC scope cl C X.env) fp) ifs tt)
    (hk : ∀ (s : Shared) (H : Hp) (C : Addr) (cl : List (Str × Addr)) (fp : List Addr), PE (X.blk s H scope (compEnvC scope cl C X.env) fp) kx tk)
    (he : ∀ (s : Shared) (H : Hp) (C : Addr) (cl : List (Str × Addr)) (fp : List Addr), PE (X.blk s H scope (compEnvC scope cl C X.env) fp) vx tv) (hs : ∀ x, foldedSetIterable iter X.env x = pure x := by intro _; rfl) :
    PE X (.DictComp kx vx [⟨tg, iter, ifs, 0⟩] scope pos) (tDcA kd wi g tt tk tv (own.map (·.2))) := by
  refine ⟨fun pins s σ H Q I h => ?_⟩
  rw [arm_eval_DictComp]
  have free : ∀ y ∈ scope.names, y.2 = .free → ∃ c, X.env.cells.lookup y.1 = some c := fun y hy e => (ok.free y hy e).elim (fun k => I.ok.has _ (.inl k)) fun k => I.ok.has _ (.inr k)
  refine wpAny_comprehension_free rfl hs (closure_ok free) ok.kind (fun y hy e => by rw [ok.uniq y hy, e])
    (thn (hi.run pins s σ H _ I h) fun xv s1 hx => thn hx fun itv s2 ⟨it, fp, tn, J, H2, e, I2, T, st2, f2, q⟩ => ?_)
  subst e
  refine wpAny_newObj_type (newEnv_comp ?_)
  generalize hD : s2.heap.objs.size = D
  obtain ⟨W, ⟨m0, w0⟩, turn⟩ := q D (I2.hok.fresh (Nat.le_of_eq hD))
  generalize hs3 : ({ s2 with heap := s2.heap.push { cls := .type "dict", data := .dict #[] } } : Shared) = s3
  have I3 : Inv X pins σ (upd H2 D (dNew kd)) s3 := by
    rw [← hs3]
    refine I2.laid (t' := s2.toks) (fun b o e => Heap.get?_push_of_some _ e) (Nat.le_of_eq hD) ?_
    rw [← hD]
    exact dNew_ok kd s2.heap I2.big
  have h3 : s3.heap = s2.heap.push { cls := .type "dict", data := .dict #[] } := by rw [← hs3]
  have f3 : ∀ b ∈ fp, FpOk X pins (upd H2 D (dNew kd)) b ∧ b < s3.heap.objs.size := fun b hb => by
    obtain ⟨o, e, _⟩ := T.obj _ _ st2 b hb
    have lt := Heap.lt_size e
    refine ⟨⟨?_, (f2 b hb).2⟩, by rw [h3, Heap.size_push]; exact Nat.lt_succ_of_lt lt⟩
    rw [upd_ne (by rw [← hD]; exact Nat.ne_of_lt lt)]
    exact (f2 b hb).1
  have st3 : tn 0 s3.heap := T.keep _ _ _ st2 fun b _ o e => by rw [h3]; exact Heap.get?_push_of_some _ e
  have I4 := block_start I3 ok hN f3
  have pg := hg s3 (upd H2 D (dNew kd)) s3.heap.objs.size (cellsFrom (s3.heap.objs.size + 1) scope.names (cloFrom X.env.cells scope.names [])) fp
  have pt := ht s3 (upd H2 D (dNew kd)) s3.heap.objs.size (cellsFrom (s3.heap.objs.size + 1) scope.names (cloFrom X.env.cells scope.names [])) fp
  have pk := hk s3 (upd H2 D (dNew kd)) s3.heap.objs.size (cellsFrom (s3.heap.objs.size + 1) scope.names (cloFrom X.env.cells scope.names [])) fp
  have pe := he s3 (upd H2 D (dNew kd)) s3.heap.objs.size (cellsFrom (s3.heap.objs.size + 1) scope.names (cloFrom X.env.cells scope.names [])) fp
  have nfp : ∀ b ∈ fp, (upd H2 D (dNew kd)) b = none := fun b hb => (f3 b hb).1.1
  show codeAny _ _ (.compStart (.DictComp kx vx [⟨tg, iter, ifs, 0⟩] scope pos) 0 (.ref it) (.ref D) (compEnvC scope (cellsFrom (s3.heap.objs.size + 1) scope.names (cloFrom X.env.cells scope.names [])) s3.heap.objs.size X.env)) (compPost (model X.prog X.w) X.A X.xe none _ (.ref D) s3.heap.objs.size) { s3 with heap := pushCells (s3.heap.push { cls := .type "dict", data := .dict #[] }) scope.names }
  generalize hce : compEnvC scope (cellsFrom (s3.heap.objs.size + 1) scope.names (cloFrom X.env.cells scope.names [])) s3.heap.objs.size X.env = ce at I4 pg pt pk pe ⊢
  have cL : ce.locals = s3.heap.objs.size := by subst hce; rfl
  generalize hH3 : upd H2 D (dNew kd) = H3 at I3 I4 pg pt pk pe w0 nfp f3
  generalize hs4 : ({ s3 with heap := pushCells (s3.heap.push { cls := .type "dict", data := .dict #[] }) scope.names } : Shared) = s4 at I4 ⊢
  have st4 : tn 0 s4.heap := T.keep _ _ _ st3 fun b _ o e => by rw [← hs4]; exact pushCells_keeps _ _ _ _ (Heap.get?_push_of_some _ e)
  have stat : ∀ {σ' : L2.St} {H' : Hp} {s' : Shared}, Inv (X.blk s3 H3 scope ce fp) [] σ' H' s' → (∀ b ∈ fp, H' b = none) → ∀ b ∈ fp, FpOk (X.blk s3 H3 scope ce fp) [] H' b := fun {σ' H' s'} I' hn b hb =>
    ⟨hn b hb, (I'.ok.exf b hb).1, I'.ok.exfs b hb, .inl hb, fun x c e => (I'.ok.exf b hb).2 x c e, fun p hp => absurd (show p ∈ ([] : List (Addr × Obj)) ++ [] from hp) (by simp)⟩
  refine codeAny_compStart_dict ?loop (T.self X.A 0 _ _ _ st4 ?loop)
  refine compLoop_anyD (fun n s' => ∃ i H', Inv (X.blk s3 H3 scope ce fp) [] (wipe σ (own.map (·.2))) H' s' ∧ tn i s'.heap ∧ (∀ b ∈ fp, H' b = none) ∧ W i n H') ?_ m0 ⟨0, H3, I4, st4, nfp, w0⟩
  rintro n s5 ⟨i, H5, I5, st5, n5, w5⟩
  rcases turn i n H5 w5 with ⟨stop, qq⟩ | ⟨go, Nx, hNx, step⟩
  · refine thnF (T.done (X.blk s3 H3 scope ce fp) rfl rfl rfl hc i [] s5 _ H5 (fun _ _ => False) I5 (stat I5 n5) st5 stop) fun r s6 ⟨hr, I6⟩ => ?_
    subst hr
    have I7 : Inv X pins σ H5 s6 := I3.call' (ch := fp) I6.os I6.base I6.hok I6.bare fun b hb => ⟨(f3 b hb).1.2.2.2.1, (f3 b hb).1.2.1, (f3 b hb).1.2.2.2.2.1, (f3 b hb).1.2.2.2.2.2⟩
    have nC : H5 s3.heap.objs.size = none := by
      have z : H5 ce.locals = none := I6.free
      rw [cL] at z
      exact z
    obtain ⟨m, hn, _⟩ := I6.loc
    have hn : s6.heap.Ns ce.locals m := hn
    rw [cL] at hn
    obtain ⟨f0, f1, f2', f3', f4, f5⟩ := I3.fpOk (Nat.le_refl s3.heap.objs.size) nC
    exact ⟨m, hn, fun h'' sb => ⟨.ref D, H5, I7.turned (t' := s6.toks) (fun b o hb e => (sb.2 b hb).trans e) f0 f1 f3' f4 f5, rfl, qq⟩⟩
  · refine thnF (T.item (X.blk s3 H3 scope ce fp) rfl rfl rfl hc i [] s5 _ H5 (fun _ _ => False) I5 (stat I5 n5) st5 go) fun r s6 ⟨u, hr, h6⟩ => ?_
    subst hr
    refine thnF h6 fun _ s7 ⟨x, H7, I7, r7, y7, st7, n7⟩ => ?_
    have I7' := I7.pinned (stat I7 n7) (T.obj _ _ st7)
    refine thnF (pg.run _ s7 _ H7 x u _ I7' r7 (step x H7 y7)) fun _ s8 ⟨σ8, H8, I8, hw8, q8⟩ => ?_
    refine thnF (pt.run _ s8 σ8 H8 _ I8 q8) fun b s9 ⟨H9, I9, q9⟩ => ?_
    have fin : ∀ {s' : Shared} {H' : Hp}, Inv (X.blk s3 H3 scope ce fp) ([] ++ pinsAt fp s7.heap) σ8 H' s' → Nx H' → ∃ m, m < n ∧ ∃ i H', Inv (X.blk s3 H3 scope ce fp) [] (wipe σ (own.map (·.2))) H' s' ∧ tn i s'.heap ∧ (∀ b ∈ fp, H' b = none) ∧ W i m H' := fun {s' H'} I' nx => by
      obtain ⟨m', hm, w'⟩ := hNx H' nx
      have pin' : ∀ b ∈ fp, ∀ o, s7.heap.get? b = some o → s'.heap.get? b = some o ∧ H' b = none := fun b hb o e =>
        let z := I'.pin (b, o) (List.mem_append_right _ (List.mem_append_right _ (mem_pinsAt hb e)))
        ⟨z.1, z.2.1⟩
      have hl : (wipe σ (own.map (·.2))).length = σ8.length := by rw [← hw8, wipe_length]
      refine ⟨m', hm, i + 1, H', (I'.unpinned (pins := [])).weak hl (fun j v e => ?_), T.keep _ _ _ st7 fun b hb o e => (pin' b hb o e).1, fun b hb => ?_, w'⟩
      · rw [← hw8] at e
        exact (wipe_some e).1
      · obtain ⟨o, e, _⟩ := T.obj _ _ st7 b hb
        exact (pin' b hb o e).2
    cases b with
    | false =>
      simp only [Bool.false_eq_true, if_false] at q9 ⊢
      exact fin I9 q9
    | true =>
      simp only [if_true] at q9 ⊢
      refine thnF (pk.run _ s9 σ8 H9 _ I9 q9) fun z s10 ⟨yk, H10, I10, r10, q10⟩ => ?_
      refine thnF (pe.run _ s10 σ8 H10 _ I10 q10) fun z2 s11 ⟨yv, H11, I11, r11, H12, pt', nx⟩ => ?_
      exact dict_set_ok (X := X.blk s3 H3 scope ce fp) hu I11 pt' r10 r11 fun s12 I12 => fin I12 nx
theorem dc_it {J : It} {n : Nat} {Gd : Hp → Prop} {Y : Nat → Hp → V → Hp → Prop} (w : Walk J n Gd Y) {kd : Bool} {g : TG} {tt : TT} {tk tv : TE} {vs : List Nat} {σ : L2.St} {H1 : Hp} {D : Addr} {Qd : Hp → Prop} (Pv : Nat → Hp → Prop) (h0 : Pv 0 (upd H1 D (dNew kd))) (hG : ∀ i H, i ≤ n → Pv i H → Gd H)
    (hs : ∀ i x H H', i < n → Pv i H → Y i H x H' → g x (wipe σ vs) H' fun σ2 H2 => wipe σ2 vs = wipe σ vs ∧ tt σ2 H2 fun b H3 =>
      if b = true then tk σ2 H3 fun y H4 => tv σ2 H4 fun z H5 => ∃ H6, DPut H5 D y z H6 ∧ Pv (i + 1) H6 else Pv (i + 1) H3) (hd : ∀ H, Pv n H → Qd H) :
    ∃ W : Nat → Nat → Hp → Prop, (∃ m, W 0 m (upd H1 D (dNew kd))) ∧ ∀ i m H, W i m H →
      (J.stop i H ∧ Qd H) ∨ (J.go i H ∧ ∃ Nx : Hp → Prop, (∀ H', Nx H' → ∃ m', m' < m ∧ W (i + 1) m' H') ∧ ∀ x H', J.yld i H x H' → g x (wipe σ vs) H' fun σ2 H2 => wipe σ2 vs = wipe σ vs ∧ tt σ2 H2 fun b H3 =>
        if b = true then tk σ2 H3 fun y H4 => tv σ2 H4 fun z H5 => ∃ H6, DPut H5 D y z H6 ∧ Nx H6 else Nx H3) := by
  refine ⟨fun i m H => m = n - i ∧ i ≤ n ∧ Pv i H, ⟨n, by simp, Nat.zero_le _, h0⟩, ?_⟩
  rintro i m H ⟨rfl, hi, p⟩
  have q := hG i H hi p
  by_cases hlt : i < n
  · exact .inr ⟨w.goes i H hlt q, Pv (i + 1), fun H' p' => ⟨n - (i + 1), by omega, rfl, hlt, p'⟩, fun x H' y => hs i x H H' hlt p (w.yields i H x H' hlt q y)⟩
  · have e : i = n := by omega
    subst e
    exact .inl ⟨w.stops H q, hd H p⟩
end
section
variable {X : Cx} {G : Gm} {E : EK} {pos : Pos}
theorem dput {F H : Hp} {a : Addr} {o : HO} {kd : Bool} {kvs : List (D × D)} {y z : V} {dk dv : D} (le : Le F H) (ha : H a = some o) (ob : Ob G F o (.dic kd kvs)) (hk : Dq G F y dk) (ek : (kkey kd dk).isSome = true) (hl : kvs.length < line) (hv : Dq G F z dv) : ∃ o', DPut H a y z (upd H a o') ∧ Ob G F o' (.dic kd (stor kvs dk dv)) ∧ MutO o' := by
  rw [line_eq] at hl
  cases e : kkey kd dk with
  | none => rw [e] at ek; cases ek
  | some kk =>
    cases kd with
    | false =>
      obtain ⟨q, _, rfl, rfl⟩ := kkeyK (hk.vw le) e
      cases ob with
      | dK qa => exact ⟨_, DPut.k ha (by rw [qa.length]; exact hl), .dK (qa.put hv q), trivial⟩
    | true =>
      obtain ⟨q, c, _, rfl, hc, rfl⟩ := kkeyT (hk.vw le) e
      cases ob with
      | dT qa => exact ⟨_, DPut.t ha hc (by rw [qa.length]; exact hl), .dT (qa.put hv q), trivial⟩
theorem dNew_ob {F : Hp} (kd : Bool) : Ob G F (dNew kd) (.dic kd []) ∧ MutO (dNew kd) := by
  cases kd with
  | false => exact ⟨.dK .nil, trivial⟩
  | true => exact ⟨.dT .nil, trivial⟩
theorem dcomp_rd {is : List Nat} {t : Tg} {it : M (List D)} {c : M Bool} {kd : Bool} {fk fv : M RV} (hts : ∀ j ∈ t.ns, j ∈ is) : ∀ σ H Q, tOf G E (eDComp is t it c kd fk fv) σ H Q → tDcA kd (iOf G E it) (tgOf G t) (ttOf G E.no c) (tdOf G E.no (eF fk)) (tdOf G E.no (eF fv)) is σ H Q := fun σ H Q ⟨b, F, r, S, h⟩ => by
  refine ⟨b, F, r, S, h.bnd0.mono fun ds r1 F1 H1 S1 st1 w1 h1 J ok => ?_⟩
  intro L hL
  obtain ⟨hp, rw_, ys, rE, e1, e2, h2⟩ := h1.inBlk
  obtain ⟨Gd, Y, w, g1, g2⟩ := ok
  obtain ⟨S2, o2, n2, gg2, l2⟩ := wip_ok e1 S1
  obtain ⟨fr1, fr2, fr3⟩ := S1.fresh hL
  have S3 : Stt G b F1 (upd H1 L (dNew kd)) (wipe σ is) rw_ := S2.upd1 hL (dNew_ob (F := F1) (G := G) kd).2.ntup
  have nL0 : ¬ Own (wipe σ is) rw_ L := fun z => fr3 (o2 L z)
  have stL : Stp σ r1 F1 H1 F1 (upd H1 L (dNew kd)) := Stp.new S1 hL
  refine dc_it w (fun i H => ∃ F r o accD, Stt G b F H (wipe σ is) r ∧ Stp σ r1 F1 H1 F H ∧ (∀ a, Own (wipe σ is) r a → Own σ r1 a) ∧ F L = none ∧ H L = some o ∧ Ob G F o (.dic kd accD) ∧ MutO o ∧ dcGo is t c kd fk fv (ds.drop i) accD r = .ok ys rE)
    ⟨F1, rw_, _, [], S3, stL, o2, fr1, upd_same, (dNew_ob kd).1, (dNew_ob (F := F1) (G := G) kd).2, e2⟩ (fun i H hi ⟨F, r, o, accD, S, st, _⟩ => g1 F H _ r S st.gF) ?_ ?_
  · rintro i x H2 H3 hi ⟨F2, r2, o, accD, S, st, ow, fL, hLs, qa, mo, run⟩ y
    obtain ⟨F3, d, ed, S', st', dq⟩ := g2 i F2 H2 _ r2 x H3 hi S st.gF y
    have edr : ds.drop i = d :: ds.drop (i + 1) := by
      obtain ⟨hi', e⟩ := List.getElem?_eq_some_iff.mp ed
      rw [List.drop_eq_getElem_cons hi', e]
    rw [edr] at run
    have nL : ¬ Own (wipe σ is) r2 L := fun z => fr3 (ow L z)
    have keepL : ∀ {σ' : L2.St} {r' : Env} {Fa Ha Fb Hb : Hp} {u : HO}, Stp σ' r' Fa Ha Fb Hb → ¬ Own σ' r' L → Fa L = none → Ha L = some u → Fb L = none ∧ Hb L = some u := fun {σ' r' Fa Ha Fb Hb u} st n f h => by
      refine ⟨?_, st.kH L u h n⟩
      cases e : Fb L with
      | none => rfl
      | some u' =>
        rcases st.nF L u' e with q | q | q
        · rw [f] at q; cases q
        · exact (n q).elim
        · rw [h] at q; cases q
    obtain ⟨fL3, hL3⟩ := keepL st' nL fL hLs
    have st3 : Stp σ r1 F1 H1 F3 H3 := st.then' ow st'
    refine ⟨b, F3, r2, d, S', dq, ?_⟩
    have run : (bnd (asg t d) fun _ => bnd c fun x => if x then (bnd (eF fk) fun y => bnd (eF fv) fun z => bnd (wip is) fun _ => if (kkey kd y).isSome = true ∧ accD.length < line then dcGo is t c kd fk fv (ds.drop (i + 1)) (stor accD y z) else badM) else (bnd (wip is) fun _ => dcGo is t c kd fk fv (ds.drop (i + 1)) accD)) r2 = .ok ys rE := run
    unfold bnd at run
    cases e3 : asg t d r2 with
    | exc y r3 => rw [e3] at run; cases run
    | bad => rw [e3] at run; cases run
    | ok u r3 =>
      rw [e3] at run
      intro σ3 S4 b4 o4
      have hw : wipe σ3 is = wipe σ is := by
        have z : wipe σ3 is = wipe (wipe σ is) is := wipe_ext b4.len fun j hj => b4.get j fun q => hj (hts j q)
        rw [z]
        exact wipe_ext (wipe_length _ _) fun j hj => wipe_out hj
      refine ⟨hw, b, F3, r3, S4, ?_⟩
      simp only at run
      cases e4 : c r3 with
      | exc y r4 => rw [e4] at run; cases run
      | bad => rw [e4] at run; cases run
      | ok k r4 =>
        rw [e4] at run
        intro F4 H4 S5 st5 w5
        have ow3 : ∀ a, Own σ3 r3 a → Own σ r1 a := fun a z => ow a (o4 a z)
        have ow4 : ∀ a, Own σ3 r4 a → Own σ r1 a := fun a z => ow3 a (w5 a z)
        obtain ⟨fL4, hL4⟩ := keepL st5 (fun z => fr3 (ow3 L z)) fL3 hL3
        have st4 : Stp σ r1 F1 H1 F4 H4 := st3.then' ow3 st5
        cases k with
        | false =>
          refine iteF ?_
          have run : bnd (wip is) (fun _ => dcGo is t c kd fk fv (ds.drop (i + 1)) accD) r4 = .ok ys rE := run
          unfold bnd at run
          cases e5 : wip is r4 with
          | exc y r5 => rw [e5] at run; cases run
          | bad => rw [e5] at run; cases run
          | ok u r5 =>
            rw [e5] at run
            obtain ⟨S6, o6, _⟩ := wip_ok e5 S5
            rw [hw] at S6 o6
            exact ⟨F4, r5, o, accD, S6, st4, fun a z => ow4 a (o6 a z), fL4, hL4, qa.mono (st'.gF.trans st5.gF), mo, run⟩
        | true =>
          refine iteT ?_
          have run : bnd (eF fk) (fun y => bnd (eF fv) fun z => bnd (wip is) fun _ => if (kkey kd y).isSome = true ∧ accD.length < line then dcGo is t c kd fk fv (ds.drop (i + 1)) (stor accD y z) else badM) r4 = .ok ys rE := run
          unfold bnd at run
          refine ⟨b, F4, r4, S5, ?_⟩
          cases e6 : eF fk r4 with
          | exc y r5 => rw [e6] at run; cases run
          | bad => rw [e6] at run; cases run
          | ok y r5 =>
            rw [e6] at run
            simp only at run
            intro F5 H5 S6 st6 w6 vk qk
            obtain ⟨fL5, hL5⟩ := keepL st6 (fun z => fr3 (ow4 L z)) fL4 hL4
            have st7 : Stp σ r1 F1 H1 F5 H5 := st4.then' ow4 st6
            have ow5 : ∀ a, Own σ3 r5 a → Own σ r1 a := fun a z => ow4 a (w6 a z)
            refine ⟨b, F5, r5, S6, ?_⟩
            cases e7 : eF fv r5 with
            | exc y r6 => rw [e7] at run; cases run
            | bad => rw [e7] at run; cases run
            | ok z r6 =>
              rw [e7] at run
              simp only at run
              intro F6 H6 S7 st8 w7 vv qv
              obtain ⟨fL6, hL6⟩ := keepL st8 (fun z => fr3 (ow5 L z)) fL5 hL5
              have st9 : Stp σ r1 F1 H1 F6 H6 := st7.then' ow5 st8
              have ow6 : ∀ a, Own σ3 r6 a → Own σ r1 a := fun a z => ow5 a (w7 a z)
              cases e8 : wip is r6 with
              | exc y r7 => rw [e8] at run; cases run
              | bad => rw [e8] at run; cases run
              | ok u r7 =>
                rw [e8] at run
                simp only at run
                by_cases hl : (kkey kd y).isSome = true ∧ accD.length < line
                · rw [if_pos hl] at run
                  obtain ⟨S8, o8, _⟩ := wip_ok e8 S7
                  rw [hw] at S8 o8
                  have ow8 : ∀ a, Own (wipe σ is) r7 a → Own σ r1 a := fun a z => ow6 a (o8 a z)
                  have ob6 : Ob G F6 o (.dic kd accD) := qa.mono (st'.gF.trans (st5.gF.trans (st6.gF.trans st8.gF)))
                  obtain ⟨o', hput, ob', mo'⟩ := dput S7.sub hL6 ob6 (qk.mono st8.gF) hl.1 hl.2 qv
                  have S9 : Stt G b F6 (upd H6 L o') (wipe σ is) r7 := S8.poke fL6 (fun z => fr3 (ow8 L z)) fr2 (by rw [hL6]; exact fun z => nomatch z) mo'.ntup
                  refine ⟨_, hput, F6, r7, o', stor accD y z, S9, ⟨st9.gF, fun a o q n => ?_, st9.nF, fun a q => ?_⟩, ow8, fL6, upd_same, ob', mo', run⟩
                  · have z : a ≠ L := fun z => by rw [z, hL] at q; cases q
                    rw [upd_ne z]
                    exact st9.kH a o q n
                  · by_cases z : a = L
                    · rw [z]; exact hL
                    · rw [upd_ne z] at q; exact st9.th a q
                · rw [if_neg hl] at run
                  cases run
  · rintro H2 ⟨F2, r2, o, accD, S, st, ow, fL, hLs, qa, mo, run⟩
    rw [List.drop_length] at run
    have z1 : ys = accD ∧ rE = r2 := by
      unfold dcGo at run
      cases run
      exact ⟨rfl, rfl⟩
    obtain ⟨rfl, rfl⟩ := z1
    obtain ⟨S4, o4⟩ := S1.rest hp S st.gF
    refine h2 F2 H2 S4 (st1.trans w1 st) (fun a z => w1 a (ow a (o4 a z))) _ (.tmp fL hLs qa mo (fun z => fr3 (ow L (o4 L z))) (st1.th L hL))
theorem de_dcomp {kx vx tg iter : Expr} {ifs : List Expr} {scope : Scope} {own : List (Str × Nat)} {is : List Nat} {t : Tg} {it : M (List D)} {c : M Bool} {kd : Bool} {fk fv : M RV} (hu : X.A.units + 1 < cLine) (hc : X.calm = true) (hN : X.N.Nodup) (his : own.map (·.2) = is) (hts : ∀ j ∈ t.ns, j ∈ is) (hi : PI X tg iter (iOf G E it)) (ok : BlkOk X.N X.env.scope scope own)
    (hg : ∀ (s : Shared) (H : Hp) (C : Addr) (cl : List (Str × Addr)) (fp : List Addr), PG (X.blk s H scope (compEnvC scope cl C X.env) fp) tg (tgOf G t)) (ht : ∀ (s : Shared) (H : Hp) (C : Addr) (cl : List (Str × Addr)) (fp : List Addr), PTs (X.blk s H scope (compEnvC scope cl C X.env) fp) ifs (ttOf G E.no c))
    (hk : ∀ (s : Shared) (H : Hp) (C : Addr) (cl : List (Str × Addr)) (fp : List Addr), PE (X.blk s H scope (compEnvC scope cl C X.env) fp) kx (tOf G E.no fk))
    (he : ∀ (s : Shared) (H : Hp) (C : Addr) (cl : List (Str × Addr)) (fp : List Addr), PE (X.blk s H scope (compEnvC scope cl C X.env) fp) vx (tOf G E.no fv)) (hs : ∀ x, foldedSetIterable iter X.env x = pure x := by intro _; rfl) :
    PE X (.DictComp kx vx [⟨tg, iter, ifs, 0⟩] scope pos) (tOf G E (eDComp is t it c kd fk fv)) := by
  subst his
  exact PE_mono (pe_dcA hu hc hN hi ok hg ht (fun s H C cl fp => de_eF (hk s H C cl fp)) (fun s H C cl fp => de_eF (he s H C cl fp)) hs) (dcomp_rd hts)
theorem de_dict0 {kd : Bool} : PE X (.Dict [] [] pos) (tOf G E (eDict0 kd)) := by
  cases kd with
  | false =>
    refine PE_mono pe_dnewK fun σ H Q ⟨b, F, r, S, h⟩ p hp => ?_
    obtain ⟨S2, st2, q2⟩ := (NewR.tmp (G := G) (F := F) (H := H) (o := .dK []) (d := .dic false []) hp (.dK .nil) trivial).ok (H0 := H) S fun _ z => z
    exact h _ _ S2 st2 Fewer.refl _ q2
  | true =>
    refine PE_mono pe_dnewT fun σ H Q ⟨b, F, r, S, h⟩ p hp => ?_
    obtain ⟨S2, st2, q2⟩ := (NewR.tmp (G := G) (F := F) (H := H) (o := .dT []) (d := .dic true []) hp (.dT .nil) trivial).ok (H0 := H) S fun _ z => z
    exact h _ _ S2 st2 Fewer.refl _ q2
end
end DL

end

section
set_option Elab.async false
set_option linter.all false
set_option maxRecDepth 100000
set_option maxHeartbeats 1000000
/-! Comparisons as tests, chains, and/or/not as values, truth. -/
namespace DL
open PySem L2 PyProof.Rows
/-- a value that is a bool -/
def asB : RV → M Bool
  | .fz (.bl b) => pur b
  | _ => badM
def eAndV (a b : M RV) : M RV := bnd a fun x => bnd (asB x) fun c => if c then b else pur (.fz (.bl false))
def eOrV (a b : M RV) : M RV := bnd a fun x => bnd (asB x) fun c => if c then pur (.fz (.bl true)) else b
def eNotV (a : M RV) : M RV := bnd a fun x => bnd (asB x) fun c => pur (.fz (.bl (!c)))
/-- a op b op' c -/
def eChain (f g : D → D → Option RV) (a b c : M RV) : M RV := bnd (eF a) fun d => bnd (eF b) fun e => bnd (lift (f d e)) fun z => bnd (asB z) fun k => if k then (bnd (eF c) fun h => bnd (lift (g e h)) fun z => bnd (asB z) fun k => pur (.fz (.bl k))) else pur (.fz (.bl false))
section
variable {X : Cx} {G : Gm} {E : EK} {a c e : Expr} {es : List Expr} {fa fb fc : M RV} {pos : Pos}
theorem Out.liftB {b : Bas} {F H : Hp} {σ : L2.St} {r r1 : Env} {α β : Type} {o : Option α} {k : α → M β} {K : β → Env → Hp → Hp → Prop} (h : Out G E b F H σ r (DL.bnd (DL.lift o) k r1) K) : ∃ a, o = some a ∧ Out G E b F H σ r (k a r1) K := by
  cases o with
  | none => exact False.elim h
  | some a => exact ⟨a, rfl, h⟩
theorem asB_ok {b : Bas} {F H F1 H1 H0 : Hp} {σ : L2.St} {r r1 : Env} {α : Type} {x : RV} {v : V} {k : Bool → M α} {K : α → Env → Hp → Hp → Prop} (h : Out G E b F H σ r (bnd (asB x) k r1) K) (q : RvR G F1 H1 H0 σ r1 x v) : ∃ c, v = .bl c ∧ x = .fz (.bl c) ∧ Out G E b F H σ r (k c r1) K := by
  cases q with
  | fz q =>
    rename_i d
    cases q with
    | bl k => exact ⟨k, rfl, rfl, h⟩
    | ref _ ob => cases ob <;> exact False.elim h
    | scr _ _ => exact False.elim h
    | _ => exact False.elim h
  | _ => exact False.elim h
theorem tV_eq (f : M RV) : tV f = bnd f asB := congrArg (bnd f) (funext fun x => by
  cases x with
  | fz d => cases d <;> rfl
  | _ => rfl)
theorem tV_rd : ∀ σ H Q, ttOf G E (tV fa) σ H Q → tOf G E fa σ H fun x H1 => ∃ k, x = .bl k ∧ Q k H1 := fun σ H Q ⟨b, F, r, S, h⟩ => by
  rw [tV_eq] at h
  refine ⟨b, F, r, S, h.bnd0.mono fun rv r1 F1 H1 S1 st1 w1 h1 v q => ?_⟩
  rw [← bnd_pur (asB rv)] at h1
  obtain ⟨k, e1, e2, h2⟩ := asB_ok h1 q
  exact ⟨k, e1, h2 F1 H1 S1 st1 w1⟩
/-- a comparison as a test -/
theorem dt_cmp {op : CmpOp} {r : R2} {g : D → D → Option RV} (ho : OpR X (compareOp op) r) (hr : OpD G r g) (ha : PE X a (tOf G E fa)) (hb : PE X c (tOf G E fb)) (hm : behindInMarks op c = false) : PT X (.Compare a [op] [c] pos) (ttOf G E (tV (eOp2 g fa fb))) :=
  PT_mono (pt_cmpR ho ha hb hm) fun σ H Q h => by
    have h1 := op2_rd hr σ H _ (tV_rd σ H Q h)
    exact h1
theorem chain_rd {r r' : R2} {f g : D → D → Option RV} (hr : OpD G r f) (hr' : OpD G r' g) : ∀ σ H Q, tOf G E (eChain f g fa fb fc) σ H Q → tChain r r' (tdOf G E (eF fa)) (tdOf G E (eF fb)) (tdOf G E (eF fc)) σ H Q := fun σ H Q ⟨b, F, en, S, h⟩ => by
  refine ⟨b, F, en, S, h.bnd.mono fun d r1 F1 H1 S1 st1 w1 h1 v1 q1 => ⟨b, F1, r1, S1, h1.bnd.mono fun d2 r2 F2 H2 S2 st2 w2 h2 v2 q2 => ?_⟩⟩
  obtain ⟨z, ez, h2⟩ := h2.liftB
  have q1' := q1.mono st2.gF
  refine hr F2 H2 v1 v2 d d2 z _ S2.sub S2.tp (q1'.vw S2.sub) (q2.vw S2.sub) ez fun v F3 H3 n => ?_
  have nq : ∃ k, v = .bl k ∧ z = .fz (.bl k) ∧ F3 = F2 ∧ H3 = H2 := by
    cases n with
    | old q =>
      obtain ⟨k, e1, e2, _⟩ := asB_ok h2 (RvR.fz (H := H2) (H0 := H2) (σ := σ) (r := r2) q)
      exact ⟨k, e1, e2, rfl, rfl⟩
    | tmp _ _ _ => exact False.elim h2
    | new hp ob => cases ob <;> exact False.elim h2
  obtain ⟨k, rfl, rfl, rfl, rfl⟩ := nq
  have h2 : Out G E b F3 H3 σ r2 ((if k then (bnd (eF fc) fun h => bnd (lift (g d2 h)) fun z => bnd (asB z) fun k => pur (.fz (.bl k))) else pur (.fz (.bl false)) : M RV) r2) _ := h2
  refine ⟨k, rfl, ?_⟩
  cases k with
  | false =>
    refine iteF ?_
    exact h2 F3 H3 S2 Stp.refl Fewer.refl _ (.fz (.bl false))
  | true =>
    refine iteT ⟨b, F3, r2, S2, h2.bnd.mono fun d3 r4 F4 H4 S4 st4 w4 h4 v4 q4 => ?_⟩
    obtain ⟨z, ez, h4⟩ := h4.liftB
    refine hr' F4 H4 v2 v4 d2 d3 z Q S4.sub S4.tp ((q2.mono st4.gF).vw S4.sub) (q4.vw S4.sub) ez fun v F5 H5 n => ?_
    have nq : ∃ k, v = .bl k ∧ z = .fz (.bl k) ∧ F5 = F4 ∧ H5 = H4 := by
      cases n with
      | old q =>
        obtain ⟨k, e1, e2, _⟩ := asB_ok h4 (RvR.fz (H := H4) (H0 := H4) (σ := σ) (r := r4) q)
        exact ⟨k, e1, e2, rfl, rfl⟩
      | tmp _ _ _ => exact False.elim h4
      | new hp ob => cases ob <;> exact False.elim h4
    obtain ⟨k, rfl, rfl, rfl, rfl⟩ := nq
    exact h4 F5 H5 S4 Stp.refl Fewer.refl _ (.fz (.bl k))
theorem de_chain {op op' : CmpOp} {r r' : R2} {f g : D → D → Option RV} (ho : OpR X (compareOp op) r) (ho' : OpR X (compareOp op') r') (hr : OpD G r f) (hr' : OpD G r' g) (ha : PE X a (tOf G E fa)) (hb : PE X c (tOf G E fb)) (hc : PE X e (tOf G E fc))
    (hm : lastMarks [op, op'] [c, e] = false := by with_unfolding_all rfl) : PE X (.Compare a [op, op'] [c, e] pos) (tOf G E (eChain f g fa fb fc)) :=
  PE_mono (pe_chain ho ho' (de_eF ha) (de_eF hb) (de_eF hc) hm) (chain_rd hr hr')
/-! ### and, or, not as values -/
theorem de_one {op : BoolOp} (h : PE X a (tOf G E fa)) : PE X (.BoolOp op [a] pos) (tOf G E fa) := pe_one h
theorem old_rd {b : E.B} {F1 H1 H : Hp} {σ : L2.St} {r1 : Env} {f : M RV} {Q : VK} (S1 : Stt G b.1 F1 H1 σ r1) (th : ∀ a, H1 a = none → H a = none) (h : Out G E b.1 F1 H1 σ r1 (f r1) (fun rv r1 F1 H1 => ∀ v, RvR G F1 H1 H σ r1 rv v → Q v H1)) : tOf G E f σ H1 Q :=
  ⟨b, F1, r1, S1, h.mono fun rv r2 F2 H2 S2 st2 w2 h2 v q => h2 v (q.older th)⟩
theorem de_and (ha : PE X a (tOf G E fa)) (hb : PE X (.BoolOp .And (c :: es) pos) (tOf G E fb)) : PE X (.BoolOp .And (a :: c :: es) pos) (tOf G E (eAndV fa fb)) := PE_mono (pe_and ha hb) fun σ H Q ⟨b, F, r, S, h⟩ => by
  refine ⟨b, F, r, S, h.bnd.mono fun rv r1 F1 H1 S1 st1 w1 h1 v q => ?_⟩
  obtain ⟨k, e1, e2, h2⟩ := asB_ok h1 q
  refine ⟨k, e1, ?_⟩
  cases k with
  | true => exact iteT (old_rd S1 st1.th h2)
  | false => exact iteF (h2 F1 H1 S1 Stp.refl Fewer.refl _ (.fz (.bl false)))
theorem de_not (ha : PE X a (tOf G E fa)) : PE X (.UnaryOp .Not a pos) (tOf G E (eNotV fa)) := PE_mono (pe_not ha) fun σ H Q ⟨b, F, r, S, h⟩ => by
  refine ⟨b, F, r, S, h.bnd.mono fun rv r1 F1 H1 S1 st1 w1 h1 v q => ?_⟩
  obtain ⟨k, e1, e2, h2⟩ := asB_ok h1 q
  exact ⟨k, e1, h2 F1 H1 S1 Stp.refl Fewer.refl _ (.fz (.bl (!k)))⟩
/-! ### truth of a value -/
end
end DL

end

section
set_option Elab.async false
set_option linter.all false
set_option maxRecDepth 100000
set_option maxHeartbeats 1000000
/-! Instances: attributes, methods, making. -/
namespace DL
open PySem L2 PyProof.Rows
/-- the attribute number k of an instance of the class c -/
def oFld (cs : List Nat) (k : Nat) : D → Option RV
  | .ins c ds => if c ∈ cs then (ds[k]?).map .fz else none
  | _ => none
def mFld (cs : List Nat) (k : Nat) (d : D) (as : List D) : Option (D × D) := match d, as with
  | .ins c ds, [v] => if c ∈ cs ∧ ds.length < 1000 then (if k = ds.length then some (.ins c (ds ++ [v]), .non) else if k < ds.length then some (.ins c (ds.set k v), .non) else none) else none
  | _, _ => none
/-- x.f = e, x in slot i -/
def sFldSet (i : Nat) (cs : List Nat) (k : Nat) (e : M RV) : S := bnd (eF e) fun d => bnd (eVar i) fun _ => bnd (mutAt i (mFld cs k) [d]) fun _ => pur .nx
/-- an instance of the class c -/
def chk (c : Nat) (o : M RV) : M RV := bnd o fun x => bnd (vwM x) fun d => match d with
  | .ins c' _ => if c' = c then pur x else badM
  | _ => badM
/-- o.m(a, ..) -/
def eMeth (c : Nat) (f : Fn) (o : M RV) (as : List (M RV)) : M RV := eCall f (chk c o :: as)
/-- C(a, ..) -/
def makeFn (c : Nat) (f : Fn) (vs : List RV) : M RV := fun r => match callFn f (.loc r.length :: vs) (r ++ [.own (.ins c [])]) with
  | .ok (.fz .non) r' => (match r'[r.length]? with
    | some (.own d) => .ok (.tmp d) (r'.take r.length)
    | some (.val d) => .ok (.fz d) (r'.take r.length)
    | _ => .bad)
  | .exc x r' => .exc x (r'.take r.length)
  | _ => .bad
def eMake (c : Nat) (f : Fn) (as : List (M RV)) : M RV := bnd (eArgs as) fun vs => makeFn c f vs
section
variable {G : Gm} {F : Hp}
theorem DqF.look {f : Str} {d : D} : ∀ {ns : List Str} {fs : List (Str × V)} {ds : List D} {k : Nat}, DqF G F ns fs ds → ns.Nodup → ns[k]? = some f → ds[k]? = some d → ∃ v, fs.lookup f = some v ∧ Dq G F v d
  | ns, [], ds, k, h, nd, hn, hd => by cases h; simp at hd
  | ns, (n, v) :: fs, ds, k, h, nd, hn, hd => by
    cases h with
    | @cons _ ns v _ d0 ds q t =>
      cases k with
      | zero =>
        cases Option.some.inj hn
        cases Option.some.inj hd
        exact ⟨v, by simp [List.lookup], q⟩
      | succ k =>
        obtain ⟨v', e1, e2⟩ := DqF.look t (List.nodup_cons.mp nd).2 (by simpa using hn) (by simpa using hd)
        have ne : f ≠ n := fun e => (List.nodup_cons.mp nd).1 (e ▸ List.mem_of_getElem? (i := k) (by simpa using hn))
        have eb : (f == n) = false := by simpa using ne
        exact ⟨v', by simp [List.lookup, eb, e1], e2⟩
theorem DqF.putL {f : Str} {d : D} {v : V} : ∀ {ns : List Str} {fs : List (Str × V)} {ds : List D}, DqF G F ns fs ds → ns.Nodup → ns[ds.length]? = some f → Dq G F v d → DqF G F ns (putF f v fs) (ds ++ [d])
  | ns, [], ds, h, nd, hn, qv => by
    cases h
    cases ns with
    | nil => simp at hn
    | cons n ns =>
      have e : n = f := by simpa using hn
      subst e
      exact .cons qv .nil
  | ns, (n, v') :: fs, ds, h, nd, hn, qv => by
    cases h with
    | @cons _ ns _ _ d0 ds q t =>
      have hn' : ns[ds.length]? = some f := by simpa using hn
      have ne : n ≠ f := fun e => (List.nodup_cons.mp nd).1 (e ▸ List.mem_of_getElem? hn')
      show DqF G F (n :: ns) (if n = f then (n, v) :: fs else (n, v') :: putF f v fs) (d0 :: (ds ++ [d]))
      rw [if_neg ne]
      exact .cons q (DqF.putL t (List.nodup_cons.mp nd).2 hn' qv)
theorem DqF.putS {f : Str} {d : D} {v : V} : ∀ {ns : List Str} {fs : List (Str × V)} {ds : List D} {k : Nat}, DqF G F ns fs ds → ns.Nodup → ns[k]? = some f → k < ds.length → Dq G F v d → DqF G F ns (putF f v fs) (ds.set k d)
  | ns, [], ds, k, h, nd, hn, hk, qv => by cases h; simp at hk
  | ns, (n, v') :: fs, ds, k, h, nd, hn, hk, qv => by
    cases h with
    | @cons _ ns _ _ d0 ds q t =>
      cases k with
      | zero =>
        have e : n = f := by simpa using hn
        show DqF G F (n :: ns) (if n = f then (n, v) :: fs else (n, v') :: putF f v fs) (d :: ds)
        rw [if_pos e]
        exact .cons qv t
      | succ k =>
        have hn' : ns[k]? = some f := by simpa using hn
        have ne : n ≠ f := fun e => (List.nodup_cons.mp nd).1 (e ▸ List.mem_of_getElem? hn')
        show DqF G F (n :: ns) (if n = f then (n, v) :: fs else (n, v') :: putF f v fs) (d0 :: ds.set k d)
        rw [if_neg ne]
        exact .cons q (DqF.putS t (List.nodup_cons.mp nd).2 hn' (by simpa using hk) qv)
theorem DqF.names : ∀ {ns : List Str} {fs : List (Str × V)} {ds : List D}, DqF G F ns fs ds → ∀ m, m ∉ ns → fs.lookup m = none
  | ns, [], ds, h, m, hm => rfl
  | ns, (n, v) :: fs, ds, h, m, hm => by
    cases h with
    | @cons _ ns _ _ d0 ds q t =>
      have ne : m ≠ n := fun e => hm (e ▸ List.mem_cons_self)
      have eb : (m == n) = false := by simpa using ne
      have := DqF.names t m fun z => hm (List.mem_cons_of_mem _ z)
      simp [List.lookup, eb, this]
theorem DqF.len : ∀ {ns : List Str} {fs : List (Str × V)} {ds : List D}, DqF G F ns fs ds → fs.length = ds.length
  | ns, [], ds, h => by cases h; rfl
  | ns, (n, v) :: fs, ds, h => by
    cases h with
    | cons q t => exact congrArg (· + 1) (DqF.len t)
end
/-- the attribute number k of the class number c is f -/
structure FldOk1 (K : PySem.W.Frag) (G : Gm) (c k : Nat) (f : Str) : Prop where
  nm : (G.cf c)[k]? = some f
  nd : (G.cf c).Nodup
  cl : Cls K (G.ct c)
  na : NoAttr K (G.ct c) f
def FldOk (K : PySem.W.Frag) (G : Gm) (cs : List Nat) (k : Nat) (f : Str) : Prop := ∀ c ∈ cs, FldOk1 K G c k f
section
variable {X : Cx} {G : Gm} {E : EK} {c k i : Nat} {cs : List Nat} {f x : Str} {e o : Expr} {es : List Expr} {fa fo : M RV} {fs : List (M RV)} {pos pos' p apos : Pos}
theorem od_fld (ok : FldOk X.K G cs k f) : OpD1 G (fun v H Q => ∃ a C dx fs u, v = .ref a ∧ H a = some (.ins C dx fs) ∧ Cls X.K C ∧ NoAttr X.K C f ∧ fs.lookup f = some u ∧ Q u H) (oFld cs k) := fun F H x d rv Q le tp hx g q => by
  unfold oFld at g
  split at g
  · rename_i c' ds
    split at g
    · rename_i ec
      replace ok := ok c' ec
      cases ed : ds[k]? with
      | none => rw [ed] at g; cases g
      | some d =>
        rw [ed] at g
        cases g
        obtain ⟨a, dx, fs, rfl, ha, qa⟩ := hx.ins_
        obtain ⟨u, e1, e2⟩ := qa.look ok.nd ok.nm ed
        exact ⟨a, _, dx, fs, u, rfl, ha, ok.cl, ok.na, e1, q _ _ _ (.old e2)⟩
    · cases g
  · cases g
/-- e.f -/
theorem de_fld (ok : FldOk X.K G cs k f) (he : PE X e (tOf G E fa)) (hb : attributeBase e f X.env (eval e X.env) = eval e X.env := by rfl) : PE X (.Attribute e f pos) (tOf G E (eOp1 (oFld cs k) fa)) :=
  PE_mono (pe_fld he hb) (op1_rd (od_fld ok))
/-- x.f = e -/
theorem ds_fld (ok : FldOk X.K G cs k f) (hx : PE X (.Name x p) (tVar i)) (he : PE X e (tOf G E fa)) (hs : swapsWith e (some (.Attribute (.Name x p) f pos')) pos.line X.env = pure false := by rfl) : PS X (.Assign [.Attribute (.Name x p) f pos'] e pos) (tsOf G E (sFldSet i cs k fa)) :=
  PS_mono (ps_fld hx (de_eF he) hs) fun D σ H ⟨b, F, r, S, h⟩ => by
    refine ⟨b, F, r, S, (OutS.bnd h).mono fun d r1 F1 H1 S1 st1 w1 h1 v1 q1 => ?_⟩
    have hvr : OutS G E b F (bnd (mutAt i (mFld cs k) [d]) (fun _ => pur .nx) r1) D := by
      unfold bnd eVar at h1
      split at h1
      · rename_i a r2 e1
        split at e1 <;> cases e1 <;> exact h1
      · rename_i x1 r2 e1
        split at e1 <;> cases e1
      · exact False.elim h1
    obtain ⟨a, o, d0, d', c0, e2, fa, ha, ob, hf, kk⟩ := mutAt_ok (OutS.bnd (F := F1) (H := H1) (σ := σ) hvr st1.gF) S1
    refine ⟨_, e2, ?_⟩
    unfold mFld at hf
    split at hf
    · rename_i c' ds v0 e0
      cases e0
      split at hf
      · rename_i hc
        obtain ⟨hc, hl⟩ := hc
        replace ok := ok c' hc
        cases ob with
        | @ins dx _ fs _ qa =>
          refine ⟨a, _, dx, fs, rfl, ha, ok.cl, ok.na, by rw [qa.len]; exact hl, ?_⟩
          have put : Ob G F1 (.ins (G.ct c') dx (putF f v1 fs)) d' := by
            split at hf
            · rename_i ek
              cases hf
              subst ek
              exact .ins (qa.putL ok.nd ok.nm q1)
            · split at hf
              · rename_i hk
                cases hf
                exact .ins (qa.putS ok.nd ok.nm hk q1)
              · cases hf
          obtain ⟨r', S3, st3, w3, k3⟩ := kk _ put trivial
          exact k3 σ F1 _ S3 st1.gF
      · cases hf
    · cases hf
/-! ### methods -/
theorem args_rd {fs : List (M RV)} : ∀ σ H (Q : List V → Hp → Prop), taOf G E (eArgs (fa :: fs)) σ H Q → tOf G E fa σ H fun v H1 => taOf G E (eArgs fs) σ H1 fun vs H2 => Q (v :: vs) H2 := fun σ H Q ⟨b, F, r, S, h⟩ => by
  refine ⟨b, F, r, S, h.bnd.mono fun rv r1 F1 H1 S1 st1 w1 h1 v q => ⟨b, F1, r1, S1, h1.bnd.mono fun rvs r2 F2 H2 S2 st2 w2 h2 vs qs => ?_⟩⟩
  refine h2 F2 H2 S2 Stp.refl Fewer.refl (v :: vs) (.cons (q.pass st2 w2) (qs.older st1.th) fun d ed j d' ej ev => ?_)
  subst ed
  obtain ⟨v', e1, q'⟩ := qs.get ej
  rw [ev] at e1
  cases e1
  cases q with
  | tmp h1 h2 h3 h4 h5 h6 =>
    cases q' with
    | tmp g1 g2 g3 g4 g5 g6 =>
      rw [h2] at g6
      cases g6
theorem Out.vwMB {b : Bas} {F H : Hp} {σ : L2.St} {r r1 : Env} {β : Type} {x : RV} {k : D → M β} {K : β → Env → Hp → Hp → Prop} (h : Out G E b F H σ r (DL.bnd (DL.vwM x) k r1) K) : ∃ d, vw r1 x = some d ∧ Out G E b F H σ r (k d r1) K := by
  unfold DL.bnd DL.vwM at h
  cases e : vw r1 x with
  | none =>
    rw [e] at h
    exact False.elim h
  | some d =>
    rw [e] at h
    exact ⟨d, rfl, h⟩
theorem chk_rd {m : Str} (hm : m ∉ G.cf c) : ∀ σ H (Q : VK), tOf G E (chk c fo) σ H Q → tOf G E fo σ H fun x H1 => ∃ a dx fs, x = .ref a ∧ H1 a = some (.ins (G.ct c) dx fs) ∧ fs.lookup m = none ∧ Q x H1 := fun σ H Q ⟨b, F, r, S, h⟩ => by
  refine ⟨b, F, r, S, h.bnd0.mono fun rv r1 F1 H1 S1 st1 w1 h1 v q => ?_⟩
  obtain ⟨d, e1, h2⟩ := h1.vwMB
  have hx := q.view S1 e1
  cases d with
  | ins c' ds =>
    have h2 : Out G E b F H σ r ((if c' = c then pur rv else badM : M RV) r1) _ := h2
    by_cases ec : c' = c
    · subst ec
      rw [if_pos rfl] at h2
      obtain ⟨a, dx, fs, rfl, ha, qa⟩ := hx.ins_
      exact ⟨a, dx, fs, rfl, ha, qa.names m hm, h2 F1 H1 S1 st1 w1 _ q⟩
    · rw [if_neg ec] at h2
      exact False.elim h2
  | _ => exact False.elim h2
theorem de_meth {E1 : XK} {pb : Bas → Prop} {pl : Sem Bool} {m : Str} {lv : Nat} {f : Addr} {fd : FuncData} {ps : List Str} {g : Fn} (hmn : m ∉ G.cf c) (he : PE X o (tOf G (.un E1 pb) fo)) (cl : Cls X.K (G.ct c)) (hm : Meth X.K (G.ct c) m f) (Fk : FnOk X.prog X.w X.K X.mg X.base (L2N.CX X.prog X.w) lv f fd ps (spOf G g)) (hr : Room lv X.A) (hb : Binds X.K fd ps []) (hx : Passes (L2N.CX X.prog X.w) X E1) (ha : PA X (e :: es) (taOf G (.un E1 pb) (eArgs fs)))
    (hst : starEach (e :: es) X.env = (false, eval e X.env) :: starEach es X.env := by rfl) (hpl : (backTo pos (starEach es X.env)).any (·.1) = false := by rfl)
    (ht : eval (.Call (.Attribute o m apos) (e :: es) [] pos) X.env = (do
      let ov ← eval o X.env
      standAt apos.atName
      let (f, first) ← holding [ov] (getMethod ov m pl)
      callWith pos f first (backTo pos (starEach (e :: es) X.env)) (backToKw pos (keywordEach [] X.env))) := by rfl) :
    PE X (.Call (.Attribute o m apos) (e :: es) [] pos) (tOf G (.un E1 pb) (eMeth c g fo fs)) :=
  PE_mono (pe_methG he cl hm Fk hr hb hx ha hst hpl ht) fun σ H Q h => by
    have z := chk_rd hmn σ H _ (args_rd σ H _ (call_rd σ H Q h))
    show tOf G (.un E1 pb) fo σ H fun x H1 => ∃ a dx fs', x = .ref a ∧ H1 a = some (.ins (G.ct c) dx fs') ∧ fs'.lookup m = none ∧ taOf G (.un E1 pb) (eArgs fs) σ H1 fun vs H2 => spOf G g (x :: (vs ++ [])) H2 Q E1
    simpa only [List.append_nil] using z
end
end DL

end

section
set_option Elab.async false
set_option linter.all false
set_option maxRecDepth 100000
set_option maxHeartbeats 1000000
/-! Making an instance. -/
namespace DL
open PySem L2 PyProof.Rows
theorem get_snoc {α : Type} {l : List α} {x y : α} {i : Nat} (h : (l ++ [x])[i]? = some y) : (l[i]? = some y ∧ i < l.length) ∨ (i = l.length ∧ y = x) := by
  rw [List.getElem?_append] at h
  split at h
  · rename_i hi; exact .inl ⟨h, hi⟩
  · rename_i hi
    cases e : i - l.length with
    | zero => rw [e] at h; exact .inr ⟨by omega, (Option.some.inj h).symm⟩
    | succ k => rw [e] at h; simp at h
theorem snoc_old {α : Type} {l : List α} {x y : α} {i : Nat} (h : l[i]? = some y) : (l ++ [x])[i]? = some y := by
  rw [List.getElem?_append_left (lt_of_get h)]; exact h
theorem snoc_new {α : Type} {l : List α} {x : α} : (l ++ [x])[l.length]? = some x := by simp
section
variable {G : Gm} {b : Bas} {F H F1 H1 : Hp} {σ : L2.St} {r r1 : Env} {x : Addr} {o : HO} {d : D} {y : Option V}
theorem own_snoc {s : Slot} {a : Addr} (hl : r.length = σ.length) (h : Own (σ ++ [y]) (r ++ [s]) a) : Own σ r a ∨ (isOwn [s] 0 ∧ y = some (.ref a)) := by
  obtain ⟨i, ⟨d, q⟩, e⟩ := h
  rcases get_snoc e with ⟨e1, hi⟩ | ⟨e1, e2⟩
  · have z : r[i]? = some (.own d) ∨ r[i]? = some (.brw d) := q.imp (fun q => (get_snoc q).elim (·.1) fun z => by omega) fun q => (get_snoc q).elim (·.1) fun z => by omega
    exact .inl ⟨i, ⟨d, z⟩, e1⟩
  · refine .inr ⟨⟨d, ?_⟩, e2.symm⟩
    have hir : i = r.length := by omega
    rw [hir] at q
    rw [snoc_new] at q
    exact q
theorem own_more {s : Slot} {a : Addr} (h : Own σ r a) : Own (σ ++ [y]) (r ++ [s]) a := by
  obtain ⟨i, ⟨d, q⟩, e⟩ := h
  exact ⟨i, ⟨d, q.imp snoc_old snoc_old⟩, snoc_old e⟩
theorem Stt.push (S : Stt G b F H σ r) (h1 : F x = none) (h2 : H x = some o) (h3 : Ob G F o d) (h4 : MutO o) (h5 : b.W x) (h6 : ¬ Own σ r x) : Stt G b F H (σ ++ [some (.ref x)]) (r ++ [.own d]) := by
  have hl := S.len
  have cs : ∀ {i : Nat} {t : Slot}, (r ++ [Slot.own d])[i]? = some t → (r[i]? = some t ∧ i < σ.length) ∨ (i = σ.length ∧ t = .own d) := fun {i t} e => (get_snoc e).imp (fun z => ⟨z.1, by omega⟩) fun z => ⟨by omega, z.2⟩
  refine ⟨by simp [hl], S.sub, fun i u q => ?_, fun i u q => ?_, fun i j a oi oj ei ej => ?_, fun i u q => ?_, fun i hi => ?_, S.gF, S.nF, S.kH, S.wn, S.th, S.tp, fun i u q => (cs q).elim (fun z => S.nk i u z.1) fun z => nomatch z.2⟩
  · have z : r[i]? = some (.val u) ∨ r[i]? = some (.fbr u) := q.imp (fun q => (cs q).elim (·.1) fun z => nomatch z.2) fun q => (cs q).elim (·.1) fun z => nomatch z.2
    obtain ⟨v, e1, e2⟩ := S.val i u z
    exact ⟨v, snoc_old e1, e2⟩
  · rcases q with q | q
    · rcases cs q with ⟨q, _⟩ | ⟨rfl, e⟩
      · obtain ⟨a, o, e1, e2⟩ := S.own i u (.inl q)
        exact ⟨a, o, snoc_old e1, e2⟩
      · cases e
        exact ⟨x, o, snoc_new, h1, h2, h3, h4, h5⟩
    · rcases cs q with ⟨q, _⟩ | ⟨rfl, e⟩
      · obtain ⟨a, o, e1, e2⟩ := S.own i u (.inr q)
        exact ⟨a, o, snoc_old e1, e2⟩
      · cases e
  · have io : ∀ {i : Nat}, isOwn (r ++ [Slot.own d]) i → (isOwn r i ∧ i < σ.length) ∨ i = σ.length := fun {i} ⟨u, q⟩ => by
      rcases q with q | q
      · exact (cs q).imp (fun z => ⟨⟨u, .inl z.1⟩, z.2⟩) fun z => z.1
      · exact (cs q).imp (fun z => ⟨⟨u, .inr z.1⟩, z.2⟩) fun z => z.1
    have es : ∀ {i : Nat}, i < σ.length → (σ ++ [some (V.ref x)])[i]? = some (some (.ref a)) → σ[i]? = some (some (.ref a)) := fun {i} hi e => by rw [List.getElem?_append_left hi] at e; exact e
    have en : (σ ++ [some (V.ref x)])[σ.length]? = some (some (.ref a)) → a = x := fun e => by rw [snoc_new] at e; cases e; rfl
    rcases io oi with ⟨oi, hi⟩ | rfl
    · rcases io oj with ⟨oj, hj⟩ | rfl
      · exact S.inj i j a oi oj (es hi ei) (es hj ej)
      · exact (h6 ⟨i, oi, en ej ▸ es hi ei⟩).elim
    · rcases io oj with ⟨oj, hj⟩ | rfl
      · exact (h6 ⟨j, oj, en ei ▸ es hj ej⟩).elim
      · rfl
  · have z : r[i]? = some (.brw u) ∨ r[i]? = some (.fbr u) := q.imp (fun q => (cs q).elim (·.1) fun z => nomatch z.2) fun q => (cs q).elim (·.1) fun z => nomatch z.2
    obtain ⟨v, e1, e2⟩ := S.fix i u z
    exact ⟨v, e1, snoc_old e2⟩
  · obtain ⟨u, q⟩ := S.lent i hi
    exact ⟨u, q.imp snoc_old snoc_old⟩
theorem Stt.pop (S : Stt G b F H (σ ++ [y]) r) (hL : ∀ i, b.L i → i < σ.length) : Stt G b F H σ (r.take σ.length) := by
  have hl := S.len
  have cs : ∀ {i : Nat} {t : Slot}, (r.take σ.length)[i]? = some t → r[i]? = some t ∧ i < σ.length := fun {i t} e => by
    rw [List.getElem?_take] at e
    split at e
    · rename_i hi; exact ⟨e, hi⟩
    · cases e
  have es : ∀ {i : Nat} {z : Option V}, i < σ.length → (σ ++ [y])[i]? = some z → σ[i]? = some z := fun {i z} hi e => by rw [List.getElem?_append_left hi] at e; exact e
  have c2 : ∀ {i : Nat} {t t' : Slot}, ((r.take σ.length)[i]? = some t ∨ (r.take σ.length)[i]? = some t') → (r[i]? = some t ∨ r[i]? = some t') ∧ i < σ.length := fun {i t t'} q => q.elim (fun q => ⟨.inl (cs q).1, (cs q).2⟩) fun q => ⟨.inr (cs q).1, (cs q).2⟩
  refine ⟨by rw [List.length_take, hl]; simp, S.sub, fun i u q => ?_, fun i u q => ?_, fun i j a ⟨u, oi⟩ ⟨u', oj⟩ ei ej => ?_, fun i u q => ?_, fun i hi => ?_, S.gF, S.nF, S.kH, S.wn, S.th, S.tp, fun i u q => S.nk i u (cs q).1⟩
  · obtain ⟨v, e1, e2⟩ := S.val i u (c2 q).1
    exact ⟨v, es (c2 q).2 e1, e2⟩
  · obtain ⟨a, o, e1, e2⟩ := S.own i u (c2 q).1
    exact ⟨a, o, es (c2 q).2 e1, e2⟩
  · exact S.inj i j a ⟨u, (c2 oi).1⟩ ⟨u', (c2 oj).1⟩ (snoc_old ei) (snoc_old ej)
  · obtain ⟨v, e1, e2⟩ := S.fix i u (c2 q).1
    exact ⟨v, e1, es (c2 q).2 e2⟩
  · obtain ⟨u, q⟩ := S.lent i hi
    have hi' := hL i hi
    refine ⟨u, q.imp (fun q => ?_) fun q => ?_⟩
    · rw [List.getElem?_take, if_pos hi']; exact q
    · rw [List.getElem?_take, if_pos hi']; exact q
theorem own_take {a : Addr} (h : Own σ (r.take σ.length) a) : Own (σ ++ [y]) r a := by
  obtain ⟨i, ⟨d, q⟩, e⟩ := h
  have hi := lt_of_get e
  refine ⟨i, ⟨d, q.imp (fun q => ?_) fun q => ?_⟩, snoc_old e⟩
  · rw [List.getElem?_take, if_pos hi] at q; exact q
  · rw [List.getElem?_take, if_pos hi] at q; exact q
theorem RvR.more {rv : RV} {v : V} {s : Slot} (hl : r.length = σ.length) (h : RvR G F1 H1 H σ r rv v) (hs : ∀ a o, H1 a = some o → ¬ (isOwn [s] 0 ∧ y = some (.ref a))) : RvR G F1 H1 H (σ ++ [y]) (r ++ [s]) rv v := by
  cases h with
  | fz q => exact .fz q
  | tmp h1 h2 h3 h4 h5 h6 => exact .tmp h1 h2 h3 h4 (fun z => (own_snoc hl z).elim h5 (hs _ _ h2)) h6
  | loc e => exact .loc (snoc_old e)
theorem RvRs.more {s : Slot} (hl : r.length = σ.length) (hs : ∀ a o, H1 a = some o → ¬ (isOwn [s] 0 ∧ y = some (.ref a))) : ∀ {rvs : List RV} {vs : List V}, RvRs G F1 H1 H σ r rvs vs → RvRs G F1 H1 H (σ ++ [y]) (r ++ [s]) rvs vs
  | _, _, .nil => .nil
  | _, _, .cons h t n => .cons (h.more hl hs) (t.more hl hs) n
end
section
variable {X : Cx} {G : Gm} {E : EK} {E1 : XK} {pb : Bas → Prop} {c : Nat} {fs : List (M RV)} {g : Fn}
theorem make_rd : ∀ σ H Q, tOf G (.un E1 pb) (eMake c g fs) σ H Q → tMake (G.ct c) (spOf G g) [] E1 (taOf G (.un E1 pb) (eArgs fs)) σ H Q := fun σ H Q ⟨b, F, r, S, h⟩ => by
  refine ⟨b, F, r, S, h.bnd0.mono fun rvs r1 F1 H1 S1 st1 w1 h1 vs q => ?_⟩
  intro x dx hx hdx ne
  rw [List.append_nil]
  have hl := S1.len
  -- the new dict and the new object
  have Sa : Stt G b F1 (upd H1 dx (.own x)) σ r1 := S1.upd1 hdx (fun xs z => nomatch z)
  have sta : Stp σ r1 F1 H1 F1 (upd H1 dx (.own x)) := Stp.new S1 hdx
  have hx' : (upd H1 dx (.own x)) x = none := by rw [upd_ne (Ne.symm ne)]; exact hx
  have Sb : Stt G b F1 (upd (upd H1 dx (.own x)) x (.ins (G.ct c) dx [])) σ r1 := Sa.upd1 hx' (fun xs z => nomatch z)
  have stb : Stp σ r1 F1 (upd H1 dx (.own x)) F1 (upd (upd H1 dx (.own x)) x (.ins (G.ct c) dx [])) := Stp.new Sa hx'
  have st2 := sta.trans Fewer.refl stb
  obtain ⟨fx1, fx2, fx3⟩ := S1.fresh hx
  generalize hH2 : upd (upd H1 dx (.own x)) x (.ins (G.ct c) dx []) = H2 at Sb stb st2 ⊢
  have hx2 : H2 x = some (.ins (G.ct c) dx []) := by rw [← hH2]; exact upd_same
  have S2 : Stt G b F1 H2 (σ ++ [some (.ref x)]) (r1 ++ [.own (.ins c [])]) := Sb.push fx1 hx2 (.ins .nil) trivial fx2 fx3
  have q2 : RvRs G F1 H2 H (σ ++ [some (.ref x)]) (r1 ++ [.own (.ins c [])]) (.loc r1.length :: rvs) (.ref x :: vs) := by
    have q1 : RvRs G F1 H1 H (σ ++ [some (.ref x)]) (r1 ++ [.own (.ins c [])]) rvs vs := q.more hl fun a o ha z => by
      have e : x = a := by have := z.2; cases this; rfl
      subst e
      rw [hx] at ha; cases ha
    refine .cons (.loc (by rw [hl]; exact snoc_new)) ?_ fun d ed => nomatch ed
    -- from H1 to H2
    have st2' : Stp (σ ++ [some (.ref x)]) (r1 ++ [.own (.ins c [])]) F1 H1 F1 H2 := ⟨Le.refl _, fun a o e n => st2.kH a o e fun z => n (own_more z), fun a o e => .inl e, st2.th⟩
    exact q1.pass st2' Fewer.refl
  have hnx : H x = none := st1.th x hx
  unfold makeFn callFn at h1
  split at h1
  · -- the call comes back with None
    rename_i r' ec
    split at ec
    · rename_i nd
      cases e1 : argSlots (r1 ++ [.own (.ins c [])]) (.loc r1.length :: rvs) with
      | none => rw [e1] at ec; cases ec
      | some args =>
        rw [e1] at ec
        refine ⟨F1, args, by rw [argSlots_len e1, q2.length], args_ok S2 q2 e1 nd, ?_⟩
        cases e2 : g args with
        | bad => simp only [e2] at ec; cases ec
        | exc y ss =>
          simp only [e2] at ec
          cases e3 : backAll (.loc r1.length :: rvs) ss (r1 ++ [.own (.ins c [])]) with
          | none => simp only [e3] at ec; cases ec
          | some r2 => simp only [e3] at ec; cases ec
        | ok w ss =>
          simp only [e2] at ec
          cases e3 : backAll (.loc r1.length :: rvs) ss (r1 ++ [.own (.ins c [])]) with
          | none => simp only [e3] at ec; cases ec
          | some r2 =>
            simp only [e3] at ec
            cases ec
            intro v F3 H3 po re
            have st3 : Stp (σ ++ [some (.ref x)]) (r ++ [.no]) F H F1 H2 := by
              have z := st1.trans w1 st2
              exact ⟨z.gF, fun a o e n => z.kH a o e fun y => n (own_more y), fun a o e => (z.nF a o e).imp id fun y => y.imp own_more id, z.th⟩
            have fw3 : ∀ a, Own (σ ++ [some (.ref x)]) (r1 ++ [.own (.ins c [])]) a → Own (σ ++ [some (.ref x)]) (r ++ [.no]) a ∨ H a = none := fun a z => by
              rcases own_snoc hl z with z | ⟨_, z⟩
              · exact .inl (own_more (w1 a z))
              · cases z; exact .inr hnx
            obtain ⟨S4, st4, w4, rr⟩ := back_okW S2 st3 fw3 (fun a z => S.wn a (S.th a z)) q2 e1 nd po e3
            have rv := rr _ v re
            have hLn : ∀ i, b.1.L i → i < σ.length := fun i hi => by
              obtain ⟨d, z⟩ := S1.lent i hi
              rw [← hl]
              exact z.elim lt_of_get lt_of_get
            have S5 := S4.pop hLn
            have st5 : Stp σ r F H F3 H3 := ⟨st4.gF, fun a o e n => st4.kH a o e fun z => (own_snoc S.len z).elim n (fun z => by obtain ⟨u, z | z⟩ := z.1 <;> cases z), fun a o e => (st4.nF a o e).imp id fun y => y.imp (fun z => (own_snoc S.len z).elim id (fun z => by obtain ⟨u, z | z⟩ := z.1 <;> cases z)) id, st4.th⟩
            have w5 : Fewer σ r (r'.take σ.length) := fun a z => by
              rcases own_snoc hl (w4 a (own_take z)) with y | ⟨_, y⟩
              · exact w1 a y
              · exfalso
                cases y
                -- x is not in a slot of old
                obtain ⟨i, ⟨d, o1⟩, o2⟩ := z
                have hi := lt_of_get o2
                have o4 : isOwn r' i := ⟨d, o1.imp (fun q => by rw [List.getElem?_take, if_pos hi] at q; exact q) fun q => by rw [List.getElem?_take, if_pos hi] at q; exact q⟩
                have z := S2.inj i r1.length x (back_less e3 nd i o4) ⟨_, .inl snoc_new⟩ (snoc_old o2) (by rw [hl]; exact snoc_new)
                omega
            cases rv with
            | fz dq =>
              cases (dq.vw (Le.refl F3)).non_
              refine ⟨rfl, ?_⟩
              have hr' : r'.length = σ.length + 1 := by rw [S4.len]; simp
              split at h1
              · rename_i d ed
                rw [hl] at ed h1
                obtain ⟨a, o, f1, f2, f3, f4, f5, f6⟩ := S4.own _ d (.inl ed)
                rw [snoc_new] at f1
                cases f1
                refine h1 F3 H3 S5 st5 w5 _ (.tmp f2 f3 f4 f5 (fun z => ?_) hnx)
                obtain ⟨i, ⟨d', o1⟩, o2⟩ := z
                have hi := lt_of_get o2
                have o4 : isOwn r' i := ⟨d', o1.imp (fun q => by rw [List.getElem?_take, if_pos hi] at q; exact q) fun q => by rw [List.getElem?_take, if_pos hi] at q; exact q⟩
                have z := S4.inj i σ.length x o4 ⟨d, .inl ed⟩ (snoc_old o2) snoc_new
                omega
              · rename_i d ed
                rw [hl] at ed h1
                obtain ⟨u, f1, f2⟩ := S4.val _ d (.inl ed)
                rw [snoc_new] at f1
                cases f1
                exact h1 F3 H3 S5 st5 w5 _ (.fz f2)
              · exact False.elim h1
    · cases ec
  · rename_i y r' ec
    split at ec
    · rename_i nd
      cases e1 : argSlots (r1 ++ [.own (.ins c [])]) (.loc r1.length :: rvs) with
      | none => rw [e1] at ec; cases ec
      | some args =>
        rw [e1] at ec
        refine ⟨F1, args, by rw [argSlots_len e1, q2.length], args_ok S2 q2 e1 nd, ?_⟩
        cases e2 : g args with
        | bad => simp only [e2] at ec; cases ec
        | ok w ss =>
          simp only [e2] at ec
          cases e3 : backAll (.loc r1.length :: rvs) ss (r1 ++ [.own (.ins c [])]) with
          | none => simp only [e3] at ec; cases ec
          | some r2 => simp only [e3] at ec; cases ec
        | exc y ss =>
          simp only [e2] at ec
          cases e3 : backAll (.loc r1.length :: rvs) ss (r1 ++ [.own (.ins c [])]) with
          | none => simp only [e3] at ec; cases ec
          | some r2 =>
            simp only [e3] at ec
            cases ec
            intro cls d F3 H3 po ex
            have st3 : Stp (σ ++ [some (.ref x)]) (r ++ [.no]) F H F1 H2 := by
              have z := st1.trans w1 st2
              exact ⟨z.gF, fun a o e n => z.kH a o e fun y => n (own_more y), fun a o e => (z.nF a o e).imp id fun y => y.imp own_more id, z.th⟩
            have fw3 : ∀ a, Own (σ ++ [some (.ref x)]) (r1 ++ [.own (.ins c [])]) a → Own (σ ++ [some (.ref x)]) (r ++ [.no]) a ∨ H a = none := fun a z => by
              rcases own_snoc hl z with z | ⟨_, z⟩
              · exact .inl (own_more (w1 a z))
              · cases z; exact .inr hnx
            obtain ⟨S4, st4, w4, rr⟩ := back_okW S2 st3 fw3 (fun a z => S.wn a (S.th a z)) q2 e1 nd po e3
            have hLn : ∀ i, b.1.L i → i < σ.length := fun i hi => by
              obtain ⟨d, z⟩ := S1.lent i hi
              rw [← hl]
              exact z.elim lt_of_get lt_of_get
            have S5 := S4.pop hLn
            rw [← hl] at S5
            exact h1 cls d F3 H3 S5 st4.gF ex
    · cases ec
  · exact False.elim h1
theorem de_make {lv : Nat} {f : Addr} {fd : FuncData} {ps : List Str} {x : Str} {e : Expr} {es : List Expr} {p pos : Pos} (M : Mk X.K (G.ct c) f) (Fk : FnOk X.prog X.w X.K X.mg X.base (L2N.CX X.prog X.w) lv f fd ps (spOf G g)) (hr : Room (lv + 1) X.A) (hg : Gl X x) (hm : X.mg x = some (.ref (G.ct c))) (hb : Binds X.K fd ps []) (hx : Passes (L2N.CX X.prog X.w) X E1)
    (ha : PA X (e :: es) (taOf G (.un E1 pb) (eArgs fs))) (hdb : (x == ("__debug__" : Str)) = false := by decide) (he : starEach (e :: es) X.env = (false, eval e X.env) :: starEach es X.env := by rfl) (hpl : (backTo pos (starEach es X.env)).any (·.1) = false := by rfl) :
    PE X (.Call (.Name x p) (e :: es) [] pos) (tOf G (.un E1 pb) (eMake c g fs)) :=
  PE_mono (pe_makeG M Fk hr hg hm hb hx ha hdb he hpl) (make_rd (c := c))
end
end DL

end

section
set_option Elab.async false
set_option linter.all false
set_option maxRecDepth 100000
set_option maxHeartbeats 1000000
/-! What is never run; tuple targets; the facts that the generator's text asks. -/
namespace DL
open PySem L2 PyProof.Rows
def mPopAt (d : D) (as : List D) : Option (D × D) := match d, as with
  | .lst xs, [.int i] => if -(2 ^ 63) ≤ i ∧ i < 2 ^ 63 then (match ixN xs.length i with
    | some k => (match xs[k]? with
      | some y => some (.lst (xs.eraseIdx k), y)
      | none => none)
    | none => none) else none
  | _, _ => none
theorem DqA.erase {G : Gm} {F : Hp} {vs : List V} {ds : List D} (h : DqA G F vs ds) (k : Nat) : DqA G F (vs.eraseIdx k) (ds.eraseIdx k) := by
  induction vs generalizing ds k with
  | nil => cases h; exact .nil
  | cons x xs ih =>
    cases h with
    | cons h t =>
      cases k with
      | zero => exact t
      | succ k => exact .cons h (ih t k)
def sBad : S := badM
def eBad : M RV := badM
def sAsg (t : Tg) (e : M RV) : S := bnd (eF e) fun d => bnd (asg t d) fun _ => pur .nx
section
variable {X : Cx} {G : Gm} {E : EK} {e tg : Expr} {st : Stmt} {fa : M RV} {pos : Pos} {t : Tg}
theorem ds_bad : PS X st (tsOf G E sBad) := ⟨fun pins s σ H D I ⟨b, F, r, S, h⟩ => False.elim h⟩
/-- a, b = e -/
theorem ds_asg (he : PE X e (tOf G E fa)) (hg : PG X tg (tgOf G t)) (hs : swapsWithSole [tg] e pos.line X.env = pure false := by rfl) (hw : swappedStores [tg] e X.env = pure none := by rfl) (h1 : (assignEach [tg] X.env).map (·.2) = [assign tg X.env] := by rfl) : PS X (.Assign [tg] e pos) (tsOf G E (sAsg t fa)) :=
  PS_mono (ps_asg (de_eF he) hg hs hw h1) fun D σ H ⟨b, F, r, S, h⟩ => by
    refine ⟨b, F, r, S, (OutS.bnd h).mono fun d r1 F1 H1 S1 st1 w1 h1 v q => ⟨b, F1, r1, d, S1, q, ?_⟩⟩
    have h1 : OutS G E b F (bnd (asg t d) (fun _ => pur Flow.nx) r1) D := h1
    unfold bnd at h1
    cases e1 : asg t d r1 with
    | ok u r2 =>
      rw [e1] at h1
      exact fun σ' S2 _ _ => h1 σ' F1 H1 S2 st1.gF
    | exc x r2 => exact (asg_noexc e1).elim
    | bad =>
      rw [e1] at h1
      exact False.elim h1
end
/-! ### built-in names -/
theorem bt_len : bootBuiltins "len" = some (.builtin "len") := by decide +kernel
theorem bt_any : bootBuiltins "any" = some (.builtin "any") := by decide +kernel
theorem bt_all : bootBuiltins "all" = some (.builtin "all") := by decide +kernel
theorem bt_sum : bootBuiltins "sum" = some (.builtin "sum") := by decide +kernel
theorem bt_min : bootBuiltins "min" = some (.builtin "min") := by decide +kernel
theorem bt_max : bootBuiltins "max" = some (.builtin "max") := by decide +kernel
theorem bt_sorted : bootBuiltins "sorted" = some (.builtin "sorted") := by decide +kernel
theorem bt_isinstance : bootBuiltins "isinstance" = some (.builtin "isinstance") := by decide +kernel
section
variable {X : Cx} {G : Gm} {E : EK} {e e' : Expr} {fa fb : M RV} {p pos p' : Pos}
theorem db_len (hm : X.mg "len" = none) (ha : PE X e (tOf G E fa)) (hg : Gl X "len" := by rfl) (he : starEach [e] X.env = (false, eval e X.env) :: starEach [] X.env := by rfl) (hpl : (backTo pos (starEach [] X.env)).any (·.1) = false := by rfl) : PE X (.Call (.Name "len" p) [e] [] pos) (tOf G E (eOp1 oLen fa)) :=
  de_b1 cr_lenA (od_len (K := X.K)) hg hm bt_len ha (by decide) (by decide) he hpl
theorem db_any (hc : X.calm = true) (hm : X.mg "any" = none) (ha : PE X e (tOf G E fa)) (hg : Gl X "any" := by rfl) (he : starEach [e] X.env = (false, eval e X.env) :: starEach [] X.env := by rfl) (hpl : (backTo pos (starEach [] X.env)).any (·.1) = false := by rfl) : PE X (.Call (.Name "any" p) [e] [] pos) (tOf G E (eOp1 oAny fa)) :=
  de_b1 (cr_any hc) (od_any (K := X.K)) hg hm bt_any ha (by decide) (by decide) he hpl
theorem db_all (hc : X.calm = true) (hm : X.mg "all" = none) (ha : PE X e (tOf G E fa)) (hg : Gl X "all" := by rfl) (he : starEach [e] X.env = (false, eval e X.env) :: starEach [] X.env := by rfl) (hpl : (backTo pos (starEach [] X.env)).any (·.1) = false := by rfl) : PE X (.Call (.Name "all" p) [e] [] pos) (tOf G E (eOp1 oAll fa)) :=
  de_b1 (cr_all hc) (od_all (K := X.K)) hg hm bt_all ha (by decide) (by decide) he hpl
theorem db_sum (hc : X.calm = true) (hm : X.mg "sum" = none) (ha : PE X e (tOf G E fa)) (hg : Gl X "sum" := by rfl) (he : starEach [e] X.env = (false, eval e X.env) :: starEach [] X.env := by rfl) (hpl : (backTo pos (starEach [] X.env)).any (·.1) = false := by rfl) : PE X (.Call (.Name "sum" p) [e] [] pos) (tOf G E (eOp1 oSum fa)) :=
  de_b1 (cr_sum hc) (od_sum (K := X.K)) hg hm bt_sum ha (by decide) (by decide) he hpl
theorem db_maxL (hc : X.calm = true) (hm : X.mg "max" = none) (ha : PE X e (tOf G E fa)) (hg : Gl X "max" := by rfl) (he : starEach [e] X.env = (false, eval e X.env) :: starEach [] X.env := by rfl) (hpl : (backTo pos (starEach [] X.env)).any (·.1) = false := by rfl) : PE X (.Call (.Name "max" p) [e] [] pos) (tOf G E (eOp1 oMaxL fa)) :=
  de_b1 (cr_max hc) (od_maxL (K := X.K)) hg hm bt_max ha (by decide) (by decide) he hpl
theorem db_max (hc : X.calm = true) (hm : X.mg "max" = none) (ha : PE X e (tOf G E fa)) (hb : PE X e' (tOf G E fb)) (hg : Gl X "max" := by rfl) (he : starEach [e, e'] X.env = (false, eval e X.env) :: starEach [e'] X.env := by rfl) (he' : starEach [e'] X.env = (false, eval e' X.env) :: starEach [] X.env := by rfl) (hpl : (backTo pos (starEach [e'] X.env)).any (·.1) = false := by rfl) : PE X (.Call (.Name "max" p) [e, e'] [] pos) (tOf G E (eOp2 oMax fa fb)) :=
  de_b2 (call_max2 hc) od_max hg hm bt_max ha hb (by decide) (by decide) he he' hpl
theorem db_sorted {lv : Nat} (hK : X.K = G.K) (hr : Room lv X.A) (hm : X.mg "sorted" = none) (ha : PE X e (tOf G E fa)) (hg : Gl X "sorted" := by rfl) (he : starEach [e] X.env = (false, eval e X.env) :: starEach [] X.env := by rfl) (hpl : (backTo pos (starEach [] X.env)).any (·.1) = false := by rfl) : PE X (.Call (.Name "sorted" p) [e] [] pos) (tOf G E (eOp1 oSorted fa)) :=
  de_b1 (cr_sortA (by have := hr.un; omega)) (od_sorted (K := X.K) hK) hg hm bt_sorted ha (by decide) (by decide) he hpl
theorem db_sortSet {lv : Nat} {pos2 p2 : Pos} (hK : X.K = G.K) (hc : X.calm = true) (hr : Room lv X.A) (hm : X.mg "sorted" = none) (hm2 : X.mg "set" = none) (ha : PE X e (tOf G E fa)) (hg : Gl X "sorted" := by rfl) (hg2 : Gl X "set" := by rfl) (he : starEach [e] X.env = (false, eval e X.env) :: starEach [] X.env := by rfl) (hpl : (backTo pos2 (starEach [] X.env)).any (·.1) = false := by rfl)
    (he2 : starEach [.Call (.Name "set" p2) [e] [] pos2] X.env = (false, eval (.Call (.Name "set" p2) [e] [] pos2) X.env) :: starEach [] X.env := by rfl) (hpl2 : (backTo pos (starEach [] X.env)).any (·.1) = false := by rfl) : PE X (.Call (.Name "sorted" p) [.Call (.Name "set" p2) [e] [] pos2] [] pos) (tOf G E (eOp1 oSortSet fa)) :=
  de_sortSet hK hc (by have := hr.un; omega) hg hm bt_sorted hg2 hm2 ha he hpl he2 hpl2
theorem db_int (hm : X.mg "int" = none) (ha : PE X e (tOf G E fa)) (hg : Gl X "int" := by rfl) (he : starEach [e] X.env = (false, eval e X.env) :: starEach [] X.env := by rfl) (hpl : (backTo pos (starEach [] X.env)).any (·.1) = false := by rfl) : PE X (.Call (.Name "int" p) [e] [] pos) (tOf G E (eOp1 oInt fa)) :=
  de_t1 call_int1 od_int hg hm boot_int ha (by decide) (by decide) he hpl
theorem db_list (hK : X.K = G.K) (hc : X.calm = true) (hm : X.mg "list" = none) (ha : PE X e (tOf G E fa)) (hg : Gl X "list" := by rfl) (he : starEach [e] X.env = (false, eval e X.env) :: starEach [] X.env := by rfl) (hpl : (backTo pos (starEach [] X.env)).any (·.1) = false := by rfl) : PE X (.Call (.Name "list" p) [e] [] pos) (tOf G E (eOp1 oList fa)) :=
  de_t1 (cr_listA hc) (od_list (K := X.K) hK) hg hm boot_list ha (by decide) (by decide) he hpl
theorem db_tuple (hm : X.mg "tuple" = none) (ha : PE X e (tOf G E fa)) (hg : Gl X "tuple" := by rfl) (he : starEach [e] X.env = (false, eval e X.env) :: starEach [] X.env := by rfl) (hpl : (backTo pos (starEach [] X.env)).any (·.1) = false := by rfl) : PE X (.Call (.Name "tuple" p) [e] [] pos) (tOf G E (eOp1 oTuple fa)) :=
  de_t1 call_tuple_of (od_tuple (K := X.K)) hg hm boot_tuple ha (by decide) (by decide) he hpl
/-- isinstance of a built-in class, the own classes' instances answering by g -/
theorem db_isi {T : Str} {n : String} {f : Ty → Bool} {g : Nat → Option Bool} (hm : X.mg "isinstance" = none) (hmT : X.mg T = none) (bT : bootBuiltins T = some (.type n)) (hf : ∀ t : Ty, PySem.W.kitOne X.K (.type t.nm) (.type n) = some (f t)) (hq : ∀ k b, g k = some b → ClsOk X.K (G.ct k) ∧ PySem.W.kitOne X.K (.ref (G.ct k)) (.type n) = some b) (ha : PE X e (tOf G E fa)) (hn : T ≠ "__name__" := by decide) (hd : (T == ("__debug__" : Str)) = false := by decide) (hgT : Gl X T := by rfl)
    (hg : Gl X "isinstance" := by rfl) (he : starEach [e, .Name T p'] X.env = (false, eval e X.env) :: starEach [.Name T p'] X.env := by rfl) (he' : starEach [.Name T p'] X.env = (false, eval (.Name T p') X.env) :: starEach [] X.env := by rfl) (hpl : (backTo pos (starEach [.Name T p'] X.env)).any (·.1) = false := by rfl) : PE X (.Call (.Name "isinstance" p) [e, .Name T p'] [] pos) (tOf G E (eOp1 (oIsI f g) fa)) :=
  de_isi (pe_bltn hgT hmT bT (show RelV (.ty n) (.type n) from rfl) hn hd) (.ty n) hf hq hg hm bt_isinstance ha he he' hpl
end
/-! ### operators in short -/
section
variable {X : Cx} {G : Gm} {E : EK} {a c : Expr} {fa fb : M RV} {pos : Pos} {lv : Nat}
theorem dx_add (hK : X.K = G.K) (ha : PE X a (tOf G E fa)) (hb : PE X c (tOf G E fb)) : PE X (.BinOp a .Add c pos) (tOf G E (eOp2 oAdd fa fb)) := de_op op_addA (od_add hK) ha hb
theorem dx_sub (ha : PE X a (tOf G E fa)) (hb : PE X c (tOf G E fb)) : PE X (.BinOp a .Sub c pos) (tOf G E (eOp2 oSub fa fb)) := de_op op_sub od_sub ha hb
theorem dx_mul (ha : PE X a (tOf G E fa)) (hb : PE X c (tOf G E fb)) : PE X (.BinOp a .Mult c pos) (tOf G E (eOp2 oMul fa fb)) := de_op op_mulA od_mul ha hb
theorem dx_div (ha : PE X a (tOf G E fa)) (hb : PE X c (tOf G E fb)) : PE X (.BinOp a .FloorDiv c pos) (tOf G E (eOp2 oDiv fa fb)) := de_op op_fdivW od_div ha hb
theorem dx_mod (ha : PE X a (tOf G E fa)) (hb : PE X c (tOf G E fb)) : PE X (.BinOp a .Mod c pos) (tOf G E (eOp2 oMod fa fb)) := de_op op_mod od_mod ha hb
theorem dx_pow (ha : PE X a (tOf G E fa)) (hb : PE X c (tOf G E fb)) : PE X (.BinOp a .Pow c pos) (tOf G E (eOp2 oPow fa fb)) := de_op op_pow od_pow ha hb
/-- what a comparison asks: its relation and that it keeps the rule -/
structure CmpD (X : Cx) (G : Gm) (op : CmpOp) (g : D → D → Option RV) : Prop where
  ex : ∃ r, OpR X (compareOp op) r ∧ OpD G r g
theorem cd_lt (hr : Room lv X.A) : CmpD X G .Lt oLt := ⟨_, op_ltA (by have := hr.un; omega), od_lt⟩
theorem cd_le : CmpD X G .LtE oLe := ⟨_, op_le, od_le⟩
theorem cd_gt : CmpD X G .Gt oGt := ⟨_, op_gt, od_gt⟩
theorem cd_ge : CmpD X G .GtE oGe := ⟨_, op_ge, od_ge⟩
theorem cd_eq (hK : X.K = G.K) (hr : Room lv X.A) : CmpD X G .Eq oEq := ⟨_, op_eqA (by have := hr.un; omega), od_eq hK⟩
theorem cd_ne (hK : X.K = G.K) (hr : Room lv X.A) : CmpD X G .NotEq oNe := ⟨_, op_neA (by have := hr.un; omega), od_ne hK⟩
theorem cd_in (hK : X.K = G.K) (hr : Room lv X.A) : CmpD X G .In oIn := ⟨_, op_inA (by have := hr.un; omega), od_in hK⟩
theorem cd_notIn (hK : X.K = G.K) (hr : Room lv X.A) : CmpD X G .NotIn oNotIn := ⟨_, op_notInA (by have := hr.un; omega), od_notIn hK⟩
theorem cd_is : CmpD X G .Is oIs := ⟨_, op_isN, od_is⟩
theorem dc_e {op : CmpOp} {g : D → D → Option RV} (h : CmpD X G op g) (ha : PE X a (tOf G E fa)) (hb : PE X c (tOf G E fb)) (hm : behindInMarks op c = false := by first | exact nomark _ | with_unfolding_all rfl) : PE X (.Compare a [op] [c] pos) (tOf G E (eOp2 g fa fb)) := by
  obtain ⟨r, h1, h2⟩ := h.ex
  exact de_cmp h1 h2 ha hb hm
theorem dc_t {op : CmpOp} {g : D → D → Option RV} (h : CmpD X G op g) (ha : PE X a (tOf G E fa)) (hb : PE X c (tOf G E fb)) (hm : behindInMarks op c = false := by first | exact nomark _ | with_unfolding_all rfl) : PT X (.Compare a [op] [c] pos) (ttOf G E (tV (eOp2 g fa fb))) := by
  obtain ⟨r, h1, h2⟩ := h.ex
  exact dt_cmp h1 h2 ha hb hm
theorem dc_chain {e : Expr} {fc : M RV} {op op' : CmpOp} {f g : D → D → Option RV} (h : CmpD X G op f) (h' : CmpD X G op' g) (ha : PE X a (tOf G E fa)) (hb : PE X c (tOf G E fb)) (hc : PE X e (tOf G E fc)) (hm : lastMarks [op, op'] [c, e] = false := by with_unfolding_all rfl) : PE X (.Compare a [op, op'] [c, e] pos) (tOf G E (eChain f g fa fb fc)) := by
  obtain ⟨r, h1, h2⟩ := h.ex
  obtain ⟨r', h1', h2'⟩ := h'.ex
  exact de_chain h1 h1' h2 h2' ha hb hc hm
theorem dx_ix (hK : X.K = G.K) (hr : Room lv X.A) (ha : PE X a (tOf G E fa)) (hb : PE X c (tOf G E fb)) (hs : PlainIx c := by intro _ _; rfl) : PE X (.Subscript a c pos) (tOf G E (eOp2 oIx fa fb)) := de_ix (ix_all (by have := hr.un; omega)) (od_ix hK) ha hb hs
/-! ### methods of lists -/
theorem dl_append {i : Nat} {x : Str} {p apos cpos : Pos} {e : Expr} {fs : List (M RV)} (hv : PE X (.Name x p) (tVar i)) (ha : PA X [e] (tasOf G E (eFs fs)))
    (hbase : attributeBase (.Name x p) "append" X.env (eval (.Name x p) X.env) = eval (.Name x p) X.env := by rfl)
    (hfew : ((backTo cpos (starEach [e] X.env)).all (fun x => !x.1) && (backToKw cpos (keywordEach [] X.env)).all (fun x => x.1.isSome)
      && decide ([e].length + ([] : List Keyword).length + (if ([] : List Keyword).isEmpty then 0 else 1) < 30)) = true := by rfl)
    (hline : (apos.endLine == cpos.line) = true := by rfl) (hs : starEach [e] X.env = (false, eval e X.env) :: starEach [] X.env := by rfl) (hplain : (backTo cpos (starEach [] X.env)).any (·.1) = false := by rfl) :
    PE X (.Call (.Attribute (.Name x p) "append" apos) [e] [] cpos) (tOf G E (eMut i mAppend fs)) := de_lm hv PySem.F.slot_list_append PySem.F.type_list_append mt_append mh_append ha hbase hfew hline hs hplain
theorem dl_insert {i : Nat} {x : Str} {p apos cpos : Pos} {e : Expr} {es : List Expr} {fs : List (M RV)} (hv : PE X (.Name x p) (tVar i)) (ha : PA X (e :: es) (tasOf G E (eFs fs)))
    (hbase : attributeBase (.Name x p) "insert" X.env (eval (.Name x p) X.env) = eval (.Name x p) X.env := by rfl)
    (hfew : ((backTo cpos (starEach (e :: es) X.env)).all (fun x => !x.1) && (backToKw cpos (keywordEach [] X.env)).all (fun x => x.1.isSome)
      && decide ((e :: es).length + ([] : List Keyword).length + (if ([] : List Keyword).isEmpty then 0 else 1) < 30)) = true := by rfl)
    (hline : (apos.endLine == cpos.line) = true := by rfl) (hs : starEach (e :: es) X.env = (false, eval e X.env) :: starEach es X.env := by rfl) (hplain : (backTo cpos (starEach es X.env)).any (·.1) = false := by rfl) :
    PE X (.Call (.Attribute (.Name x p) "insert" apos) (e :: es) [] cpos) (tOf G E (eMut i mInsert fs)) := de_lm hv PySem.F.slot_list_insert PySem.F.type_list_insert mt_insert mh_insert ha hbase hfew hline hs hplain
theorem dl_extend {i : Nat} {x : Str} {p apos cpos : Pos} {e : Expr} {es : List Expr} {fs : List (M RV)} (hv : PE X (.Name x p) (tVar i)) (ha : PA X (e :: es) (tasOf G E (eFs fs)))
    (hbase : attributeBase (.Name x p) "extend" X.env (eval (.Name x p) X.env) = eval (.Name x p) X.env := by rfl)
    (hfew : ((backTo cpos (starEach (e :: es) X.env)).all (fun x => !x.1) && (backToKw cpos (keywordEach [] X.env)).all (fun x => x.1.isSome)
      && decide ((e :: es).length + ([] : List Keyword).length + (if ([] : List Keyword).isEmpty then 0 else 1) < 30)) = true := by rfl)
    (hline : (apos.endLine == cpos.line) = true := by rfl) (hs : starEach (e :: es) X.env = (false, eval e X.env) :: starEach es X.env := by rfl) (hplain : (backTo cpos (starEach es X.env)).any (·.1) = false := by rfl) :
    PE X (.Call (.Attribute (.Name x p) "extend" apos) (e :: es) [] cpos) (tOf G E (eMut i mExtend fs)) := de_lm hv PySem.F.slot_list_extend PySem.F.type_list_extend mt_extend mh_extend ha hbase hfew hline hs hplain
/-- x[k] = e -/
theorem dl_put {i : Nat} {x : Str} {p : Pos} {k v : Expr} {fk fv : M RV} {pos pos' : Pos} (hr : Room lv X.A) (hx : PE X (.Name x p) (tOf G E (eVar i))) (hx2 : PE X (.Name x p) (tVar i)) (hk : PE X k (tOf G E fk)) (hv : PE X v (tOf G E fv))
    (ha : ∀ v, assign (.Subscript (.Name x p) k pos') X.env v = (do
      let ov ← holding [v] (eval (.Name x p) X.env)
      let iv ← holding [v, ov] (eval k X.env)
      standAt pos'
      holding [v, ov, iv] (setItem ov iv v)
      release [v, ov, iv] []) := by intro _; rfl) (hs : swapsWithSole [.Subscript (.Name x p) k pos'] v pos.line X.env = pure false := by rfl) (hw : swappedStores [.Subscript (.Name x p) k pos'] v X.env = pure none := by rfl)
    (h1 : (assignEach [.Subscript (.Name x p) k pos'] X.env).map (·.2) = [assign (.Subscript (.Name x p) k pos') X.env] := by rfl) : PS X (.Assign [.Subscript (.Name x p) k pos'] v pos) (tsOf G E (sPut i mPut fk fv)) :=
  ds_put (hu_of hr) hx (fun _ _ _ _ => trivial) hk hv hx2 (pg_sub hx2 (de_eF hk) (set_all (hu_of hr)) ha) hs hw h1
/-- a module's constant -/
theorem de_k {x : Str} {n : Int} {p : Pos} (h : ∃ t, X.mg x = some (.int n t)) (hg : Gl X x := by rfl) (hd : (x == ("__debug__" : Str)) = false := by decide) : PE X (.Name x p) (tOf G E (eC (.int n))) := by
  obtain ⟨t, h⟩ := h
  exact PE_c (pe_glob hg h (show RelV (.int n) (.int n t) from ⟨t, rfl⟩) hd) fun _ => .int n
end
section
variable {P : Program} {w : World} {K : PySem.W.Frag} {mg : Str → Option Value} {base : Heap} {N : List Str} {qual : Str} {scope : Scope} {f : Addr} {cdv : Value} {A : Around} {outer : List PySem.Env} {s : Shared} {H : Hp} {E : XK}
theorem hq_of : Passes (L2N.CX P w) (cxOf (L2N.CX P w) P w K mg base N qual scope f cdv A outer s H E) E := L2N.passes_call (X := cxOf (L2N.CX P w) P w K mg base N qual scope f cdv A outer s H E) (W := fun cls d _ H => E cls d H) (L2N.takes_of rfl rfl rfl rfl) fun _ _ _ _ h => h
theorem hp_of : ∀ σ, PassesAt (L2N.CX P w) (cxOf (L2N.CX P w) P w K mg base N qual scope f cdv A outer s H E) σ (WE (EK.of E).w σ) := fun σ => L2N.passAt (X := cxOf (L2N.CX P w) P w K mg base N qual scope f cdv A outer s H E) (W := (EK.of E).w) (L2N.takes_of rfl rfl rfl rfl) σ
theorem hpo_of : PassesOwn (model (cxOf (L2N.CX P w) P w K mg base N qual scope f cdv A outer s H E).prog (cxOf (L2N.CX P w) P w K mg base N qual scope f cdv A outer s H E).w) (cxOf (L2N.CX P w) P w K mg base N qual scope f cdv A outer s H E).A (cxOf (L2N.CX P w) P w K mg base N qual scope f cdv A outer s H E).env (cxOf (L2N.CX P w) P w K mg base N qual scope f cdv A outer s H E).xe := passes_of rfl
end
end DL

end

section
set_option Elab.async false
set_option linter.all false
set_option maxRecDepth 100000
set_option maxHeartbeats 1000000
/-! == and != of own instances. -/
namespace DL
open PySem L2 PyProof.Rows PySem.W
section
variable {prog : Program} {w : World} {A : Around} {E : Value → Shared → Prop} {s : Shared} {K : Frag} {x C L f : Addr} {h₀ : Heap} {m : Str → Option Value} {ox : Obj} {od : Option Obj} {b tb : Value}
end
/-- the classes that may stand on the right of an own instance -/
def okY (okC : Nat → Nat → Bool) (c : Nat) (e : D) : Bool := match e with
  | .ins c' _ => okC c c'
  | e => (tyOf e).isSome
def flipB (neg t : Bool) : Bool := if neg = true then !t else t
def ownFin (neg : Bool) (v : RV) : M RV := match v with
  | .fz (.bl t) => pur (.fz (.bl (flipB neg t)))
  | _ => badM
def ownGo (neg : Bool) (okC : Nat → Nat → Bool) (g : Nat → Option Fn) (x y : RV) (d e : D) : M RV := match d with
  | .ins c _ => (match g c with
    | some f => if okY okC c e = true then bnd (callFn f [x, y]) (ownFin neg) else badM
    | none => badM)
  | d => lift ((if neg = true then oNe else oEq) d e)
/-- a == b, a != b: an own instance on the left answers by its own __eq__ -/
def eOwnCmp (neg : Bool) (okC : Nat → Nat → Bool) (g : Nat → Option Fn) (a b : M RV) : M RV := bnd (bnd a fun x => bnd b fun y => pur (x, y)) fun p => bnd (vwM p.1) fun d => bnd (vwM p.2) fun e => ownGo neg okC g p.1 p.2 d e
/-- what is asked of the classes -/
structure EqF (K : Frag) (C f : Addr) : Prop where
  eq : findIn K (.ref C) "__eq__" = some (some (.ref f))
  fn : isFn K (.ref f) = true
  ne : findIn K (.ref C) "__ne__" = some (some (.builtin "object.__ne__"))
  ty : ∀ t : Ty, notFirst K C (.type t.nm) = true
structure OwnE (P : Program) (w : World) (K : Frag) (mg : Str → Option Value) (base : Heap) (G : Gm) (lv : Nat) (okC : Nat → Nat → Bool) (g : Nat → Option Fn) : Prop where
  fn : ∀ c f, g c = some f → ∃ fa fd ps, FnOk P w K mg base (L2N.CX P w) lv fa fd ps (spOf G f) ∧ Binds K fd ps [] ∧ EqF K (G.ct c) fa ∧ ClsOk K (G.ct c)
  ot : ∀ c c', okC c c' = true → notFirst K (G.ct c) (.ref (G.ct c')) = true ∧ ClsOk K (G.ct c')
def rOwnC (X : Cx) (G : Gm) (E : XK) (neg : Bool) (g : Nat → Option Fn) : R2 := fun x y H Q => ∃ c f a dx fs tb, g c = some f ∧ x = .ref a ∧ H a = some (.ins (G.ct c) dx fs) ∧ TyX X.K H y tb ∧ notFirst X.K (G.ct c) tb = true ∧
  spOf G f [x, y] H (fun z H' => ∃ t, z = .bl t ∧ Q (.bl (flipB neg t)) H') E
section
variable {X : Cx} {G : Gm} {E : XK} {pb : Bas → Prop} {lv : Nat} {okC : Nat → Nat → Bool} {g : Nat → Option Fn}
variable {a c : Expr} {fa fb : M RV} {pos : Pos} {lw : Nat}
end
section
variable {X : Cx} {G : Gm} {E : EK} {e : Expr} {fa : M RV} {p p' pos : Pos}
end
end DL

end

section
set_option Elab.async false
set_option linter.all false
set_option maxRecDepth 100000
set_option maxHeartbeats 1000000
/-! A method of a list that no name holds. -/
namespace DL
open PySem L2 PyProof.Rows
def appT1 (b : M RV) (x : RV) : M (List D × RV) := match x with
  | .tmp (.lst xs) => bnd b fun y => pur (xs, y)
  | _ => badM
def appT2 (p : List D × RV) : M RV := match p.2 with
  | .fz _ => if p.1.length < line then pur (.fz .non) else badM
  | _ => badM
/-- e.append(x), e a new list: it is thrown away -/
def eAppT (a b : M RV) : M RV := bnd (bnd a (appT1 b)) appT2
section
variable {X : Cx} {G : Gm} {E : EK} {o e : Expr} {p apos cpos : Pos} {m : Str} {fa fb : M RV}
end
end DL

end

section
set_option Elab.async false
set_option linter.all false
set_option maxRecDepth 100000
set_option maxHeartbeats 1000000
/-! list(range(..)), tuple(range(..)), x[::-1], x op= e. -/
namespace DL
open PySem L2 PyProof.Rows
open PySem.Spec
/-! ### list(range(..)), tuple(range(..)) -/
def oLr (ds : List D) : Option RV := if ds.length ≤ line then some (.tmp (.lst ds)) else none
def oTr (ds : List D) : Option RV := if ds.length ≤ line then some (.fz (.tup ds)) else none
def eRngL (it : M (List D)) : M RV := bnd it fun ds => lift (oLr ds)
def eRngT (it : M (List D)) : M RV := bnd it fun ds => lift (oTr ds)
section
variable {X : Cx} {G : Gm} {E : EK} {a c e : Expr} {f g : M RV} {p pos p2 pos2 : Pos}
end
/-! ### x[::-1] -/
section
variable {prog : Program} {w : World} {A : Around} {E : Value → Shared → Prop} {s : Shared}
end
def oRev : D → Option RV
  | .lst xs => some (.tmp (.lst xs.reverse))
  | .scr xs => some (.tmp (.lst xs.reverse))
  | .tup xs => some (.fz (.tup xs.reverse))
  | _ => none
def rRevA (K : PySem.W.Frag) : V → Hp → VK → Prop := fun x H Q => ∃ a xs, x = .ref a ∧ ((SqL K H a xs ∧ ∀ p, H p = none → Q (.ref p) (upd H p (.lst xs.reverse))) ∨ (SqT K H a xs ∧ ∀ p, H p = none → Q (.ref p) (upd H p (.tup xs.reverse))))
section
variable {X : Cx} {G : Gm} {E : EK} {e : Expr} {te : TE} {fa : M RV} {k : Nat} {p1 p2 p3 pos : Pos}
end
end DL

end

section
set_option Elab.async false
set_option linter.all false
set_option maxRecDepth 100000
set_option maxHeartbeats 1000000
/-! enumerate over tuples and lists; reversed lists. -/
namespace DL
open PySem L2 PyProof.Rows
open PySem.Spec
section
variable {prog : Program} {w : World} {A : Around} {E : Value → Shared → Prop} {s : Shared}
end
/-- the tuple at a, each item in a new pair -/
def IteT (K : PySem.W.Frag) (a : Addr) : It :=
  ⟨fun i H => ∃ (xs : List V) (x : V), SqT K H a xs ∧ xs[i]? = some x, fun i H v H' => ∃ T x, v = .ref T ∧ H T = none ∧ H' = upd H T (.tup [.int (i : Nat), x]) ∧ ∀ xs, SqT K H a xs → xs[i]? = some x, fun i H => ∃ xs : List V, SqT K H a xs ∧ xs.length ≤ i⟩
/-- enumerate(x), x a list or a tuple -/
def iEnumA (K : PySem.W.Frag) (te : TE) : TI := fun σ H R => te σ H fun v H1 => ∃ (a : Addr) (xs : List V), v = .ref a ∧ ((SqL K H1 a xs ∧ R (Ite K a) H1) ∨ (SqT K H1 a xs ∧ R (IteT K a) H1))
/-- the pairs of places and items -/
def enumD : Nat → List D → List D
  | _, [] => []
  | k, d :: ds => .tup [.int (k : Nat), d] :: enumD (k + 1) ds
def iEnu (a : M RV) : M (List D) := bnd (eF a) fun d => lift ((seqOf d).map (enumD 0))
def revOf : D → Option (List D)
  | .lst xs => some xs.reverse
  | _ => none
def iRvs (a : M RV) : M (List D) := bnd (eF a) fun d => lift (revOf d)
section
variable {X : Cx} {G : Gm} {E : EK} {pos tpos p : Pos} {tg e : Expr} {f : M RV} {elts : List Expr} {kk : Nat}
end
end DL

end

section
set_option Elab.async false
set_option linter.all false
set_option maxRecDepth 100000
set_option maxHeartbeats 1000000
/-! {t: v}, t a tuple. -/
namespace DL
open PySem L2 PyProof.Rows
open PySem.Spec
section
variable {X : Cx} {pos : Pos} {k v : Expr} {tk tv : TE}
end
/-- {k: v} by values -/
def oDic1 (k v : D) : Option RV := match kkey true k with
  | some _ => some (.tmp (.dic true [(k, v)]))
  | none => none
def eDic1 (a b : M RV) : M RV := bnd (eF a) fun k => bnd (eF b) fun v => lift (oDic1 k v)
/-- without p -/
def ers (H : Hp) (p : Addr) : Hp := fun a => if a = p then none else H a
theorem ers_ne {H : Hp} {p a : Addr} (h : a ≠ p) : ers H p a = H a := by unfold ers; rw [if_neg h]
theorem ers_self {H : Hp} {p : Addr} : ers H p p = none := by unfold ers; rw [if_pos rfl]
theorem ers_some {H : Hp} {p a : Addr} {o : HO} (h : ers H p a = some o) : a ≠ p ∧ H a = some o := by
  by_cases z : a = p
  · subst z; rw [ers_self] at h; cases h
  · rw [ers_ne z] at h; exact ⟨z, h⟩
section
variable {G : Gm} {b : Bas} {F H F1 H1 F2 H2 : Hp} {σ : L2.St} {r : Env} {p : Addr} {o : HO}
theorem Stt.ers (S : Stt G b F H σ r) (h1 : F p = none) (h2 : ¬ Own σ r p) (h3 : b.H p = none) : Stt G b F (DL.ers H p) σ r where
  len := S.len
  sub := fun a u q => by
    have z : a ≠ p := fun z => by subst z; rw [h1] at q; cases q
    rw [ers_ne z]; exact S.sub a u q
  val := S.val
  own := fun i d q => by
    obtain ⟨a, o, e1, e2, e3, e4, e5, e6⟩ := S.own i d q
    have z : a ≠ p := fun z => h2 ⟨i, ⟨d, q⟩, by rw [← z]; exact e1⟩
    exact ⟨a, o, e1, e2, by rw [ers_ne z]; exact e3, e4, e5, e6⟩
  inj := S.inj
  fix := S.fix
  lent := S.lent
  gF := S.gF
  nF := S.nF
  kH := fun a o e n => by
    have z : a ≠ p := fun z => by subst z; rw [h3] at e; cases e
    rw [ers_ne z]; exact S.kH a o e n
  wn := S.wn
  th := fun a q => by
    by_cases z : a = p
    · rw [z]; exact h3
    · rw [ers_ne z] at q; exact S.th a q
  tp := fun a xs q => S.tp a xs (ers_some q).2
  nk := S.nk
theorem Stp.ers (st : Stp σ r F1 H1 F2 H2) : Stp σ r F1 (DL.ers H1 p) F2 (DL.ers H2 p) where
  gF := st.gF
  kH := fun a u e n => by
    obtain ⟨z, e⟩ := ers_some e
    rw [ers_ne z]
    exact st.kH a u e n
  nF := fun a u e => by
    rcases st.nF a u e with q | q | q
    · exact .inl q
    · exact .inr (.inl q)
    · by_cases z : a = p
      · rw [z]; exact .inr (.inr ers_self)
      · exact .inr (.inr (by rw [ers_ne z]; exact q))
  th := fun a q => by
    by_cases z : a = p
    · rw [z]; exact ers_self
    · rw [ers_ne z] at q ⊢
      exact st.th a q
end
section
variable {X : Cx} {G : Gm} {E : EK} {pos : Pos} {k v : Expr} {fa fb : M RV}
end
end DL

end

section
set_option Elab.async false
set_option linter.all false
set_option maxRecDepth 100000
/-! Augmented assignment of names. -/
namespace DL
open PySem L2 PyProof.Rows
section
variable {prog : Program} {w : World} {A : Around} {Ex : Value → Shared → Prop} {s : Shared} {t b : Addr} {Q : Value → Shared → Prop}
end
/-- += of whole numbers, texts, tuples -/
def oIAdd : D → D → Option RV
  | .lst _, _ => none
  | d, e => oAdd d e
def oIMul : D → D → Option RV
  | .int i, .int j => if i.natAbs.log2 < 63 then some (.fz (.int (i * j))) else none
  | _, _ => none
section
variable {X : Cx} {G : Gm} {E : EK} {b : Bas} {F H : Hp} {σ : L2.St} {r : Env} {K : RV → Env → Hp → Hp → Prop} {i : Nat} {x : Str} {e : Expr} {fa : M RV} {pos pos' : Pos} {op : Operator} {rd : R2} {g : D → D → Option RV}
end
end DL

end

section
set_option Elab.async false
set_option linter.all false
set_option maxRecDepth 100000
/-! dict.get with a second word, dict.clear. -/
namespace DL
open PySem L2 PyProof.Rows
def isDic : D → Option Unit
  | .dic _ _ => some ()
  | _ => none
def oGet2 (d k z : D) : Option RV := match d with
  | .dic t kvs => (match kkey t k with
    | some q => some (.fz ((look kvs q).getD z))
    | none => none)
  | _ => none
def eGet2 (a b c : M RV) : M RV := bnd a fun x => bnd (vwM x) fun d0 => bnd (lift (isDic d0)) fun _ => bnd b fun y => bnd (eF c) fun z => bnd (vwM x) fun d => bnd (vwM y) fun k => lift (oGet2 d k z)
def mClear (d : D) (as : List D) : Option (D × D) := match d, as with
  | .dic false _, [] => some (.dic false [], .non)
  | _, _ => none
def rcvD (i : Nat) : M Unit := fun r => match r[i]? with
  | some (.own (.dic false _)) => .ok () r
  | some (.brw (.dic false _)) => .ok () r
  | _ => .bad
/-- a method of a slot's dict -/
def eMutD (i : Nat) (f : D → List D → Option (D × D)) : M RV := bnd (rcvD i) fun _ => mutAt i f []
section
variable {X : Cx} {G : Gm} {E : EK} {fa fb fc : M RV} {o e f : Expr} {apos cpos : Pos}
end
end DL

end

section
set_option Elab.async false
set_option linter.all false
set_option maxRecDepth 100000
/-! x, y = a, b: two names of a def at once. -/
namespace DL
open PySem L2 PyProof.Rows
section
variable {X : Cx} {G : Gm} {E : EK} {a c : Expr} {fa fb : M RV} {pos px py pt pt2 : Pos} {kt k2 i j : Nat} {x y : Str}
end
end DL

end

section
set_option Elab.async false
set_option linter.all false
set_option maxRecDepth 100000
/-! not in a module's tuple of texts. -/
namespace DL
open PySem L2 PyProof.Rows
def oNotInK (ks : List Str) : D → Option RV
  | .str s => some (.fz (.bl (!ks.any fun k => k == s)))
  | _ => none
/-- a module's tuple of texts -/
structure TupK (K : PySem.W.Frag) (mg : Str → Option Value) (x : Str) (ks : List Str) : Prop where
  ex : ∃ (a : Addr) (o : Obj) (its : Array Value) (n : Nat), mg x = some (.ref a) ∧ K.lookup a = some o ∧ o.cls = .type "tuple" ∧ o.data = .seq its n ∧ its.size ≤ sizeLine ∧ Vals (ks.map V.str) its.toList
section
variable {X : Cx} {G : Gm} {E : EK} {e : Expr} {fe : M RV} {x : Str} {ks : List Str} {p pos : Pos}
end
end DL

end

section
set_option Elab.async false
set_option linter.all false
set_option maxRecDepth 100000
/-! Defs that call themselves: by fuel. -/
namespace DL
open PySem L2 PyProof.Rows
/-- nothing is run -/
theorem dss_bad {X : Cx} {G : Gm} {E : EK} {ss : List Stmt} : PSs X ss (tsOf G E sBad) := ⟨fun pins s σ H D I ⟨b, F, r, S, h⟩ => False.elim h⟩
end DL

end

section
set_option Elab.async false
set_option linter.all false
set_option maxRecDepth 100000
set_option maxHeartbeats 1000000
/-! x[k] op= e; a dict comprehension stored in a local. -/
namespace DL
open PySem L2 PyProof.Rows
section
variable {X : Cx}
variable {G : Gm} {E : EK} {pos : Pos}
end
/-! ### x[k] op= e -/
/-- the item k of slot i's object -/
def ixAt (i : Nat) (k : D) : M D := fun r => match r[i]? with
  | some (.own d) => (match oIx d k with
    | some (.fz y) => .ok y r
    | _ => .bad)
  | some (.brw d) => (match oIx d k with
    | some (.fz y) => .ok y r
    | _ => .bad)
  | _ => .bad
def sAug (i : Nat) (g : D → D → Option RV) (k e : M RV) : S := bnd (eVar i) fun _ => bnd (eF k) fun kd => bnd (ixAt i kd) fun od => bnd (eF e) fun ed => bnd (lift (g od ed)) fun rv => match rv with
  | .fz nd => bnd (mutAt i mPut [kd, nd]) fun _ => pur .nx
  | _ => badM
section
variable {X : Cx} {G : Gm} {E : EK} {b : Bas} {F H : Hp} {σ : L2.St} {r : Env} {i : Nat} {x : Str} {p pos pos' : Pos} {op : Operator} {rd : R2} {g : D → D → Option RV} {k e : Expr} {fk fe : M RV}
def rGetA (K : PySem.W.Frag) : R2 := fun x y H Q => rIxL K x y H Q ∨ rIxT K x y H Q ∨ rIxDic x y H Q
end
end DL

end

section
set_option Elab.async false
set_option linter.all false
set_option maxRecDepth 100000
set_option maxHeartbeats 1000000
/-! min of rows: of a list of them, of two of them. -/
namespace DL
open PySem L2 PySem.W PyProof.Rows PySem.SeqAt PySem.Calls
/-- the least of some values, the first of the least ones -/
def leastD (x : D) (xs : List D) : D := xs.foldl (fun b y => if PySem.W.dataLt (pdOf y) (pdOf b) then y else b) x
def minOk (ps : List PyData) : Bool := likeAll ps && ps.all isTup && ps.all fun p => decide (p.depth ≤ 60)
def oMinA : D → Option RV
  | .lst xs => match ints? xs with
    | some (n :: ns) => some (.fz (.int (leastI (n :: ns))))
    | _ => match xs with
      | y :: ys => match toPds (y :: ys) with
        | some ps => if minOk ps = true then some (.fz (leastD y ys)) else none
        | none => none
      | [] => none
  | _ => none
def oMinB : D → D → Option RV
  | .int i, .int j => some (.fz (.int (if j < i then j else i)))
  | .tup xs, .tup ys => match toPds [.tup xs, .tup ys] with
    | some ps => if minOk ps = true then some (.fz (leastD (.tup xs) [.tup ys])) else none
    | none => none
  | _, _ => none
section
variable {prog : Program} {w : World} {A : Around} {E : Value → Shared → Prop} {s : Shared}
/-- how items of known data are compared -/
theorem cmp_rows {vs : Array Value} {xs : List PyData} (hr : ∀ (i : Nat) v, vs[i]? = some v → ∃ as, Reads s.heap v (xs.getD i .none) as ∧ xs.getD i .none ∈ xs) (h1 : ∀ x ∈ xs, ∀ y ∈ xs, alike x y = true) (h2 : ∀ x ∈ xs, x ≠ .none) (h3 : ∀ x ∈ xs, A.units + x.depth < cLine) :
    CmpIn prog w A .Lt s.heap (fun i v => vs[i]? = some v) (fun i j => dataLt (xs.getD i .none) (xs.getD j .none)) := fun i j vi vj s' Q E hk hi hj hq => by
  obtain ⟨as1, r1, m1⟩ := hr i vi hi
  obtain ⟨as2, r2, m2⟩ := hr j vj hj
  refine rcLt_alike _ _ A s' vi vj _ _ (reads_keeps hk r1) (reads_keeps hk r2) (h1 _ m1 _ m2) (h2 _ m1) ?_ prog w E Q hq
  have := Nat.min_le_left (xs.getD i .none).depth (xs.getD j .none).depth
  have := h3 _ m1
  omega
end
def bestV (x : V × PyData) (xs : List (V × PyData)) : V × PyData := xs.foldl (fun b y => if dataLt y.2 b.2 then y else b) x
structure MinOk (ps : List PyData) : Prop where
  al : ∀ x ∈ ps, ∀ y ∈ ps, alike x y = true
  nn : ∀ x ∈ ps, x ≠ .none
  dp : ∀ d ∈ ps, d.depth ≤ 60
def rMinA (K : PySem.W.Frag) : List V → Hp → VK → Prop := fun vs H Q => ∃ (a : Addr) (z : V × PyData) (zs : List (V × PyData)), vs = [V.ref a] ∧ SqL K H a ((z :: zs).map (·.1)) ∧ (∀ y ∈ z :: zs, Dp K H y.1 y.2) ∧ MinOk ((z :: zs).map (·.2)) ∧ Q (bestV z zs).1 H
def rMinB (K : PySem.W.Frag) : List V → Hp → VK → Prop := fun vs H Q => ∃ (z y : V × PyData), vs = [z.1, y.1] ∧ (∀ x ∈ [z, y], Dp K H x.1 x.2) ∧ MinOk ([z, y].map (·.2)) ∧ Q (bestV z [y]).1 H
section
variable {X : Cx} {pins : List (Addr × Obj)} {σ : L2.St} {H : Hp} {s : Shared}
theorem arr_at {its : List Value} {i : Nat} {v : Value} (h : its.toArray[i]? = some v) : its[i]? = some v := by simpa using h
theorem read_each (I : Inv X pins σ H s) {its : List Value} {zs : List (V × PyData)} (e : EachIs (fun u (z : V × PyData) => RelV z.1 u) its zs) (hk : ∀ z ∈ zs, Dp X.K H z.1 z.2) : ∀ (i : Nat) v, its[i]? = some v → ∃ z, zs[i]? = some z ∧ RelV z.1 v ∧ ∃ as, Reads s.heap v z.2 as := by
  induction e with
  | nil => intro i v h; simp at h
  | @cons u z us zs r t ih =>
    intro i v h
    cases i with
    | zero =>
      cases (show some u = some v from h)
      exact ⟨z, rfl, r, Dp.reads I _ _ _ (hk z List.mem_cons_self) r⟩
    | succ i => exact ih (fun y hy => hk y (List.mem_cons_of_mem _ hy)) i v h
theorem best_is (d : V × PyData) (z : V × PyData) (zs : List (V × PyData)) : (z :: zs)[argBest (fun i j => dataLt (((z :: zs).map (·.2)).getD i .none) (((z :: zs).map (·.2)).getD j .none)) zs.length]? = some (bestV z zs) := by
  have h := argBest_fold (α := V × PyData) (fun y b => dataLt y.2 b.2) (V.non, PyData.none) z zs zs.length (Nat.le_refl _)
  have e : (fun i j => dataLt (((z :: zs).map (·.2)).getD i .none) (((z :: zs).map (·.2)).getD j .none)) = fun i j => (fun (y b : V × PyData) => dataLt y.2 b.2) ((z :: zs).getD i (V.non, PyData.none)) ((z :: zs).getD j (V.non, PyData.none)) := by
    funext i j
    have g : ∀ k : Nat, ((z :: zs).map (·.2)).getD k PyData.none = ((z :: zs).getD k (V.non, PyData.none)).2 := fun k => by
      rw [List.getD_eq_getElem?_getD, List.getD_eq_getElem?_getD, List.getElem?_map]
      cases (z :: zs)[k]? <;> rfl
    rw [g, g]
  rw [e]
  obtain ⟨h1, h2⟩ := h
  rw [List.take_length] at h2
  generalize argBest (fun i j => (fun (y b : V × PyData) => dataLt y.2 b.2) ((z :: zs).getD i (V.non, PyData.none)) ((z :: zs).getD j (V.non, PyData.none))) zs.length = k at h1 h2
  have hk : k < (z :: zs).length := Nat.lt_succ_of_le h1
  rw [List.getElem?_eq_getElem hk]
  rw [List.getD_eq_getElem?_getD, List.getElem?_eq_getElem hk] at h2
  exact congrArg some h2
theorem reads_at (I : Inv X pins σ H s) {its : List Value} {zs : List (V × PyData)} (e : EachIs (fun u (z : V × PyData) => RelV z.1 u) its zs) (hk : ∀ z ∈ zs, Dp X.K H z.1 z.2) : ∀ (i : Nat) v, its.toArray[i]? = some v → ∃ as, Reads s.heap v ((zs.map (·.2)).getD i .none) as ∧ (zs.map (·.2)).getD i .none ∈ zs.map (·.2) := fun i v h => by
  obtain ⟨z, h1, _, as, h2⟩ := read_each I e hk i v (by simpa using h)
  have e1 : (zs.map (·.2)).getD i PyData.none = z.2 := by
    rw [List.getD_eq_getElem?_getD, List.getElem?_map, h1]
    rfl
  rw [e1]
  exact ⟨as, h2, List.mem_map.mpr ⟨z, List.mem_of_getElem? h1, rfl⟩⟩
theorem cr_minA (hc : X.calm = true) (hu : X.A.units + 63 < cLine) : CallR X (.builtin "min") (rMinA X.K) := by
  intro pins s σ H vs us Q I r h
  obtain ⟨a, z, zs, rfl, hs, hk, ok, q⟩ := h
  obtain ⟨its, rv, hl, hz⟩ := I.list hs
  rw [Vals.ref1 r]
  have e := each_rel rv
  have hlen : its.toArray.size = zs.length + 1 := by
    have := rv.length
    rw [List.length_map] at this
    rw [List.size_toArray, ← this]
    rfl
  refine call_min_walkH (iter_listW (A := X.A.in1) (I.ok.hd hc) hl.isList fun s₂ e2 W st hfp hw hkp => ?_)
  refine ⟨_, _, _, _, _, _, _, s.heap, _, rfl, W, st, hfp, by omega, hw, hkp, cmp_rows (A := X.A.in1) (reads_at I e hk) ok.al ok.nn (fun x hx => ?_), fun v s' hP m => ?_⟩
  · have := ok.dp x hx
    show X.A.units + 1 + _ < _
    omega
  · obtain ⟨h', tk, rfl, hk'⟩ := moved_old e2 rfl m
    have e1 : its.toArray.size - 1 = zs.length := by omega
    rw [e1] at hP
    obtain ⟨y, h1, h2, _⟩ := read_each I e hk _ v (arr_at hP)
    have h3 := best_is z z zs
    rw [h1] at h3
    cases h3
    exact ⟨_, H, I.kept hk', h2, q⟩
end
/-! ### by values -/
theorem minOk_of {ps : List PyData} (h : minOk ps = true) : MinOk ps := by
  unfold minOk at h
  rw [Bool.and_eq_true, Bool.and_eq_true] at h
  obtain ⟨⟨h1, h2⟩, h3⟩ := h
  refine ⟨fun x hx y hy => List.all_eq_true.mp (List.all_eq_true.mp h1 x hx) y hy, fun x hx e => ?_, fun d hd => of_decide_eq_true (List.all_eq_true.mp h3 d hd)⟩
  subst e
  have := List.all_eq_true.mp h2 _ hx
  cases this
theorem best_zip : ∀ (ts : List (V × D)) (t : V × D), (bestV (t.1, pdOf t.2) (ts.map fun t => (t.1, pdOf t.2))).1 = (ts.foldl (fun b y => if dataLt (pdOf y.2) (pdOf b.2) then y else b) t).1 ∧ leastD t.2 (ts.map (·.2)) = (ts.foldl (fun b y => if dataLt (pdOf y.2) (pdOf b.2) then y else b) t).2 := by
  intro ts
  induction ts with
  | nil => exact fun t => ⟨rfl, rfl⟩
  | cons y ts ih =>
    intro t
    unfold bestV leastD
    simp only [List.map_cons, List.foldl_cons]
    by_cases h : dataLt (pdOf y.2) (pdOf t.2) = true
    · simp only [h, if_true]
      exact ih y
    · simp only [h]
      exact ih t
theorem best_mem {α : Type} (f : α → α → Bool) : ∀ (ts : List α) (t : α), ts.foldl (fun b y => if f y b then y else b) t ∈ t :: ts
  | [], t => List.mem_cons_self
  | y :: ts, t => by
    rw [List.foldl_cons]
    by_cases h : f y t = true
    · rw [if_pos h]
      exact List.mem_cons_of_mem _ (best_mem f ts y)
    · rw [if_neg h]
      rcases List.mem_cons.mp (best_mem f ts t) with e | e
      · rw [e]; exact List.mem_cons_self
      · exact List.mem_cons_of_mem _ (List.mem_cons_of_mem _ e)
section
variable {G : Gm}
theorem od_minA {K : PySem.W.Frag} (hK : K = G.K) : OpD1 G (fun v H Q => rMin K [v] H Q ∨ rMinA K [v] H Q) oMinA := fun F H x d rv Q le tp hx g q => by
  unfold oMinA at g
  split at g
  · rename_i xs
    split at g
    · rename_i n ns e
      refine .inl (od_minL F H x _ rv Q le tp hx (show oMinL (.lst xs) = some rv from ?_) q)
      show (match ints? xs with
        | some (n :: ns) => some (RV.fz (D.int (leastI (n :: ns))))
        | _ => none) = some rv
      rw [e]
      exact g
    · split at g
      · rename_i y ys
        split at g
        · rename_i ps ep
          split at g
          · rename_i ok
            cases g
            subst hK
            obtain ⟨a, vs, rfl, ha, qa⟩ := hx.lst_
            obtain ⟨ts, rfl, e2, hk⟩ := dqa_zip qa
            obtain ⟨e3, hp⟩ := toPds_map ep
            subst e3
            cases ts with
            | nil => cases e2
            | cons t ts =>
              rw [List.map_cons] at e2
              obtain ⟨rfl, rfl⟩ := List.cons.inj e2
              have e4 : ((t :: ts).map fun t => (t.1, pdOf t.2)).map (·.1) = (t :: ts).map (·.1) := by rw [List.map_map]; rfl
              have e5 : ((t :: ts).map fun t => (t.1, pdOf t.2)).map (·.2) = ((t :: ts).map (·.2)).map pdOf := by rw [List.map_map, List.map_map]; rfl
              obtain ⟨b1, b2⟩ := best_zip ts t
              refine .inr ⟨a, (t.1, pdOf t.2), ts.map fun t => (t.1, pdOf t.2), rfl, ?_, fun z hz => ?_, ?_, ?_⟩
              · rw [← List.map_cons (f := fun t : V × D => (t.1, pdOf t.2)), e4]
                exact SqL.of ha
              · rw [← List.map_cons (f := fun t : V × D => (t.1, pdOf t.2))] at hz
                obtain ⟨u, hu, rfl⟩ := List.mem_map.mp hz
                exact Dq.dp le (hk u hu) (hp u.2 (by rw [← List.map_cons (f := fun t : V × D => t.2)]; exact List.mem_map.mpr ⟨u, hu, rfl⟩))
              · rw [← List.map_cons (f := fun t : V × D => (t.1, pdOf t.2)), e5]
                exact minOk_of ok
              · rw [b1]
                refine q _ _ _ (.old ?_)
                rw [b2]
                exact hk _ (best_mem (fun y b : V × D => dataLt (pdOf y.2) (pdOf b.2)) ts t)
          · cases g
        · cases g
      · cases g
  · cases g
variable {X : Cx} {E : EK} {e e' : Expr} {fa fb : M RV} {p pos p' : Pos}

theorem hu3_of {k : Nat} {A : Around} (hr : Room k A) : A.units + 63 < cLine := by
  have := hr.un
  omega
theorem db_minA (hK : X.K = G.K) (hu : X.A.units + 63 < cLine) (hc : X.calm = true) (hm : X.mg "min" = none) (ha : PE X e (tOf G E fa)) (hg : Gl X "min" := by rfl) (he : starEach [e] X.env = (false, eval e X.env) :: starEach [] X.env := by rfl) (hpl : (backTo pos (starEach [] X.env)).any (·.1) = false := by rfl) : PE X (.Call (.Name "min" p) [e] [] pos) (tOf G E (eOp1 oMinA fa)) :=
  de_b1 ((cr_min hc).or (cr_minA hc hu)) (od_minA hK) hg hm bt_min ha (by decide) (by decide) he hpl
end
end DL

end

section
set_option Elab.async false
set_option linter.all false
set_option maxRecDepth 100000
set_option maxHeartbeats 1000000
/-! Dicts whose keys are tuples, compared: entries alike one by one. -/
namespace DL
open PySem L2 PySem.W PyProof.Rows PySem.SeqAt PySem.Calls
section
variable {prog : Program} {w : World} {K : Type} [DecidableEq K] {knd : HeapKind prog w K} {A : Around} {E : Value → Shared → Prop} {s : Shared}
end
/-- the values at one place of two dicts are alike -/
def Alk (K : PySem.W.Frag) (H : Hp) (x y : V) : Prop := ∃ d e, Dp K H x d ∧ Dp K H y e ∧ SeqAt.shaped d = true ∧ SeqAt.shaped e = true ∧ PyData.eqv d e = true
def rNeT (K : PySem.W.Frag) : R2 := fun x y H Q => ∃ a b ks ls, x = .ref a ∧ y = .ref b ∧ H a = some (.dT ks) ∧ H b = some (.dT ls) ∧ ks.length = ls.length ∧ (∀ (i : Nat) (p q : List Key × V), ks[i]? = some p → ls[i]? = some q → p.1 = q.1 ∧ Alk K H p.2 q.2) ∧ Q (.bl false) H
section
variable {X : Cx}
end
/-! ### by values -/
def sameKV : List (D × D) → List (D × D) → Bool
  | [], [] => true
  | (k, v) :: a, (k', v') :: b => (decide (dkey k = dkey k') && (match shp v, shp v' with
    | some p, some q => PyData.eqv p q
    | _, _ => false)) && sameKV a b
  | _, _ => false
def oNeT : D → D → Option RV
  | .dic true a, .dic true b => if sameKV a b = true then some (.fz (.bl false)) else none
  | _, _ => none
section
variable {G : Gm}
variable {X : Cx} {lv : Nat}
end
/-! ### x.clear(), keys that are tuples -/
section
variable {X : Cx} {pins : List (Addr × Obj)} {σ : L2.St} {H : Hp} {s : Shared} {a : Addr} {A : Around} {E : Value → Shared → Prop}
end
def mClearT (d : D) (as : List D) : Option (D × D) := match d, as with
  | .dic true _, [] => some (.dic true [], .non)
  | _, _ => none
def rcvT (i : Nat) : M Unit := fun r => match r[i]? with
  | some (.own (.dic true _)) => .ok () r
  | some (.brw (.dic true _)) => .ok () r
  | _ => .bad
/-- a method of a slot's dict -/
def eMutT (i : Nat) (f : D → List D → Option (D × D)) : M RV := bnd (rcvT i) fun _ => mutAt i f []
section
variable {X : Cx} {G : Gm} {E : EK} {apos cpos : Pos}
end
end DL

end

section
set_option Elab.async false
set_option linter.all false
set_option maxRecDepth 100000
set_option maxHeartbeats 1000000
/-! A dict of a slot, walked: it stays as it is from then on. -/
namespace DL
open PySem L2 PyProof.Rows
/-- the keys of slot i's dict; it is locked -/
def iKeyS (i : Nat) : M (List D) := fun r => match r[i]? with
  | some (.own (.dic t kvs)) => .ok (kvs.map (·.1)) (r.set i (.val (.fdc t kvs)))
  | some (.val (.fdc _ kvs)) => .ok (kvs.map (·.1)) r
  | _ => .bad
/-- x[k], x locked -/
def oIxF (d k : D) : Option RV := match d with
  | .fdc t kvs => (match kkey t k with
    | some k => (look kvs k).map .fz
    | none => none)
  | _ => none
section
variable {G : Gm} {b : Bas} {F H : Hp} {σ : L2.St} {r : Env} {d d' : D} {a : Addr} {o o' : HO} {i : Nat}
end
/-- a name's object, locked -/
def tVarL (i : Nat) : TE := fun σ H Q => ∃ d u, σ[i]? = some (some (V.ref d)) ∧ H d = some u ∧ Mut (some u) ∧ ∀ od, Q (.ref d) (upd H d (.frz od u))
section
variable {X : Cx} {G : Gm} {E : EK} {i : Nat} {e tg : Expr} {x : Str} {p : Pos}
end
/-! ### x[k] of a locked dict -/
section
variable {X : Cx} {G : Gm} {E : EK} {fa fb : M RV} {a c : Expr} {pos : Pos}
end
end DL

end

section
set_option Elab.async false
set_option linter.all false
set_option maxRecDepth 100000
set_option maxHeartbeats 4000000
/-! Tuples that are known to the object: displays, t + u, tuple(list), t[i:j], t.index(i). -/
namespace DL
open PySem L2 PySem.Spec PyProof.Rows
def eTupP (as : List (M RV)) : M RV := bnd (eFs as) fun ds => pur (.fz (.ptup ds))
def oAddP : D → D → Option RV
  | .ptup xs, .ptup ys => if xs.length + ys.length ≤ line then some (.fz (.ptup (xs ++ ys))) else none
  | .tup xs, .ptup ys => if xs.length + ys.length ≤ line ∧ ys.isEmpty = false then some (.fz (.ptup (xs ++ ys))) else none
  | .ptup xs, .tup ys => if xs.length + ys.length ≤ line ∧ xs.isEmpty = false then some (.fz (.ptup (xs ++ ys))) else none
  | _, _ => none
def oTupleP : D → Option RV
  | .lst xs => some (.fz (.ptup xs))
  | _ => none
def oSlP (d : D) (lo hi : Option Int) : Option RV := match d with
  | .ptup xs => some (.fz (.ptup (cutD xs lo hi)))
  | _ => none
def eSlP (a : M RV) (lo hi : M (Option Int)) : M RV := bnd (eF a) fun d => bnd lo fun l => bnd hi fun h => lift (oSlP d l h)
/-- an operator of frozen values -/
def eOp2F (f : D → D → Option RV) (a b : M RV) : M RV := bnd (eF a) fun d => bnd (eF b) fun e => lift (f d e)
def isPtp : D → Option Unit
  | .ptup _ => some ()
  | _ => none
def oIdx : D → D → Option RV
  | .ptup xs, .int k => match ints? xs with
    | some ns => if k ∈ ns then some (.fz (.int (ns.idxOf k : Nat))) else none
    | none => none
  | _, _ => none
/-- t.index(k) -/
def eIdx (a b : M RV) : M RV := bnd a fun x => bnd (vwM x) fun d0 => bnd (lift (isPtp d0)) fun _ => bnd b fun y => bnd (vwM x) fun d => bnd (vwM y) fun k => lift (oIdx d k)
/-- a plain tuple's object -/
def PlT (o : Obj) : Prop := o.cls = .type "tuple" ∧ o.dict = none
section
variable {X : Cx} {G : Gm} {E : EK} {fa fb : M RV} {e a c : Expr} {es : List Expr} {pos p : Pos}
def tTupZ (t : TA) : TE := fun σ H Q => t σ H fun xs H1 => xs.length ≤ sizeLine ∧ ∀ p o, H1 p = none → PlT o → Q (.ref p) (upd H1 p (.frz o (.tup xs)))
theorem pe_tupZ {x1} {t : TA} (h : PA X es t) : PE X (.Tuple es x1 pos) (tTupZ t) := by
  refine ⟨fun pins s σ H Q I hq => ?_⟩
  refine wpAny_Tuple_spliced (thn (h.run pos pins s σ H _ I hq) fun us s1 ⟨xs, H1, I1, r, z, q⟩ => ⟨by rw [← r.length]; exact z, ?_⟩)
  have hf : H1 s1.heap.objs.size = none := I1.hok.fresh (Nat.le_refl _)
  refine ⟨.ref s1.heap.objs.size, upd H1 s1.heap.objs.size (.frz { cls := .type "tuple", data := .seq us.toArray } (.tup xs)), I1.laid (t' := s1.toks) (fun b u e => Heap.get?_push_of_some _ e) (Nat.le_refl _) ?_, rfl, q _ _ hf ⟨rfl, rfl⟩⟩
  exact ⟨Heap.get?_push_size _ rfl, z, us, r, ⟨_, Heap.get?_push_size _ rfl, rfl, _, rfl⟩⟩
theorem de_tupZ {fs : List (M RV)} {k} (h : PA X es (tasOf G E (eFs fs))) (hl : fs.length ≤ 1000 := by decide) : PE X (.Tuple es k pos) (tOf G E (eTupP fs)) :=
  PE_mono (pe_tupZ h) fun σ H Q ⟨b, F, r, S, h⟩ => by
    refine ⟨b, F, r, S, ?_⟩
    have h0 := h.bnd0
    cases e : eFs fs r with
    | exc x r1 => rw [e] at h0; exact h0
    | bad => rw [e] at h0; exact h0
    | ok ds r1 =>
      rw [e] at h0
      intro F1 H1 S1 st1 w1 vs q
      have h1 := h0 F1 H1 S1 st1 w1
      have el : vs.length ≤ sizeLine := by
        rw [q.length, efs_len e]
        exact Nat.le_trans hl (by decide)
      refine ⟨el, fun p o hp ho => ?_⟩
      obtain ⟨S2, st2, q2⟩ := (NewR.new (G := G) (F := F1) (H := H1) (o := .frz o (.tup vs)) (d := .ptup ds) hp (.ptp ho.1 ho.2 q)).ok (H0 := H) S1 st1.th
      exact h1 _ _ S2 (st1.trans w1 st2) w1 _ q2
/-! ### operators of frozen values -/
def OpF (G : Gm) (r : R2) (g : D → D → Option RV) : Prop := ∀ (F H : Hp) (x y : V) (d e : D) (rv : RV) (Q : VK), Le F H → Dq G F x d → Dq G F y e → g d e = some rv → (∀ v F' H', NewR G F H F' H' rv v → Q v H') → r x y H Q
theorem op2F_rd {r : R2} {g : D → D → Option RV} (hr : OpF G r g) : ∀ σ H Q, tOf G E (eOp2F g fa fb) σ H Q → tdOf G E (eF fa) σ H fun x H1 => tdOf G E (eF fb) σ H1 fun y H2 => r x y H2 Q := fun σ H Q ⟨b, F, en, S, h⟩ => by
  refine ⟨b, F, en, S, h.bnd.mono fun d r1 F1 H1 S1 st1 w1 h1 v1 q1 => ⟨b, F1, r1, S1, h1.bnd.mono fun e r2 F2 H2 S2 st2 w2 h2 v2 q2 => ?_⟩⟩
  obtain ⟨rv, e3, h2⟩ := h2.lift
  refine hr F2 H2 v1 v2 d e rv Q S2.sub (q1.mono st2.gF) q2 e3 fun v F3 H3 n => ?_
  obtain ⟨S3, st3, q3⟩ := n.ok (H0 := H) S2 fun a z => st1.th a (st2.th a z)
  exact h2.pur S3 st3 v q3
theorem de_opF {op : Operator} {r : R2} {g : D → D → Option RV} (ho : OpR X (binaryOp op) r) (hr : OpF G r g) (ha : PE X a (tOf G E fa)) (hb : PE X c (tOf G E fb)) : PE X (.BinOp a op c pos) (tOf G E (eOp2F g fa fb)) :=
  PE_mono (pe_op ho (de_eF ha) (de_eF hb)) (op2F_rd hr)
/-! ### t + u -/
def rCatZ (K : PySem.W.Frag) : R2 := fun x y H Q => ∃ a b xs ys, x = .ref a ∧ y = .ref b ∧ SqT K H a xs ∧ SqT K H b ys ∧ xs.length + ys.length ≤ sizeLine ∧
  (xs = [] → Q (.ref b) H) ∧ (xs ≠ [] → ys = [] → Q (.ref a) H) ∧ (xs ≠ [] → ys ≠ [] → ∀ p o, H p = none → PlT o → Q (.ref p) (upd H p (.frz o (.tup (xs ++ ys)))))
theorem op_catZ : OpR X (binaryOp .Add) (rCatZ X.K) := by
  intro pins s σ H x y v u Q I rx ry h
  obtain ⟨a, b, xs, ys, rfl, rfl, ha, hb, hz, q0, q1, q2⟩ := h
  by_cases hx : xs = []
  · subst hx
    refine op_catA pins s σ H _ _ v u Q I rx ry ⟨a, b, [], ys, rfl, rfl, ha, hb, hz, q0, fun z => (z rfl).elim, fun z => (z rfl).elim⟩
  · cases rx
    cases ry
    obtain ⟨its, r1, p1, _⟩ := I.tuple ha
    obtain ⟨its2, r2, p2, _⟩ := I.tuple hb
    refine HT.cat_tup p1 p2 (fun z => hx (r1.nil_iff.mp z)) (fun z => ⟨.ref a, H, I, rfl, q1 hx (r2.nil_iff.mp z)⟩) (fun z => ?_) (by rw [← r1.length, ← r2.length]; exact hz)
    refine ⟨.ref s.heap.objs.size, _, I.laid (t' := s.toks) (o := .frz { cls := .type "tuple", data := .seq (its ++ its2).toArray } (.tup (xs ++ ys))) (fun b ob q => Heap.get?_push_of_some _ q) (Nat.le_refl _) ?_, rfl, q2 hx (fun w => z (r2.nil_iff.mpr w)) _ _ (I.hok.fresh (Nat.le_refl _)) ⟨rfl, rfl⟩⟩
    exact ⟨Heap.get?_push_size _ rfl, by rw [List.length_append]; exact hz, _, r1.append r2, IsTup.new _ _⟩
theorem Dq.ptup_ {F : Hp} {x : V} {ds : List D} (h : Dq G F x (.ptup ds)) : ∃ a o vs, x = .ref a ∧ F a = some (.frz o (.tup vs)) ∧ PlT o ∧ DqA G F vs ds := by
  cases h with
  | ref h o => cases o with | ptp c n q => exact ⟨_, _, _, rfl, h, ⟨c, n⟩, q⟩
theorem Dq.tupF_ {F : Hp} {x : V} {ds : List D} (h : Dq G F x (.tup ds)) : ∃ a vs, x = .ref a ∧ F a = some (.tup vs) ∧ DqA G F vs ds := by
  cases h with
  | ref h o => cases o with | tup q => exact ⟨_, _, rfl, h, q⟩
theorem of_catZ {K : PySem.W.Frag} : OpF G (rCatZ K) oAddP := fun F H x y d e rv Q le hx hy g q => by
  unfold oAddP at g
  split at g
  · split at g
    · rename_i xs ys hl
      cases g
      rw [line_eq] at hl
      obtain ⟨a, oa, vs, rfl, fa, pa, qa⟩ := hx.ptup_
      obtain ⟨c, oc, ws, rfl, fc, pc, qc⟩ := hy.ptup_
      refine ⟨a, c, vs, ws, rfl, rfl, .inl (.inr ⟨oa, le _ _ fa⟩), .inl (.inr ⟨oc, le _ _ fc⟩), by rw [qa.length, qc.length]; exact hl, fun z => ?_, fun z1 z2 => ?_, fun z1 z2 p o hp ho => q _ _ _ (.new hp (.ptp ho.1 ho.2 (qa.app qc)))⟩
      · refine q _ F H (.old ?_)
        subst z
        cases qa
        exact hy
      · refine q _ F H (.old ?_)
        subst z2
        cases qc
        rw [List.append_nil]
        exact hx
    · cases g
  · split at g
    · rename_i xs ys hl
      cases g
      obtain ⟨hl, he⟩ := hl
      rw [line_eq] at hl
      obtain ⟨a, vs, rfl, fa, qa⟩ := hx.tupF_
      obtain ⟨c, oc, ws, rfl, fc, pc, qc⟩ := hy.ptup_
      refine ⟨a, c, vs, ws, rfl, rfl, SqT.of (le _ _ fa), .inl (.inr ⟨oc, le _ _ fc⟩), by rw [qa.length, qc.length]; exact hl, fun z => ?_, fun z1 z2 => ?_, fun z1 z2 p o hp ho => q _ _ _ (.new hp (.ptp ho.1 ho.2 (qa.app qc)))⟩
      · refine q _ F H (.old ?_)
        subst z
        cases qa
        exact hy
      · subst z2
        cases qc
        cases he
    · cases g
  · split at g
    · rename_i xs ys hl
      cases g
      obtain ⟨hl, he⟩ := hl
      rw [line_eq] at hl
      obtain ⟨a, oa, vs, rfl, fa, pa, qa⟩ := hx.ptup_
      obtain ⟨c, ws, rfl, fc, qc⟩ := hy.tupF_
      refine ⟨a, c, vs, ws, rfl, rfl, .inl (.inr ⟨oa, le _ _ fa⟩), SqT.of (le _ _ fc), by rw [qa.length, qc.length]; exact hl, fun z => ?_, fun z1 z2 => ?_, fun z1 z2 p o hp ho => q _ _ _ (.new hp (.ptp ho.1 ho.2 (qa.app qc)))⟩
      · subst z
        cases qa
        cases he
      · refine q _ F H (.old ?_)
        subst z2
        cases qc
        rw [List.append_nil]
        exact hx
    · cases g
  · cases g
theorem de_addP (ha : PE X a (tOf G E fa)) (hb : PE X c (tOf G E fb)) : PE X (.BinOp a .Add c pos) (tOf G E (eOp2F oAddP fa fb)) := de_opF (op_catZ (X := X)) (of_catZ (K := X.K)) ha hb
/-! ### tuple(xs) -/
/-! ### t[i:j] -/
def rSlZ (K : PySem.W.Frag) : V → Option Int → Option Int → Hp → VK → Prop := fun x lo hi H Q => ∃ a xs, x = .ref a ∧ SqT K H a xs ∧
  (HT.sIx xs.length 0 lo = 0 ∧ HT.sIx xs.length xs.length hi = xs.length → Q (.ref a) H) ∧ (¬ (HT.sIx xs.length 0 lo = 0 ∧ HT.sIx xs.length xs.length hi = xs.length) → ∀ p o, H p = none → PlT o → Q (.ref p) (upd H p (.frz o (.tup (cutV xs lo hi)))))
/-! ### t.index(k) -/
def tTix (K : PySem.W.Frag) (to : TE) (t : TA) : TE := fun σ H Q => to σ H fun x H1 => ∃ a o xs, x = .ref a ∧ H1 a = some (.frz o (.tup xs)) ∧ PlT o ∧ t σ H1 fun ys H2 => ∃ (ns : List Int) (k : Int), SqT K H2 a (ns.map V.int) ∧ ys = [.int k] ∧ k ∈ ns ∧ Q (.int (ns.idxOf k : Nat)) H2
theorem pe_tix {o e : Expr} {to : TE} {t : TA} {apos cpos : Pos} (ho : PE X o to) (ha : PA X [e] t)
    (hbase : attributeBase o "index" X.env (eval o X.env) = eval o X.env := by rfl)
    (hfew : ((backTo cpos (starEach [e] X.env)).all (fun x => !x.1) && (backToKw cpos (keywordEach [] X.env)).all (fun x => x.1.isSome)
      && decide (([e] : List Expr).length + ([] : List Keyword).length + (if ([] : List Keyword).isEmpty then 0 else 1) < 30)) = true := by rfl)
    (hline : (apos.endLine == cpos.line) = true := by rfl) (hs : starEach [e] X.env = (false, eval e X.env) :: starEach [] X.env := by rfl) (hplain : (backTo cpos (starEach [] X.env)).any (·.1) = false := by rfl) :
    PE X (.Call (.Attribute o "index" apos) [e] [] cpos) (tTix X.K to t) := by
  refine ⟨fun pins s σ H Q I h => ?_⟩
  refine wpAny_Call_method_late hbase hfew hline rfl (thn (ho.run pins s σ H _ I h) fun v s1 ⟨x, H1, I1, r1, a, ob, xs, ex, ha', pl, q1⟩ => ?_)
  subst ex
  cases r1
  obtain ⟨hob, _⟩ := I1.hok a _ ha'
  refine ⟨"tuple", "tuple.index", PySem.F.plainAttrs_tuple, PySem.F.slot_tuple_index, PySem.F.type_tuple_index, ⟨ob, hob, pl.1⟩, fun b e => by cases e; exact ⟨ob, hob, pl.2⟩, ?_⟩
  have hA := ha.run cpos pins s1 σ H1 _ I1 q1
  rw [hs] at hA ⊢
  refine Calls.callWith_builtin (by show (false || (backTo cpos (starEach [] X.env)).any (·.1)) = false; rw [hplain] <;> rfl) (Calls.evalArgs_plain ?_)
  refine thn hA fun us s2 ⟨vs, H2, I2, r2, ns, k, sq, ek, hk, q2⟩ => ?_
  subst ek
  obtain ⟨u, rfl, t, rfl⟩ := vals1 r2
  obtain ⟨its, r, pl2, hz⟩ := I2.tuple sq
  have hl : s2.heap.IsTuple a its.toArray := by
    obtain ⟨o, h1, h2, n, h3⟩ := pl2
    exact ⟨o, h1, h2, n, h3⟩
  exact PySem.SeqAt.tuple_index_ints hl (intsAre_of r) hk ⟨.int (ns.idxOf k : Nat), H2, I2.tok _, ⟨_, rfl⟩, q2⟩
theorem tix_rd : ∀ σ H Q, tOf G E (eIdx fa fb) σ H Q → tTix X.K (tOf G E fa) (tCons (tOf G E fb) tNil) σ H Q := fun σ H Q ⟨b, F, en, S, h⟩ => by
  refine ⟨b, F, en, S, h.bnd.mono fun x r1 F1 H1 S1 st1 w1 h1 v1 q1 => ?_⟩
  obtain ⟨d0, e0, h1a⟩ := h1.vwM
  obtain ⟨_, ed, h1b⟩ := Out.liftB h1a
  have V0 := q1.view S1 e0
  obtain ⟨ds, rfl⟩ : ∃ ds, d0 = .ptup ds := by
    unfold isPtp at ed
    split at ed
    · exact ⟨_, rfl⟩
    · cases ed
  obtain ⟨a, o, vs, rfl, ha, c, n, _⟩ := V0.ptup_
  refine ⟨a, o, vs, rfl, ha, ⟨c, n⟩, b, F1, r1, S1, h1b.bnd.mono fun y r2 F2 H2 S2 st2 w2 h2 v2 q2 => ?_⟩
  obtain ⟨d, e1, h2a⟩ := h2.vwM
  obtain ⟨kd, e2, h2b⟩ := h2a.vwM
  obtain ⟨rv, e3, h2c⟩ := h2b.lift
  have V1 := (q1.pass st2 w2).view S2 e1
  have V2 := q2.view S2 e2
  obtain ⟨xs, ns, k, rfl, rfl, en, hk, rfl⟩ : ∃ xs ns k, d = .ptup xs ∧ kd = .int k ∧ ints? xs = some ns ∧ k ∈ ns ∧ rv = .fz (.int (ns.idxOf k : Nat)) := by
    unfold oIdx at e3
    split at e3
    · rename_i xs k
      split at e3
      · rename_i ns en
        split at e3
        · rename_i hk
          cases e3
          exact ⟨xs, ns, k, rfl, rfl, en, hk, rfl⟩
        · cases e3
      · cases e3
    · cases e3
  obtain ⟨a', o', ws, ea, ha', _, _, qa⟩ := V1.ptup_
  cases ea
  have ew := qa.ints en
  subst ew
  refine ⟨ns, k, .inl (.inr ⟨o', ha'⟩), by rw [V2.int_], hk, ?_⟩
  obtain ⟨S3, st3, q3⟩ := (NewR.old (G := G) (F := F2) (H := H2) (.int (ns.idxOf k : Nat))).ok (H0 := H) S2 fun a z => st1.th a (st2.th a z)
  exact h2c.pur S3 st3 _ q3
theorem de_idx {o e : Expr} {apos cpos : Pos} (ho : PE X o (tOf G E fa)) (he : PE X e (tOf G E fb))
    (hbase : attributeBase o "index" X.env (eval o X.env) = eval o X.env := by rfl)
    (hfew : ((backTo cpos (starEach [e] X.env)).all (fun x => !x.1) && (backToKw cpos (keywordEach [] X.env)).all (fun x => x.1.isSome)
      && decide (([e] : List Expr).length + ([] : List Keyword).length + (if ([] : List Keyword).isEmpty then 0 else 1) < 30)) = true := by rfl)
    (hline : (apos.endLine == cpos.line) = true := by rfl) (hs : starEach [e] X.env = (false, eval e X.env) :: starEach [] X.env := by rfl) (hplain : (backTo cpos (starEach [] X.env)).any (·.1) = false := by rfl) :
    PE X (.Call (.Attribute o "index" apos) [e] [] cpos) (tOf G E (eIdx fa fb)) :=
  PE_mono (pe_tix ho (pa_cons he pa_nil hs) hbase hfew hline hs hplain) tix_rd
end
end DL

end

section
set_option Elab.async false
set_option linter.all false
set_option maxRecDepth 100000
set_option maxHeartbeats 1000000
/-! Exceptions: raised, caught. -/
namespace DL
open PySem L2 PySem.Spec PyProof.Rows
/-- raise C(w), C() -/
def sRaise1 (c : Nat) (fa : M RV) : S := bnd (eF fa) fun d r => .exc ⟨c, [d]⟩ r
def sRaise0 (c : Nat) : S := fun r => .exc ⟨c, []⟩ r
/-- C.__init__(self, w): self.f = w -/
def spIni (C : Addr) (f : Str) : Sp := fun vs H Q _ => ∃ a y, vs = [.ref a, y] ∧ H a = some (exo a C none) ∧ ∀ dx, H dx = none → dx ≠ a → Q .non (upd (upd H dx (exd dx [(f, y)])) a (exo a C (some dx)))
section
variable {P : Program} {w : World} {K : PySem.W.Frag} {mg : Str → Option Value} {base : Heap}
end
section
variable {X : Cx} {G : Gm} {E : EK} {c : Nat} {x f : Str} {e : Expr} {fa : M RV} {p pos pos' : Pos}
end
/-! ### caught -/
/-- try: body, except C as e (slot i): hd -/
def sTry (sub : Nat → Option Bool) (i : Nat) (body : S) (hd : Exn → S) : S := fun r => match body r with
  | .exc x r1 => (match sub x.c with
    | some true => (match r1[i]? with
      | some .no => (match hd x (r1.set i (.fbr .opq)) with
        | .ok .nx r2 => .ok .nx (r2.set i .no)
        | _ => .bad)
      | _ => .bad)
    | some false => .exc x r1
    | none => .bad)
  | res => res
/-- isinstance of the caught one; its attribute -/
def eIsX (sub : Nat → Option Bool) (y : Exn) : M RV := match sub y.c with
  | some t => pur (.fz (.bl t))
  | none => badM
def eXf (c : Nat) (y : Exn) : M RV := if y.c = c then (match y.fs with
  | [d] => pur (.fz d)
  | _ => badM) else badM
/-- the caught one's dict -/
def XdR (G : Gm) (F : Hp) (y : Exn) (d : Option Addr) : Prop := (y.fs = [] ∧ d = none) ∨ ∃ dd fs, d = some dd ∧ F dd = some (.xd fs) ∧ DqF G F (G.cf y.c) fs y.fs
/-- the handler's wish -/
abbrev EH (G : Gm) (i : Nat) (a : Addr) (d : Option Addr) (y : Exn) : EK := ⟨fun _ _ _ _ => False, fun b => b.vs i = some (.ref a) ∧ b.L i ∧ XdR G b.F y d⟩
/-- the handler's base -/
def Bas.hd (b : Bas) (F : Hp) (i : Nat) (a : Addr) : Bas := ⟨F, b.H, b.W, fun j => b.L j ∨ j = i, fun j => if j = i then some (.ref a) else b.vs j, fun j => b.x j ∨ j = i⟩
section
variable {G : Gm} {b : Bas} {F H F' H' : Hp} {σ : L2.St} {r : Env} {i : Nat} {a : Addr}
theorem Stt.toHd (S : Stt G b F H σ r) (hr : r[i]? = some .no) : Stt G (b.hd F i a) F H (σ.set i (some (.ref a))) (r.set i (.fbr .opq)) := by
  have hi : i < r.length := lt_of_get hr
  have hs : i < σ.length := by rw [← S.len]; exact hi
  have rs : (r.set i (.fbr .opq))[i]? = some (.fbr .opq) := List.getElem?_set_self hi
  have ro : ∀ j, j ≠ i → (r.set i (.fbr .opq))[j]? = r[j]? := fun j z => List.getElem?_set_ne (Ne.symm z)
  have ss : (σ.set i (some (V.ref a)))[i]? = some (some (.ref a)) := List.getElem?_set_self hs
  have so : ∀ j, j ≠ i → (σ.set i (some (V.ref a)))[j]? = σ[j]? := fun j z => List.getElem?_set_ne (Ne.symm z)
  have no : ∀ {j}, isOwn (r.set i (.fbr .opq)) j → j ≠ i ∧ isOwn r j := fun {j} ⟨u, q⟩ => by
    have z : j ≠ i := fun z => by subst z; rw [rs] at q; rcases q with q | q <;> cases q
    rw [ro j z] at q
    exact ⟨z, u, q⟩
  refine ⟨by rw [List.length_set, List.length_set]; exact S.len, S.sub, ?_, ?_, ?_, ?_, ?_, Le.refl _, fun a o h => .inl h, S.kH, S.wn, S.th, S.tp, ?_⟩
  · intro j u q
    by_cases z : j = i
    · subst z
      rw [rs] at q
      rcases q with q | q <;> cases q
      exact ⟨_, ss, .opq⟩
    · rw [ro j z] at q
      rw [so j z]
      exact S.val j u q
  · intro j u q
    obtain ⟨z, _⟩ := no ⟨u, q⟩
    rw [ro j z] at q
    rw [so j z]
    exact S.own j u q
  · intro j k c oj ok ej ek
    obtain ⟨z1, oj⟩ := no oj
    obtain ⟨z2, ok⟩ := no ok
    rw [so j z1] at ej
    rw [so k z2] at ek
    exact S.inj j k c oj ok ej ek
  · intro j u q
    by_cases z : j = i
    · subst z
      exact ⟨_, if_pos rfl, ss⟩
    · rw [ro j z] at q
      rw [so j z]
      obtain ⟨v, e1, e2⟩ := S.fix j u q
      exact ⟨v, (if_neg z).trans e1, e2⟩
  · intro j hj
    by_cases z : j = i
    · subst z
      exact ⟨_, .inr rs⟩
    · rw [ro j z]
      rcases hj with hj | hj
      · exact S.lent j hj
      · exact (z hj).elim
  · intro j u q
    by_cases z : j = i
    · exact .inr (.inr z)
    · rw [ro j z] at q
      exact (S.nk j u q).imp id .inl
theorem Stt.ofHd (le : Le b.F F) (nF : ∀ a o, F a = some o → b.F a = some o ∨ b.W a) (nL : ¬ b.L i) (S : Stt G (b.hd F i a) F' H' σ r) : Stt G b F' H' (σ.set i none) (r.set i .no) := by
  obtain ⟨d0, q0⟩ := S.lent i (.inr rfl)
  have hi : i < r.length := q0.elim lt_of_get lt_of_get
  have hs : i < σ.length := by rw [← S.len]; exact hi
  have rs : (r.set i Slot.no)[i]? = some .no := List.getElem?_set_self hi
  have ro : ∀ j, j ≠ i → (r.set i Slot.no)[j]? = r[j]? := fun j z => List.getElem?_set_ne (Ne.symm z)
  have so : ∀ j, j ≠ i → (σ.set i none)[j]? = σ[j]? := fun j z => List.getElem?_set_ne (Ne.symm z)
  have ne : ∀ {j : Nat} {s : Slot}, (r.set i Slot.no)[j]? = some s → s ≠ .no → j ≠ i := fun {j s} q n z => by subst z; rw [rs] at q; exact n (Option.some.inj q).symm
  have no : ∀ {j}, isOwn (r.set i Slot.no) j → j ≠ i ∧ isOwn r j := fun {j} ⟨u, q⟩ => by
    have z : j ≠ i := q.elim (fun q => ne q (fun z => nomatch z)) fun q => ne q (fun z => nomatch z)
    rw [ro j z] at q
    exact ⟨z, u, q⟩
  refine ⟨by rw [List.length_set, List.length_set]; exact S.len, S.sub, ?_, ?_, ?_, ?_, ?_, le.trans S.gF, ?_, S.kH, S.wn, S.th, S.tp, ?_⟩
  · intro j u q
    have z : j ≠ i := q.elim (fun q => ne q (fun z => nomatch z)) fun q => ne q (fun z => nomatch z)
    rw [ro j z] at q
    rw [so j z]
    exact S.val j u q
  · intro j u q
    obtain ⟨z, _⟩ := no ⟨u, q⟩
    rw [ro j z] at q
    rw [so j z]
    exact S.own j u q
  · intro j k c oj ok ej ek
    obtain ⟨z1, oj⟩ := no oj
    obtain ⟨z2, ok⟩ := no ok
    rw [so j z1] at ej
    rw [so k z2] at ek
    exact S.inj j k c oj ok ej ek
  · intro j u q
    have z : j ≠ i := q.elim (fun q => ne q (fun z => nomatch z)) fun q => ne q (fun z => nomatch z)
    rw [ro j z] at q
    rw [so j z]
    obtain ⟨v, e1, e2⟩ := S.fix j u q
    exact ⟨v, (if_neg z).symm.trans e1, e2⟩
  · intro j hj
    have z : j ≠ i := fun z => nL (z ▸ hj)
    rw [ro j z]
    exact S.lent j (.inl hj)
  · intro x o e
    rcases S.nF x o e with q | q
    · exact nF x o q
    · exact .inr q
  · intro j u q
    have z : j ≠ i := ne q (fun z => nomatch z)
    rw [ro j z] at q
    rcases S.nk j u q with h | h | h
    · exact .inl h
    · exact .inr h
    · exact (z h).elim
end
section
variable {X : Cx} {G : Gm} {E : EK} {c i : Nat} {x n f : Str} {sub : Nat → Option Bool} {p p1 p2 pos pos' : Pos}
end
end DL

end

section
set_option Elab.async false
set_option linter.all false
set_option maxRecDepth 100000
set_option maxHeartbeats 4000000
/-! The caught exception: its class, its attribute. -/
namespace DL
open PySem PySem.Spec PySem.Calls PySem.W PyProof.Rows
section
variable {prog : Program} {w : World} {A : Around} {E : Value → Shared → Prop} {s : Shared} {K : Frag} {x C : Addr} {ox : Obj} {od : Option Obj}
end
end DL
namespace DL
open PySem L2 PySem.Spec PyProof.Rows
/-- isinstance(e, c), e the one that the handler holds -/
def rIsX (K : PySem.W.Frag) (C a : Addr) (d : Option Addr) : List V → Hp → VK → Prop := fun xs H Q => ∃ (c : V) (cv : Value) (t : Bool), xs = [.ref a, c] ∧ (∀ u, RelV c u → u = cv) ∧ PySem.W.kitOne K (.ref C) cv = some t ∧ (d = none ∨ ∃ dd fs, d = some dd ∧ H dd = some (.xd fs)) ∧ Q (.bl t) H
section
variable {X : Cx} {G : Gm} {i c : Nat} {x n f : Str} {sub : Nat → Option Bool} {a : Addr} {oe : Obj} {cls : Value} {d : Option Addr} {pn : List (Addr × Obj)} {y : Exn} {p p1 p2 pos : Pos}
theorem XdR.heap {F H : Hp} (h : XdR G F y d) (le : Le F H) : d = none ∨ ∃ dd fs, d = some dd ∧ H dd = some (.xd fs) := by
  rcases h with ⟨_, h⟩ | ⟨dd, fs, h, e, _⟩
  · exact .inl h
  · exact .inr ⟨dd, fs, h, le _ _ e⟩
end
end DL

end

section
set_option Elab.async false
set_option linter.all false
set_option maxRecDepth 100000
set_option maxHeartbeats 1000000
/-! What gen.py needs for exceptions: facts of their classes, rules of a handler. -/
namespace DL
open PySem L2 PySem.Spec PyProof.Rows
abbrev veB : List Value := [.type "ValueError", .type "Exception", .type "BaseException", .type "object"]
/-- raise C() -/
structure R0 (K : PySem.W.Frag) (C : Addr) : Prop where
  xi : PySem.W.excIn K C veB "ValueError.__new__" = true
  kp : PySem.W.keepIn K (.ref C) = true
  sb : PySem.W.subIn K (.ref C) (.type "BaseException") = some true
  ty : PySem.W.typeIn K (.ref C) = some (.type "type")
/-- a class over ValueError with an own __init__ -/
def oexB (K : PySem.W.Frag) (C : Addr) : Bool := match K.lookup C with
  | some ⟨.type "type", _, .cls cd, sl⟩ => (match cd.mro, sl.toList with
    | .ref C' :: bm, [_, _, _, _, some (.builtin n), _] => C' == C && n == "ValueError.__new__" && !cd.hasDel && cd.hasDict && PySem.HandSPX.refsVE bm
    | _, _ => false)
  | _ => false
/-- a class's own __init__ -/
structure Ini (K : PySem.W.Frag) (C fI : Addr) (f : Str) : Prop where
  ini : PySem.W.findIn K (.ref C) "__init__" = some (some (.ref fI))
  ty : PySem.W.typeIn K (.ref fI) = some (.type "function")
  no : PySem.W.findIn K (.ref C) f = some none
section
variable {X : Cx} {G : Gm} {E : EK} {c i lv : Nat} {x n f : Str} {e : Expr} {fa : M RV} {p p1 p2 pos pos' : Pos}
theorem pasL {X : Cx} {E : EK} : ∀ σ, PassesAt (L2N.CX X.prog X.w) X σ (WE E.no.w σ) := fun σ => L2N.passAt (W := E.no.w) takesN σ
end
/-! ### rules where an exception is handled: only the units are known -/
section
variable {X : Cx} {G : Gm} {E : EK} {a c : Expr} {fa fb : M RV} {pos : Pos}
end
end DL

end

section
set_option Elab.async false
set_option linter.all false
set_option maxRecDepth 100000
/-! x = y, y not read any more: the object goes over. -/
namespace DL
open PySem L2
def sMov (i j : Nat) : S := fun r => match r[j]? with
  | some (.own d) => (match put i (.own d) (r.set j .no) with
    | .ok _ r2 => .ok .nx r2
    | _ => .bad)
  | _ => .bad
section
variable {G : Gm} {b : Bas} {F H : Hp} {σ : L2.St} {r : Env} {j : Nat} {d : D}
/-- nothing is said of an own slot any more -/
theorem Stt.drop (S : Stt G b F H σ r) (h : r[j]? = some (.own d)) : Stt G b F H σ (r.set j .no) := by
  have hj : j < r.length := lt_of_get h
  have rs : (r.set j Slot.no)[j]? = some .no := List.getElem?_set_self hj
  have ro : ∀ k, k ≠ j → (r.set j Slot.no)[k]? = r[k]? := fun k z => List.getElem?_set_ne (Ne.symm z)
  have ne : ∀ {k : Nat} {s : Slot}, (r.set j Slot.no)[k]? = some s → s ≠ .no → k ≠ j := fun {k s} q n z => by subst z; rw [rs] at q; exact n (Option.some.inj q).symm
  have no : ∀ {k}, isOwn (r.set j Slot.no) k → k ≠ j ∧ isOwn r k := fun {k} ⟨u, q⟩ => by
    have z : k ≠ j := q.elim (fun q => ne q (fun z => nomatch z)) fun q => ne q (fun z => nomatch z)
    rw [ro k z] at q
    exact ⟨z, u, q⟩
  refine ⟨by rw [List.length_set]; exact S.len, S.sub, ?_, ?_, ?_, ?_, ?_, S.gF, S.nF, S.kH, S.wn, S.th, S.tp, ?_⟩
  · intro k u q
    have z : k ≠ j := q.elim (fun q => ne q (fun z => nomatch z)) fun q => ne q (fun z => nomatch z)
    rw [ro k z] at q
    exact S.val k u q
  · intro k u q
    obtain ⟨z, _⟩ := no ⟨u, q⟩
    rw [ro k z] at q
    exact S.own k u q
  · intro k l c ok ol ek el
    exact S.inj k l c (no ok).2 (no ol).2 ek el
  · intro k u q
    have z : k ≠ j := q.elim (fun q => ne q (fun z => nomatch z)) fun q => ne q (fun z => nomatch z)
    rw [ro k z] at q
    exact S.fix k u q
  · intro k hk
    obtain ⟨u, q⟩ := S.lent k hk
    have z : k ≠ j := fun z => by
      subst z
      rw [h] at q
      rcases q with q | q <;> cases q
    rw [ro k z]
    exact ⟨u, q⟩
  · intro k u q
    have z : k ≠ j := ne q (fun z => nomatch z)
    rw [ro k z] at q
    exact S.nk k u q
end
end DL

end

section
set_option Elab.async false
set_option linter.all false
set_option maxRecDepth 100000
/-! x is True, x is not True. -/
namespace DL
open PySem L2
def oIsB : D → D → Option RV
  | .bl a, .bl b => some (.fz (.bl (decide (a = b))))
  | _, _ => none
def oIsNotB : D → D → Option RV
  | .bl a, .bl b => some (.fz (.bl (!decide (a = b))))
  | _, _ => none
section
variable {X : Cx} {G : Gm}
end
end DL

end

section
set_option Elab.async false
set_option linter.all false
set_option maxRecDepth 100000
/-! repr(x), len(set(t)). -/
namespace DL
open PySem L2 PyProof.Rows
/-! ### repr -/
def oRepr (d : D) : Option RV := match toPd d with
  | some p => if p.showable = true ∧ p.hasDict = false ∧ p.depth ≤ 60 ∧ p.shown.length ≤ sizeLine then some (.fz (.str p.shown)) else none
  | none => none
def rRepr (K : PySem.W.Frag) : List V → Hp → VK → Prop := fun xs H Q => ∃ v p, xs = [v] ∧ Dp K H v p ∧ p.showable = true ∧ p.hasDict = false ∧ p.depth ≤ 60 ∧ p.shown.length ≤ sizeLine ∧ Q (.str p.shown) H
section
variable {X : Cx} {G : Gm}
end
/-! ### len(set(t)) -/
/-- the whole numbers of a list, each once -/
def dupsI : List Int → List Int
  | [] => []
  | x :: xs => if x ∈ xs then dupsI xs else x :: dupsI xs
def oLenSet : D → Option RV
  | .tup xs => match ints? xs with
    | some ns => if ns.length ≤ 1000 then some (.fz (.int (dupsI ns).length)) else none
    | none => none
  | .ptup xs => match ints? xs with
    | some ns => if ns.length ≤ 1000 then some (.fz (.int (dupsI ns).length)) else none
    | none => none
  | _ => none
def tLenSetT (K : PySem.W.Frag) (ta : TE) : TE := fun σ H Q => ta σ H fun x H1 => ∃ (l : Addr) (ns : List Int), x = .ref l ∧ SqT K H1 l (ns.map V.int) ∧ ns.length ≤ 1000 ∧ Q (.int (dupsI ns).length) H1
section
variable {X : Cx} {G : Gm}
end
end DL

end

section
set_option Elab.async false
set_option linter.all false
set_option maxRecDepth 100000
/-! "..".join(xs). -/
namespace DL
open PySem L2 PyProof.Rows
def strs? : List D → Option (List Str)
  | [] => some []
  | .str s :: ds => (strs? ds).map (s :: ·)
  | _ :: _ => none
def oJoin (a : Str) : D → Option RV
  | .lst xs => match strs? xs with
    | some ys => if (ys.map (·.length)).sum + ys.length * a.length ≤ 16777216 then some (.fz (.str (Txt.join a ys))) else none
    | none => none
  | _ => none
section
variable {X : Cx} {G : Gm} {F : Hp}
end
end DL

end

section
set_option Elab.async false
set_option linter.all false
set_option maxRecDepth 100000
set_option maxHeartbeats 2000000
/-! [elt for x in range(n) if c] where an exception is handled. -/
namespace DL
open PySem L2 PySem.Spec PyProof.Rows HotX L2H
section
variable {X : Cx} {pins : List (Addr × Obj)} {σ : L2.St} {H : Hp} {s : Shared}
/-- what range(n) hands to a loop -/
def RgS (X : Cx) (pins : List (Addr × Obj)) (σ : L2.St) (R : Nat → Hp → Prop) (v : Value) (s : Shared) : Prop :=
  ∃ (it : Addr) (n : Nat) (H : Hp), v = .ref it ∧ Inv X pins σ H s ∧ IsRangeIter s.heap it ((0 : Nat) : Int) ((n : Int) - (0 : Nat)) 1 ∧ FpOk X pins H it ∧ R n H
end
section
variable {X : Cx} {G : Gm} {E : EK} {pos : Pos}
end
end DL

end

section
set_option Elab.async false
set_option linter.all false
set_option maxRecDepth 100000
set_option maxHeartbeats 1000000
/-! dict([(k, v), ..]) of a list of pairs, the keys different ints. -/
namespace DL
open PySem L2 PySem.Spec PyProof.Rows
def prsI : List D → Option (List (Int × D))
  | [] => some []
  | .tup [.int k, d] :: t => (prsI t).map fun l => (k, d) :: l
  | _ => none
def oDictP : D → Option RV
  | .lst ds => match prsI ds with
    | some l => if (l.map (·.1)).Nodup then some (.tmp (.dic false (l.map fun q => (.int q.1, q.2)))) else none
    | none => none
  | _ => none
section
variable {G : Gm} {F H : Hp}
theorem Dq.pair {v : V} {k : Int} {d : D} (h : Dq G F v (.tup [.int k, d])) : ∃ p y, v = .ref p ∧ F p = some (.tup [.int k, y]) ∧ Dq G F y d := by
  cases h with
  | @ref a o _ ha ob =>
    cases ob with
    | tup q =>
      cases q with
      | cons q1 q2 =>
        cases q2 with
        | cons q2 q3 =>
          cases q3
          cases q1 with
          | int => exact ⟨_, _, rfl, ha, q2⟩
          | ref _ ob => cases ob
end
section
variable {X : Cx} {G : Gm} {E : EK} {e : Expr} {fa : M RV} {p pos : Pos}
end
end DL

end

section
set_option Elab.async false
set_option linter.all false
set_option maxRecDepth 100000
set_option maxHeartbeats 1000000
/-! Dicts whose keys are numbers, compared: entries alike one by one. -/
namespace DL
open PySem L2 PySem.W PyProof.Rows PySem.SeqAt PySem.Calls
section
variable {prog : Program} {w : World} {K : Type} [DecidableEq K] {knd : KeyKind prog w K} {A : Around} {E : Value → Shared → Prop} {s : Shared}
end
def rNeK (K : PySem.W.Frag) : R2 := fun x y H Q => ∃ a b ks ls, x = .ref a ∧ y = .ref b ∧ H a = some (.dK ks) ∧ H b = some (.dK ls) ∧ (ls.map (·.1)).Nodup ∧ ks.length = ls.length ∧ (∀ (i : Nat) (p q : Key × V), ks[i]? = some p → ls[i]? = some q → p.1 = q.1 ∧ Alk K H p.2 q.2) ∧ Q (.bl false) H
section
variable {X : Cx}
end
/-! ### by values -/
def intKeys : List (D × D) → Option (List Int)
  | [] => some []
  | (.int k, _) :: t => (intKeys t).map fun l => k :: l
  | _ => none
def sameKI : List (D × D) → List (D × D) → Bool
  | [], [] => true
  | (.int k, v) :: a, (.int k', v') :: b => (decide (k = k') && (match shp v, shp v' with
    | some p, some q => PyData.eqv p q
    | _, _ => false)) && sameKI a b
  | _, _ => false
def oNeK : D → D → Option RV
  | .dic false a, .dic false b => match intKeys b with
    | some l => if l.Nodup ∧ sameKI a b = true then some (.fz (.bl false)) else none
    | none => none
  | _, _ => none
section
variable {G : Gm}
variable {X : Cx} {lv : Nat}
end
end DL

end

section
set_option Elab.async false
set_option linter.all false
set_option maxRecDepth 100000
set_option maxHeartbeats 1000000
/-! t[::-1] of a tuple: the new one is known to the object. -/
namespace DL
open PySem L2 PyProof.Rows
open PySem.Spec
def oRevP : D → Option RV
  | .tup xs => some (.fz (.ptup xs.reverse))
  | .ptup xs => some (.fz (.ptup xs.reverse))
  | _ => none
def rRevZ (K : PySem.W.Frag) : V → Hp → VK → Prop := fun x H Q => ∃ a xs, x = .ref a ∧ (SqT K H a xs ∧ ∀ p o, H p = none → PlT o → Q (.ref p) (upd H p (.frz o (.tup xs.reverse))))
section
variable {X : Cx} {G : Gm} {E : EK} {e : Expr} {te : TE} {fa : M RV} {k : Nat} {p1 p2 p3 pos : Pos}
/-! t * k -/
def oMulT : D → D → Option RV
  | .tup xs, .int k => if k = 1 then some (.fz (.tup xs)) else if xs ≠ [] ∧ 2 ≤ k ∧ k ≤ 1000 ∧ xs.length ≤ 1000 then some (.fz (.tup (List.replicate k.toNat xs).flatten)) else none
  | _, _ => none
def rRep1 (K : PySem.W.Frag) : R2 := fun x y H Q => ∃ l xs, x = .ref l ∧ y = .int 1 ∧ SqT K H l xs ∧ Q (.ref l) H
end
end DL

end

section
set_option Elab.async false
set_option linter.all false
set_option maxRecDepth 100000
set_option maxHeartbeats 1000000
/-! for .. in zip(t, u), tuples. -/
namespace DL
open PySem L2 PyProof.Rows RZ
def tupOf : D → Option (List D)
  | .tup xs => some xs
  | .ptup xs => some xs
  | _ => none
def zipP : List D → List D → List D
  | x :: xs, y :: ys => .tup [x, y] :: zipP xs ys
  | _, _ => []
def zipL : List D → Option (List D)
  | [d, e] => match tupOf d, tupOf e with
    | some xs, some ys => some (zipP xs ys)
    | _, _ => none
  | _ => none
def iZip (as : List (M RV)) : M (List D) := bnd (eFs as) fun ds => lift (zipL ds)
section
variable {X : Cx} {G : Gm} {E : EK} {pos tpos p : Pos} {e e2 : Expr} {fs : List (M RV)} {elts : List Expr} {kk : Nat}
end
end DL

end

section
set_option Elab.async false
set_option linter.all false
set_option maxRecDepth 100000
set_option maxHeartbeats 1000000
/-! A comprehension over a list that is not frozen by it. -/
namespace DL
open PySem L2 PyProof.Rows
/-- the list of slot j as it stands, n long -/
def curL (j n : Nat) : M (List D) := fun r => match r[j]? with
  | some (.own (.lst xs)) => if xs.length = n then .ok xs r else .bad
  | some (.brw (.lst xs)) => if xs.length = n then .ok xs r else .bad
  | _ => .bad
def lenL (j : Nat) : M Nat := fun r => match r[j]? with
  | some (.own (.lst xs)) => .ok xs.length r
  | some (.brw (.lst xs)) => .ok xs.length r
  | _ => .bad
def compGoV (j n : Nat) (is : List Nat) (t : Tg) (c : M Bool) (e : M RV) : Nat → Nat → List D → M (List D)
  | 0, _, acc => bnd (curL j n) fun _ => pur acc
  | m + 1, i, acc => bnd (curL j n) fun xs => bnd (lift xs[i]?) fun d => bnd (asg t d) fun _ => bnd c fun x => if x then (bnd (eF e) fun y => bnd (wip is) fun _ => if acc.length < line then compGoV j n is t c e m (i + 1) (acc ++ [y]) else badM) else (bnd (wip is) fun _ => compGoV j n is t c e m (i + 1) acc)
def eCompV (j : Nat) (is : List Nat) (t : Tg) (c : M Bool) (e : M RV) : M RV :=
  bnd (lenL j) fun n => bnd (inBlk is (compGoV j n is t c e n 0 [])) fun ys => pur (.tmp (.lst ys))
def isLst (j : Nat) (r : Env) : Bool := match r[j]? with
  | some (.own (.lst _)) => true
  | some (.brw (.lst _)) => true
  | _ => false
def eCompX (j : Nat) (is : List Nat) (t : Tg) (c : M Bool) (e : M RV) : M RV := fun r => if isLst j r = true then eCompV j is t c e r else eComp is t (iSeq (eVar j)) c e r
section
variable {X : Cx} {G : Gm} {E : EK} {pos : Pos}
end
end DL

end

section
set_option Elab.async false
set_option linter.all false
set_option maxRecDepth 100000
set_option maxHeartbeats 3200000
/-! sorted(set(xs)), xs a list of few whole numbers; += of tuples that are known to the object. -/
namespace DL
open PySem L2 PyProof.Rows
open Sem (wp)
section
variable {P : Program} {w : World} {A : Around} {E : Value → Shared → Prop} {s : Shared}
end
section
variable {X : Cx} {G : Gm} {E : EK}
def rSetI (K : PySem.W.Frag) (w : World) : List V → Hp → VK → Prop := fun xs H Q => ∃ (l : Addr) (ns : List Int), xs = [V.ref l] ∧ SqL K H l (ns.map V.int) ∧ ns.length ≤ 60 ∧
  ∀ a n, H a = none → n ≤ ns.length → Q (.ref a) (upd H a (SetO w a (fun j => decide (j ∈ ns)) n))
def oSortSetI : D → Option RV
  | .lst xs => match ints? xs with
    | some ns => if ns.length ≤ 60 then some (.tmp (.lst ((sortInts (dupsI ns)).map .int))) else none
    | none => none
  | _ => none
/-! ### list(t) -/
def oListP : D → Option RV
  | .ptup xs => some (.tmp (.lst xs))
  | _ => none
/-! ### t += u -/
def onFz (g : D → D → Option RV) : RV → RV → M RV
  | .fz d, .fz e => lift (g d e)
  | _, _ => badM
def eFz2 (g : D → D → Option RV) (a c : M RV) : M RV := bnd a fun x => bnd c fun y => onFz g x y
end
end DL

end

section
set_option Elab.async false
set_option linter.all false
set_option maxRecDepth 100000
set_option maxHeartbeats 3200000
/-! len(set(xs)), xs a list of whole numbers. -/
namespace DL
open PySem L2 PyProof.Rows
open Sem (wp)
def oLenSetL : D → Option RV
  | .lst xs => match ints? xs with
    | some ns => if ns.length ≤ 1000 then some (.fz (.int (dupsI ns).length)) else none
    | none => none
  | _ => none
def tLenSetL (K : PySem.W.Frag) (ta : TE) : TE := fun σ H Q => ta σ H fun x H1 => ∃ (l : Addr) (ns : List Int), x = .ref l ∧ SqL K H1 l (ns.map V.int) ∧ ns.length ≤ 1000 ∧ Q (.int (dupsI ns).length) H1
section
variable {X : Cx} {G : Gm}
end
end DL

end

section
set_option Elab.async false
set_option linter.all false
set_option maxRecDepth 100000
set_option maxHeartbeats 1000000
/-! x.bit_length(); x *= y of whole numbers of any size. -/
namespace DL
open PySem L2 PyProof.Rows
def oBits : D → Option RV
  | .int i => some (.fz (.int (Builtin.Int.intBits i : Nat)))
  | _ => none
def oIMulW : D → D → Option RV
  | .int i, .int j => if i.natAbs.log2 + j.natAbs.log2 < 1000000 then some (.fz (.int (i * j))) else none
  | _, _ => none
section
variable {X : Cx} {G : Gm} {E : EK}
end
end DL

end

section
set_option Elab.async false
set_option linter.all false
set_option maxRecDepth 100000
set_option maxHeartbeats 1000000
/-! max(t), t a tuple of whole numbers. -/
namespace DL
open PySem L2 PySem.W PyProof.Rows PySem.SeqAt PySem.Calls
def oMaxT : D → Option RV
  | .tup xs => match ints? xs with
    | some (n :: ns) => some (.fz (.int (mostI (n :: ns))))
    | _ => none
  | _ => none
def rMaxT (K : PySem.W.Frag) : List V → Hp → VK → Prop := fun vs H Q => ∃ (a : Addr) (n : Int) (ns : List Int), vs = [V.ref a] ∧ SqT K H a ((n :: ns).map V.int) ∧ ∀ m, m ∈ n :: ns → (∀ y, y ∈ n :: ns → y ≤ m) → Q (.int m) H
section
variable {X : Cx} {G : Gm} {E : EK}
end
end DL

end

section
set_option Elab.async false
set_option linter.all false
set_option maxRecDepth 100000
set_option maxHeartbeats 1000000
/-! for k, v in x.items(), x a dict of a slot: it stays as it is from then on. -/
namespace DL
open PySem L2 PyProof.Rows
def pairK (p : D × D) : D := .tup [p.1, p.2]
def iItemS (i : Nat) : M (List D) := fun r => match r[i]? with
  | some (.own (.dic t kvs)) => .ok (kvs.map pairK) (r.set i (.val (.fdc t kvs)))
  | some (.val (.fdc _ kvs)) => .ok (kvs.map pairK) r
  | _ => .bad
/-- the pairs of a dict whose keys are tuples, each a new tuple -/
def Itit (d : Addr) (o : Obj) (kvs : List (List Key × V)) : It :=
  ⟨fun i H => H d = some (.frz o (.dT kvs)) ∧ i < kvs.length, fun i H x H' => ∃ T k v q, kvs[i]? = some (k, v) ∧ x = .ref T ∧ H q = some (.tup (k.map kV)) ∧ H T = none ∧ H' = upd H T (.tup [.ref q, v]), fun i H => H d = some (.frz o (.dT kvs)) ∧ kvs.length ≤ i⟩
section
variable {X : Cx} {pins : List (Addr × Obj)} {σ : L2.St} {H : Hp} {s : Shared} {d : Addr} {o : Obj}
end
section
variable {P : Program} {w : World} {K : PySem.W.Frag} {d : Addr} {o : Obj} {es : Array DictEntry} {ep : Nat}
end
def iItemsT (td : TE) : TI := fun σ H R => td σ H fun x H1 => ∃ d o kvs, x = .ref d ∧ H1 d = some (.frz o (.dT kvs)) ∧ R (Itit d o kvs) H1
section
variable {X : Cx} {tg e : Expr} {td : TE} {apos cpos : Pos}
end
section
variable {G : Gm} {b : Bas} {F H : Hp} {σ : L2.St} {r : Env} {a : Addr} {i : Nat}
end
section
variable {X : Cx} {G : Gm} {E : EK} {i : Nat} {x : Str} {p apos cpos tpos : Pos} {elts : List Expr} {kk : Nat}
end
end DL

end

section
set_option Elab.async false
set_option linter.all false
set_option maxRecDepth 100000
set_option maxHeartbeats 3200000
/-! len(set(xs)), xs a list of rows of whole numbers, fewer than 63 different ones. -/
namespace DL
open PySem L2 PyProof.Rows
open Sem (wp)
def oLenSetR : D → Option RV
  | .lst xs => match rows? xs with
    | some nss => if (dups nss).length < 63 then some (.fz (.int (dups nss).length)) else none
    | none => none
  | _ => none
def tLenSetR (K : PySem.W.Frag) (ta : TE) : TE := fun σ H Q => ta σ H fun x H1 => ∃ (l : Addr) (ks : List (Addr × List Int)), x = .ref l ∧ SqL K H1 l (ks.map fun p => V.ref p.1) ∧ (∀ p ∈ ks, SqT K H1 p.1 (p.2.map V.int)) ∧ FewR ks ∧ Q (.int (dups (ks.map (·.2))).length) H1
section
variable {X : Cx} {G : Gm}
end
end DL

end

section
set_option Elab.async false
set_option linter.all false
set_option maxRecDepth 100000
set_option maxHeartbeats 1000000
/-! [f, g, h][i](..), own defs. -/
namespace DL
open PySem L2 PyProof.Rows
/-- one of some defs -/
structure Alt (X : Cx) (E : L2.St → XK) where
  f : Addr
  fd : FuncData
  ps : List Str
  sp : Sp
  n : Nat
  F : FnOk X.prog X.w X.K X.mg X.base (L2N.CX X.prog X.w) n f fd ps sp
  room : Room n X.A
  kp : PySem.W.keepIn X.K (.ref f) = true
  bd : Binds X.K fd ps []
  pass : ∀ σ, PassesAt (L2N.CX X.prog X.w) X σ (E σ)
def eCallAt (gs : List Fn) (fi : M RV) (fs : List (M RV)) : M RV := bnd fi fun iv => match iv with
  | .fz (.int k) => if 0 ≤ k then (match gs[k.toNat]? with
    | some g => eCall g fs
    | none => badM) else badM
  | _ => badM
section
variable {X : Cx} {E : L2.St → XK} {callee e : Expr} {es : List Expr} {tc : TE} {t : TA} {pos : Pos}
def tCallAt (as : List (Alt X E)) (tc : TE) (t : TA) : TE := fun σ H Q => tc σ H fun v H1 => ∃ A ∈ as, v = .ref A.f ∧ t σ H1 fun xs H2 => A.sp xs H2 Q (E σ)
end
section
variable {X : Cx} {G : Gm} {E : EK} {e ix : Expr} {es ns : List Expr} {pos p1 p2 : Pos} {gs : List Fn} {fi : M RV} {fs : List (M RV)}
end
end DL

end

section
set_option Elab.async false
set_option linter.all false
set_option maxRecDepth 100000
set_option maxHeartbeats 1000000
/-! for .. in zip(t, u), t a tuple, u a list. -/
namespace DL
open PySem PySem.Spec L2 PyProof.Rows RZ
/-- the tuple at a and the list at b as they stand at each turn, the items in new pairs -/
def ItzM (K : PySem.W.Frag) (a b : Addr) : It :=
  ⟨fun i H => ∃ (xs ys : List V) (x y : V), SqT K H a xs ∧ SqL K H b ys ∧ xs[i]? = some x ∧ ys[i]? = some y,
    fun i H v H' => ∃ T x y, v = .ref T ∧ H T = none ∧ H' = upd H T (.tup [x, y]) ∧ (∀ xs, SqT K H a xs → xs[i]? = some x) ∧ ∀ ys, SqL K H b ys → ys[i]? = some y,
    fun i H => ∃ xs ys : List V, SqT K H a xs ∧ SqL K H b ys ∧ i ≤ xs.length ∧ i ≤ ys.length ∧ (i = xs.length ∨ i = ys.length)⟩
def iZipAM (K : PySem.W.Frag) (ta : TA) : TI := fun σ H R => ta σ H fun vs H1 => ∃ a b xs ys, vs = [.ref a, .ref b] ∧ SqT K H1 a xs ∧ SqL K H1 b ys ∧ R (ItzM K a b) H1
def lstOf : D → Option (List D)
  | .lst ys => some ys
  | _ => none
def zipM : List D → Option (List D)
  | [d, e] => match tupOf d, lstOf e with
    | some xs, some ys => some (zipP xs ys)
    | _, _ => none
  | _ => none
/-- zip of a tuple and a list -/
def iZipM (as : List (M RV)) : M (List D) := bnd (eFs as) fun ds => lift (zipM ds)
section
variable {X : Cx} {G : Gm} {E : EK} {pos tpos p : Pos} {e e2 : Expr} {fs : List (M RV)} {elts : List Expr} {kk : Nat}
end
end DL

end

section
set_option Elab.async false
set_option linter.all false
set_option maxRecDepth 100000
set_option maxHeartbeats 1000000
/-! A loop of one expression, and a comprehension of two, over a list that is not frozen by it. -/
namespace DL
open PySem L2 PyProof.Rows
def forGoV (j n : Nat) (t : Tg) (f : M RV) : Nat → Nat → S
  | 0, _ => bnd (curL j n) fun _ => pur .nx
  | m + 1, i => bnd (curL j n) fun xs => bnd (lift xs[i]?) fun d => bnd (asg t d) fun _ => bnd f fun _ => forGoV j n t f m (i + 1)
/-- for t in (slot j's own list): f -/
def sForV (j : Nat) (t : Tg) (f : M RV) : S := bnd (lenL j) fun n => forGoV j n t f n 0
def comp2GoV (j n : Nat) (is is1 : List Nat) (t : Tg) (c : M Bool) (t1 : Tg) (it1 : M (List D)) (c1 : M Bool) (e : M RV) : Nat → Nat → List D → M (List D)
  | 0, _, acc => bnd (curL j n) fun _ => pur acc
  | m + 1, i, acc => bnd (curL j n) fun xs => bnd (lift xs[i]?) fun d => bnd (asg t d) fun _ => bnd c fun x => if x then (bnd it1 fun ds1 => bnd (wip is1) fun _ => bnd (compGo is1 t1 c1 e ds1 acc) fun acc1 => bnd (wip is) fun _ => comp2GoV j n is is1 t c t1 it1 c1 e m (i + 1) acc1) else (bnd (wip is) fun _ => comp2GoV j n is is1 t c t1 it1 c1 e m (i + 1) acc)
/-- a comprehension of two, the first over slot j's own list -/
def eComp2V (j : Nat) (is is1 : List Nat) (t : Tg) (c : M Bool) (t1 : Tg) (it1 : M (List D)) (c1 : M Bool) (e : M RV) : M RV :=
  bnd (lenL j) fun n => bnd (inBlk is (comp2GoV j n is is1 t c t1 it1 c1 e n 0 [])) fun ys => pur (.tmp (.lst ys))
section
variable {X : Cx} {G : Gm} {E : EK} {pos : Pos}
end
end DL

end

section
set_option Elab.async false
set_option linter.all false
set_option maxRecDepth 100000
set_option maxHeartbeats 1000000
/-! x.index(k), x an own list of whole numbers. -/
namespace DL
open PySem L2 PySem.Spec PyProof.Rows
def rIdxL : V → List V → Hp → VK → Prop := fun x vs H Q => ∃ (l : Addr) (ns : List Int) (k : Int), x = .ref l ∧ vs = [.int k] ∧ H l = some (.lst (ns.map V.int)) ∧ k ∈ ns ∧ ns.length ≤ sizeLine ∧ Q (.int (ns.idxOf k : Nat)) H
/-- the list stays -/
def mIdxL (d : D) (as : List D) : Option (D × D) := match d, as with
  | .lst xs, [.int k] => (match ints? xs with
    | some ns => if k ∈ ns ∧ ns.length ≤ line then some (.lst xs, .int (ns.idxOf k : Nat)) else none
    | none => none)
  | _, _ => none
section
variable {X : Cx} {G : Gm} {E : EK}
end
end DL

end

section
set_option Elab.async false
set_option linter.all false
set_option maxRecDepth 100000
set_option maxHeartbeats 1000000
/-! x.count(k), x an own list of whole numbers. -/
namespace DL
open PySem L2 PySem.Spec PyProof.Rows
def rCntL : V → List V → Hp → VK → Prop := fun x vs H Q => ∃ (l : Addr) (ns : List Int) (k : Int), x = .ref l ∧ vs = [.int k] ∧ H l = some (.lst (ns.map V.int)) ∧ Q (.int (ns.count k : Nat)) H
/-- the list stays -/
def mCntL (d : D) (as : List D) : Option (D × D) := match d, as with
  | .lst xs, [.int k] => (match ints? xs with
    | some ns => some (.lst xs, .int (ns.count k : Nat))
    | none => none)
  | _, _ => none
section
variable {X : Cx} {G : Gm} {E : EK}
end
end DL

end

section
set_option Elab.async false
set_option linter.all false
set_option maxRecDepth 100000
set_option maxHeartbeats 1000000
/-! x.update(y), dicts whose keys are tuples. -/
namespace DL
open PySem PySem.Spec L2 PyProof.Rows
def putAllK {κ : Type} [DecidableEq κ] (kvs more : List (κ × V)) : List (κ × V) := more.foldl (fun l p => putK l p.1 p.2) kvs
section
variable {X : Cx} {pins : List (Addr × Obj)} {σ : L2.St} {H : Hp} {s : Shared} {a b : Addr} {A : Around} {E : Value → Shared → Prop}
end
def storAll (K M : List (D × D)) : List (D × D) := M.foldl (fun l p => stor l p.1 p.2) K
/-- x.update(y) -/
def mUpdT (d : D) (as : List D) : Option (D × D) := match d, as with
  | .dic true K, [.dic true M] => if K.isEmpty = false ∧ K.length + M.length ≤ line then some (.dic true (storAll K M), .non) else none
  | _, _ => none
def eMutTA (i : Nat) (f : D → List D → Option (D × D)) (as : List (M RV)) : M RV := bnd (rcvT i) fun _ => bnd (eFs as) fun ds => mutAt i f ds
def rUpdT : V → List V → Hp → VK → Prop := fun x vs H Q => ∃ (a b : Addr) (kvs more : List (List Key × V)), x = .ref a ∧ vs = [.ref b] ∧ H a = some (.dT kvs) ∧ Rd H b (.dT more) ∧ kvs ≠ [] ∧ a ≠ b ∧ kvs.length + more.length ≤ sizeLine ∧ Q .non (upd H a (.dT (putAllK kvs more)))
section
variable {X : Cx} {G : Gm} {E : EK} {apos cpos : Pos} {fs : List (M RV)}
end
end DL

end

section
set_option Elab.async false
set_option linter.all false
set_option maxRecDepth 100000
set_option maxHeartbeats 1000000
/-! Dicts whose keys are tuples of rows: in, not in, d[k] = v, list(d), {k: v}, {}. -/
namespace DL
open PySem PySem.Spec L2 PyProof.Rows
/-- by values -/
def hasN (kvs : List (D × D)) (k : IK) : Bool := kvs.any fun p => kOf p.1 == some k
def putN (kvs : List (D × D)) (kd : D) (k : IK) (v : D) : List (D × D) := if hasN kvs k = true then kvs.map fun p => if (kOf p.1 == some k) = true then (p.1, v) else p else kvs ++ [(kd, v)]
def oInN (k d : D) : Option RV := match d with
  | .dcn kvs => (kOf k).map fun r => .fz (.bl (hasN kvs r))
  | _ => none
def oNotInN (k d : D) : Option RV := match d with
  | .dcn kvs => (kOf k).map fun r => .fz (.bl (!hasN kvs r))
  | _ => none
def oListN : D → Option RV
  | .dcn kvs => some (.tmp (.lst (kvs.map (·.1))))
  | _ => none
def mPutN (d : D) (as : List D) : Option (D × D) := match d, as with
  | .dcn kvs, [k, v] => (match kOf k with
    | some r => if kvs.length < line then some (.dcn (putN kvs k r v), .non) else none
    | none => none)
  | _, _ => none
section
variable {G : Gm} {F H : Hp} {x : V} {k : IK} {xs : List NEnt} {ds : List (D × D)}
mutual
theorem vk_of (le : Le F H) : ∀ {d : D} {k : IK} {v : V}, Dq G F v d → ikOf d = some k → IsK H v k
  | .int i, k, v, h, e => by
    unfold ikOf at e
    cases e
    cases h with
    | int i => exact .int i
    | ref f o => cases o
  | .tup ys, k, v, h, e => by
    unfold ikOf at e
    obtain ⟨l, e1, rfl⟩ := Option.map_eq_some_iff.mp e
    obtain ⟨a, vs, rfl, ha, qa⟩ := (h.vw le).tup_
    exact .tup (.inl ha) (vks_of le qa e1)
  | .ptup ys, k, v, h, e => by
    unfold ikOf at e
    obtain ⟨l, e1, rfl⟩ := Option.map_eq_some_iff.mp e
    obtain ⟨a, o, vs, rfl, ha, _, _, qa⟩ := (h.vw le).ptup_
    exact .tup (.inr ⟨o, ha⟩) (vks_of le qa e1)
  | .non, _, _, _, e => by unfold ikOf at e; cases e
  | .bl _, _, _, _, e => by unfold ikOf at e; cases e
  | .str _, _, _, _, e => by unfold ikOf at e; cases e
  | .lst _, _, _, _, e => by unfold ikOf at e; cases e
  | .dic _ _, _, _, _, e => by unfold ikOf at e; cases e
  | .ins _ _, _, _, _, e => by unfold ikOf at e; cases e
  | .scr _, _, _, _, e => by unfold ikOf at e; cases e
  | .set _, _, _, _, e => by unfold ikOf at e; cases e
  | .opq, _, _, _, e => by unfold ikOf at e; cases e
  | .fdc _ _, _, _, _, e => by unfold ikOf at e; cases e
  | .dcn _, _, _, _, e => by unfold ikOf at e; cases e
theorem vks_of (le : Le F H) : ∀ {ds : List D} {l : List IK} {vs : List V}, DqA G F vs ds → iksOf ds = some l → IsKs H vs l
  | [], l, vs, h, e => by
    unfold iksOf at e
    cases e
    cases h
    exact .nil
  | d :: ds, l, vs, h, e => by
    unfold iksOf at e
    cases h with
    | cons q t =>
      cases e1 : ikOf d with
      | none => rw [e1] at e; cases e
      | some k =>
        cases e2 : iksOf ds with
        | none => rw [e1, e2] at e; cases e
        | some l' =>
          rw [e1, e2] at e
          cases e
          exact .cons (vk_of le q e1) (vks_of le t e2)
end
theorem DqN.length (h : DqN G F xs ds) : xs.length = ds.length := by
  induction xs generalizing ds with
  | nil => cases h; rfl
  | cons e xs ih => cases h with | cons _ _ _ t => exact congrArg (· + 1) (ih t)
theorem DqN.has (h : DqN G F xs ds) (k : IK) : (xs.any fun p => decide (p.1 = k)) = hasN ds k := by
  unfold hasN
  induction xs generalizing ds with
  | nil => cases h; rfl
  | cons e xs ih =>
    cases h with
    | @cons k' _ _ _ _ _ _ _ hz _ t =>
      rw [List.any_cons, List.any_cons, ih t, hz]
      congr 1
      all_goals (by_cases z : k' = k <;> simp [z])
theorem DqN.app {ys : List NEnt} {es : List (D × D)} (h : DqN G F xs ds) (t : DqN G F ys es) : DqN G F (xs ++ ys) (ds ++ es) := by
  induction xs generalizing ds with
  | nil => cases h; exact t
  | cons e xs ih => cases h with | cons h1 h0 h2 t' => exact .cons h1 h0 h2 (ih t')
theorem DqN.put {b : Addr} {v : V} {d : D} (h : DqN G F xs ds) {kd : D} (hk : Dq G F (.ref b) kd) (ek : kOf kd = some k) (hv : Dq G F v d) : DqN G F (storN xs k b v) (putN ds kd k d) := by
  unfold storN putN
  rw [h.has k]
  split
  · rename_i hh
    clear hh hk ek
    induction xs generalizing ds with
    | nil => cases h; exact .nil
    | cons e xs ih =>
      cases h with
      | @cons k' b' v' _ _ _ _ h1 hz h2 t =>
        rw [List.map_cons, List.map_cons]
        by_cases z : k' = k
        · rw [if_pos z, if_pos (by rw [hz, z]; simp)]
          exact .cons h1 hz hv (ih t)
        · rw [if_neg z, if_neg (by rw [hz]; simpa using z)]
          exact .cons h1 hz h2 (ih t)
  · exact h.app (.cons hk ek hv .nil)
end
/-! ### in, not in -/
def rInN : R2 := fun x y H Q => ∃ a a' b k xs, y = .ref a ∧ x = .ref b ∧ H a = some (.ext (PhiN a' xs)) ∧ KeysN H xs ∧ KeyN H b k ∧ Q (.bl (xs.any fun p => decide (p.1 = k))) H
def rNotInN : R2 := fun x y H Q => ∃ a a' b k xs, y = .ref a ∧ x = .ref b ∧ H a = some (.ext (PhiN a' xs)) ∧ KeysN H xs ∧ KeyN H b k ∧ Q (.bl (!(xs.any fun p => decide (p.1 = k)))) H
section
variable {X : Cx} {G : Gm}
/-! ### list -/
def rListN : List V → Hp → VK → Prop := fun vs H Q => ∃ d a' xs, vs = [V.ref d] ∧ H d = some (.ext (PhiN a' xs)) ∧ ∀ p, H p = none → Q (.ref p) (upd H p (.lst (xs.map fun e => V.ref e.2.1)))
/-! ### d[k] = v -/
def rPutN : TSet := fun o i v H Q => ∃ a a' b k xs, o = .ref a ∧ i = .ref b ∧ H a = some (.ext (PhiN a' xs)) ∧ KeysN H xs ∧ KeyN H b k ∧ xs.length < sizeLine ∧ Q (upd H a (.ext (PhiN a (storN xs k b v))))
/-! ### {}, {k: v} -/
def eDict0N : M RV := pur (.tmp (.dcn []))
def oDic1N (k v : D) : Option RV := (kOf k).map fun _ => .tmp (.dcn [(k, v)])
def eDic1N (a b : M RV) : M RV := bnd (eF a) fun k => bnd (eF b) fun v => lift (oDic1N k v)
end
end DL

end

section
set_option Elab.async false
set_option linter.all false
set_option maxRecDepth 100000
set_option maxHeartbeats 1000000
/-! list(x.values()), x a dict whose keys are tuples. -/
namespace DL
open PySem L2 PyProof.Rows
open Sem (wp)
def oVals : D → Option RV
  | .dic true kvs => some (.tmp (.lst (kvs.map (·.2))))
  | _ => none
def tListVals (td : TE) : TE := fun σ H Q => td σ H fun x H1 => ∃ (a : Addr) (kvs : List (List Key × V)), x = V.ref a ∧ H1 a = some (.dT kvs) ∧ ∀ p, H1 p = none → Q (.ref p) (upd H1 p (.lst (kvs.map (·.2))))
section
variable {X : Cx} {G : Gm}
end
end DL

end

section
set_option Elab.async false
set_option linter.all false
set_option maxRecDepth 100000
set_option maxHeartbeats 1000000
/-! A comprehension over a list that is not frozen by it, as an expression. -/
namespace DL
open PySem L2 PyProof.Rows
section
variable {X : Cx} {G : Gm} {E : EK} {pos : Pos}
end
end DL

end

section
set_option Elab.async false
set_option linter.all false
set_option maxRecDepth 100000
set_option maxHeartbeats 1000000
/-! f() of no arguments; x.upper(). -/
namespace DL
open PySem L2 PyProof.Rows
def oUpper : D → Option RV
  | .str a => if a.length ≤ 5592405 then some (.fz (.str (Txt.upper a))) else none
  | _ => none
section
variable {X : Cx} {G : Gm} {E : EK}
variable {lv : Nat} {f : Addr} {fd : FuncData} {ps : List Str} {x : Str} {p pos : Pos} {g : Fn}
end
end DL

end

section
set_option Elab.async false
set_option linter.all false
set_option maxRecDepth 100000
set_option maxHeartbeats 1000000
/-! dict(zip(a, b)) of lists, the first one of different whole numbers; x.update(y) of dicts whose keys are whole numbers. -/
namespace DL
open PySem PySem.Spec L2 PyProof.Rows RZ
def kz (ns : List Int) (ys : List V) : List (Key × V) := (ns.zip ys).map fun q => (Sum.inl q.1, q.2)
def tDictZ (K : PySem.W.Frag) (ta : TA) : TE := fun σ H Q => ta σ H fun vs H1 => ∃ (a b : Addr) (ns : List Int) (ys : List V), vs = [.ref a, .ref b] ∧ SqL K H1 a (ns.map V.int) ∧ SqL K H1 b ys ∧
  ∀ p, H1 p = none → Q (.ref p) (upd H1 p (.dK (mergeK [] (kz ns ys))))
def dictZ (ds : List D) : Option RV := match ds with
  | [.lst xs, .lst ys] => (match ints? xs with
    | some ns => if ns.Nodup then some (.tmp (.dic false (xs.zip ys))) else none
    | none => none)
  | _ => none
/-- dict(zip(a, b)) -/
def eDictZ (as : List (M RV)) : M RV := bnd (eFs as) fun ds => lift (dictZ ds)
section
variable {X : Cx} {G : Gm} {E : EK} {p p2 pos pos2 : Pos} {e e2 : Expr} {fs : List (M RV)}
end
/-! ### x.update(y) -/
section
variable {X : Cx} {pins : List (Addr × Obj)} {σ : L2.St} {H : Hp} {s : Shared} {a b : Addr} {A : Around} {E : Value → Shared → Prop}
end
/-- x.update(y) -/
def mUpdI (d : D) (as : List D) : Option (D × D) := match d, as with
  | .dic false K, [.dic false M] => if K.length + M.length ≤ line then some (.dic false (storAll K M), .non) else none
  | _, _ => none
def eMutDA (i : Nat) (f : D → List D → Option (D × D)) (as : List (M RV)) : M RV := bnd (rcvD i) fun _ => bnd (eFs as) fun ds => mutAt i f ds
def rUpdI : V → List V → Hp → VK → Prop := fun x vs H Q => ∃ (a b : Addr) (kvs more : List (Key × V)), x = .ref a ∧ vs = [.ref b] ∧ H a = some (.dK kvs) ∧ Rd H b (.dK more) ∧ a ≠ b ∧ kvs.length + more.length ≤ sizeLine ∧ Q .non (upd H a (.dK (mergeK kvs more)))
section
variable {X : Cx} {G : Gm} {E : EK} {apos cpos : Pos} {fs : List (M RV)}
end
end DL

end

section
set_option Elab.async false
set_option linter.all false
set_option maxRecDepth 100000
set_option maxHeartbeats 1000000
/-! str of a whole number. -/
namespace DL
open PySem L2 PyProof.Rows
def oStr : D → Option RV
  | .int i => if i.natAbs.log2 < 1920 then some (.fz (.str (toString i))) else none
  | _ => none
section
variable {X : Cx} {G : Gm} {E : EK} {e : Expr} {fa : M RV} {p pos : Pos}
end
end DL

end

section
set_option Elab.async false
set_option linter.all false
set_option maxRecDepth 100000
set_option maxHeartbeats 1000000
/-! isinstance of the caught one, of a built-in class. -/
namespace DL
open PySem L2 PySem.Spec PyProof.Rows
section
variable {X : Cx} {G : Gm} {i c : Nat} {x n f : Str} {sub : Nat → Option Bool} {a : Addr} {oe : Obj} {cls : Value} {d : Option Addr} {pn : List (Addr × Obj)} {y : Exn} {p p1 p2 pos : Pos}
end
section
variable {X : Cx} {G : Gm} {E : EK}
end
end DL

end

section
set_option Elab.async false
set_option linter.all false
set_option maxRecDepth 100000
set_option maxHeartbeats 1000000
/-! repr(x), x with empty dicts in it, and no list beside them. -/
namespace DL
open PySem L2 PyProof.Rows
mutual
def toPdE : D → Option PyData
  | .non => some .none
  | .bl b => some (.bool b)
  | .int i => some (.int i)
  | .str x => some (.str x)
  | .tup xs => (toPdEs xs).map .tuple
  | .dic false [] => some (.dict [])
  | _ => none
def toPdEs : List D → Option (List PyData)
  | [] => some []
  | d :: ds => match toPdE d, toPdEs ds with
    | some p, some ps => some (p :: ps)
    | _, _ => none
end
def oReprE (d : D) : Option RV := match oRepr d with
  | some v => some v
  | none => match toPdE d with
    | some p => if p.showable = true ∧ p.depth ≤ 60 ∧ p.shown.length ≤ sizeLine then some (.fz (.str p.shown)) else none
    | none => none
section
variable {X : Cx} {G : Gm} {pins : List (Addr × Obj)} {σ : L2.St} {F H : Hp} {s : Shared}
theorem dict_nil {K : Type} [DecidableEq K] {prog : Program} {w : World} {knd : KeyKind prog w K} {h : Heap} {a : Addr} (x : h.DictOf knd a []) : ∃ o es n, h.get? a = some o ∧ o.cls = .type "dict" ∧ o.data = .dict es n ∧ es.toList = [] := by
  obtain ⟨o, es, ep, ho, hc, hd, _, hp, _⟩ := x
  exact ⟨o, es, ep, ho, hc.1, hd, List.eq_nil_of_length_eq_zero (by rw [hp.length]; rfl)⟩
mutual
theorem Dq.readsE (I : Inv X pins σ H s) (hK : X.K = G.K) (le : Le F H) : ∀ {v : V} {d : D} {p : PyData} {u : Value}, Dq G F v d → toPdE d = some p → RelV v u → ∃ as, Reads s.heap u p as ∧ sysModules ∉ as
  | _, .non, p, u, q, e, r => by
    unfold toPdE at e; cases e; cases (q.vw (Le.refl F)).non_; cases r; exact ⟨_, Reads.none, List.not_mem_nil⟩
  | _, .bl b, p, u, q, e, r => by
    unfold toPdE at e; cases e; cases (q.vw (Le.refl F)).bl_; cases r; exact ⟨_, Reads.bool b, List.not_mem_nil⟩
  | _, .int i, p, u, q, e, r => by
    unfold toPdE at e; cases e; cases (q.vw (Le.refl F)).int_; obtain ⟨t, rfl⟩ := r; exact ⟨_, Reads.int i t, List.not_mem_nil⟩
  | _, .str x, p, u, q, e, r => by
    unfold toPdE at e; cases e; cases (q.vw (Le.refl F)).str_; obtain ⟨t, rfl⟩ := r; exact ⟨_, Reads.str x t, List.not_mem_nil⟩
  | _, .tup ds, p, u, q, e, r => by
    obtain ⟨a, vs, rfl, h, qa⟩ := (q.vw (Le.refl F)).tup_
    unfold toPdE at e
    cases e2 : toPdEs ds with
    | none => rw [e2] at e; cases e
    | some ps =>
      rw [e2] at e
      cases e
      cases r
      have hs : SqT X.K H a vs := by rw [hK]; exact SqT.of (le _ _ h)
      obtain ⟨its, rv, ⟨o, ho, hc, n, hd⟩, _⟩ := I.tuple hs
      obtain ⟨as, hr, hn⟩ := DqA.readsE I hK le qa e2 rv
      exact ⟨_, Reads.tuple ho hc hd hr, hn⟩
  | _, .dic false [], p, u, q, e, r => by
    unfold toPdE at e
    cases e
    obtain ⟨a, ks, rfl, h, qk⟩ := (q.vw (Le.refl F)).dicK_
    cases qk
    cases r
    obtain ⟨_, hm, vs, hv, hd⟩ := dk_of I.hok (le _ _ h)
    cases hv
    obtain ⟨o, es, n, h1, h2, h3, h4⟩ := dict_nil hd
    refine ⟨_, Reads.dict (kvs := []) h1 h2 h3 (by rw [h4]; exact ReadsAll.nil) (by rw [h4]; exact ReadsAll.nil), fun z => ?_⟩
    rw [List.append_nil, List.mem_singleton] at z
    rw [z] at hm
    exact absurd hm (by simp)
  | _, .dic false (_ :: _), p, u, q, e, r => by unfold toPdE at e; cases e
  | _, .dic true _, p, u, q, e, r => by unfold toPdE at e; cases e
  | _, .lst _, p, u, q, e, r => by unfold toPdE at e; cases e
  | _, .scr _, p, u, q, e, r => by unfold toPdE at e; cases e
  | _, .set _, p, u, q, e, r => by unfold toPdE at e; cases e
  | _, .ins _ _, p, u, q, e, r => by unfold toPdE at e; cases e
  | _, .fdc _ _, p, u, q, e, r => by unfold toPdE at e; cases e
  | _, .dcn _, p, u, q, e, r => by unfold toPdE at e; cases e
  | _, .ptup _, p, u, q, e, r => by unfold toPdE at e; cases e
  | _, .opq, p, u, q, e, r => by unfold toPdE at e; cases e
theorem DqA.readsE (I : Inv X pins σ H s) (hK : X.K = G.K) (le : Le F H) : ∀ {vs : List V} {ds : List D} {ps : List PyData} {us : List Value}, DqA G F vs ds → toPdEs ds = some ps → Vals vs us → ∃ as, ReadsAll s.heap us ps as ∧ sysModules ∉ as
  | _, [], ps, us, q, e, r => by
    unfold toPdEs at e
    cases e
    cases q
    cases r
    exact ⟨_, ReadsAll.nil, List.not_mem_nil⟩
  | _, d :: ds, ps, us, q, e, r => by
    cases q with
    | cons h t =>
      unfold toPdEs at e
      cases e1 : toPdE d with
      | none => rw [e1] at e; cases e
      | some p =>
        cases e2 : toPdEs ds with
        | none => rw [e1, e2] at e; cases e
        | some ps =>
          rw [e1, e2] at e
          cases e
          cases r with
          | cons r1 r2 =>
            obtain ⟨as, h1, n1⟩ := Dq.readsE I hK le h e1 r1
            obtain ⟨bs, h2, n2⟩ := DqA.readsE I hK le t e2 r2
            exact ⟨_, ReadsAll.cons h1 h2, fun z => (List.mem_append.mp z).elim n1 n2⟩
end
theorem Vw.readsE (I : Inv X pins σ H s) (hK : X.K = G.K) (le : Le F H) {v : V} {d : D} {p : PyData} {u : Value} (q : Vw G F H v d) (e : toPdE d = some p) (r : RelV v u) : ∃ as, Reads s.heap u p as ∧ sysModules ∉ as := by
  cases d with
  | non => unfold toPdE at e; cases e; cases q.non_; cases r; exact ⟨_, Reads.none, List.not_mem_nil⟩
  | bl b => unfold toPdE at e; cases e; cases q.bl_; cases r; exact ⟨_, Reads.bool b, List.not_mem_nil⟩
  | int i => unfold toPdE at e; cases e; cases q.int_; obtain ⟨t, rfl⟩ := r; exact ⟨_, Reads.int i t, List.not_mem_nil⟩
  | str x => unfold toPdE at e; cases e; cases q.str_; obtain ⟨t, rfl⟩ := r; exact ⟨_, Reads.str x t, List.not_mem_nil⟩
  | tup ds =>
    obtain ⟨a, vs, rfl, h, qa⟩ := q.tup_
    unfold toPdE at e
    cases e2 : toPdEs ds with
    | none => rw [e2] at e; cases e
    | some ps =>
      rw [e2] at e
      cases e
      cases r
      have hs : SqT X.K H a vs := by rw [hK]; exact SqT.of h
      obtain ⟨its, rv, ⟨o, ho, hc, n, hd⟩, _⟩ := I.tuple hs
      obtain ⟨as, hr, hn⟩ := DqA.readsE I hK le qa e2 rv
      exact ⟨_, Reads.tuple ho hc hd hr, hn⟩
  | dic b kvs =>
    cases b with
    | true => unfold toPdE at e; cases e
    | false =>
      cases kvs with
      | cons x xs => unfold toPdE at e; cases e
      | nil =>
        unfold toPdE at e
        cases e
        obtain ⟨a, ks, rfl, h, qk⟩ := q.dicK_
        cases qk
        cases r
        obtain ⟨_, hm, vs, hv, hd⟩ := dk_of I.hok h
        cases hv
        obtain ⟨o, es, n, h1, h2, h3, h4⟩ := dict_nil hd
        refine ⟨_, Reads.dict (kvs := []) h1 h2 h3 (by rw [h4]; exact ReadsAll.nil) (by rw [h4]; exact ReadsAll.nil), fun z => ?_⟩
        rw [List.append_nil, List.mem_singleton] at z
        rw [z] at hm
        exact absurd hm (by simp)
  | _ => unfold toPdE at e; cases e
def rReprE (G : Gm) (K : PySem.W.Frag) : List V → Hp → VK → Prop := fun xs H Q => ∃ v p, xs = [v] ∧ ((Dp K H v p ∧ p.hasDict = false) ∨ ∃ F d, Le F H ∧ Vw G F H v d ∧ toPdE d = some p) ∧ p.showable = true ∧ p.depth ≤ 60 ∧ p.shown.length ≤ sizeLine ∧ Q (.str p.shown) H
end
end DL

end

section
set_option Elab.async false
set_option linter.all false
set_option maxRecDepth 100000
set_option maxHeartbeats 1000000
/-! try .. except C: without a name. -/
namespace DL
open PySem L2 PySem.Spec PyProof.Rows
def sTryN (sub : Nat → Option Bool) (body hd : S) : S := fun r => match body r with
  | .exc x r1 => (match sub x.c with
    | some true => (match hd r1 with
      | .ok .nx r2 => .ok .nx r2
      | _ => .bad)
    | some false => .exc x r1
    | none => .bad)
  | res => res
/-- the handler's wish, no name -/
abbrev EN0 (E : EK) : EK := ⟨fun _ _ _ _ => False, E.pb⟩
section
variable {X : Cx} {G : Gm} {E : EK} {x : Str} {sub : Nat → Option Bool} {pos pos' : Pos}
end
end DL

end

section
set_option Elab.async false
set_option linter.all false
set_option maxRecDepth 100000
set_option maxHeartbeats 1000000
/-! Dicts whose keys are whole numbers in tuples: d[k], d.get(k, z), len(d). -/
namespace DL
open PySem PySem.Spec L2 PyProof.Rows
def lookN (kvs : List (D × D)) (k : IK) : Option D := (kvs.find? fun p => kOf p.1 == some k).map (·.2)
def lookE (xs : List NEnt) (k : IK) : Option V := (xs.find? fun p => decide (p.1 = k)).map (·.2.2)
def oIxN (d k : D) : Option RV := match d with
  | .dcn kvs => (match kOf k with
    | some r => (lookN kvs r).map .fz
    | none => none)
  | _ => none
def oGet2N (d k z : D) : Option RV := match d with
  | .dcn kvs => (match kOf k with
    | some r => some (.fz ((lookN kvs r).getD z))
    | none => none)
  | _ => none
def oLenN : D → Option RV
  | .dcn kvs => some (.fz (.int kvs.length))
  | _ => none
def isDcn : D → Option Unit
  | .dcn _ => some ()
  | _ => none
def eGet2N (a b c : M RV) : M RV := bnd a fun x => bnd (vwM x) fun d0 => bnd (lift (isDcn d0)) fun _ => bnd b fun y => bnd (eF c) fun z => bnd (vwM x) fun d => bnd (vwM y) fun k => lift (oGet2N d k z)
section
variable {G : Gm} {F H : Hp} {k : IK} {xs : List NEnt} {ds : List (D × D)}
theorem DqN.look (h : DqN G F xs ds) (k : IK) : (∃ d v, lookN ds k = some d ∧ lookE xs k = some v ∧ Dq G F v d) ∨ (lookN ds k = none ∧ lookE xs k = none) := by
  unfold lookN lookE
  induction xs generalizing ds with
  | nil => cases h; exact .inr ⟨rfl, rfl⟩
  | cons e xs ih =>
    cases h with
    | @cons k' b' v' _ _ _ _ h1 hz h2 t =>
      by_cases z : k' = k
      · subst z
        refine .inl ⟨_, v', ?_, ?_, h2⟩
        · rw [List.find?_cons_of_pos (by rw [hz]; simp)]
          rfl
        · rw [List.find?_cons_of_pos (by simp)]
          rfl
      · rw [List.find?_cons_of_neg (by rw [hz]; simpa using z), List.find?_cons_of_neg (by simpa using z)]
        exact ih t
end
section
variable {X : Cx} {pins : List (Addr × Obj)} {σ : L2.St} {H : Hp} {s : Shared} {a a' b : Addr} {v z : V} {r : Value} {A : Around} {E : Value → Shared → Prop} {xs : List NEnt} {k : IK}
end
def rIxN : R2 := fun x y H Q => ∃ a a' b k xs v, x = .ref a ∧ y = .ref b ∧ H a = some (.ext (PhiN a' xs)) ∧ KeysN H xs ∧ KeyN H b k ∧ lookE xs k = some v ∧ Q v H
section
variable {X : Cx} {G : Gm}
def rLenN : List V → Hp → VK → Prop := fun vs H Q => ∃ d a' xs, vs = [V.ref d] ∧ H d = some (.ext (PhiN a' xs)) ∧ KeysN H xs ∧ Q (.int xs.length) H
end
section
variable {X : Cx} {G : Gm} {E : EK} {fa fb fc : M RV} {o e f : Expr} {apos cpos : Pos} {td ty tx : TE}
def tGetN (td ty tx : TE) : TE := fun σ H Q => td σ H fun x H1 => ∃ a a' xs, x = .ref a ∧ H1 a = some (.ext (PhiN a' xs)) ∧ KeysN H1 xs ∧ ty σ H1 fun y H2 => tx σ H2 fun z H3 => ∃ a'' b k ys, H3 a = some (.ext (PhiN a'' ys)) ∧ KeysN H3 ys ∧ y = .ref b ∧ KeyN H3 b k ∧ Q ((lookE ys k).getD z) H3
end
end DL

end

section
set_option Elab.async false
set_option linter.all false
set_option maxRecDepth 100000
set_option maxHeartbeats 2000000
/-! try .. except C1 as e .. except C2 as e, one slot. -/
namespace DL
open PySem L2 PySem.Spec PyProof.Rows
/-- one clause: the class that is asked, what the clause does with an exception -/
abbrev Cls1 := Value × (Addr → Value → Option Addr → TS)
/-- behind a clause its name is gone -/
def gone (i : Nat) (D : Ends) : Ends := ⟨fun σ H => D.nx (σ.set i none) H, D.rt, fun σ H => D.bk (σ.set i none) H, fun σ H => D.ct (σ.set i none) H⟩
/-- the wish on an exception that meets the clauses cs in turn -/
def wCls (K : PySem.W.Frag) (i : Nat) (D : Ends) (O : WX) (cs : List Cls1) : WX := cs.foldr (fun q R k d σ H => ∃ t, PySem.W.exmOne K k q.1 = some t ∧ (t = true → ∀ e, H e = none → q.2 e k d (gone i D) (σ.set i (some (.ref e))) H) ∧ (t = false → R k d σ H)) O
/-- the clauses of the text are cs -/
inductive ClsM (X : Cx) (n : Str) : List ExceptHandler → List Cls1 → Prop
  | done : ClsM X n [] []
  | next {x : Str} {q : Cls1} {st : Stmt} {ss : List Stmt} {p1 p2 : Pos} {hs : List ExceptHandler} {cs : List Cls1} : Names X x q.1 →
      (∀ e oe k d pn, L2N.Zn k d oe → (∃ vs, oe.data = .fields vs) → PSs (X.suite e ((e, oe) :: pn)) (st :: ss) (q.2 e k d)) → ClsM X n hs cs → ClsM X n (ExceptHandler.ExceptHandler (some (.Name x p1)) (some n) (st :: ss) p2 :: hs) (q :: cs)
/-- the exception e is caught; its clauses are looked through -/
structure Dn (X : Cx) (e : Addr) (k : Value) (d : Option Addr) (ps : List (Addr × Obj)) (σ : L2.St) (H : Hp) (s : Shared) : Prop where
  air : ∃ (B : Heap) (o : Shared), Inv X ps σ H o ∧ (∀ b x, o.heap.get? b = some x → b ∉ frs X.stack → B.get? b = some x) ∧ o.heap.UpToSlots s.heap ∧ HandSPX.FlyingZ B X.stack e (L2N.Zn k d) s.heap ∧ s.os = o.os ∧ AllBare s.gens
  new : H e = none
section
variable {X : Cx} {e : Addr} {k : Value} {d : Option Addr} {ps : List (Addr × Obj)} {σ : L2.St} {H : Hp} {s : Shared}
theorem Dn.inv (A : Dn X e k d ps σ H s) : Inv X ps σ H s := by
  obtain ⟨⟨B, o, J, n1, n2, fl, n3, n4⟩, _⟩ := A
  exact J.landed n1 fl.1 n2 n3 n4
theorem Dn.room (A : Dn X e k d ps σ H s) (hs : X.stack = X.env :: X.outer) (hf : X.env.frame = some X.env.locals) : ∃ oe, s.heap.get? e = some oe ∧ L2N.Zn k d oe ∧ (∃ vs, oe.data = .fields vs) ∧ Inv (X.suite e ((e, oe) :: (X.pn ++ ps))) [] σ H s := by
  have J := A.inv
  obtain ⟨⟨B, o, _, _, _, fl, _, _⟩, nH⟩ := A
  obtain ⟨oe, vs, ge, z, dd⟩ := fl.there
  have far : e ∉ frs (X.env :: X.outer) := fun m => by
    obtain ⟨_, o2, g2, nd⟩ := (hs ▸ fl.2.2.1).mem m
    cases ge.symm.trans g2
    exact nd vs dd
  have n1 : e ≠ X.env.locals := fun z => far (List.mem_filterMap.mpr ⟨X.env, .head _, by rw [hf, z]⟩)
  have n2 : e ∉ X.fs := fun m => by
    obtain ⟨v, hv, q⟩ := List.mem_filterMap.mp m
    exact far (List.mem_filterMap.mpr ⟨v, .tail _ hv, q⟩)
  exact ⟨oe, ge, z, ⟨vs, dd⟩, J.suite ge dd nH n1 n2⟩
theorem Dn.again (A : Dn X e k d ps σ H s) {M : Model} {R : Around} {E : Value → Shared → Prop} {Q : Unit → Shared → Prop} (q : ∀ s2, Dn X e k d ps σ H s2 → Q () s2) : wpAny M R (setFlight (.ref e) none) Q E s := by
  obtain ⟨⟨B, o, J, n1, n2, fl, n3, n4⟩, nH⟩ := A
  exact HandSPX.lands_againZ fl fun h2 f2 u2 => q _ ⟨⟨B, o, J, n1, n2.trans u2, f2, n3, n4⟩, nH⟩
/-- no clause is for it: it goes on -/
theorem Dn.out (A : Dn X e k d ps σ H s) (hs : X.stack = X.env :: X.outer) (hf : X.env.frame = some X.env.locals) {O : WX} (tk : L2N.Takes X O) (w : O k d σ H) {Q : PySem.Flow → Shared → Prop} : wpAny (model X.prog X.w) X.A (handleBy (.ref e) X.env []) Q X.xe s := by
  obtain ⟨⟨B, o, J, n1, n2, fl, n3, n4⟩, nH⟩ := A
  have up : wpAny (model X.prog X.w) X.A (setFlight (.ref e) X.env.frame) (fun _ s2 => wpAny (model X.prog X.w) X.A (throw (.ref e) : Sem PySem.Flow) Q X.xe s2) X.xe s := by
    rw [hf]
    exact HandSPX.setFlight_upZ fl fun h2 f2 u2 => wpAny_throw (tk _ _ ⟨e, B, o, ps, σ, H, k, d, rfl, J, n1, n2.trans u2, .inr (.inr f2), nH, n3, n4, w⟩)
  obtain ⟨_, _, _, oe, vs, T, _, _, ge, _, dd, v1, _⟩ := id fl
  refine wpAny_handleBy_nil ?_
  unfold PySem.passOn
  refine wpAny_bind (wpAny_field ge dd v1 ?_)
  rw [if_neg (fun z => by simp at z)]
  first
    | exact wpAny_bind (wpAny_pure (wpAny_bind up))
    | exact wpAny_bind up
/-- the clauses, one behind another -/
theorem Dn.run (A : Dn X e k d ps σ H s) (hs : X.stack = X.env :: X.outer) (hf : X.env.frame = some X.env.locals) (hN : X.N.Nodup) {n : Str} {i : Nat} (hi : X.N[i]? = some n) (hl : X.env.kindOf n = some .local) {O : WX} (tk : L2N.Takes X O) {D : Ends}
    {hds : List ExceptHandler} {cs : List Cls1} (ok : ClsM X n hds cs) (w : wCls X.K i D O cs k d σ H) : wpAny (model X.prog X.w) X.A (handleBy (.ref e) X.env hds) (SP X ps D) X.xe s := by
  induction ok with
  | done => exact A.out hs hf tk w
  | @next x q st ss p1 p2 hd2 cs2 nm su r ih =>
    obtain ⟨t, ht, w1, w2⟩ := w
    obtain ⟨oe, ge, z, _, S⟩ := A.room hs hf
    refine wpAny_handleBy_cons (codeAny_handlers_test ?_) (fun z => nomatch z)
    have look := PySem.W.exm_one (M := model X.prog X.w) A.inv.kIn (fun _ _ _ _ kp y => wpAny_typeOf_ref (kp _ _ ge) (by rw [z.1]; exact y)) ht
    have name : ∀ {P1 P2 : Value → Shared → Prop}, P1 q.1 s → wpAny (model X.prog X.w) (X.A.mark (some (.ref e))) (eval (.Name x p1) X.env) P1 P2 s := fun {P1 P2} y => by
      obtain ⟨g, nd, m | ⟨m, v, nn⟩⟩ := nm
      · exact ld_glob (X := X.suite e ((e, oe) :: (X.pn ++ ps))) S g m y nd
      · exact ld_blt (X := X.suite e ((e, oe) :: (X.pn ++ ps))) S g m v y nn nd
    refine name (look.here ?_)
    cases t with
    | false => exact ih (w2 rfl)
    | true =>
      refine codeAny_handlers_suite_as (A.again fun s2 A2 => ?_)
      obtain ⟨oe2, _, z2, f2, S2⟩ := A2.room hs hf
      refine store_ok (X := X.suite e ((e, oe2) :: (X.pn ++ ps))) (v := .ref e) S2 hN hi (.inl hl) rfl (fun s3 S3 => ?_) (.inr hl)
      refine wpAny_mono ((su e oe2 k d (X.pn ++ ps) z2 f2).run [] s3 _ H _ S3 (w1 rfl e A.new)) (fun fw s4 y => ?_) fun _ _ z => z.elim
      have off : ∀ {σ4 : L2.St} {H4 : Hp} {P1 : Shared → Prop}, Inv (X.suite e ((e, oe2) :: (X.pn ++ ps))) [] σ4 H4 s4 → (∀ s5, Inv X ps (σ4.set i none) H4 s5 → P1 s5) → wpAny (model X.prog X.w) X.A (do bindName X.env n .none; unbindBehindTheSuite X.env n p2) (fun _ s5 => P1 s5) X.xe s4 :=
        fun {σ4 H4 P1} S4 y => gone_ok (S4.unsuite A.inv.ok) hN hi hl y
      cases fw with
      | ret u =>
        obtain ⟨v4, σ4, H4, S4, r4, y⟩ := y
        exact off S4 fun s5 S5 => ⟨_, _, _, S5, r4, y⟩
      | next =>
        obtain ⟨σ4, H4, S4, y⟩ := y
        exact off S4 fun s5 S5 => ⟨_, _, S5, y⟩
      | brk =>
        obtain ⟨σ4, H4, S4, y⟩ := y
        exact off S4 fun s5 S5 => ⟨_, _, S5, y⟩
      | cont =>
        obtain ⟨σ4, H4, S4, y⟩ := y
        exact off S4 fun s5 S5 => ⟨_, _, S5, y⟩
end
section
variable {X : Cx} {n : Str} {i : Nat} {body : List Stmt} {c0 : ExceptHandler} {hds : List ExceptHandler} {cs : List Cls1} {pos : Pos} {tb : WX → TS} {O : WX}
end
/-! ### by value -/
/-- the exception x meets the clauses of slot i in turn -/
def clsGo (i : Nat) (x : Exn) : List ((Nat → Option Bool) × (Exn → S)) → S
  | [] => fun r => .exc x r
  | (sub, hd) :: t => fun r => match sub x.c with
    | some true => (match r[i]? with
      | some .no => (match hd x (r.set i (.fbr .opq)) with
        | .ok .nx r2 => .ok .nx (r2.set i .no)
        | _ => .bad)
      | _ => .bad)
    | some false => clsGo i x t r
    | none => .bad
/-- try: body, several clauses of one name (slot i) -/
def sTryM (i : Nat) (body : S) (cs : List ((Nat → Option Bool) × (Exn → S))) : S := fun r => match body r with
  | .exc x r1 => clsGo i x cs r1
  | res => res
/-- the clauses of the text, by value -/
inductive DsCls (X : Cx) (G : Gm) (i : Nat) (n : Str) : List ExceptHandler → List ((Nat → Option Bool) × (Exn → S)) → Prop
  | done : DsCls X G i n [] []
  | next {x : Str} {cv : Addr} {sub : Nat → Option Bool} {fh : Exn → S} {st : Stmt} {ss : List Stmt} {p1 p2 : Pos} {hs : List ExceptHandler} {cs : List ((Nat → Option Bool) × (Exn → S))} : Names X x (.ref cv) →
      (∀ c b, sub c = some b → PySem.W.exmOne X.K (.ref (G.ct c)) (.ref cv) = some b) →
      (∀ (a : Addr) (oe : Obj) (cls : Value) (d : Option Addr) (pn : List (Addr × Obj)) (y : Exn), L2N.Zn cls d oe → (∃ vs, oe.data = .fields vs) → cls = .ref (G.ct y.c) → PSs (X.suite a ((a, oe) :: pn)) (st :: ss) (tsOf G (EH G i a d y) (fh y))) →
      DsCls X G i n hs cs → DsCls X G i n (ExceptHandler.ExceptHandler (some (.Name x p1)) (some n) (st :: ss) p2 :: hs) ((sub, fh) :: cs)
section
variable {X : Cx} {G : Gm} {E : EK} {i : Nat} {n : Str} {pos : Pos}
theorem DsCls.run {hs : List ExceptHandler} {l : List ((Nat → Option Bool) × (Exn → S))} (ok : DsCls X G i n hs l) : ∃ cs : List Cls1, ClsM X n hs cs ∧
    ∀ {D : Ends} {y : Exn} {r1 : Env} {b : Bas} {F F1 H1 : Hp} {σ1 : L2.St} {d : Option Addr}, Stt G b F1 H1 σ1 r1 → Le F F1 → XdR G F1 y d → (E.w = E.w) → (∀ (bb : E.B), bb.1 = b → OutS G E b F (clsGo i y l r1) D → wCls X.K i D E.w cs (.ref (G.ct y.c)) d σ1 H1) := by
  induction ok with
  | done => exact ⟨[], .done, fun {D y r1 b F F1 H1 σ1 d} S1 le xd _ bb eb h => h _ _ σ1 F1 H1 S1 le ⟨rfl, xd⟩⟩
  | @next x cv sub fh st ss p1 p2 hs2 cs2 nm hsub hh r ih =>
    obtain ⟨cs, ok, ih⟩ := ih
    refine ⟨(.ref cv, fun a cls d D σ H => ∃ y, cls = .ref (G.ct y.c) ∧ tsOf G (EH G i a d y) (fh y) D σ H) :: cs, .next nm (fun a oe cls d pn hz hd => ⟨fun pins s σ H D I ⟨y, ec, h⟩ => (hh a oe cls d pn y hz hd ec).run pins s σ H D I h⟩) ok, ?_⟩
    intro D y r1 b F F1 H1 σ1 d S1 le xd he bb eb h
    unfold clsGo at h
    cases e2 : sub y.c with
    | none => rw [e2] at h; exact False.elim h
    | some t =>
      rw [e2] at h
      refine ⟨t, hsub y.c t e2, fun ht a na => ?_, fun ht => ?_⟩
      · subst ht
        simp only at h
        refine ⟨y, rfl, ?_⟩
        split at h
        · rename_i er
          have S2 := S1.toHd (a := a) er
          have nL : ¬ b.L i := fun hL => by
            obtain ⟨u, q⟩ := S1.lent i hL
            rw [er] at q
            rcases q with q | q <;> cases q
          refine ⟨⟨b.hd F1 i a, if_pos rfl, .inr rfl, xd⟩, F1, _, S2, ?_⟩
          cases e3 : fh y (r1.set i (.fbr .opq)) with
          | bad => rw [e3] at h; exact False.elim h
          | exc z r2 => rw [e3] at h; exact False.elim h
          | ok fl r2 =>
            rw [e3] at h
            cases fl with
            | nx => exact fun σ3 F3 H3 S3 l3 => h _ F3 H3 (S3.ofHd S1.gF S1.nF nL) (le.trans l3)
            | brk => exact False.elim h
            | cnt => exact False.elim h
            | ret v => exact False.elim h
        · exact False.elim h
      · subst ht
        exact ih S1 le xd rfl bb eb h
end
end DL

end

section
set_option Elab.async false
set_option linter.all false
set_option maxRecDepth 100000
set_option maxHeartbeats 1000000
/-! i << j, i & j; x, y = a, b of two new objects. -/
namespace DL
open PySem L2 PySem.Spec PyProof.Rows
def oShl : D → D → Option RV
  | .int i, .int j => if 0 ≤ j ∧ j ≤ 1000000 ∧ i.natAbs < 2 ^ 64 then some (.fz (.int (i * 2 ^ j.toNat))) else none
  | _, _ => none
def oBAnd : D → D → Option RV
  | .int i, .int j => some (.fz (.int (Builtin.bitAnd i j)))
  | _, _ => none
section
variable {X : Cx} {G : Gm} {E : EK} {a c : Expr} {fa fb : M RV} {pos : Pos}
theorem od_shl : OpD G (rI CPow fun i j => .int (i * 2 ^ j.toNat)) oShl := fun F H x y d e rv Q le tp hx hy g q => by
  unfold oShl at g
  split at g
  · split at g
    · rename_i hl
      cases g
      exact ⟨_, _, hx.int_, hy.int_, hl, q _ F H (.old (.int _))⟩
    · cases g
  · cases g
theorem od_bAnd : OpD G (rI0 fun i j => .int (Builtin.bitAnd i j)) oBAnd := fun F H x y d e rv Q le tp hx hy g q => by
  unfold oBAnd at g
  split at g
  · cases g
    exact ⟨_, _, hx.int_, hy.int_, q _ F H (.old (.int _))⟩
  · cases g
theorem dx_shl (ha : PE X a (tOf G E fa)) (hb : PE X c (tOf G E fb)) : PE X (.BinOp a .LShift c pos) (tOf G E (eOp2 oShl fa fb)) := de_op op_shl od_shl ha hb
theorem dx_bAnd (ha : PE X a (tOf G E fa)) (hb : PE X c (tOf G E fb)) : PE X (.BinOp a .BitAnd c pos) (tOf G E (eOp2 oBAnd fa fb)) := de_op op_and od_bAnd ha hb
end
/-- x, y = a, b: two new objects -/
def sPar2 (i j : Nat) (fa fb : M RV) : S := bnd (eArgs [fa, fb]) fun rvs => match rvs with
  | [.tmp a, .tmp b] => bnd (put i (.own a)) fun _ => bnd (put j (.own b)) fun _ => pur .nx
  | _ => badM
section
variable {X : Cx} {G : Gm} {E : EK} {a c : Expr} {fa fb : M RV} {pos px py pt pt2 : Pos} {kt k2 : Nat} {i j : Nat} {x y : Str}
theorem ds_par2 (hc : X.calm = true) (hN : X.N.Nodup) (hi : X.N[i]? = some x) (hj : X.N[j]? = some y) (ne : i ≠ j) (hx : X.env.scope.names.lookup x = some .local) (hy : X.env.scope.names.lookup y = some .local) (ha : PA X [a, c] (taOf G E (eArgs [fa, fb])))
    (hs : swappedStores [.Tuple [.Name x px, .Name y py] kt pt] (.Tuple [a, c] k2 pt2) X.env = pure (some [x, y])) (hw : swapsWithSole [.Tuple [.Name x px, .Name y py] kt pt] (.Tuple [a, c] k2 pt2) pos.line X.env = pure false := by rfl) :
    PS X (.Assign [.Tuple [.Name x px, .Name y py] kt pt] (.Tuple [a, c] k2 pt2) pos) (tsOf G E (sPar2 i j fa fb)) :=
  PS_mono (ps_par hc hN hi hj ne hx hy ha hs hw) fun D σ H ⟨b, F, r, S, h⟩ => by
    refine ⟨b, F, r, S, (OutS.bnd h).mono fun rvs r1 F1 H1 S1 st1 w1 h1 vs q => ?_⟩
    have bad : ∀ {rvs : List RV} {P : Prop}, OutS G E b.1 F ((badM : M Flow) r1) D → P := fun h => h.elim
    cases q with
    | nil => exact bad (rvs := []) h1
    | @cons rv v rvs vs q1 q nv =>
      cases q with
      | nil => exact bad (rvs := []) (by cases q1 <;> exact h1)
      | @cons rw w rvs vs q2 q _ =>
        cases q with
        | cons _ _ _ => exact bad (rvs := []) (by cases q1 <;> cases q2 <;> exact h1)
        | nil =>
          cases q1 with
          | fz _ => exact bad (rvs := []) h1
          | loc _ => exact bad (rvs := []) h1
          | @tmp da aa oa p1 p2 p3 p4 p5 p6 =>
            cases q2 with
            | fz _ => exact bad (rvs := []) h1
            | loc _ => exact bad (rvs := []) h1
            | @tmp db ab ob s1 s2 s3 s4 s5 s6 =>
              refine ⟨_, _, rfl, ?_⟩
              have dif : aa ≠ ab := fun z => nv _ rfl 0 _ rfl (by rw [z]; rfl)
              have h1 : OutS G E b.1 F (bnd (put i (.own da)) (fun _ => bnd (put j (.own db)) fun _ => pur Flow.nx) r1) D := h1
              rcases put_bad (i := i) (r := r1) (x := .own da) with ⟨r2, e⟩ | e
              · obtain ⟨hf, er⟩ := put_cases e
                subst er
                have S2 := S1.put hf (v := .ref aa) (.inr ⟨da, aa, oa, rfl, rfl, p1, p2, p3, p4, S.wn _ (S.th _ p6), p5⟩)
                unfold DL.bnd at h1
                rw [e] at h1
                have h2 : OutS G E b.1 F (bnd (put j (.own db)) (fun _ => pur Flow.nx) (r1.set i (.own da))) D := h1
                rcases put_bad (i := j) (r := r1.set i (.own da)) (x := .own db) with ⟨r3, e2⟩ | e2
                · obtain ⟨hf2, er2⟩ := put_cases e2
                  subst er2
                  have S3 := S2.put hf2 (v := .ref ab) (.inr ⟨db, ab, ob, rfl, rfl, s1, s2, s3, s4, S.wn _ (S.th _ s6), fun ⟨k, ok, ek⟩ => by
                    by_cases z : k = i
                    · subst z
                      have hi' : k < σ.length := by rw [← S1.len]; exact hf.lt
                      rw [List.getElem?_set_self hi'] at ek
                      cases ek
                      exact dif rfl
                    · rw [List.getElem?_set_ne (Ne.symm z)] at ek
                      obtain ⟨u, q⟩ := ok
                      rw [List.getElem?_set_ne (Ne.symm z)] at q
                      exact s5 ⟨k, ⟨u, q⟩, ek⟩⟩)
                  unfold DL.bnd at h2
                  rw [e2] at h2
                  exact h2 _ F1 H1 S3 st1.gF
                · unfold DL.bnd at h2
                  rw [e2] at h2
                  exact False.elim h2
              · unfold DL.bnd at h1
                rw [e] at h1
                exact False.elim h1
end
end DL

end

section
set_option Elab.async false
set_option linter.all false
set_option maxRecDepth 100000
/-! The law's promise from its function. -/
namespace DL
open PySem L2 PyProof.Rows
/-- the law's function answers true on every script -/
def LawTrue (n : Nat) (f : Fn) : Prop := ∀ (ns : List Int) (d : D), ns.length ≤ n → oList d = some (.tmp (.lst (ns.map D.int))) → ∃ r, f [.val d] = .ok (.fz (.bl true)) r
theorem sp_of_true {G : Gm} {n : Nat} {f : Fn} (ht : LawTrue n f) (H : Hp) (a : Addr) (ns : List Int) (hl : ns.length ≤ n) (hO : Only H) (hS : SqL G.K H a (ns.map V.int)) : spOf G f [.ref a] H (fun v _ => v = .bl true) fun _ _ _ => False := by
  have go : ∀ d : D, Dq G H (.ref a) d → oList d = some (.tmp (.lst (ns.map D.int))) → spOf G f [.ref a] H (fun v _ => v = .bl true) fun _ _ _ => False := fun d hd ho => by
    obtain ⟨r, e⟩ := ht ns d hl ho
    have sl : ∀ {i : Nat} {s : Slot}, ([Slot.val d] : List Slot)[i]? = some s → i = 0 ∧ s = .val d := fun {i s} h => by
      cases i with
      | zero => exact ⟨rfl, (Option.some.inj h).symm⟩
      | succ i => simp at h
    refine ⟨H, [.val d], rfl, ⟨rfl, Le.refl H, fun i u q => ?_, fun i u q => ?_, fun i j x ⟨u, oi⟩ => ?_, fun i u q => ?_, fun i ⟨u, hi⟩ => ?_, Le.refl H, fun x o h => .inl h, fun x o h _ => h, fun x h => .inr h, fun x h => h, fun x xs h => h, fun i u q => ?_⟩, ?_⟩
    · rcases q with q | q
      · obtain ⟨rfl, e⟩ := sl q
        cases e
        exact ⟨.ref a, rfl, hd⟩
      · obtain ⟨_, e⟩ := sl q; cases e
    · rcases q with q | q <;> (obtain ⟨_, e⟩ := sl q; cases e)
    · rcases oi with q | q <;> (obtain ⟨_, e⟩ := sl q; cases e)
    · rcases q with q | q <;> (obtain ⟨_, e⟩ := sl q; cases e)
    · obtain ⟨_, e⟩ := sl hi; cases e
    · obtain ⟨_, e⟩ := sl q; cases e
    · rw [e]
      intro v F' H' po re
      cases re with
      | fz q => exact (q.vw (Le.refl F')).bl_
  rcases hS with (h | ⟨ob, h⟩) | ⟨o, its, m, h1, h2, h3, h4, h5, h6⟩
  · rcases hO a with z | ⟨o, xs, z⟩
    · rw [h] at z; cases z
    · rw [h] at z; cases z
  · exact go (.scr (ns.map D.int)) (.scr h (DqA.of_ints ns)) rfl
  · exact go (.set (ns.map D.int)) (.ksc ⟨o, its, m, h1, h2, h3, h4, h5, h6⟩ (DqA.of_ints ns)) rfl
theorem cx_end {P : Program} {w : World} {H : Hp} {s : Shared} {e : Value} {s' : Shared} (h : L2N.CX P w [] H s (fun _ _ _ => False) e s') : False := by
  obtain ⟨_, _, _, _, _, _, _, _, _, _, _, _, z⟩ := h
  exact z
end DL

end

section
set_option Elab.async false
set_option linter.all false
set_option maxRecDepth 100000
/-! What a run of the evaluator ends with: plain Lean. -/
namespace DL
/-- the option holds something of which k is true -/
def onO {α : Type} (o : Option α) (k : α → Prop) : Prop := match o with
  | some a => k a
  | none => False
theorem onO_some {α : Type} {a : α} {k : α → Prop} : onO (some a) k ↔ k a := Iff.rfl
/-- the result is a bool of which k is true -/
def onB (x : RV) (k : Bool → Prop) : Prop := match x with
  | .fz (.bl b) => k b
  | _ => False
theorem onB_bl {b : Bool} {k : Bool → Prop} : onB (.fz (.bl b)) k ↔ k b := Iff.rfl
/-- m, run at r, comes to an end at which Q holds -/
def wp {α : Type} (m : M α) (r : Env) (Q : α → Env → Prop) : Prop := ∃ a r', m r = .ok a r' ∧ Q a r'
section
variable {α β : Type} {m : M α} {k : α → M β} {r : Env} {a : α}
theorem wp_mono {Q Q' : α → Env → Prop} (h : wp m r Q) (w : ∀ a r, Q a r → Q' a r) : wp m r Q' := by
  obtain ⟨a, r', e, q⟩ := h
  exact ⟨a, r', e, w a r' q⟩
theorem wp_bnd {Q : β → Env → Prop} : wp (bnd m k) r Q ↔ wp m r fun a r' => wp (k a) r' Q := by
  constructor
  · rintro ⟨c, r', e, q⟩
    unfold bnd at e
    cases e1 : m r with
    | ok a r1 => rw [e1] at e; exact ⟨a, r1, e1, c, r', e, q⟩
    | exc x r1 => rw [e1] at e; cases e
    | bad => rw [e1] at e; cases e
  · rintro ⟨a, r1, e1, c, r', e, q⟩
    refine ⟨c, r', ?_, q⟩
    unfold bnd
    rw [e1]
    exact e
theorem wp_pur {Q : α → Env → Prop} : wp (pur a) r Q ↔ Q a r := ⟨fun ⟨_, _, e, q⟩ => by cases e; exact q, fun q => ⟨a, r, rfl, q⟩⟩
theorem wp_badM {Q : α → Env → Prop} : wp (badM : M α) r Q ↔ False := ⟨(fun h => by obtain ⟨_, _, e, _⟩ := h; cases e), False.elim⟩
theorem ok_iff {Q : α → Env → Prop} : (∃ a' r', Res.ok a r = Res.ok a' r' ∧ Q a' r') ↔ Q a r := ⟨fun ⟨_, _, e, q⟩ => by cases e; exact q, fun q => ⟨_, _, rfl, q⟩⟩
theorem bad_iff {Q : α → Env → Prop} : (∃ a' r', (Res.bad : Res α) = Res.ok a' r' ∧ Q a' r') ↔ False := ⟨(fun h => by obtain ⟨_, _, e, _⟩ := h; cases e), False.elim⟩
theorem wp_lift {o : Option α} {Q : α → Env → Prop} : wp (lift o) r Q ↔ onO o fun a => Q a r := by
  cases o with
  | none => exact wp_badM
  | some a => exact wp_pur
theorem wp_ite {c : Prop} [Decidable c] {m1 m2 : M α} {Q : α → Env → Prop} : wp (if c then m1 else m2) r Q ↔ if c then wp m1 r Q else wp m2 r Q := by
  split <;> rfl
end
section
variable {r : Env} {Q : RV → Env → Prop} {QB : Bool → Env → Prop} {QF : Flow → Env → Prop} {QU : Unit → Env → Prop} {QD : D → Env → Prop} {QL : List D → Env → Prop}
theorem wp_var {i : Nat} : wp (eVar i) r Q ↔ (match r[i]? with
  | some (.val d) => Q (.fz d) r
  | some (.fbr d) => Q (.fz d) r
  | some (.own _) => Q (.loc i) r
  | some (.brw _) => Q (.loc i) r
  | _ => False) := by
  unfold wp eVar
  cases h : r[i]? with
  | none => exact bad_iff
  | some s => cases s <;> first | exact ok_iff | exact bad_iff
theorem wp_c {d : D} : wp (eC d) r Q ↔ Q (.fz d) r := wp_pur
theorem wp_vwM {x : RV} : wp (vwM x) r QD ↔ onO (vw r x) fun d => QD d r := by
  unfold wp vwM
  cases vw r x <;> first | exact ok_iff | exact bad_iff
theorem wp_op1 {f : D → Option RV} {a : M RV} : wp (eOp1 f a) r Q ↔ wp a r fun x r1 => onO (vw r1 x) fun d => onO (f d) fun v => Q v r1 := by
  unfold eOp1
  simp only [wp_bnd, wp_vwM, wp_lift]
theorem wp_op2 {f : D → D → Option RV} {a b : M RV} : wp (eOp2 f a b) r Q ↔ wp a r fun x r1 => wp b r1 fun y r2 => onO (vw r2 x) fun d => onO (vw r2 y) fun e => onO (f d e) fun v => Q v r2 := by
  unfold eOp2
  simp only [wp_bnd, wp_vwM, wp_lift]
theorem wp_frz {x : RV} : wp (frz x) r QD ↔ (match x with
  | .fz d => QD d r
  | .tmp d => QD d r
  | .loc i => (match r[i]? with
    | some (.own d) => QD d (r.set i (.val d))
    | some (.brw d) => QD d (r.set i (.fbr d))
    | some (.val d) => QD d r
    | some (.fbr d) => QD d r
    | _ => False)) := by
  cases x with
  | fz d => exact wp_pur
  | tmp d => exact wp_pur
  | loc i =>
    unfold wp frz
    simp only
    cases h : r[i]? with
    | none => exact bad_iff
    | some s => cases s <;> first | exact ok_iff | exact bad_iff
theorem wp_eF {a : M RV} : wp (eF a) r QD ↔ wp a r fun x r1 => wp (frz x) r1 QD := wp_bnd
theorem wp_eFs_nil : wp (eFs []) r QL ↔ QL [] r := wp_pur
theorem wp_eFs_cons {a : M RV} {as : List (M RV)} : wp (eFs (a :: as)) r QL ↔ wp (eF a) r fun d r1 => wp (eFs as) r1 fun ds r2 => QL (d :: ds) r2 := by
  rw [show eFs (a :: as) = bnd (eF a) fun d => bnd (eFs as) fun ds => pur (d :: ds) from rfl]
  simp only [wp_bnd, wp_pur]
theorem wp_tup {as : List (M RV)} : wp (eTup as) r Q ↔ wp (eFs as) r fun ds r1 => Q (.fz (.tup ds)) r1 := by
  unfold eTup
  simp only [wp_bnd, wp_pur]
theorem wp_lst {as : List (M RV)} : wp (eLst as) r Q ↔ wp (eFs as) r fun ds r1 => Q (.tmp (.lst ds)) r1 := by
  unfold eLst
  simp only [wp_bnd, wp_pur]
theorem wp_asB {x : RV} : wp (asB x) r QB ↔ onB x fun b => QB b r := by
  cases x with
  | fz d => cases d <;> first | exact wp_pur | exact wp_badM
  | _ => exact wp_badM
theorem wp_tV {a : M RV} : wp (tV a) r QB ↔ wp a r fun x r1 => onB x fun b => QB b r1 := by
  rw [tV_eq, wp_bnd]
  simp only [wp_asB]
theorem wp_tAnd {a b : M Bool} : wp (tAnd a b) r QB ↔ wp a r fun x r1 => if x = true then wp b r1 QB else QB false r1 := by
  unfold tAnd
  simp only [wp_bnd, wp_ite, wp_pur]
theorem wp_tOr {a b : M Bool} : wp (tOr a b) r QB ↔ wp a r fun x r1 => if x = true then QB true r1 else wp b r1 QB := by
  unfold tOr
  simp only [wp_bnd, wp_ite, wp_pur]
theorem wp_tNot {a : M Bool} : wp (tNot a) r QB ↔ wp a r fun x r1 => QB (!x) r1 := by
  unfold tNot
  simp only [wp_bnd, wp_pur]
theorem wp_tYes : wp tYes r QB ↔ QB true r := wp_pur
theorem wp_andV {a b : M RV} : wp (eAndV a b) r Q ↔ wp a r fun x r1 => onB x fun c => if c = true then wp b r1 Q else Q (.fz (.bl false)) r1 := by
  unfold eAndV
  simp only [wp_bnd, wp_asB, wp_ite, wp_pur]
theorem wp_orV {a b : M RV} : wp (eOrV a b) r Q ↔ wp a r fun x r1 => onB x fun c => if c = true then Q (.fz (.bl true)) r1 else wp b r1 Q := by
  unfold eOrV
  simp only [wp_bnd, wp_asB, wp_ite, wp_pur]
theorem wp_notV {a : M RV} : wp (eNotV a) r Q ↔ wp a r fun x r1 => onB x fun c => Q (.fz (.bl (!c))) r1 := by
  unfold eNotV
  simp only [wp_bnd, wp_asB, wp_pur]
theorem wp_eIf {c : M Bool} {a b : M RV} : wp (eIf c a b) r Q ↔ wp c r fun x r1 => if x = true then wp a r1 Q else wp b r1 Q := by
  unfold eIf
  simp only [wp_bnd, wp_ite]
theorem wp_chain {f g : D → D → Option RV} {a b c : M RV} : wp (eChain f g a b c) r Q ↔ wp (eF a) r fun d r1 => wp (eF b) r1 fun e r2 => onO (f d e) fun z => onB z fun k => if k = true then wp (eF c) r2 fun h r3 => onO (g e h) fun z => onB z fun k => Q (.fz (.bl k)) r3 else Q (.fz (.bl false)) r2 := by
  unfold eChain
  simp only [wp_bnd, wp_lift, wp_asB, wp_ite, wp_pur]
/-! ### statements -/
theorem wp_nx : wp sNx r QF ↔ QF .nx r := wp_pur
theorem wp_seq {a b : S} : wp (sSeq a b) r QF ↔ wp a r fun f r1 => (match f with
  | .nx => wp b r1 QF
  | f => QF f r1) := by
  unfold sSeq
  rw [wp_bnd]
  constructor
  · intro h
    refine wp_mono h fun f r1 h => ?_
    cases f with
    | nx => exact h
    | _ => exact wp_pur.mp h
  · intro h
    refine wp_mono h fun f r1 h => ?_
    cases f with
    | nx => exact h
    | _ => exact wp_pur.mpr h
theorem wp_put {i : Nat} {x : Slot} : wp (put i x) r QU ↔ (match r[i]? with
  | some .no => QU () (r.set i x)
  | some (.val _) => QU () (r.set i x)
  | some (.own _) => QU () (r.set i x)
  | _ => False) := by
  unfold wp put
  cases h : r[i]? with
  | none => exact bad_iff
  | some s => cases s <;> first | exact ok_iff | exact bad_iff
theorem wp_asSlot {x : RV} {Q : Slot → Env → Prop} : wp (asSlot x) r Q ↔ (match x with
  | .fz d => Q (.val d) r
  | .tmp d => Q (.own d) r
  | .loc i => wp (frz (.loc i)) r fun d r1 => Q (.val d) r1) := by
  cases x with
  | fz d => exact wp_pur
  | tmp d => exact wp_pur
  | loc i =>
    rw [show asSlot (.loc i) = bnd (frz (.loc i)) fun d => pur (.val d) from rfl]
    simp only [wp_bnd, wp_pur]
theorem wp_set {i : Nat} {a : M RV} : wp (sSet i a) r QF ↔ wp a r fun x r1 => wp (asSlot x) r1 fun s r2 => wp (put i s) r2 fun _ r3 => QF .nx r3 := by
  unfold sSet
  simp only [wp_bnd, wp_pur]
theorem wp_ret {a : M RV} : wp (sRet a) r QF ↔ wp a r fun x r1 => QF (.ret x) r1 := by
  unfold sRet
  simp only [wp_bnd, wp_pur]
theorem wp_expr {a : M RV} : wp (sExpr a) r QF ↔ wp a r fun _ r1 => QF .nx r1 := by
  unfold sExpr
  simp only [wp_bnd, wp_pur]
theorem wp_if {c : M Bool} {a b : S} : wp (sIf c a b) r QF ↔ wp c r fun x r1 => if x = true then wp a r1 QF else wp b r1 QF := by
  unfold sIf
  simp only [wp_bnd, wp_ite]
theorem wp_mutAt {i : Nat} {f : D → List D → Option (D × D)} {ds : List D} : wp (mutAt i f ds) r Q ↔ (match r[i]? with
  | some (.own d) => onO (f d ds) fun p => Q (.fz p.2) (r.set i (.own p.1))
  | some (.brw d) => onO (f d ds) fun p => Q (.fz p.2) (r.set i (.brw p.1))
  | _ => False) := by
  unfold wp mutAt
  cases h : r[i]? with
  | none => exact bad_iff
  | some s =>
    cases s with
    | own d => simp only; cases h2 : f d ds <;> first | exact ok_iff | exact bad_iff
    | brw d => simp only; cases h2 : f d ds <;> first | exact ok_iff | exact bad_iff
    | _ => exact bad_iff
theorem wp_sPut {i : Nat} {f : D → List D → Option (D × D)} {k e : M RV} : wp (sPut i f k e) r QF ↔ wp (eF e) r fun d r1 => wp (eVar i) r1 fun _ r2 => wp (eF k) r2 fun k r3 => wp (mutAt i f [k, d]) r3 fun _ r4 => QF .nx r4 := by
  unfold sPut
  simp only [wp_bnd, wp_pur]
theorem wp_rcvL {i : Nat} : wp (rcvL i) r QU ↔ (match r[i]? with
  | some (.own (.lst _)) => QU () r
  | some (.brw (.lst _)) => QU () r
  | _ => False) := by
  unfold wp rcvL
  cases h : r[i]? with
  | none => exact bad_iff
  | some s =>
    cases s with
    | own d => cases d <;> first | exact ok_iff | exact bad_iff
    | brw d => cases d <;> first | exact ok_iff | exact bad_iff
    | _ => exact bad_iff
theorem wp_mut {i : Nat} {f : D → List D → Option (D × D)} {as : List (M RV)} : wp (eMut i f as) r Q ↔ wp (rcvL i) r fun _ r1 => wp (eFs as) r1 fun ds r2 => wp (mutAt i f ds) r2 Q := by
  unfold eMut
  simp only [wp_bnd]
theorem wp_fld {i : Nat} {cs : List Nat} {k : Nat} {e : M RV} : wp (sFldSet i cs k e) r QF ↔ wp (eF e) r fun d r1 => wp (eVar i) r1 fun _ r2 => wp (mutAt i (mFld cs k) [d]) r2 fun _ r3 => QF .nx r3 := by
  unfold sFldSet
  simp only [wp_bnd, wp_pur]
theorem wp_sAsg {t : Tg} {e : M RV} : wp (sAsg t e) r QF ↔ wp (eF e) r fun d r1 => wp (asg t d) r1 fun _ r2 => QF .nx r2 := by
  unfold sAsg
  simp only [wp_bnd, wp_pur]
end
/-! ### functions -/
theorem fn_ok {n k : Nat} {body : S} {args : List Slot} {Q : RV → Env → Prop} (hn : args.length = n) (h : wp body (args ++ List.replicate k .no) fun f r => match f with
    | .nx => Q (.fz .non) (r.take n)
    | .ret v => wp (fin n v) r fun w r' => Q w (r'.take n)
    | _ => False) : ∃ v r, fn n k body args = .ok v r ∧ Q v r := by
  obtain ⟨f, r, e, q⟩ := h
  unfold fn
  rw [if_pos hn, e]
  cases f with
  | nx => exact ⟨_, _, rfl, q⟩
  | ret v =>
    obtain ⟨w, r', e2, q⟩ := q
    simp only [e2]
    exact ⟨_, _, rfl, q⟩
  | brk => exact q.elim
  | cnt => exact q.elim
theorem wp_fin {n : Nat} {v : RV} {r : Env} {Q : RV → Env → Prop} : wp (fin n v) r Q ↔ (match v with
  | .fz d => Q (.fz d) r
  | .tmp d => Q (.tmp d) r
  | .loc i => (match r[i]? with
    | some (.own d) => if i < n then Q (.fz d) (r.set i (.val d)) else Q (.tmp d) r
    | some (.brw d) => Q (.fz d) (r.set i (.fbr d))
    | some (.val d) => Q (.fz d) r
    | some (.fbr d) => Q (.fz d) r
    | _ => False)) := by
  cases v with
  | fz d => exact wp_pur
  | tmp d => exact wp_pur
  | loc i =>
    unfold wp fin
    simp only
    cases h : r[i]? with
    | none => exact bad_iff
    | some s =>
      cases s with
      | own d =>
        simp only
        by_cases z : i < n
        · rw [if_pos z, if_pos z]; exact ok_iff
        · rw [if_neg z, if_neg z]; exact ok_iff
      | no => exact bad_iff
      | _ => exact ok_iff
theorem wp_args_nil {r : Env} {Q : List RV → Env → Prop} : wp (eArgs []) r Q ↔ Q [] r := wp_pur
theorem wp_args_cons {a : M RV} {as : List (M RV)} {r : Env} {Q : List RV → Env → Prop} : wp (eArgs (a :: as)) r Q ↔ wp a r fun v r1 => wp (eArgs as) r1 fun vs r2 => Q (v :: vs) r2 := by
  rw [show eArgs (a :: as) = bnd a fun v => bnd (eArgs as) fun vs => pur (v :: vs) from rfl]
  simp only [wp_bnd, wp_pur]
theorem wp_call {f : Fn} {as : List (M RV)} {r : Env} {Q : RV → Env → Prop} : wp (eCall f as) r Q ↔ wp (eArgs as) r fun vs r1 => wp (callFn f vs) r1 Q := by
  unfold eCall
  exact wp_bnd
theorem wp_callFn {f : Fn} {vs : List RV} {r r' : Env} {ss ss' : List Slot} {w : RV} {Q : RV → Env → Prop} (nd : (locs vs).Nodup) (ha : argSlots r vs = some ss) (hf : f ss = .ok w ss') (hb : backAll vs ss' r = some r') (q : Q w r') : wp (callFn f vs) r Q := by
  refine ⟨w, r', ?_, q⟩
  unfold callFn
  rw [if_pos nd, ha]
  simp only [hf, hb]
end DL

end

section
set_option Elab.async false
set_option linter.all false
set_option maxRecDepth 100000
/-! Stepping through a run. -/
namespace DL
section
variable {α β : Type} {r : Env} {i : Nat} {d e : D} {Q : RV → Env → Prop} {QF : Flow → Env → Prop} {QB : Bool → Env → Prop} {QD : D → Env → Prop} {QU : Unit → Env → Prop}
theorem wi_val (h : r[i]? = some (.val d)) (q : Q (.fz d) r) : wp (eVar i) r Q := by rw [wp_var, h]; exact q
theorem wi_fbr (h : r[i]? = some (.fbr d)) (q : Q (.fz d) r) : wp (eVar i) r Q := by rw [wp_var, h]; exact q
theorem wi_own (h : r[i]? = some (.own d)) (q : Q (.loc i) r) : wp (eVar i) r Q := by rw [wp_var, h]; exact q
theorem wi_brw (h : r[i]? = some (.brw d)) (q : Q (.loc i) r) : wp (eVar i) r Q := by rw [wp_var, h]; exact q
theorem onO_of {α : Type} {o : Option α} {a : α} {k : α → Prop} (h : o = some a) (q : k a) : onO o k := by rw [h]; exact q
theorem wi_ffz (q : QD d r) : wp (frz (.fz d)) r QD := wp_pur.mpr q
theorem wi_ftmp (q : QD d r) : wp (frz (.tmp d)) r QD := wp_pur.mpr q
theorem wi_fown (h : r[i]? = some (.own d)) (q : QD d (r.set i (.val d))) : wp (frz (.loc i)) r QD := by rw [wp_frz]; simp only [h]; exact q
theorem wi_fbrw (h : r[i]? = some (.brw d)) (q : QD d (r.set i (.fbr d))) : wp (frz (.loc i)) r QD := by rw [wp_frz]; simp only [h]; exact q
theorem wi_sfz {Q : Slot → Env → Prop} (q : Q (.val d) r) : wp (asSlot (.fz d)) r Q := wp_pur.mpr q
theorem wi_stmp {Q : Slot → Env → Prop} (q : Q (.own d) r) : wp (asSlot (.tmp d)) r Q := wp_pur.mpr q
theorem wi_sloc {Q : Slot → Env → Prop} (q : wp (frz (.loc i)) r fun d r1 => Q (.val d) r1) : wp (asSlot (.loc i)) r Q := wp_asSlot.mpr q
theorem wi_pno {x : Slot} (h : r[i]? = some .no) (q : QU () (r.set i x)) : wp (put i x) r QU := by rw [wp_put, h]; exact q
theorem wi_pval {x : Slot} (h : r[i]? = some (.val d)) (q : QU () (r.set i x)) : wp (put i x) r QU := by rw [wp_put, h]; exact q
theorem wi_pown {x : Slot} (h : r[i]? = some (.own d)) (q : QU () (r.set i x)) : wp (put i x) r QU := by rw [wp_put, h]; exact q
theorem wi_mown {f : D → List D → Option (D × D)} {ds : List D} {p : D × D} (h : r[i]? = some (.own d)) (hf : f d ds = some p) (q : Q (.fz p.2) (r.set i (.own p.1))) : wp (mutAt i f ds) r Q := by
  rw [wp_mutAt]
  simp only [h]
  exact onO_of hf q
theorem wi_mbrw {f : D → List D → Option (D × D)} {ds : List D} {p : D × D} (h : r[i]? = some (.brw d)) (hf : f d ds = some p) (q : Q (.fz p.2) (r.set i (.brw p.1))) : wp (mutAt i f ds) r Q := by
  rw [wp_mutAt]
  simp only [h]
  exact onO_of hf q
theorem wi_rown {xs : List D} (h : r[i]? = some (.own (.lst xs))) (q : QU () r) : wp (rcvL i) r QU := by rw [wp_rcvL]; simp only [h]; exact q
theorem wi_rbrw {xs : List D} (h : r[i]? = some (.brw (.lst xs))) (q : QU () r) : wp (rcvL i) r QU := by rw [wp_rcvL]; simp only [h]; exact q
theorem wi_ifT {c : Prop} [Decidable c] {A B : Prop} (hc : c) (h : A) : if c then A else B := by rw [if_pos hc]; exact h
theorem wi_ifF {c : Prop} [Decidable c] {A B : Prop} (hc : ¬ c) (h : B) : if c then A else B := by rw [if_neg hc]; exact h
theorem wi_nz {n : Nat} (q : Q (.fz d) r) : wp (fin n (.fz d)) r Q := wp_pur.mpr q
theorem wi_nt {n : Nat} (q : Q (.tmp d) r) : wp (fin n (.tmp d)) r Q := wp_pur.mpr q
theorem wi_nl {n : Nat} (h : r[i]? = some (.own d)) (hn : ¬ i < n) (q : Q (.tmp d) r) : wp (fin n (.loc i)) r Q := by rw [wp_fin]; simp only [h]; rw [if_neg hn]; exact q
theorem wi_nb {n : Nat} (h : r[i]? = some (.brw d)) (q : Q (.fz d) (r.set i (.fbr d))) : wp (fin n (.loc i)) r Q := by rw [wp_fin]; simp only [h]; exact q
end
end DL

end

section
set_option Elab.async false
set_option linter.all false
set_option maxRecDepth 100000
/-! Loops and comprehensions. -/
namespace DL
section
variable {r : Env} {Q : RV → Env → Prop} {QF : Flow → Env → Prop} {QL : List D → Env → Prop} {QU : Unit → Env → Prop} {t : Tg} {body : S} {is : List Nat}
theorem wp_for {it : M (List D)} : wp (sFor t it body) r QF ↔ wp it r fun ds r1 => wp (forGo t body ds) r1 QF := by
  unfold sFor
  exact wp_bnd
/-- behind one turn's body -/
def turnE (QF : Flow → Env → Prop) (I : Env → Prop) (f : Flow) (r : Env) : Prop := match f with
  | .nx => I r
  | .cnt => I r
  | .brk => QF .nx r
  | .ret v => QF (.ret v) r
theorem forGo_inv (I : Nat → Env → Prop) {ds : List D} (step : ∀ i d r, ds[i]? = some d → I i r → wp (asg t d) r fun _ r1 => wp body r1 (turnE QF (I (i + 1)))) (done : ∀ r, I ds.length r → QF .nx r) (h : I 0 r) : wp (forGo t body ds) r QF := by
  have go : ∀ (n : Nat) (i : Nat) (r : Env), i + n = ds.length → I i r → wp (forGo t body (ds.drop i)) r QF := by
    intro n
    induction n with
    | zero =>
      intro i r hi h
      have e : i = ds.length := by omega
      subst e
      rw [List.drop_length]
      exact wp_pur.mpr (done r h)
    | succ n ih =>
      intro i r hi h
      have hlt : i < ds.length := by omega
      rw [List.drop_eq_getElem_cons hlt]
      refine wp_bnd.mpr (wp_mono (step i _ r (List.getElem?_eq_getElem hlt) h) fun _ r1 h1 => wp_bnd.mpr (wp_mono h1 fun f r2 h2 => ?_))
      cases f with
      | nx => exact ih (i + 1) r2 (by omega) h2
      | cnt => exact ih (i + 1) r2 (by omega) h2
      | brk => exact wp_pur.mpr h2
      | ret v => exact wp_pur.mpr h2
  exact go ds.length 0 r (Nat.zero_add _) h
theorem wp_seqI {a : M RV} : wp (iSeq a) r QL ↔ wp (eF a) r fun d r1 => onO (seqOf d) fun ds => QL ds r1 := by
  unfold iSeq
  simp only [wp_bnd, wp_lift]
/-- the result is a whole number that a range takes -/
def onR (x : RV) (k : Int → Prop) : Prop := match x with
  | .fz (.int j) => big62 j = true ∧ k j
  | _ => False
theorem onR_int {j : Int} {k : Int → Prop} (h : big62 j = true) (q : k j) : onR (.fz (.int j)) k := ⟨h, q⟩
theorem wp_rng1 {a : M RV} : wp (iRng1 a) r QL ↔ wp a r fun x r1 => onR x fun j => QL (rng 0 j) r1 := by
  unfold iRng1
  rw [wp_bnd]
  constructor
  · intro h
    refine wp_mono h fun x r1 h => ?_
    cases x with
    | fz d =>
      cases d with
      | int j =>
        have h : wp (if big62 j = true then pur (rng 0 j) else badM) r1 QL := h
        rw [wp_ite] at h
        split at h
        · rename_i hb; exact ⟨hb, wp_pur.mp h⟩
        · exact (wp_badM.mp h).elim
      | _ => exact (wp_badM.mp h).elim
    | _ => exact (wp_badM.mp h).elim
  · intro h
    refine wp_mono h fun x r1 h => ?_
    cases x with
    | fz d =>
      cases d with
      | int j =>
        show wp (if big62 j = true then pur (rng 0 j) else badM) r1 QL
        rw [wp_ite, if_pos h.1]
        exact wp_pur.mpr h.2
      | _ => exact h.elim
    | _ => exact h.elim
theorem wp_rng2 {a b : M RV} : wp (iRng2 a b) r QL ↔ wp a r fun x r1 => wp b r1 fun y r2 => onR x fun i => onR y fun j => QL (rng i j) r2 := by
  unfold iRng2
  simp only [wp_bnd]
  constructor
  · intro h
    refine wp_mono h fun x r1 h => wp_mono h fun y r2 h => ?_
    split at h
    · rename_i i j
      rw [wp_ite] at h
      split at h
      · rename_i hb
        rw [Bool.and_eq_true] at hb
        exact ⟨hb.1, hb.2, wp_pur.mp h⟩
      · exact (wp_badM.mp h).elim
    · exact (wp_badM.mp h).elim
  · intro h
    refine wp_mono h fun x r1 h => wp_mono h fun y r2 h => ?_
    split
    · rename_i i j
      rw [wp_ite, if_pos (by rw [Bool.and_eq_true]; exact ⟨h.1, h.2.1⟩)]
      exact wp_pur.mpr h.2.2
    · rename_i hn
      cases x with
      | fz d =>
        cases d with
        | int i =>
          cases y with
          | fz e =>
            cases e with
            | int j => exact (hn i j rfl rfl).elim
            | _ => exact h.2.elim
          | _ => exact h.2.elim
        | _ => exact h.elim
      | _ => exact h.elim
theorem rng_get {lo hi : Int} {i : Nat} {d : D} (h : (rng lo hi)[i]? = some d) : d = .int (lo + i) ∧ (i : Int) < hi - lo := by
  unfold rng at h
  rw [List.getElem?_map] at h
  cases e : (List.range (hi - lo).toNat)[i]? with
  | none => rw [e] at h; cases h
  | some k =>
    rw [e] at h
    obtain ⟨h1, h2⟩ := List.getElem?_eq_some_iff.mp e
    rw [List.length_range] at h1
    rw [List.getElem_range] at h2
    cases h
    subst h2
    exact ⟨rfl, by omega⟩
theorem rng_len {lo hi : Int} : (rng lo hi).length = (hi - lo).toNat := by
  unfold rng
  rw [List.length_map, List.length_range]
/-! ### targets -/
theorem wp_tnm {i : Nat} {d : D} : wp (asg (.nm i) d) r QU ↔ wp (put i (.val d)) r QU := by rw [asg]
theorem wp_ttp {ts : List Tg} {ds : List D} : wp (asg (.tp ts) (.tup ds)) r QU ↔ wp (asgs ts ds) r QU := by rw [asg]
theorem wp_tn : wp (asgs [] []) r QU ↔ QU () r := by
  rw [asgs]
  exact wp_pur
theorem wp_tc {ts : List Tg} {d : D} {ds : List D} : wp (asgs (t :: ts) (d :: ds)) r QU ↔ wp (asg t d) r fun _ r1 => wp (asgs ts ds) r1 QU := by
  rw [asgs]
  exact wp_bnd
/-! ### comprehensions -/
theorem wp_wn : wp (wip []) r QU ↔ QU () r := wp_pur
theorem wp_wc {i : Nat} : wp (wip (i :: is)) r QU ↔ wp (wip is) r fun _ r1 => wp (put i .no) r1 QU := by
  rw [show wip (i :: is) = bnd (wip is) fun _ => put i .no from rfl]
  exact wp_bnd
theorem wp_inBlk {α : Type} {m : M α} {Q : α → Env → Prop} (hp : is.all (plainAt r) = true) (h : wp (wip is) r fun _ rw => wp m rw fun a r' => Q a (rest is r r')) : wp (inBlk is m) r Q := by
  obtain ⟨_, rw_, e1, a, r', e2, q⟩ := h
  refine ⟨a, rest is r r', ?_, q⟩
  unfold inBlk
  rw [if_pos hp]
  unfold bnd
  rw [e1]
  show (match noexc m rw_ with
    | .ok a r' => Res.ok a (rest is r r')
    | _ => .bad) = _
  unfold noexc
  rw [e2]
theorem wp_comp {it : M (List D)} {c : M Bool} {e : M RV} (h : wp it r fun ds r1 => is.all (plainAt r1) = true ∧ wp (wip is) r1 fun _ rw => wp (compGo is t c e ds []) rw fun ys r' => Q (.tmp (.lst ys)) (rest is r1 r')) : wp (eComp is t it c e) r Q := by
  unfold eComp
  refine wp_bnd.mpr (wp_mono h fun ds r1 ⟨hp, h1⟩ => wp_bnd.mpr (wp_inBlk hp (wp_mono h1 fun _ rw h2 => wp_mono h2 fun ys r' q => wp_pur.mpr q)))
theorem compGo_inv {c : M Bool} {e : M RV} (I : Nat → List D → Env → Prop) {ds : List D} (hl : ds.length ≤ line)
    (step : ∀ i d acc r, ds[i]? = some d → I i acc r → wp (asg t d) r fun _ r1 => wp c r1 fun x r2 => if x = true then wp (eF e) r2 fun y r3 => wp (wip is) r3 fun _ r4 => I (i + 1) (acc ++ [y]) r4 else wp (wip is) r2 fun _ r4 => I (i + 1) acc r4)
    (done : ∀ acc r, I ds.length acc r → QL acc r) (h : I 0 [] r) : wp (compGo is t c e ds []) r QL := by
  have go : ∀ (n : Nat) (i : Nat) (acc : List D) (r : Env), i + n = ds.length → acc.length ≤ i → I i acc r → wp (compGo is t c e (ds.drop i) acc) r QL := by
    intro n
    induction n with
    | zero =>
      intro i acc r hi ha h
      have e : i = ds.length := by omega
      subst e
      rw [List.drop_length]
      exact wp_pur.mpr (done acc r h)
    | succ n ih =>
      intro i acc r hi ha h
      have hlt : i < ds.length := by omega
      rw [List.drop_eq_getElem_cons hlt]
      refine wp_bnd.mpr (wp_mono (step i _ acc r (List.getElem?_eq_getElem hlt) h) fun _ r1 h1 => wp_bnd.mpr (wp_mono h1 fun x r2 h2 => ?_))
      rw [wp_ite]
      split
      · rename_i hx
        rw [if_pos hx] at h2
        refine wp_bnd.mpr (wp_mono h2 fun y r3 h3 => wp_bnd.mpr (wp_mono h3 fun _ r4 h4 => ?_))
        rw [if_pos (by omega)]
        exact ih (i + 1) _ r4 (by omega) (by rw [List.length_append]; exact Nat.succ_le_succ ha) h4
      · rename_i hx
        rw [if_neg hx] at h2
        refine wp_bnd.mpr (wp_mono h2 fun _ r4 h4 => ?_)
        exact ih (i + 1) _ r4 (by omega) (by omega) h4
  exact go ds.length 0 [] r (Nat.zero_add _) (Nat.le_refl _) h
/-- a comprehension that leaves all as it was: a filter and a map -/
theorem compGo_pure {c : M Bool} {e : M RV} {rw : Env} (p : D → Bool) (g : D → D) {ds : List D} (hl : ds.length ≤ line)
    (step : ∀ d ∈ ds, wp (asg t d) rw fun _ r1 => wp c r1 fun x r2 => x = p d ∧ if x = true then wp (eF e) r2 fun y r3 => y = g d ∧ wp (wip is) r3 fun _ r4 => r4 = rw else wp (wip is) r2 fun _ r4 => r4 = rw) :
    wp (compGo is t c e ds []) rw fun ys r' => ys = (ds.filter p).map g ∧ r' = rw := by
  refine compGo_inv (fun i acc r => acc = ((ds.take i).filter p).map g ∧ r = rw) hl (fun i d acc r hd ⟨ha, hr⟩ => ?_) (fun acc r ⟨ha, hr⟩ => ?_) ⟨by simp, rfl⟩
  · subst hr
    have hm : d ∈ ds := List.mem_of_getElem? hd
    have tk : ds.take (i + 1) = ds.take i ++ [d] := by rw [List.take_succ, hd]; rfl
    refine wp_mono (step d hm) fun _ r1 h1 => wp_mono h1 fun x r2 ⟨hx, h2⟩ => ?_
    split
    · rename_i hx'
      rw [if_pos hx'] at h2
      refine wp_mono h2 fun y r3 ⟨hy, h3⟩ => wp_mono h3 fun _ r4 h4 => ⟨?_, h4⟩
      rw [tk, List.filter_append, List.map_append, ha, hy]
      have pd : p d = true := hx ▸ hx'
      simp [pd]
    · rename_i hx'
      rw [if_neg hx'] at h2
      refine wp_mono h2 fun _ r4 h4 => ⟨?_, h4⟩
      rw [tk, List.filter_append, List.map_append, ha]
      have pd : p d = false := by rw [← hx]; simpa using hx'
      simp [pd]
  · rw [ha, List.take_length]
    exact ⟨rfl, hr⟩
end
end DL

end

section
set_option Elab.async false
set_option linter.all false
set_option maxRecDepth 100000
/-! Paths over pairs, sets of pairs: plain Lean. -/
namespace DL
/-- a pair as a row, as a value -/
def rw2 (q : Int × Int) : List Int := [q.1, q.2]
def pD (q : Int × Int) : D := .tup [.int q.1, .int q.2]
theorem map_pD (L : List (Int × Int)) : L.map pD = (L.map rw2).map tupI := by
  rw [List.map_map]
  rfl
def un2 : List Int → Int × Int
  | [a, c] => (a, c)
  | _ => (0, 0)
/-- sorted(set(L)) -/
def sset (L : List (Int × Int)) : List (Int × Int) := (sortSet (L.map rw2)).map un2
theorem sset_rows (L : List (Int × Int)) : (sset L).map rw2 = sortSet (L.map rw2) := by
  unfold sset
  rw [List.map_map]
  have h : ∀ x ∈ sortSet (L.map rw2), (rw2 ∘ un2) x = x := fun x hx => by
    have hx' : x ∈ L.map rw2 := mem_dups.mp ((sortRows_perm _).mem_iff.mp hx)
    obtain ⟨q, _, rfl⟩ := List.mem_map.mp hx'
    rfl
  exact (List.map_congr_left h).trans (List.map_id' _)
theorem mem_sset {L : List (Int × Int)} {q : Int × Int} : q ∈ sset L ↔ q ∈ L := by
  unfold sset
  constructor
  · intro h
    obtain ⟨x, hx, rfl⟩ := List.mem_map.mp h
    have hx' : x ∈ L.map rw2 := mem_dups.mp ((sortRows_perm _).mem_iff.mp hx)
    obtain ⟨q, hq, rfl⟩ := List.mem_map.mp hx'
    exact hq
  · intro h
    exact List.mem_map.mpr ⟨rw2 q, (sortRows_perm _).mem_iff.mpr (mem_dups.mpr (List.mem_map.mpr ⟨q, h, rfl⟩)), rfl⟩
theorem lt_of_le_ne' {x y : List Int} (h : x ≤ y) (n : x ≠ y) : x < y := Classical.byContradiction fun c => n (List.le_antisymm h (List.not_lt.mp c))
theorem sset_asc (L : List (Int × Int)) : ((sset L).map rw2).Pairwise (· < ·) := by
  rw [sset_rows]
  have n : (sortSet (L.map rw2)).Nodup := (sortRows_perm _).nodup_iff.mpr (nodup_dups _)
  exact ((sortRows_sorted _).and n).imp fun ⟨a, b⟩ => lt_of_le_ne' a b
/-- an ascending list is told by its members -/
theorem asc_ext {L M : List (Int × Int)} (h1 : (L.map rw2).Pairwise (· < ·)) (h2 : (M.map rw2).Pairwise (· < ·)) (h : ∀ q, q ∈ L ↔ q ∈ M) : L = M := by
  have ir : ∀ x : List Int, ¬ x < x := fun x => List.lt_irrefl x
  have nd : ∀ {L : List (Int × Int)}, (L.map rw2).Pairwise (· < ·) → L.Nodup := fun {L} h => (List.pairwise_map.mp h).imp fun {a b} hab e => by subst e; exact ir _ hab
  have pm : L.Perm M := (List.perm_ext_iff_of_nodup (nd h1) (nd h2)).mpr h
  have e := eq_of_sorted (r := fun x y : List Int => x < y) (fun x y a b => (ir x (List.lt_trans a b)).elim) (pm.map rw2) h1 h2
  have z := congrArg (List.map un2) e
  rw [List.map_map, List.map_map] at z
  have i : ∀ L : List (Int × Int), L.map (un2 ∘ rw2) = L := fun L => (List.map_congr_left fun _ _ => rfl).trans (List.map_id' _)
  rwa [i, i] at z
/-- a path of n + 1 pairs -/
def Pn (ps : List (Int × Int)) : Nat → Int → Int → Prop
  | 0, a, c => (a, c) ∈ ps
  | n + 1, a, c => ∃ b, (a, b) ∈ ps ∧ Pn ps n b c
theorem Pn.join {ps : List (Int × Int)} : ∀ {n k : Nat} {a b c : Int}, Pn ps n a b → Pn ps k b c → Pn ps (n + k + 1) a c
  | 0, k, a, b, c, h, h' => by
    rw [Nat.zero_add]
    exact ⟨b, h, h'⟩
  | n + 1, k, a, b, c, ⟨x, h1, h2⟩, h' => by
    rw [show n + 1 + k + 1 = (n + k + 1) + 1 by omega]
    exact ⟨x, h1, Pn.join h2 h'⟩
theorem Pn.part {ps : List (Int × Int)} : ∀ {n k : Nat} {a c : Int}, Pn ps (n + k + 1) a c → ∃ b, Pn ps n a b ∧ Pn ps k b c
  | 0, k, a, c, h => by
    rw [Nat.zero_add] at h
    exact h
  | n + 1, k, a, c, h => by
    rw [show n + 1 + k + 1 = (n + k + 1) + 1 by omega] at h
    obtain ⟨x, h1, h2⟩ := h
    obtain ⟨b, h3, h4⟩ := Pn.part h2
    exact ⟨b, ⟨x, h1, h3⟩, h4⟩
/-- a path -/
def Tr (ps : List (Int × Int)) (a c : Int) : Prop := ∃ n, Pn ps n a c
/-- the ascending list of all paths' ends -/
structure IsCl (ps L : List (Int × Int)) : Prop where
  asc : (L.map rw2).Pairwise (· < ·)
  mem : ∀ q, q ∈ L ↔ Tr ps q.1 q.2
theorem IsCl.uniq {ps L M : List (Int × Int)} (h : IsCl ps L) (k : IsCl ps M) : L = M := asc_ext h.asc k.asc fun q => (h.mem q).trans (k.mem q).symm
/-- names below many, a rank that all pairs raise -/
structure Acy (many : Int) (ps : List (Int × Int)) : Prop where
  bd : ∀ q ∈ ps, 0 ≤ q.1 ∧ q.1 < many ∧ 0 ≤ q.2 ∧ q.2 < many
  rk : ∃ rk : Int → Nat, ∀ q ∈ ps, rk q.1 < rk q.2
section
variable {many : Int} {ps : List (Int × Int)}
theorem Pn.bd (h : Acy many ps) : ∀ {n : Nat} {a c : Int}, Pn ps n a c → 0 ≤ a ∧ a < many ∧ 0 ≤ c ∧ c < many
  | 0, a, c, q => h.bd (a, c) q
  | n + 1, a, c, ⟨b, q1, q2⟩ => by
    have h1 := h.bd (a, b) q1
    have h2 := Pn.bd h q2
    exact ⟨h1.1, h1.2.1, h2.2.2⟩
theorem Pn.rk {rk : Int → Nat} (h : ∀ q ∈ ps, rk q.1 < rk q.2) : ∀ {n : Nat} {a c : Int}, Pn ps n a c → rk a < rk c
  | 0, a, c, q => h (a, c) q
  | n + 1, a, c, ⟨b, q1, q2⟩ => Nat.lt_trans (h (a, b) q1) (Pn.rk h q2)
theorem Tr.ne (h : Acy many ps) {a c : Int} (t : Tr ps a c) : a ≠ c := by
  obtain ⟨rk, hr⟩ := h.rk
  obtain ⟨n, t⟩ := t
  intro e
  subst e
  exact Nat.lt_irrefl _ (Pn.rk hr t)
/-- the names on a path, all unlike -/
theorem Pn.names {rk : Int → Nat} (hb : ∀ q ∈ ps, 0 ≤ q.1 ∧ q.1 < many ∧ 0 ≤ q.2 ∧ q.2 < many) (h : ∀ q ∈ ps, rk q.1 < rk q.2) : ∀ {n : Nat} {a c : Int}, Pn ps n a c → ∃ l : List Int, l.length = n + 2 ∧ l.Nodup ∧ ∀ x ∈ l, (0 ≤ x ∧ x < many) ∧ rk a ≤ rk x
  | 0, a, c, q => by
    have h1 := h (a, c) q
    have h2 := hb (a, c) q
    refine ⟨[a, c], rfl, ?_, fun x hx => ?_⟩
    · refine List.nodup_cons.mpr ⟨fun m => ?_, by simp⟩
      have e : a = c := by simpa using m
      subst e
      exact Nat.lt_irrefl _ h1
    · rcases List.mem_cons.mp hx with rfl | hx
      · exact ⟨⟨h2.1, h2.2.1⟩, Nat.le_refl _⟩
      · have e : x = c := by simpa using hx
        subst e
        exact ⟨⟨h2.2.2.1, h2.2.2.2⟩, Nat.le_of_lt h1⟩
  | n + 1, a, c, ⟨b, q1, q2⟩ => by
    obtain ⟨l, h1, h2, h3⟩ := Pn.names hb h q2
    have h4 := h (a, b) q1
    have h5 := hb (a, b) q1
    refine ⟨a :: l, by rw [List.length_cons, h1], List.nodup_cons.mpr ⟨fun m => ?_, h2⟩, fun x hx => ?_⟩
    · have := (h3 a m).2
      have h4 : rk a < rk b := h4
      omega
    · rcases List.mem_cons.mp hx with rfl | hx
      · exact ⟨⟨h5.1, h5.2.1⟩, Nat.le_refl _⟩
      · have h4 : rk a < rk b := h4
        exact ⟨(h3 x hx).1, Nat.le_trans (Nat.le_of_lt h4) (h3 x hx).2⟩
theorem Pn.short (h : Acy many ps) (hm : many ≤ 8) {n : Nat} {a c : Int} (q : Pn ps n a c) : n < 16 := by
  obtain ⟨rk, hr⟩ := h.rk
  obtain ⟨l, h1, h2, h3⟩ := Pn.names h.bd hr q
  have z := nodup_len (m := (List.range 8).map fun (i : Nat) => (i : Int)) h2 fun x hx => by
    have := (h3 x hx).1
    exact List.mem_map.mpr ⟨x.toNat, List.mem_range.mpr (by omega), by omega⟩
  rw [List.length_map, List.length_range] at z
  omega
/-- few pairs of unlike names -/
theorem few_pairs (hm : many ≤ 8) {L : List (Int × Int)} (hn : L.Nodup) (hb : ∀ q ∈ L, (0 ≤ q.1 ∧ q.1 < many ∧ 0 ≤ q.2 ∧ q.2 < many) ∧ q.1 ≠ q.2) : L.length ≤ 56 := by
  have z := nodup_len (m := ((List.range 8).flatMap fun (i : Nat) => (List.range 8).map fun (j : Nat) => ((i : Int), (j : Int))).filter fun (q : Int × Int) => q.1 != q.2) hn fun q hq => by
    obtain ⟨h1, h2⟩ := hb q hq
    refine List.mem_filter.mpr ⟨List.mem_flatMap.mpr ⟨q.1.toNat, List.mem_range.mpr (by omega), List.mem_map.mpr ⟨q.2.toNat, List.mem_range.mpr (by omega), Prod.ext (by show ((q.1.toNat : Nat) : Int) = q.1; omega) (by show ((q.2.toNat : Nat) : Int) = q.2; omega)⟩⟩, by simpa using h2⟩
  exact Nat.le_trans z (by decide)
end
end DL

end

section
set_option Elab.async false
set_option linter.all false
set_option maxRecDepth 100000
/-! Equality and membership of values that stand for data; loops over lists of them. -/
namespace DL
open PySem (PyData)
/-- f embeds a type in the data, at most k deep -/
structure Emb {α : Type} [DecidableEq α] (f : α → D) (k : Nat) : Prop where
  pd : ∀ a, toPd (f a) = some (pdOf (f a))
  lay : ∀ a, (pdOf (f a)).canLay0 = true
  dp : ∀ a, (pdOf (f a)).depth ≤ k
  eqv : ∀ a b, PyData.eqv (pdOf (f a)) (pdOf (f b)) = decide (a = b)
section
variable {α : Type} [DecidableEq α] {f : α → D} {k : Nat}
theorem pdOf_some {d : D} {p : PyData} (h : toPd d = some p) : pdOf d = p := by unfold pdOf; rw [h]; rfl
theorem Emb.int : Emb D.int 0 := ⟨fun _ => rfl, fun _ => by rw [pdOf_some (d := .int _) rfl, PyData.canLay0], fun _ => by rw [pdOf_some (d := .int _) rfl, PyData.depth]; exact Nat.le_refl _, fun a b => by
  rw [pdOf_some (d := .int _) rfl, pdOf_some (d := .int _) rfl, PyData.eqv]
  by_cases h : a = b
  · subst h; simp
  · rw [decide_eq_false h]; simpa using h⟩
theorem Emb.pds (h : Emb f k) (l : List α) : toPds (l.map f) = some (l.map fun a => pdOf (f a)) := by
  rw [toPds_of fun d hd => by obtain ⟨a, _, rfl⟩ := List.mem_map.mp hd; exact ⟨_, h.pd a⟩, List.map_map]
  rfl
theorem Emb.layAll (h : Emb f k) : ∀ l : List α, PyData.canLayAll0 (l.map fun a => pdOf (f a)) = true
  | [] => by rw [List.map_nil, PyData.canLayAll0]
  | a :: l => by rw [List.map_cons, PyData.canLayAll0, h.lay a, h.layAll l]; rfl
theorem Emb.depAll (h : Emb f k) : ∀ l : List α, PyData.depthAll (l.map fun a => pdOf (f a)) ≤ k
  | [] => by rw [List.map_nil, PyData.depthAll]; exact Nat.zero_le _
  | a :: l => by
    rw [List.map_cons, PyData.depthAll]
    exact Nat.max_le.mpr ⟨h.dp a, h.depAll l⟩
theorem Emb.eqvAll (h : Emb f k) : ∀ l m : List α, PyData.eqvAll (l.map fun a => pdOf (f a)) (m.map fun a => pdOf (f a)) = decide (l = m)
  | [], [] => by rw [List.map_nil, PyData.eqvAll]; rfl
  | [], b :: m => by rw [List.map_nil, List.map_cons, PyData.eqvAll]; rfl
  | a :: l, [] => by rw [List.map_nil, List.map_cons, PyData.eqvAll]; rfl
  | a :: l, b :: m => by
    rw [List.map_cons, List.map_cons, PyData.eqvAll, h.eqv, h.eqvAll l m]
    by_cases e : a = b
    · subst e
      by_cases e2 : l = m
      · subst e2; simp
      · simp [e2]
    · simp [e]
theorem Emb.tup (h : Emb f k) : Emb (fun l : List α => D.tup (l.map f)) (k + 1) := by
  have e : ∀ l : List α, toPd (D.tup (l.map f)) = some (.tuple (l.map fun a => pdOf (f a))) := fun l => by
    rw [toPd, h.pds]; rfl
  refine ⟨fun l => by rw [pdOf_some (e l)]; exact e l, fun l => ?_, fun l => ?_, fun l m => ?_⟩
  · rw [pdOf_some (e l), PyData.canLay0]; exact h.layAll l
  · rw [pdOf_some (e l), PyData.depth]; exact Nat.succ_le_succ (h.depAll l)
  · rw [pdOf_some (e l), pdOf_some (e m), PyData.eqv]; exact h.eqvAll l m
theorem Emb.lst (h : Emb f k) : Emb (fun l : List α => D.lst (l.map f)) (k + 1) := by
  have e : ∀ l : List α, toPd (D.lst (l.map f)) = some (.list (l.map fun a => pdOf (f a))) := fun l => by
    rw [toPd, h.pds]; rfl
  refine ⟨fun l => by rw [pdOf_some (e l)]; exact e l, fun l => ?_, fun l => ?_, fun l m => ?_⟩
  · rw [pdOf_some (e l), PyData.canLay0]; exact h.layAll l
  · rw [pdOf_some (e l), PyData.depth]; exact Nat.succ_le_succ (h.depAll l)
  · rw [pdOf_some (e l), pdOf_some (e m), PyData.eqv]; exact h.eqvAll l m
theorem Emb.inj {β : Type} [DecidableEq β] (h : Emb f k) (g : β → α) (hg : ∀ x y, g x = g y → x = y) : Emb (fun b => f (g b)) k := ⟨fun b => h.pd (g b), fun b => h.lay (g b), fun b => h.dp (g b), fun x y => by
  rw [h.eqv]
  by_cases e : x = y
  · subst e; simp
  · rw [decide_eq_false e, decide_eq_false fun z => e (hg x y z)]⟩
theorem Emb.row : Emb tupI 1 := Emb.int.tup
theorem Emb.pD : Emb pD 1 := Emb.inj (f := tupI) Emb.row rw2 fun x y e => congrArg un2 e
theorem Emb.shp (h : Emb f k) (hk : k ≤ 64) (a : α) : DL.shp (f a) = some (pdOf (f a)) := by
  unfold DL.shp
  rw [h.pd a]
  have : PySem.SeqAt.shaped (pdOf (f a)) = true := by
    unfold PySem.SeqAt.shaped
    rw [h.lay a, decide_eq_true (Nat.le_trans (h.dp a) hk)]
    rfl
  simp only [this, if_true]
theorem Emb.anyOf (h : Emb f k) (a : α) (l : List α) : ((l.map fun a => pdOf (f a)).any fun q => PyData.eqv q (pdOf (f a))) = decide (a ∈ l) := by
  rw [List.any_map]
  induction l with
  | nil => rfl
  | cons b l ih =>
    rw [List.any_cons, ih]
    show (PyData.eqv (pdOf (f b)) (pdOf (f a)) || _) = _
    rw [h.eqv]
    by_cases e : a = b
    · subst e; simp
    · have : ¬ b = a := fun z => e z.symm
      simp [e, this]
theorem Emb.inT (h : Emb f k) (hk : k + 1 ≤ 64) (a : α) (l : List α) : inD (f a) (.tup (l.map f)) = some (decide (a ∈ l)) := by
  have e1 := h.shp (by omega) a
  have e2 := h.tup.shp hk l
  have e3 : pdOf (.tup (l.map f)) = .tuple (l.map fun a => pdOf (f a)) := pdOf_some (by rw [toPd, h.pds]; rfl)
  show anyEqT (f a) (l.map f) = _
  unfold anyEqT
  rw [e1, e2, e3]
  exact congrArg some (h.anyOf a l)
theorem oNotIn_of {x y : D} {b : Bool} (h : inD x y = some b) : oNotIn x y = some (.fz (.bl (!b))) := by unfold oNotIn; rw [h]; rfl
/-! ### lists of values -/
theorem bools_map {α : Type} (p : α → Bool) : ∀ l : List α, bools? (l.map fun x => D.bl (p x)) = some (l.map p)
  | [] => rfl
  | x :: l => by
    show (bools? (l.map fun x => D.bl (p x))).map (p x :: ·) = _
    rw [bools_map p l]; rfl
theorem oAll_map {α : Type} (p : α → Bool) (l : List α) : oAll (.lst (l.map fun x => D.bl (p x))) = some (.fz (.bl (l.all p))) := by
  show (bools? (l.map fun x => D.bl (p x))).map (fun bs => RV.fz (.bl (bs.all id))) = _
  rw [bools_map]
  simp [List.all_map, Function.comp_def]
theorem ints_map (ns : List Int) : ints? (ns.map .int) = some ns := by
  induction ns with
  | nil => rfl
  | cons n ns ih =>
    show (ints? (ns.map .int)).map (n :: ·) = _
    rw [ih]; rfl
theorem rowsE_tupI (fs : List (List Int)) : rowsE? (fs.map tupI) = some fs := by
  induction fs with
  | nil => rfl
  | cons x fs ih =>
    show (match ints? (x.map .int), rowsE? (fs.map tupI) with
      | some ns, some nss => some (ns :: nss)
      | _, _ => none) = _
    rw [ints_map, ih]
theorem oSorted_rows (fs : List (List Int)) : oSorted (.lst (fs.map tupI)) = some (.tmp (.lst ((sortRows fs).map tupI))) := by
  show (srt (fs.map tupI)).map (fun ys => RV.tmp (.lst ys)) = _
  unfold srt
  cases fs with
  | nil => simp [ints?, sortInts, sortRows]
  | cons x fs =>
    have e : ints? ((x :: fs).map tupI) = none := rfl
    rw [e, rowsE_tupI]
    rfl
/-! ### items -/
theorem atD_map {α : Type} {f : α → D} {l : List α} {i : Int} {a : α} (h0 : 0 ≤ i) (h : l[i.toNat]? = some a) : atD (l.map f) i = some (f a) := by
  have hl := (List.getElem?_eq_some_iff.mp h).1
  unfold atD
  rw [if_pos h0, if_pos (by rw [List.length_map]; omega), List.getElem?_map, h]
  rfl
theorem oIx_T {α : Type} {f : α → D} {l : List α} {i : Int} {a : α} (h0 : 0 ≤ i) (h : l[i.toNat]? = some a) : oIx (.tup (l.map f)) (.int i) = some (.fz (f a)) := by
  show (atD (l.map f) i).map RV.fz = _
  rw [atD_map h0 h]; rfl
theorem oIx_L {α : Type} {f : α → D} {l : List α} {i : Int} {a : α} (h0 : 0 ≤ i) (h : l[i.toNat]? = some a) : oIx (.lst (l.map f)) (.int i) = some (.fz (f a)) := by
  show (atD (l.map f) i).map RV.fz = _
  rw [atD_map h0 h]; rfl
end
/-! ### loops over lists of values -/
section
variable {α : Type} {r : Env} {Q : RV → Env → Prop} {QF : Flow → Env → Prop} {QL : List D → Env → Prop} {QU : Unit → Env → Prop} {t : Tg} {body : S} {is : List Nat}
theorem forGo_of (f : α → D) (I : Nat → Env → Prop) {l : List α} (step : ∀ i a r, l[i]? = some a → I i r → wp (asg t (f a)) r fun _ r1 => wp body r1 (turnE QF (I (i + 1)))) (done : ∀ r, I l.length r → QF .nx r) (h : I 0 r) : wp (forGo t body (l.map f)) r QF := by
  refine forGo_inv I (fun i d r hd hi => ?_) (fun r h => done r (by rw [List.length_map] at h; exact h)) h
  rw [List.getElem?_map] at hd
  cases e : l[i]? with
  | none => rw [e] at hd; cases hd
  | some a => rw [e] at hd; cases hd; exact step i a r e hi
theorem compGo_of {c : M Bool} {e : M RV} {rw : Env} (f : α → D) (p : α → Bool) (g : α → D) {l : List α} (hl : l.length ≤ line)
    (step : ∀ a ∈ l, wp (asg t (f a)) rw fun _ r1 => wp c r1 fun x r2 => x = p a ∧ if x = true then wp (eF e) r2 fun y r3 => y = g a ∧ wp (wip is) r3 fun _ r4 => r4 = rw else wp (wip is) r2 fun _ r4 => r4 = rw) :
    wp (compGo is t c e (l.map f) []) rw fun ys r' => ys = (l.filter p).map g ∧ r' = rw := by
  refine compGo_inv (fun i acc r => acc = ((l.take i).filter p).map g ∧ r = rw) (by rw [List.length_map]; exact hl) (fun i d acc r hd ⟨ha, hr⟩ => ?_) (fun acc r ⟨ha, hr⟩ => ?_) ⟨by simp, rfl⟩
  · subst hr
    rw [List.getElem?_map] at hd
    cases e : l[i]? with
    | none => rw [e] at hd; cases hd
    | some a =>
      rw [e] at hd
      cases hd
      have tk : l.take (i + 1) = l.take i ++ [a] := by rw [List.take_succ, e]; rfl
      refine wp_mono (step a (List.mem_of_getElem? e)) fun _ r1 h1 => wp_mono h1 fun x r2 ⟨hx, h2⟩ => ?_
      split
      · rename_i hx'
        rw [if_pos hx'] at h2
        refine wp_mono h2 fun y r3 ⟨hy, h3⟩ => wp_mono h3 fun _ r4 h4 => ⟨?_, h4⟩
        rw [tk, List.filter_append, List.map_append, ha, hy]
        have pd : p a = true := hx ▸ hx'
        simp [pd]
      · rename_i hx'
        rw [if_neg hx'] at h2
        refine wp_mono h2 fun _ r4 h4 => ⟨?_, h4⟩
        rw [tk, List.filter_append, List.map_append, ha]
        have pd : p a = false := by rw [← hx]; simpa using hx'
        simp [pd]
  · rw [List.length_map, List.take_length] at ha
    exact ⟨ha, hr⟩
/-! ### names -/
/-- the names below a number -/
def names (n : Int) : List Int := (List.range n.toNat).map fun (i : Nat) => (i : Int)
theorem rng0 (n : Int) : rng 0 n = (names n).map D.int := by
  unfold rng names
  rw [List.map_map, Int.sub_zero]
  exact List.map_congr_left fun i _ => by show D.int (0 + (i : Int)) = D.int (i : Int); rw [Int.zero_add]
theorem mem_names {n x : Int} : x ∈ names n ↔ 0 ≤ x ∧ x < n := by
  unfold names
  rw [List.mem_map]
  constructor
  · rintro ⟨i, hi, rfl⟩
    rw [List.mem_range] at hi
    omega
  · rintro ⟨h0, h1⟩
    exact ⟨x.toNat, List.mem_range.mpr (by omega), by omega⟩
theorem names_len (n : Int) : (names n).length = n.toNat := by unfold names; rw [List.length_map, List.length_range]
theorem names_asc (n : Int) : (names n).Pairwise (· < ·) := by
  unfold names
  exact List.pairwise_map.mpr (List.pairwise_lt_range.imp fun h => by exact Int.ofNat_lt.mpr h)
theorem names_get {n : Int} {i : Nat} (h : (i : Int) < n) : (names n)[i]? = some (i : Int) := by
  unfold names
  rw [List.getElem?_map, List.getElem?_range (by omega)]
  rfl
theorem names_at {n : Int} {i : Nat} {a : Int} (h : (names n)[i]? = some a) : a = i ∧ (i : Int) < n := by
  have hl := (List.getElem?_eq_some_iff.mp h).1
  rw [names_len] at hl
  rw [names_get (by omega)] at h
  cases h
  exact ⟨rfl, by omega⟩
/-! ### a slot that holds a value in any way; calls that leave all as it was -/
def Hld (s : Slot) (d : D) : Prop := s = .val d ∨ s = .own d ∨ s = .brw d
def lend : Slot → Slot
  | .own d => .brw d
  | s => s
theorem Hld.val {d : D} : Hld (.val d) d := .inl rfl
theorem Hld.own {d : D} : Hld (.own d) d := .inr (.inl rfl)
theorem Hld.brw {d : D} : Hld (.brw d) d := .inr (.inr rfl)
theorem Hld.lend {s : Slot} {d : D} (h : Hld s d) : Hld (lend s) d := by
  rcases h with rfl | rfl | rfl
  · exact .val
  · exact .brw
  · exact .brw
theorem wi_any {i : Nat} {s : Slot} {d : D} (h : r[i]? = some s) (hs : Hld s d) (q : ∀ x, vw r x = some d → argSlot x r = some (lend s) → (x = .fz d ∨ x = .loc i) → Q x r) : wp (eVar i) r Q := by
  rcases hs with rfl | rfl | rfl
  · exact wi_val h (q _ rfl rfl (.inl rfl))
  · exact wi_own h (q _ (by simp [vw, h]) (by simp [argSlot, h, lend]) (.inr rfl))
  · exact wi_brw h (q _ (by simp [vw, h]) (by simp [argSlot, h, lend]) (.inr rfl))
theorem wi_op1v {i : Nat} {s : Slot} {d : D} {f : D → Option RV} (h : r[i]? = some s) (hs : Hld s d) (q : onO (f d) fun v => Q v r) : wp (eOp1 f (eVar i)) r Q :=
  wp_op1.mpr (wi_any h hs fun x hv _ _ => onO_of hv q)
theorem back_one {v : RV} {s : Slot} (h : argSlot v r = some s) : backOne v s r = some r := by
  cases v with
  | fz d => rfl
  | tmp d => rfl
  | loc i =>
    simp only [argSlot] at h
    cases e : r[i]? with
    | none => rw [e] at h; cases h
    | some t =>
      have hl := (List.getElem?_eq_some_iff.mp e).1
      have same : r.set i t = r := by
        refine List.ext_getElem? fun j => ?_
        rw [List.getElem?_set]
        by_cases z : i = j
        · subst z; rw [if_pos rfl, if_pos hl, e]
        · rw [if_neg z]
      rw [e] at h
      cases t with
      | no => cases h
      | val d => cases h; simp [backOne, e]
      | fbr d => cases h; simp [backOne, e]
      | own d => cases h; simp [backOne, e, same]
      | brw d => cases h; simp [backOne, e, same]
theorem back_all : ∀ {vs : List RV} {ss : List Slot}, argSlots r vs = some ss → backAll vs ss r = some r
  | [], ss, h => by cases h; rfl
  | v :: vs, ss, h => by
    unfold argSlots at h
    split at h
    · rename_i s ss' e1 e2
      cases h
      unfold backAll
      rw [back_one e1]
      exact back_all e2
    · cases h
/-- a call that leaves its arguments as they were -/
theorem wp_callK {f : Fn} {vs : List RV} {ss : List Slot} {w : RV} (nd : (locs vs).Nodup) (ha : argSlots r vs = some ss) (hf : f ss = .ok w ss) (q : Q w r) : wp (callFn f vs) r Q := wp_callFn nd ha hf (back_all ha) q
theorem argSlots_cons {v : RV} {vs : List RV} {s : Slot} {ss : List Slot} (h : argSlot v r = some s) (h2 : argSlots r vs = some ss) : argSlots r (v :: vs) = some (s :: ss) := by
  unfold argSlots
  rw [h, h2]
theorem locs_one {x : RV} {ds : List D} : (locs (x :: ds.map RV.fz)).Nodup := by
  have e : ∀ ds : List D, locs (ds.map RV.fz) = [] := fun ds => by induction ds with
    | nil => rfl
    | cons d ds ih => exact ih
  cases x <;> simp [locs, e]
theorem argSlots_fz (ds : List D) : argSlots r (ds.map RV.fz) = some (ds.map Slot.val) := by
  induction ds with
  | nil => rfl
  | cons d ds ih => exact argSlots_cons rfl ih
/-- a call with one thing of a slot and values -/
theorem wp_callV {f : Fn} {x : RV} {ds : List D} {s : Slot} {w : RV} (hx : argSlot x r = some s) (hf : f (s :: ds.map Slot.val) = .ok w (s :: ds.map Slot.val)) (q : Q w r) : wp (callFn f (x :: ds.map RV.fz)) r Q :=
  wp_callK locs_one (argSlots_cons hx (argSlots_fz ds)) hf q
end
section
variable {r : Env} {Q : RV → Env → Prop} {neg : Bool} {okC : Nat → Nat → Bool} {g : Nat → Option Fn}
theorem wp_ownCmp {a b : M RV} : wp (eOwnCmp neg okC g a b) r Q ↔ wp a r fun x r1 => wp b r1 fun y r2 => onO (vw r2 x) fun d => onO (vw r2 y) fun e => wp (ownGo neg okC g x y d e) r2 Q := by
  unfold eOwnCmp
  simp only [wp_bnd, wp_pur, wp_vwM]
theorem wp_pNone {Q : Option Int → Env → Prop} : wp pNone r Q ↔ Q none r := wp_pur
/-- the result is a whole number -/
def onN (x : RV) (k : Int → Prop) : Prop := match x with
  | .fz (.int j) => k j
  | _ => False
theorem onN_int {j : Int} {k : Int → Prop} : onN (.fz (.int j)) k ↔ k j := Iff.rfl
theorem wp_part {Q : Option Int → Env → Prop} {a : M RV} : wp (pPart a) r Q ↔ wp a r fun x r1 => onN x fun i => Q (some i) r1 := by
  unfold pPart
  rw [wp_bnd]
  constructor
  · intro h
    refine wp_mono h fun x r1 h => ?_
    cases x with
    | fz d => cases d <;> first | exact wp_pur.mp h | exact wp_badM.mp h
    | _ => exact wp_badM.mp h
  · intro h
    refine wp_mono h fun x r1 h => ?_
    cases x with
    | fz d => cases d <;> first | exact wp_pur.mpr h | exact h.elim
    | _ => exact h.elim
theorem wp_sl {a : M RV} {lo hi : M (Option Int)} : wp (eSl a lo hi) r Q ↔ wp a r fun x r1 => wp lo r1 fun l r2 => wp hi r2 fun h r3 => onO (vw r3 x) fun d => onO (oSl d l h) fun v => Q v r3 := by
  unfold eSl
  simp only [wp_bnd, wp_vwM, wp_lift]
end
end DL

end

section
set_option Elab.async false
set_option linter.all false
set_option maxRecDepth 100000
/-! Loops that look for something; while. -/
namespace DL
section
variable {α β : Type} {r : Env} {QF : Flow → Env → Prop} {t : Tg} {body : S}
end
section
variable {r : Env} {Q : RV → Env → Prop}
theorem wp_rngL {it : M (List D)} : wp (eRngL it) r Q ↔ wp it r fun ds r1 => onO (oLr ds) fun v => Q v r1 := by
  unfold eRngL
  simp only [wp_bnd, wp_lift]
theorem wp_rngT {it : M (List D)} : wp (eRngT it) r Q ↔ wp it r fun ds r1 => onO (oTr ds) fun v => Q v r1 := by
  unfold eRngT
  simp only [wp_bnd, wp_lift]
end
/-! ### slots -/
/-- a slot that may be stored -/
def Frs (s : Slot) : Prop := s = .no ∨ (∃ u, s = .val u) ∨ ∃ u, s = .own u
theorem wi_frs {r : Env} {i : Nat} {s x : Slot} {QU : Unit → Env → Prop} (h : r[i]? = some s) (hs : Frs s) (q : QU () (r.set i x)) : wp (put i x) r QU := by
  rcases hs with rfl | ⟨u, rfl⟩ | ⟨u, rfl⟩
  · exact wi_pno h q
  · exact wi_pval h q
  · exact wi_pown h q
theorem Frs.no : Frs .no := .inl rfl
theorem Frs.val {u : D} : Frs (.val u) := .inr (.inl ⟨u, rfl⟩)
theorem Frs.own {u : D} : Frs (.own u) := .inr (.inr ⟨u, rfl⟩)
/-- a slot that holds a value, or an own object -/
def VO (s : Slot) (d : D) : Prop := s = .val d ∨ s = .own d
theorem VO.val {d : D} : VO (.val d) d := .inl rfl
theorem VO.own {d : D} : VO (.own d) d := .inr rfl
theorem VO.frs {s : Slot} {d : D} (h : VO s d) : Frs s := by
  rcases h with rfl | rfl
  · exact .val
  · exact .own
theorem set_same {r : Env} {i : Nat} {s : Slot} (e : r[i]? = some s) : r.set i s = r := by
  have hl := (List.getElem?_eq_some_iff.mp e).1
  refine List.ext_getElem? fun j => ?_
  rw [List.getElem?_set]
  by_cases z : i = j
  · subst z; rw [if_pos rfl, if_pos hl, e]
  · rw [if_neg z]
theorem wi_vo {r : Env} {i : Nat} {s : Slot} {d : D} {QD : D → Env → Prop} (h : r[i]? = some s) (hs : VO s d) (q : QD d (r.set i (.val d))) : wp (eVar i) r fun x r1 => wp (frz x) r1 QD := by
  rcases hs with rfl | rfl
  · rw [set_same h] at q
    exact wi_val h (wi_ffz q)
  · exact wi_own h (wi_fown h q)
theorem add_T {α : Type} {f : α → D} {l m : List α} (h : l.length + m.length ≤ 100000) : oAdd (.tup (l.map f)) (.tup (m.map f)) = some (.fz (.tup ((l ++ m).map f))) := by
  show (if (l.map f).length + (m.map f).length ≤ line then some (RV.fz (.tup (l.map f ++ m.map f))) else none) = _
  rw [if_pos (by rw [List.length_map, List.length_map]; exact Nat.le_trans h (by decide)), List.map_append]
theorem add_L {α : Type} {f : α → D} {l m : List α} (h : l.length + m.length ≤ 100000) : oAdd (.lst (l.map f)) (.lst (m.map f)) = some (.tmp (.lst ((l ++ m).map f))) := by
  show (if (l.map f).length + (m.map f).length ≤ line then some (RV.tmp (.lst (l.map f ++ m.map f))) else none) = _
  rw [if_pos (by rw [List.length_map, List.length_map]; exact Nat.le_trans h (by decide)), List.map_append]
/-- a slot that a block may cover -/
def Pln (s : Slot) : Prop := s = .no ∨ ∃ u, s = .val u
theorem Pln.no : Pln .no := .inl rfl
theorem Pln.val {u : D} : Pln (.val u) := .inr ⟨u, rfl⟩
theorem Pln.frs {s : Slot} (h : Pln s) : Frs s := by
  rcases h with rfl | ⟨u, rfl⟩
  · exact .no
  · exact .val
theorem append_map {α : Type} {f : α → D} {l : List α} {a : α} (h : l.length < 100000) : mAppend (.lst (l.map f)) [f a] = some (.lst ((l ++ [a]).map f), .non) := by
  show (if (l.map f).length < line then some (D.lst (l.map f ++ [f a]), D.non) else none) = _
  rw [if_pos (by rw [List.length_map]; exact Nat.lt_trans h (by decide)), List.map_append]
  rfl
theorem dec_mem {p q : Prop} {i : Decidable p} {j : Decidable q} (h : p ↔ q) : @decide p i = @decide q j := by
  by_cases z : p
  · rw [decide_eq_true z, decide_eq_true (h.mp z)]
  · rw [decide_eq_false z, decide_eq_false fun y => z (h.mpr y)]
theorem notIn_row (a : Int) (l : List Int) : oNotIn (.int a) (.tup (l.map .int)) = some (.fz (.bl (!decide (a ∈ l)))) := oNotIn_of (Emb.int.inT (by decide) a l)
theorem notIn_pDT (a b : Int) (A : List (Int × Int)) : oNotIn (.tup [.int a, .int b]) (.tup (A.map pD)) = some (.fz (.bl (!decide ((a, b) ∈ A)))) := (oNotIn_of (Emb.pD.inT (by decide) (a, b) A)).trans (congrArg (fun b => some (RV.fz (.bl (!b)))) (dec_mem Iff.rfl))
/-! ### comprehensions whose surroundings may be frozen on the way -/
section
variable {α β : Type} {r : Env} {Q : RV → Env → Prop} {t t1 : Tg} {is is1 : List Nat}
end
end DL

end

section
set_option Elab.async false
set_option linter.all false
set_option maxRecDepth 100000
/-! Dicts as lists of pairs. -/
namespace DL
/-- a dict with keys f a and values g b -/
def dM {α β : Type} (f : α → D) (g : β → D) (K : List (α × β)) : List (D × D) := K.map fun q => (f q.1, g q.2)
section
variable {α β : Type} [DecidableEq α] {f : α → D} {g : β → D} {kf : α → DKey} {t : Bool} {K : List (α × β)} {a : α} {v : β}
/-- what stands at a key -/
def lkM (K : List (α × β)) (a : α) : Option β := (K.find? fun q => decide (q.1 = a)).map (·.2)
def keysM (K : List (α × β)) : List α := K.map (·.1)
/-- a key's value stored -/
def stM (K : List (α × β)) (a : α) (v : β) : List (α × β) := if a ∈ keysM K then K.map fun q => if q.1 = a then (q.1, v) else q else K ++ [(a, v)]
structure KOk (f : α → D) (kf : α → DKey) (t : Bool) : Prop where
  k : ∀ a, kkey t (f a) = some (kf a)
  d : ∀ a, dkey (f a) = some (kf a)
  inj : ∀ a b, kf a = kf b → a = b
theorem KOk.eq (h : KOk f kf t) (a b : α) : (dkey (f a) == dkey (f b)) = decide (a = b) := by
  rw [h.d, h.d]
  by_cases e : a = b
  · subst e; simp
  · rw [decide_eq_false e]
    have : ¬ kf a = kf b := fun z => e (h.inj _ _ z)
    simpa using this
theorem look_dM (h : KOk f kf t) (K : List (α × β)) (a : α) : look (dM f g K) (kf a) = (lkM K a).map g := by
  unfold look lkM dM
  rw [← h.d a, List.find?_map]
  have e : ((fun p : D × D => dkey p.1 == dkey (f a)) ∘ fun q : α × β => (f q.1, g q.2)) = fun q => decide (q.1 = a) := funext fun q => h.eq q.1 a
  rw [e, Option.map_map, Option.map_map]
  rfl
theorem lkM_some : lkM K a = some v → (a, v) ∈ K := by
  unfold lkM
  cases e : K.find? fun q => decide (q.1 = a) with
  | none => intro h; cases h
  | some q =>
    intro h
    cases h
    have h1 := List.find?_some e
    have h2 := List.mem_of_find?_eq_some e
    have : q.1 = a := of_decide_eq_true h1
    rw [← this]
    exact h2
theorem lkM_isSome : (lkM K a).isSome = decide (a ∈ keysM K) := by
  unfold lkM keysM
  rw [Option.isSome_map]
  by_cases h : a ∈ K.map (·.1)
  · rw [decide_eq_true h, List.find?_isSome]
    obtain ⟨q, hq, e⟩ := List.mem_map.mp h
    exact ⟨q, hq, decide_eq_true e⟩
  · rw [decide_eq_false h, Bool.eq_false_iff]
    intro z
    obtain ⟨q, hq, e⟩ := List.find?_isSome.mp z
    exact h (List.mem_map.mpr ⟨q, hq, of_decide_eq_true e⟩)
theorem lkM_mem (nd : (keysM K).Nodup) (h : (a, v) ∈ K) : lkM K a = some v := by
  have hs : (lkM K a).isSome = true := by rw [lkM_isSome]; exact decide_eq_true (List.mem_map.mpr ⟨_, h, rfl⟩)
  obtain ⟨w, e⟩ := Option.isSome_iff_exists.mp hs
  rw [e]
  have h2 := lkM_some e
  have : ∀ (K : List (α × β)), (keysM K).Nodup → (a, v) ∈ K → (a, w) ∈ K → v = w := by
    intro K
    induction K with
    | nil => intro _ h; cases h
    | cons q K ih =>
      intro nd h1 h2
      obtain ⟨n1, n2⟩ := List.nodup_cons.mp nd
      rcases List.mem_cons.mp h1 with e1 | h1 <;> rcases List.mem_cons.mp h2 with e2 | h2
      · rw [← e1] at e2; exact ((Prod.mk.inj e2).2).symm
      · exact (n1 (by rw [← e1]; exact List.mem_map.mpr ⟨_, h2, rfl⟩)).elim
      · exact (n1 (by rw [← e2]; exact List.mem_map.mpr ⟨_, h1, rfl⟩)).elim
      · exact ih n2 h1 h2
  rw [this K nd h h2]
theorem lkM_st (K : List (α × β)) (a b : α) (v : β) : lkM (stM K a v) b = if b = a then some v else lkM K b := by
  unfold stM
  split
  · rename_i hm
    unfold lkM
    rw [List.find?_map]
    have e : ((fun q : α × β => decide (q.1 = b)) ∘ fun q => if q.1 = a then (q.1, v) else q) = fun q => decide (q.1 = b) := funext fun q => by
      simp only [Function.comp]
      split <;> rfl
    rw [e, Option.map_map]
    cases hf : K.find? fun q => decide (q.1 = b) with
    | none =>
      by_cases hb : b = a
      · subst hb
        obtain ⟨q, hq, e⟩ := List.mem_map.mp hm
        exact absurd (decide_eq_true e) (by simpa using List.find?_eq_none.mp hf q hq)
      · rw [if_neg hb]; rfl
    | some q =>
      have hq : q.1 = b := of_decide_eq_true (List.find?_some (p := fun q : α × β => decide (q.1 = b)) hf)
      by_cases hb : b = a
      · rw [if_pos hb]
        show some ((if q.1 = a then (q.1, v) else q) : α × β).2 = some v
        rw [if_pos (hq.trans hb)]
      · rw [if_neg hb]
        show some ((if q.1 = a then (q.1, v) else q) : α × β).2 = some q.2
        rw [if_neg fun z => hb (hq.symm.trans z)]
  · rename_i hm
    unfold lkM
    rw [List.find?_append]
    by_cases hb : b = a
    · subst hb
      rw [if_pos rfl]
      have : K.find? (fun q => decide (q.1 = b)) = none := List.find?_eq_none.mpr fun q hq z => hm (List.mem_map.mpr ⟨q, hq, of_decide_eq_true z⟩)
      rw [this]
      simp
    · rw [if_neg hb]
      have : ([(a, v)] : List (α × β)).find? (fun q => decide (q.1 = b)) = none := List.find?_eq_none.mpr fun q hq z => by
        rw [List.mem_singleton.mp hq] at z
        exact hb (of_decide_eq_true z).symm
      rw [this]
      simp
theorem keys_st (K : List (α × β)) (a : α) (v : β) : keysM (stM K a v) = if a ∈ keysM K then keysM K else keysM K ++ [a] := by
  unfold stM
  split
  · unfold keysM
    rw [List.map_map]
    refine List.map_congr_left fun q hq => ?_
    show ((if q.1 = a then (q.1, v) else q) : α × β).1 = q.1
    split <;> rfl
  · unfold keysM
    rw [List.map_append]
    rfl
theorem st_dM (h : KOk f kf t) (K : List (α × β)) (a : α) (v : β) : stor (dM f g K) (f a) (g v) = dM f g (stM K a v) := by
  have e : ((dM f g K).any fun p => dkey p.1 == dkey (f a)) = decide (a ∈ keysM K) := by
    unfold dM keysM
    rw [List.any_map]
    have : ((fun p : D × D => dkey p.1 == dkey (f a)) ∘ fun q : α × β => (f q.1, g q.2)) = fun q => decide (q.1 = a) := funext fun q => h.eq q.1 a
    rw [this]
    by_cases m : a ∈ K.map (·.1)
    · rw [decide_eq_true m, List.any_eq_true]
      obtain ⟨q, hq, e⟩ := List.mem_map.mp m
      exact ⟨q, hq, decide_eq_true e⟩
    · rw [decide_eq_false m, List.any_eq_false]
      intro q hq
      simpa using fun e => m (List.mem_map.mpr ⟨q, hq, e⟩)
  unfold stor stM
  rw [e]
  by_cases m : a ∈ keysM K
  · rw [if_pos (decide_eq_true m), if_pos m]
    unfold dM
    rw [List.map_map, List.map_map]
    refine List.map_congr_left fun q hq => ?_
    show (if (dkey (f q.1) == dkey (f a)) = true then (f q.1, g v) else (f q.1, g q.2)) = (f ((if q.1 = a then (q.1, v) else q) : α × β).1, g ((if q.1 = a then (q.1, v) else q) : α × β).2)
    rw [h.eq]
    by_cases z : q.1 = a
    · rw [if_pos (decide_eq_true z), if_pos z]
    · rw [if_neg (by simpa using z), if_neg z]
  · rw [if_neg (by simpa using m), if_neg m]
    unfold dM
    rw [List.map_append]
    rfl
end
theorem KOk.int : KOk D.int (fun a => .one (.inl a)) false := ⟨fun _ => rfl, fun _ => rfl, fun a b h => by cases h; rfl⟩
theorem lookI_in {β : Type} {g : β → D} (K : List (Int × β)) (n : Int) : (look (dM D.int g K) (.one (.inl n))).isSome = decide (n ∈ keysM K) := by
  have h := look_dM (g := g) KOk.int K n
  have h : look (dM D.int g K) (.one (.inl n)) = (lkM K n).map g := h
  rw [h, Option.isSome_map, lkM_isSome]
theorem lookI_ix {β : Type} {g : β → D} {K : List (Int × β)} {n : Int} {v : β} (e : lkM K n = some v) : (look (dM D.int g K) (.one (.inl n))).map RV.fz = some (.fz (g v)) := by
  have h := look_dM (g := g) KOk.int K n
  have h : look (dM D.int g K) (.one (.inl n)) = (lkM K n).map g := h
  rw [h, e]
  rfl
theorem keysOf_int : ∀ a : List Int, keysOf (a.map D.int) = some (a.map .inl)
  | [] => rfl
  | x :: a => by
    show (match keyOf (.int x), keysOf (a.map D.int) with
      | some k, some ks => some (k :: ks)
      | _, _ => none) = _
    rw [keysOf_int a]
    rfl
theorem KOk.row : KOk tupI (fun a => .row (a.map .inl)) true := ⟨fun a => by
  show (keysOf (a.map D.int)).map DKey.row = _
  rw [keysOf_int]
  rfl, fun a => by
  show (keysOf (a.map D.int)).map DKey.row = _
  rw [keysOf_int]
  rfl, fun a b h => by
  have h : (a.map Sum.inl : List (Int ⊕ PySem.Str)) = b.map Sum.inl := by injection h
  exact (List.map_inj_right fun x y e => Sum.inl.inj e).mp h⟩
end DL

end

section
set_option Elab.async false
set_option linter.all false
set_option maxRecDepth 100000
/-! Rules for reversed, enumerate, one-key displays, sums. -/
namespace DL
section
variable {r : Env} {Q : RV → Env → Prop} {QL : List D → Env → Prop}
theorem wp_dic1 {a b : M RV} : wp (eDic1 a b) r Q ↔ wp (eF a) r fun k r1 => wp (eF b) r1 fun v r2 => onO (oDic1 k v) fun x => Q x r2 := by
  unfold eDic1
  simp only [wp_bnd, wp_lift]
theorem wp_rvs {a : M RV} : wp (iRvs a) r QL ↔ wp (eF a) r fun d r1 => onO (revOf d) fun ds => QL ds r1 := by
  unfold iRvs
  simp only [wp_bnd, wp_lift]
theorem wp_enu {a : M RV} : wp (iEnu a) r QL ↔ wp (eF a) r fun d r1 => onO ((seqOf d).map (enumD 0)) fun ds => QL ds r1 := by
  unfold iEnu
  simp only [wp_bnd, wp_lift]
end
section
variable {r : Env} {Q : RV → Env → Prop}
theorem wp_tupP {as : List (M RV)} : wp (eTupP as) r Q ↔ wp (eFs as) r fun ds r1 => Q (.fz (.ptup ds)) r1 := by
  unfold eTupP
  simp only [wp_bnd, wp_pur]
theorem wp_op2F {f : D → D → Option RV} {a b : M RV} : wp (eOp2F f a b) r Q ↔ wp (eF a) r fun d r1 => wp (eF b) r1 fun e r2 => onO (f d e) fun v => Q v r2 := by
  unfold eOp2F
  simp only [wp_bnd, wp_lift]
theorem wp_slP {a : M RV} {lo hi : M (Option Int)} : wp (eSlP a lo hi) r Q ↔ wp (eF a) r fun d r1 => wp lo r1 fun l r2 => wp hi r2 fun h r3 => onO (oSlP d l h) fun v => Q v r3 := by
  unfold eSlP
  simp only [wp_bnd, wp_lift]
theorem wp_idx {a b : M RV} : wp (eIdx a b) r Q ↔ wp a r fun x r1 => onO (vw r1 x) fun d0 => onO (isPtp d0) fun _ => wp b r1 fun y r2 => onO (vw r2 x) fun d => onO (vw r2 y) fun k => onO (oIdx d k) fun v => Q v r2 := by
  unfold eIdx
  simp only [wp_bnd, wp_vwM, wp_lift]
end
end DL

end

section
set_option Elab.async false
set_option linter.all false
set_option maxRecDepth 100000
/-! The stepping rules as constructors (printed by mkgo.py). -/
namespace DL
set_option autoImplicit true in
set_option relaxedAutoImplicit true in
inductive Go : Prop → Prop
  | wp_dic1 {a b : M RV} : (wp (eF a) r fun k r1 => wp (eF b) r1 fun v r2 => onO (oDic1 k v) fun x => Q x r2) → Go (wp (eDic1 a b) r Q)
  | wp_rvs {a : M RV} : (wp (eF a) r fun d r1 => onO (revOf d) fun ds => QL ds r1) → Go (wp (iRvs a) r QL)
  | wp_enu {a : M RV} : (wp (eF a) r fun d r1 => onO ((seqOf d).map (enumD 0)) fun ds => QL ds r1) → Go (wp (iEnu a) r QL)
  | wp_rngL {it : M (List D)} : (wp it r fun ds r1 => onO (oLr ds) fun v => Q v r1) → Go (wp (eRngL it) r Q)
  | wp_rngT {it : M (List D)} : (wp it r fun ds r1 => onO (oTr ds) fun v => Q v r1) → Go (wp (eRngT it) r Q)
  | wp_ownCmp {a b : M RV} : (wp a r fun x r1 => wp b r1 fun y r2 => onO (vw r2 x) fun d => onO (vw r2 y) fun e => wp (ownGo neg okC g x y d e) r2 Q) → Go (wp (eOwnCmp neg okC g a b) r Q)
  | wp_sl {a : M RV} {lo hi : M (Option Int)} : (wp a r fun x r1 => wp lo r1 fun l r2 => wp hi r2 fun h r3 => onO (vw r3 x) fun d => onO (oSl d l h) fun v => Q v r3) → Go (wp (eSl a lo hi) r Q)
  | wp_part {Q : Option Int → Env → Prop} {a : M RV} : (wp a r fun x r1 => onN x fun i => Q (some i) r1) → Go (wp (pPart a) r Q)
  | onN_int {j : Int} {k : Int → Prop} : (k j) → Go (onN (.fz (.int j)) k)
  | wp_pNone {Q : Option Int → Env → Prop} : (Q none r) → Go (wp pNone r Q)
  | wp_seq {a b : S} : (wp a r fun f r1 => (match f with
  | .nx => wp b r1 QF
  | f => QF f r1)) → Go (wp (sSeq a b) r QF)
  | wp_if {c : M Bool} {a b : S} : (wp c r fun x r1 => if x = true then wp a r1 QF else wp b r1 QF) → Go (wp (sIf c a b) r QF)
  | wp_tV {a : M RV} : (wp a r fun x r1 => onB x fun b => QB b r1) → Go (wp (tV a) r QB)
  | wp_op2 {f : D → D → Option RV} {a b : M RV} : (wp a r fun x r1 => wp b r1 fun y r2 => onO (vw r2 x) fun d => onO (vw r2 y) fun e => onO (f d e) fun v => Q v r2) → Go (wp (eOp2 f a b) r Q)
  | wp_c {d : D} : (Q (.fz d) r) → Go (wp (eC d) r Q)
  | wp_set {i : Nat} {a : M RV} : (wp a r fun x r1 => wp (asSlot x) r1 fun s r2 => wp (put i s) r2 fun _ r3 => QF .nx r3) → Go (wp (sSet i a) r QF)
  | wp_sPut {i : Nat} {f : D → List D → Option (D × D)} {k e : M RV} : (wp (eF e) r fun d r1 => wp (eVar i) r1 fun _ r2 => wp (eF k) r2 fun k r3 => wp (mutAt i f [k, d]) r3 fun _ r4 => QF .nx r4) → Go (wp (sPut i f k e) r QF)
  | wp_ret {a : M RV} : (wp a r fun x r1 => QF (.ret x) r1) → Go (wp (sRet a) r QF)
  | wp_expr {a : M RV} : (wp a r fun _ r1 => QF .nx r1) → Go (wp (sExpr a) r QF)
  | wp_eF {a : M RV} : (wp a r fun x r1 => wp (frz x) r1 QD) → Go (wp (eF a) r QD)
  | wp_eFs_nil  : (QL [] r) → Go (wp (eFs []) r QL)
  | wp_eFs_cons {a : M RV} {as : List (M RV)} : (wp (eF a) r fun d r1 => wp (eFs as) r1 fun ds r2 => QL (d :: ds) r2) → Go (wp (eFs (a :: as)) r QL)
  | wp_tup {as : List (M RV)} : (wp (eFs as) r fun ds r1 => Q (.fz (.tup ds)) r1) → Go (wp (eTup as) r Q)
  | wp_lst {as : List (M RV)} : (wp (eFs as) r fun ds r1 => Q (.tmp (.lst ds)) r1) → Go (wp (eLst as) r Q)
  | wp_tAnd {a b : M Bool} : (wp a r fun x r1 => if x = true then wp b r1 QB else QB false r1) → Go (wp (tAnd a b) r QB)
  | wp_tOr {a b : M Bool} : (wp a r fun x r1 => if x = true then QB true r1 else wp b r1 QB) → Go (wp (tOr a b) r QB)
  | wp_tNot {a : M Bool} : (wp a r fun x r1 => QB (!x) r1) → Go (wp (tNot a) r QB)
  | wp_tYes  : (QB true r) → Go (wp tYes r QB)
  | wp_andV {a b : M RV} : (wp a r fun x r1 => onB x fun c => if c = true then wp b r1 Q else Q (.fz (.bl false)) r1) → Go (wp (eAndV a b) r Q)
  | wp_orV {a b : M RV} : (wp a r fun x r1 => onB x fun c => if c = true then Q (.fz (.bl true)) r1 else wp b r1 Q) → Go (wp (eOrV a b) r Q)
  | wp_notV {a : M RV} : (wp a r fun x r1 => onB x fun c => Q (.fz (.bl (!c))) r1) → Go (wp (eNotV a) r Q)
  | wp_eIf {c : M Bool} {a b : M RV} : (wp c r fun x r1 => if x = true then wp a r1 Q else wp b r1 Q) → Go (wp (eIf c a b) r Q)
  | wp_chain {f g : D → D → Option RV} {a b c : M RV} : (wp (eF a) r fun d r1 => wp (eF b) r1 fun e r2 => onO (f d e) fun z => onB z fun k => if k = true then wp (eF c) r2 fun h r3 => onO (g e h) fun z => onB z fun k => Q (.fz (.bl k)) r3 else Q (.fz (.bl false)) r2) → Go (wp (eChain f g a b c) r Q)
  | wp_nx  : (QF .nx r) → Go (wp sNx r QF)
  | wp_mut {i : Nat} {f : D → List D → Option (D × D)} {as : List (M RV)} : (wp (rcvL i) r fun _ r1 => wp (eFs as) r1 fun ds r2 => wp (mutAt i f ds) r2 Q) → Go (wp (eMut i f as) r Q)
  | wp_fld {i : Nat} {cs : List Nat} {k : Nat} {e : M RV} : (wp (eF e) r fun d r1 => wp (eVar i) r1 fun _ r2 => wp (mutAt i (mFld cs k) [d]) r2 fun _ r3 => QF .nx r3) → Go (wp (sFldSet i cs k e) r QF)
  | wp_sAsg {t : Tg} {e : M RV} : (wp (eF e) r fun d r1 => wp (asg t d) r1 fun _ r2 => QF .nx r2) → Go (wp (sAsg t e) r QF)
  | wp_call {f : Fn} {as : List (M RV)} {r : Env} {Q : RV → Env → Prop} : (wp (eArgs as) r fun vs r1 => wp (callFn f vs) r1 Q) → Go (wp (eCall f as) r Q)
  | wp_args_nil {r : Env} {Q : List RV → Env → Prop} : (Q [] r) → Go (wp (eArgs []) r Q)
  | wp_args_cons {a : M RV} {as : List (M RV)} {r : Env} {Q : List RV → Env → Prop} : (wp a r fun v r1 => wp (eArgs as) r1 fun vs r2 => Q (v :: vs) r2) → Go (wp (eArgs (a :: as)) r Q)
  | onB_bl {b : Bool} {k : Bool → Prop} : (k b) → Go (onB (.fz (.bl b)) k)
  | wp_for {it : M (List D)} : (wp it r fun ds r1 => wp (forGo t body ds) r1 QF) → Go (wp (sFor t it body) r QF)
  | wp_seqI {a : M RV} : (wp (eF a) r fun d r1 => onO (seqOf d) fun ds => QL ds r1) → Go (wp (iSeq a) r QL)
  | wp_rng1 {a : M RV} : (wp a r fun x r1 => onR x fun j => QL (rng 0 j) r1) → Go (wp (iRng1 a) r QL)
  | wp_rng2 {a b : M RV} : (wp a r fun x r1 => wp b r1 fun y r2 => onR x fun i => onR y fun j => QL (rng i j) r2) → Go (wp (iRng2 a b) r QL)
  | wp_tnm {i : Nat} {d : D} : (wp (put i (.val d)) r QU) → Go (wp (asg (.nm i) d) r QU)
  | wp_ttp {ts : List Tg} {ds : List D} : (wp (asgs ts ds) r QU) → Go (wp (asg (.tp ts) (.tup ds)) r QU)
  | wp_tn  : (QU () r) → Go (wp (asgs [] []) r QU)
  | wp_tc {ts : List Tg} {d : D} {ds : List D} : (wp (asg t d) r fun _ r1 => wp (asgs ts ds) r1 QU) → Go (wp (asgs (t :: ts) (d :: ds)) r QU)
  | wp_wn  : (QU () r) → Go (wp (wip []) r QU)
  | wp_wc {i : Nat} : (wp (wip is) r fun _ r1 => wp (put i .no) r1 QU) → Go (wp (wip (i :: is)) r QU)
  | wp_tupP {as : List (M RV)} : (wp (eFs as) r fun ds r1 => Q (.fz (.ptup ds)) r1) → Go (wp (eTupP as) r Q)
  | wp_op2F {f : D → D → Option RV} {a b : M RV} : (wp (eF a) r fun d r1 => wp (eF b) r1 fun e r2 => onO (f d e) fun v => Q v r2) → Go (wp (eOp2F f a b) r Q)
  | wp_slP {a : M RV} {lo hi : M (Option Int)} : (wp (eF a) r fun d r1 => wp lo r1 fun l r2 => wp hi r2 fun h r3 => onO (oSlP d l h) fun v => Q v r3) → Go (wp (eSlP a lo hi) r Q)
  | wp_idx {a b : M RV} : (wp a r fun x r1 => onO (vw r1 x) fun d0 => onO (isPtp d0) fun _ => wp b r1 fun y r2 => onO (vw r2 x) fun d => onO (vw r2 y) fun k => onO (oIdx d k) fun v => Q v r2) → Go (wp (eIdx a b) r Q)
  | wi_ffz  : (QD d r) → Go (wp (frz (.fz d)) r QD)
  | wi_ftmp  : (QD d r) → Go (wp (frz (.tmp d)) r QD)
  | wi_sfz {Q : Slot → Env → Prop} : (Q (.val d) r) → Go (wp (asSlot (.fz d)) r Q)
  | wi_stmp {Q : Slot → Env → Prop} : (Q (.own d) r) → Go (wp (asSlot (.tmp d)) r Q)
  | wi_sloc {Q : Slot → Env → Prop} : (wp (frz (.loc i)) r fun d r1 => Q (.val d) r1) → Go (wp (asSlot (.loc i)) r Q)
  | wi_nz {n : Nat} : (Q (.fz d) r) → Go (wp (fin n (.fz d)) r Q)
  | wi_nt {n : Nat} : (Q (.tmp d) r) → Go (wp (fin n (.tmp d)) r Q)
  | wp_comp {it : M (List D)} {c : M Bool} {e : M RV} : (wp it r fun ds r1 => is.all (plainAt r1) = true ∧ wp (wip is) r1 fun _ rw => wp (compGo is t c e ds []) rw fun ys r' => Q (.tmp (.lst ys)) (rest is r1 r')) → Go (wp (eComp is t it c e) r Q)
theorem Go.out {p : Prop} (g : Go p) : p := by
  cases g with
  | wp_dic1 h => exact DL.wp_dic1.2 h
  | wp_rvs h => exact DL.wp_rvs.2 h
  | wp_enu h => exact DL.wp_enu.2 h
  | wp_rngL h => exact DL.wp_rngL.2 h
  | wp_rngT h => exact DL.wp_rngT.2 h
  | wp_ownCmp h => exact DL.wp_ownCmp.2 h
  | wp_sl h => exact DL.wp_sl.2 h
  | wp_part h => exact DL.wp_part.2 h
  | onN_int h => exact DL.onN_int.2 h
  | wp_pNone h => exact DL.wp_pNone.2 h
  | wp_seq h => exact DL.wp_seq.2 h
  | wp_if h => exact DL.wp_if.2 h
  | wp_tV h => exact DL.wp_tV.2 h
  | wp_op2 h => exact DL.wp_op2.2 h
  | wp_c h => exact DL.wp_c.2 h
  | wp_set h => exact DL.wp_set.2 h
  | wp_sPut h => exact DL.wp_sPut.2 h
  | wp_ret h => exact DL.wp_ret.2 h
  | wp_expr h => exact DL.wp_expr.2 h
  | wp_eF h => exact DL.wp_eF.2 h
  | wp_eFs_nil h => exact DL.wp_eFs_nil.2 h
  | wp_eFs_cons h => exact DL.wp_eFs_cons.2 h
  | wp_tup h => exact DL.wp_tup.2 h
  | wp_lst h => exact DL.wp_lst.2 h
  | wp_tAnd h => exact DL.wp_tAnd.2 h
  | wp_tOr h => exact DL.wp_tOr.2 h
  | wp_tNot h => exact DL.wp_tNot.2 h
  | wp_tYes h => exact DL.wp_tYes.2 h
  | wp_andV h => exact DL.wp_andV.2 h
  | wp_orV h => exact DL.wp_orV.2 h
  | wp_notV h => exact DL.wp_notV.2 h
  | wp_eIf h => exact DL.wp_eIf.2 h
  | wp_chain h => exact DL.wp_chain.2 h
  | wp_nx h => exact DL.wp_nx.2 h
  | wp_mut h => exact DL.wp_mut.2 h
  | wp_fld h => exact DL.wp_fld.2 h
  | wp_sAsg h => exact DL.wp_sAsg.2 h
  | wp_call h => exact DL.wp_call.2 h
  | wp_args_nil h => exact DL.wp_args_nil.2 h
  | wp_args_cons h => exact DL.wp_args_cons.2 h
  | onB_bl h => exact DL.onB_bl.2 h
  | wp_for h => exact DL.wp_for.2 h
  | wp_seqI h => exact DL.wp_seqI.2 h
  | wp_rng1 h => exact DL.wp_rng1.2 h
  | wp_rng2 h => exact DL.wp_rng2.2 h
  | wp_tnm h => exact DL.wp_tnm.2 h
  | wp_ttp h => exact DL.wp_ttp.2 h
  | wp_tn h => exact DL.wp_tn.2 h
  | wp_tc h => exact DL.wp_tc.2 h
  | wp_wn h => exact DL.wp_wn.2 h
  | wp_wc h => exact DL.wp_wc.2 h
  | wp_tupP h => exact DL.wp_tupP.2 h
  | wp_op2F h => exact DL.wp_op2F.2 h
  | wp_slP h => exact DL.wp_slP.2 h
  | wp_idx h => exact DL.wp_idx.2 h
  | wi_ffz h => exact DL.wi_ffz h
  | wi_ftmp h => exact DL.wi_ftmp h
  | wi_sfz h => exact DL.wi_sfz h
  | wi_stmp h => exact DL.wi_stmp h
  | wi_sloc h => exact DL.wi_sloc h
  | wi_nz h => exact DL.wi_nz h
  | wi_nt h => exact DL.wi_nt h
  | wp_comp h => exact DL.wp_comp h
inductive Gv (i : Nat) (r : Env) (Q : RV → Env → Prop) : Option Slot → Prop
  | val {d : D} : Q (.fz d) r → Gv i r Q (some (.val d))
  | brw {d : D} : Q (.loc i) r → Gv i r Q (some (.brw d))
  | own {d : D} : Q (.loc i) r → Gv i r Q (some (.own d))
  | fbr {d : D} : Q (.fz d) r → Gv i r Q (some (.fbr d))
inductive Gp (q : Prop) : Option Slot → Prop
  | no : q → Gp q (some .no)
  | val {d : D} : q → Gp q (some (.val d))
  | own {d : D} : q → Gp q (some (.own d))
inductive Gf (i : Nat) (r : Env) (Q : D → Env → Prop) : Option Slot → Prop
  | own {d : D} : Q d (r.set i (.val d)) → Gf i r Q (some (.own d))
  | brw {d : D} : Q d (r.set i (.fbr d)) → Gf i r Q (some (.brw d))
inductive Gr (q : Prop) : Option Slot → Prop
  | own {xs : List D} : q → Gr q (some (.own (.lst xs)))
  | brw {xs : List D} : q → Gr q (some (.brw (.lst xs)))
inductive Gw : Prop → Prop
  | var {i : Nat} {r : Env} {Q : RV → Env → Prop} : Gv i r Q r[i]? → Gw (wp (eVar i) r Q)
  | put {i : Nat} {r : Env} {x : Slot} {Q : Unit → Env → Prop} : Gp (Q () (r.set i x)) r[i]? → Gw (wp (put i x) r Q)
  | frz {i : Nat} {r : Env} {Q : D → Env → Prop} : Gf i r Q r[i]? → Gw (wp (frz (.loc i)) r Q)
  | rcv {i : Nat} {r : Env} {Q : Unit → Env → Prop} : Gr (Q () r) r[i]? → Gw (wp (rcvL i) r Q)
theorem Gw.out {p : Prop} (g : Gw p) : p := by
  cases g with
  | @var i r Q h =>
    generalize e : r[i]? = o at h
    cases h with
    | val q => exact wi_val e q
    | brw q => exact wi_brw e q
    | own q => exact wi_own e q
    | fbr q => exact wi_fbr e q
  | @put i r x Q h =>
    generalize e : r[i]? = o at h
    cases h with
    | no q => exact wi_pno e q
    | val q => exact wi_pval e q
    | own q => exact wi_pown e q
  | @frz i r Q h =>
    generalize e : r[i]? = o at h
    cases h with
    | own q => exact wi_fown e q
    | brw q => exact wi_fbrw e q
  | @rcv i r Q h =>
    generalize e : r[i]? = o at h
    cases h with
    | own q => exact wi_rown e q
    | brw q => exact wi_rbrw e q
theorem YY {p : Prop} [Decidable p] (h : decide p = true) : p := of_decide_eq_true h
end DL

end

section
set_option Elab.async false
set_option linter.all false
set_option maxRecDepth 100000
set_option maxHeartbeats 4000000
/-! Printed by gen.py: the law's defs as functions by value. -/
namespace LW
open PySem L2 DL PyProof.Rows
/-! ### the functions -/
abbrev cWeb : Nat := 0
abbrev cRawWeb : Nat := 1
abbrev webCs : List Nat := [cWeb, cRawWeb]
def f_law_tape : Fn := fn 1 0
 (sRet (eLst [eOp1 oList (eVar 0), eC (.int 0), eC (.int 0), eC (.int 1), eC (.int 0)]))
def f_law_pick : Fn := fn 2 3
 (sSeq (sIf (tV (eOp2 oGt (eOp2 oIx (eVar 0) (eC (.int 2))) (eC (.int 1))))
 (sSeq (sSet 2 (eOp2 oMod (eOp1 oInt (eOp2 oIx (eVar 0) (eC (.int 2)))) (eVar 1)))
 (sSeq (sPut 0 mPut (eC (.int 2)) (eOp2 oDiv (eOp2 oIx (eVar 0) (eC (.int 2))) (eVar 1)))
 (sRet (eVar 2))))
 (sNx))
 (sSeq (sPut 0 mPut (eC (.int 4)) (eOp2 oAdd (eOp2 oIx (eVar 0) (eC (.int 4))) (eC (.int 1))))
 (sSeq (sSet 3 (eC (.int 0)))
 (sSeq (sIf (tV (eOp2 oLt (eOp2 oIx (eVar 0) (eC (.int 1))) (eOp1 oLen (eOp2 oIx (eVar 0) (eC (.int 0))))))
 (sSeq (sSet 3 (eOp2 oIx (eOp2 oIx (eVar 0) (eC (.int 0))) (eOp2 oIx (eVar 0) (eC (.int 1)))))
 (sPut 0 mPut (eC (.int 1)) (eOp2 oAdd (eOp2 oIx (eVar 0) (eC (.int 1))) (eC (.int 1)))))
 (sNx))
 (sSeq (sIf (tV (eOp2 oGe (eVar 3) (eOp2 oPow (eC (.int 10)) (eC (.int 18)))))
 (sSeq (sPut 0 mPut (eC (.int 2)) (eOp2 oDiv (eVar 3) (eVar 1)))
 (sRet (eOp2 oMod (eOp1 oInt (eVar 3)) (eVar 1))))
 (sNx))
 (sSeq (sSet 4 (eOp2 oMod (eOp1 oInt (eOp2 oAdd (eOp2 oAdd (eOp2 oMul (eOp2 oIx (eVar 0) (eC (.int 3))) (eC (.int 48271))) (eOp2 oMod (eOp1 oInt (eVar 3)) (eC (.int 2147483629)))) (eOp2 oMul (eOp2 oIx (eVar 0) (eC (.int 4))) (eC (.int 69621))))) (eC (.int 2147483647))))
 (sSeq (sSet 4 (eOp2 oMod (eOp1 oInt (eOp2 oMul (eVar 4) (eOp2 oAdd (eOp2 oDiv (eVar 4) (eC (.int 1009))) (eC (.int 40692))))) (eC (.int 2147483399))))
 (sSeq (sPut 0 mPut (eC (.int 3)) (eVar 4))
 (sRet (eOp2 oMod (eOp1 oInt (eOp2 oDiv (eVar 4) (eC (.int 16)))) (eVar 1)))))))))))
def f_law_closed : Fn := fn 1 8
 (sSeq (sSet 1 (eOp1 oSortSet (eVar 0)))
 (sSeq (sFor (.nm 2) (iRng1 (eC (.int 4)))
 (sSeq (sSet 3 (eLst []))
 (sSeq (sFor (.tp [.nm 4, .nm 5]) (iSeq (eVar 1))
 (sSet 3 (eOp2 oAdd (eVar 3) (eComp [6, 7] (.tp [.nm 6, .nm 7]) (iSeq (eVar 1)) (tV (eOp2 oEq (eVar 6) (eVar 5))) (eTup [eVar 4, eVar 7])))))
 (sSet 1 (eOp1 oSortSet (eOp2 oAdd (eVar 1) (eVar 3)))))))
 (sSeq (sIf (tV (eOp2 oGt (eOp1 oLen (eComp [8] (.nm 8) (iSeq (eVar 1)) (tV (eOp2 oEq (eOp2 oIx (eVar 8) (eC (.int 0))) (eOp2 oIx (eVar 8) (eC (.int 1))))) (eVar 8))) (eC (.int 0))))
 (sRet (eC .non))
 (sNx))
 (sRet (eOp1 oTuple (eVar 1))))))
def f_law_pairs : Fn := fn 2 6
 (sSeq (sSet 2 (eLst []))
 (sSeq (sFor (.nm 3) (iRng1 (eVar 1))
 (sExpr (eMut 2 mInsert [eCall f_law_pick [eVar 0, eOp2 oAdd (eVar 3) (eC (.int 1))], eVar 3])))
 (sSeq (sSet 4 (eOp2 oAdd (eC (.int 2)) (eCall f_law_pick [eVar 0, eC (.int 4)])))
 (sSeq (sSet 5 (eLst []))
 (sSeq (sFor (.nm 6) (iRng1 (eVar 1))
 (sFor (.nm 7) (iRng2 (eOp2 oAdd (eVar 6) (eC (.int 1))) (eVar 1))
 (sIf (tV (eOp2 oEq (eCall f_law_pick [eVar 0, eVar 4]) (eC (.int 0))))
 (sExpr (eMut 5 mAppend [eTup [eOp2 oIx (eVar 2) (eVar 6), eOp2 oIx (eVar 2) (eVar 7)]]))
 (sNx))))
 (sRet (eOp1 oTuple (eOp1 oSorted (eVar 5)))))))))
def f_law_web : Fn := fn 2 1
 (sSeq (sSet 2 (eOp2 oAdd (eC (.int 1)) (eCall f_law_pick [eVar 0, eVar 1])))
 (sSeq (sIf (tV (eOp2 oGt (eCall f_law_pick [eVar 0, eC (.int 3)]) (eC (.int 0))))
 (sSet 2 (eOp2 oMax (eVar 2) (eOp2 oSub (eVar 1) (eC (.int 1)))))
 (sNx))
 (sRet (eTup [eVar 2, eCall f_law_closed [eCall f_law_pairs [eVar 0, eVar 2]]]))))
def f_law_free : Fn := fn 3 4
 (sSeq (sSet 3 (eLst []))
 (sSeq (sFor (.nm 4) (iRng1 (eVar 1))
 (sIf (tAnd (tV (eOp2 oNotIn (eVar 4) (eVar 2))) (tV (eOp2 oEq (eOp1 oLen (eComp [5, 6] (.tp [.nm 5, .nm 6]) (iSeq (eVar 0)) (tAnd (tV (eOp2 oEq (eVar 6) (eVar 4))) (tV (eOp2 oNotIn (eVar 5) (eVar 2)))) (eVar 5))) (eC (.int 0)))))
 (sExpr (eMut 3 mAppend [eVar 4]))
 (sNx)))
 (sRet (eVar 3))))
def f_law_orders : Fn := fn 2 5
 (sSeq (sSet 2 (eLst [eTupP []]))
 (sSeq (sFor (.nm 3) (iRng1 (eVar 1))
 (sSeq (sSet 4 (eLst []))
 (sSeq (sFor (.nm 5) (iSeq (eVar 2))
 (sSet 4 (eOp2 oAdd (eVar 4) (eComp [6] (.nm 6) (iSeq (eCall f_law_free [eVar 0, eVar 1, eVar 5])) (tYes) (eOp2F oAddP (eVar 5) (eTupP [eVar 6]))))))
 (sSet 2 (eVar 4)))))
 (sRet (eVar 2))))
def f_law_open : Fn := fn 2 3
 (sSeq (sSet 2 (eLst []))
 (sSeq (sFor (.nm 3) (iRng1 (eVar 1))
 (sFor (.nm 4) (iRng2 (eOp2 oAdd (eVar 3) (eC (.int 1))) (eVar 1))
 (sIf (tAnd (tV (eOp2 oNotIn (eTup [eVar 3, eVar 4]) (eVar 0))) (tV (eOp2 oNotIn (eTup [eVar 4, eVar 3]) (eVar 0))))
 (sExpr (eMut 2 mAppend [eTup [eVar 3, eVar 4]]))
 (sNx))))
 (sRet (eVar 2))))
def f_law_small : Fn := fn 3 5
 (sSeq (sAsg (.tp [.nm 3, .nm 4]) (eCall f_law_web [eVar 0, eVar 1]))
 (sSeq (sFor (.nm 5) (iRng1 (eC (.int 10)))
 (sIf (tV (eOp2 oGt (eOp1 oLen (eCall f_law_orders [eVar 4, eVar 3])) (eVar 2)))
 (sSeq (sSet 6 (eCall f_law_open [eVar 4, eVar 3]))
 (sSeq (sSet 7 (eOp2 oIx (eVar 6) (eCall f_law_pick [eVar 0, eOp1 oLen (eVar 6)])))
 (sSet 4 (eCall f_law_closed [eOp2 oAdd (eVar 4) (eTup [eVar 7])]))))
 (sNx)))
 (sRet (eTup [eVar 3, eVar 4]))))
def f_is_integer : Fn := fn 1 0
 (sRet (eAndV (eOp1 (oIsI fInt fun _ => none) (eVar 0)) (eNotV (eOp1 (oIsI fBl fun _ => none) (eVar 0)))))
def f_is_within : Fn := fn 3 0
 (sRet (eAndV (eCall f_is_integer [eVar 0]) (eChain oLe oLe (eVar 1) (eVar 0) (eVar 2))))
def f_is_pair : Fn := fn 1 0
 (sRet (eAndV (eOp1 (oIsI fTup fun _ => none) (eVar 0)) (eOp2 oEq (eOp1 oLen (eVar 0)) (eC (.int 2)))))
def f_are_names : Fn := fn 2 1
 (sSeq (sIf (tOr (tNot (tV (eOp1 (oIsI fTup fun _ => none) (eVar 1)))) (tNot (tV (eOp1 oAll (eComp [2] (.nm 2) (iSeq (eVar 1)) (tYes) (eCall f_is_within [eVar 2, eC (.int 0), eOp2 oSub (eVar 0) (eC (.int 1))]))))))
 (sRet (eC (.bl false)))
 (sNx))
 (sRet (eOp2 oEq (eOp1 oLen (eDComp [2] (.nm 2) (iSeq (eVar 1)) (tYes) false (eVar 2) (eC (.bl true)))) (eOp1 oLen (eVar 1)))))
def f_is_ascending : Fn := fn 1 1
 (sRet (eOp1 oAll (eComp [1] (.nm 1) (iRng2 (eC (.int 1)) (eOp1 oLen (eVar 0))) (tYes) (eOp2 oLt (eOp2 oIx (eVar 0) (eOp2 oSub (eVar 1) (eC (.int 1)))) (eOp2 oIx (eVar 0) (eVar 1))))))
def f_are_befores : Fn := fn 2 1
 (sSeq (sIf (tNot (tV (eOp1 (oIsI fTup fun _ => none) (eVar 1))))
 (sRet (eC (.bl false)))
 (sNx))
 (sRet (eAndV (eOp1 oAll (eComp [2] (.nm 2) (iSeq (eVar 1)) (tYes) (eAndV (eCall f_is_pair [eVar 2]) (eCall f_are_names [eVar 0, eVar 2])))) (eCall f_is_ascending [eVar 1]))))
def f_closed : Fn := fn 2 6
 (sSeq (sSet 2 (eDComp [7] (.nm 7) (iSeq (eVar 1)) (tYes) true (eVar 7) (eC (.bl true))))
 (sSeq (sFor (.nm 3) (iRng1 (eVar 0))
 (sFor (.nm 4) (iRng1 (eVar 0))
 (sFor (.nm 5) (iRng1 (eVar 0))
 (sIf (tAnd (tV (eOp2 oIn (eTup [eVar 4, eVar 3]) (eVar 2))) (tV (eOp2 oIn (eTup [eVar 3, eVar 5]) (eVar 2))))
 (sPut 2 mPut (eTup [eVar 4, eVar 5]) (eC (.bl true)))
 (sNx)))))
 (sSeq (sIf (tV (eOp1 oAny (eComp [6] (.nm 6) (iRng1 (eVar 0)) (tYes) (eOp2 oIn (eTup [eVar 6, eVar 6]) (eVar 2)))))
 (sRet (eC .non))
 (sNx))
 (sRet (eOp1 oTuple (eOp1 oSorted (eOp1 oList (eVar 2))))))))
def f_Web_keep : Fn := fn 3 3
 (sSeq (sFldSet 0 webCs 0 (eVar 1))
 (sSeq (sFldSet 0 webCs 1 (eVar 2))
 (sSeq (sFldSet 0 webCs 2 (eComp [3] (.nm 3) (iRng1 (eVar 1)) (tYes) (eOp1 oTuple (eComp [4, 5] (.tp [.nm 4, .nm 5]) (iSeq (eVar 2)) (tV (eOp2 oEq (eVar 5) (eVar 3))) (eVar 4)))))
 (sFldSet 0 webCs 3 (eComp [3] (.nm 3) (iRng1 (eVar 1)) (tYes) (eOp1 oTuple (eComp [4, 5] (.tp [.nm 4, .nm 5]) (iSeq (eVar 2)) (tV (eOp2 oEq (eVar 4) (eVar 3))) (eVar 5))))))))
def f_Web_init : Fn := fn 3 1
 (sSeq (sIf (tNot (tV (eCall f_is_within [eVar 1, eC (.int 1), eC (.int 8)])))
 (sBad)
 (sNx))
 (sSeq (sIf (tNot (tV (eCall f_are_befores [eVar 1, eVar 2])))
 (sBad)
 (sNx))
 (sSeq (sSet 3 (eCall f_closed [eVar 1, eVar 2]))
 (sSeq (sIf (tV (eOp2 oIs (eVar 3) (eC .non)))
 (sBad)
 (sNx))
 (sExpr (eMeth cWeb f_Web_keep (eVar 0) [eVar 1, eVar 3]))))))
def f_law_masks : Fn := fn 2 4
 (sSeq (sSet 2 (eLst []))
 (sSeq (sFor (.tp [.nm 3, .nm 4]) (iSeq (eVar 1))
 (sExpr (eMut 2 mAppend [eOp1 oSum (eComp [5] (.nm 5) (iRng1 (eOp1 oLen (eVar 0))) (tV (eOp2 oLt (eIdx (eOp2 oIx (eVar 0) (eVar 5)) (eVar 3)) (eIdx (eOp2 oIx (eVar 0) (eVar 5)) (eVar 4)))) (eOp2 oShl (eC (.int 1)) (eVar 5)))])))
 (sRet (eVar 2))))
def g_law_asked : Nat → Fn
  | 0 => fn 3 6 sBad
  | m + 1 => fn 3 6
    (sSeq (sIf (tV (eOp2 oNotIn (eVar 0) (eVar 2)))
    (sSeq (sPar2 3 4 (eLst []) (eLst []))
    (sSeq (sFor (.nm 5) (iSeq (eVar 1))
    (sSeq (sSet 6 (eOp2 oBAnd (eVar 0) (eVar 5)))
    (sIf (tAnd (tV (eOp2 oNe (eVar 6) (eC (.int 0)))) (tV (eOp2 oNe (eVar 6) (eVar 0))))
    (sSeq (sSet 7 (eCall (g_law_asked m) [eVar 6, eVar 1, eVar 2]))
    (sSeq (sSet 8 (eCall (g_law_asked m) [eOp2 oSub (eVar 0) (eVar 6), eVar 1, eVar 2]))
    (sSeq (sExpr (eMut 3 mAppend [eOp2 oAdd (eC (.int 1)) (eOp2 oMax (eOp2 oIx (eVar 7) (eC (.int 0))) (eOp2 oIx (eVar 8) (eC (.int 0))))]))
    (sExpr (eMut 4 mAppend [eOp2 oAdd (eC (.int 1)) (eOp2 oMax (eOp2 oIx (eVar 7) (eC (.int 1))) (eOp2 oIx (eVar 8) (eC (.int 1))))])))))
    (sNx))))
    (sPut 2 mPut (eVar 0) (eIf (tV (eOp2 oGt (eOp1 oLen (eVar 3)) (eC (.int 0)))) (eTup [eOp1 oMinA (eVar 3), eOp1 oMaxL (eVar 4)]) (eTup [eC (.int 0), eC (.int 0)])))))
    (sNx))
    (sRet (eOp2 oIx (eVar 2) (eVar 0))))
def f_law_asked : Fn := g_law_asked 24
def f_law_by_pairs : Fn := fn 2 8
 (sSeq (sSet 2 (eCall f_law_orders [eVar 0, eVar 1]))
 (sSeq (sSet 3 (eCall f_law_masks [eVar 2, eCall f_law_open [eVar 0, eVar 1]]))
 (sSeq (sSet 4 (eDict0 false))
 (sSeq (sSet 5 (eOp2 oSub (eOp2 oShl (eC (.int 1)) (eOp1 oLen (eVar 2))) (eC (.int 1))))
 (sSeq (sSet 6 (eCall f_law_asked [eVar 5, eVar 3, eVar 4]))
 (sSeq (sSet 7 (eLst []))
 (sSeq (sFor (.nm 8) (iSeq (eVar 3))
 (sSeq (sSet 9 (eOp2 oBAnd (eVar 5) (eVar 8)))
 (sExpr (eMut 7 mAppend [eOp2 oAdd (eC (.int 1)) (eOp2 oMax (eOp2 oIx (eCall f_law_asked [eVar 9, eVar 3, eVar 4]) (eC (.int 0))) (eOp2 oIx (eCall f_law_asked [eOp2 oSub (eVar 5) (eVar 9), eVar 3, eVar 4]) (eC (.int 0))))]))))
 (sRet (eTup [eVar 6, eVar 7])))))))))
def f_is_apart : Fn := fn 3 0
 (sRet (eAndV (eOp2 oNotIn (eVar 1) (eOp2 oIx (eOp1 (oFld webCs 2) (eVar 0)) (eVar 2))) (eOp2 oNotIn (eVar 1) (eOp2 oIx (eOp1 (oFld webCs 3) (eVar 0)) (eVar 2)))))
def f_pairs_apart : Fn := fn 1 3
 (sSeq (sSet 1 (eLst []))
 (sSeq (sFor (.nm 2) (iRng1 (eOp1 (oFld webCs 0) (eVar 0)))
 (sExpr (eMut 1 mExtend [eComp [3] (.nm 3) (iRng2 (eOp2 oAdd (eVar 2) (eC (.int 1))) (eOp1 (oFld webCs 0) (eVar 0))) (tV (eCall f_is_apart [eVar 0, eVar 2, eVar 3])) (eTup [eVar 2, eVar 3])])))
 (sRet (eVar 1))))
def f_most_asks : Fn := fn 1 0
 (sRet (eOp1 oLen (eCall f_pairs_apart [eVar 0])))
def f_RawWeb_keep : Fn := fn 3 3
 (sSeq (sFldSet 0 webCs 0 (eVar 1))
 (sSeq (sFldSet 0 webCs 1 (eVar 2))
 (sSeq (sFldSet 0 webCs 2 (eComp [3] (.nm 3) (iRng1 (eVar 1)) (tYes) (eOp1 oTuple (eComp [4, 5] (.tp [.nm 4, .nm 5]) (iSeq (eVar 2)) (tV (eOp2 oEq (eVar 5) (eVar 3))) (eVar 4)))))
 (sFldSet 0 webCs 3 (eComp [3] (.nm 3) (iRng1 (eVar 1)) (tYes) (eOp1 oTuple (eComp [4, 5] (.tp [.nm 4, .nm 5]) (iSeq (eVar 2)) (tV (eOp2 oEq (eVar 4) (eVar 3))) (eVar 5))))))))
def f_RawWeb_init : Fn := fn 3 0
 (sExpr (eMeth cRawWeb f_RawWeb_keep (eVar 0) [eVar 1, eVar 2]))
def f_raw_web : Fn := fn 2 0
 (sRet (eMake cRawWeb f_RawWeb_init [eVar 0, eOp1 oTuple (eOp1 oSorted (eOp1 oList (eVar 1)))]))
def f_turned : Fn := fn 1 2
 (sRet (eCall f_raw_web [eOp1 (oFld webCs 0) (eVar 0), eComp [1, 2] (.tp [.nm 1, .nm 2]) (iSeq (eOp1 (oFld webCs 1) (eVar 0))) (tYes) (eTup [eVar 2, eVar 1])]))
def f_law : Fn := fn 1 9
 (sSeq (sSet 1 (eCall f_law_tape [eVar 0]))
 (sSeq (sFor (.nm 2) (iRng1 (eC (.int 2)))
 (sSeq (sAsg (.tp [.nm 3, .nm 4]) (eCall f_law_small [eVar 1, eC (.int 5), eIf (tV (eOp2 oGt (eCall f_law_pick [eVar 1, eC (.int 20)]) (eC (.int 0)))) (eC (.int 30)) (eC (.int 120))]))
 (sSeq (sSet 5 (eMake cWeb f_Web_init [eVar 3, eVar 4]))
 (sSeq (sSet 6 (eOp2 oIx (eOp2 oIx (eCall f_law_by_pairs [eVar 4, eVar 3]) (eC (.int 0))) (eC (.int 1))))
 (sSeq (sSet 7 (eCall f_most_asks [eVar 5]))
 (sSeq (sIf (tOr (tV (eOp1 (oIsI fBl fun _ => none) (eVar 7))) (tOr (tV (eOp2 oNe (eVar 7) (eVar 6))) (tV (eOp2 oNe (eVar 6) (eOp1 oLen (eCall f_law_open [eVar 4, eVar 3]))))))
 (sRet (eC (.bl false)))
 (sNx))
 (sSeq (sIf (tV (eOp2 oNe (eCall f_most_asks [eCall f_turned [eVar 5]]) (eVar 6)))
 (sRet (eC (.bl false)))
 (sNx))
 (sFor (.tp [.nm 8, .nm 9]) (iSeq (eCall f_law_open [eVar 4, eVar 3]))
 (sIf (tV (eOp2 oGe (eCall f_most_asks [eMake cWeb f_Web_init [eVar 3, eCall f_law_closed [eOp2 oAdd (eVar 4) (eTup [eTup [eVar 8, eVar 9]])]]]) (eVar 6)))
 (sRet (eC (.bl false)))
 (sNx))))))))))
 (sSeq (sSet 3 (eOp2 oAdd (eC (.int 6)) (eCall f_law_pick [eVar 1, eC (.int 3)])))
 (sSeq (sSet 4 (eCall f_law_closed [eCall f_law_pairs [eVar 1, eVar 3]]))
 (sRet (eOp2 oEq (eCall f_most_asks [eMake cWeb f_Web_init [eVar 3, eVar 4]]) (eOp1 oLen (eCall f_law_open [eVar 4, eVar 3]))))))))
end LW

end

section
set_option Elab.async false
set_option linter.all false
set_option maxRecDepth 100000
/-! The tape. -/
namespace LW
open DL
/-- a tape -/
def tp (cs : List Int) (p v m n : Int) : D := .lst [.lst (cs.map .int), .int p, .int v, .int m, .int n]
theorem tape_ok (cs : List Int) (d : D) (h : oList d = some (.tmp (.lst (cs.map D.int)))) : f_law_tape [.val d] = .ok (.tmp (tp cs 0 0 1 0)) [.val d] := by
  have z : ∃ v r, f_law_tape [.val d] = .ok v r ∧ (v = .tmp (tp cs 0 0 1 0) ∧ r = [.val d]) := by
    refine fn_ok (Q := fun v r => v = .tmp (tp cs 0 0 1 0) ∧ r = [.val d]) rfl ?_
    simp only [wp_ret, wp_lst, wp_eFs_cons, wp_eFs_nil, wp_eF, wp_op1, wp_c, wp_var, wp_frz, wp_fin, List.replicate, List.append_nil, List.getElem?_cons_zero, vw, onO_some, h]
    exact ⟨rfl, rfl⟩
  obtain ⟨v, r, e, rfl, rfl⟩ := z
  exact e
end LW

end

local macro_rules | `(tactic| walk_at "st") => `(tactic| ((try dsimp only [List.set_cons_zero,List.set_cons_succ]);repeat (first|(refine DL.Go.out ?_;with_reducible constructor)|((with_reducible apply DL.wi_op1v);rfl;assumption)|(with_reducible refine DL.wp_op1.2 ?_)|(refine DL.Gw.out ?_;(with_reducible constructor);constructor;try dsimp only [List.set_cons_zero,List.set_cons_succ])|dsimp only [List.set_cons_zero,List.set_cons_succ]|((with_reducible apply DL.onO_of);rfl)|((with_reducible apply DL.wi_nb);rfl)|((with_reducible apply DL.wi_nl);rfl;exact DL.YY rfl)|((with_reducible apply DL.wi_mbrw);rfl;rfl)|((with_reducible apply DL.wi_mown);rfl;rfl))))

section
set_option Elab.async false
set_option linter.all false
set_option maxRecDepth 100000
/-! A pick off the tape. -/
namespace LW
open DL
theorem log2_small {i : Int} (h0 : 0 ≤ i) (h : i < 2 ^ 64) : i.natAbs.log2 < 65 := by
  rcases Nat.eq_zero_or_pos i.natAbs with z | z
  · rw [z]; decide
  · exact Nat.lt_of_lt_of_le ((Nat.log2_lt (by omega)).mpr (show i.natAbs < 2 ^ 64 by omega)) (by decide)
theorem oMod_ok {i j : Int} (h : 0 < j) : oMod (.int i) (.int j) = some (.fz (.int (i % j))) := by
  show (if 0 < j then some (RV.fz (D.int (i % j))) else none) = _
  rw [if_pos h]
theorem oDiv_ok {i j : Int} (h : 0 < j) (h2 : j < 2 ^ 64) : oDiv (.int i) (.int j) = some (.fz (.int (i / j))) := by
  show (if 0 < j ∧ j.natAbs.log2 < 9000 then some (RV.fz (D.int (i / j))) else none) = _
  rw [if_pos ⟨h, Nat.lt_of_lt_of_le (log2_small (by omega) h2) (by decide)⟩]
theorem oMul_ok {i j : Int} (h : 0 ≤ i) (h2 : i < 2 ^ 64) (g : 0 ≤ j) (g2 : j < 2 ^ 64) : oMul (.int i) (.int j) = some (.fz (.int (i * j))) := by
  show (if i.natAbs.log2 + j.natAbs.log2 < 1000000 then some (RV.fz (D.int (i * j))) else none) = _
  have a := log2_small h h2
  have b := log2_small g g2
  rw [if_pos (by omega)]
theorem oIx_ints {cs : List Int} {p : Int} (h0 : 0 ≤ p) (h1 : p < ((cs.map D.int).length : Int)) : oIx (.lst (cs.map D.int)) (.int p) = some (.fz (.int (cs.getD p.toNat 0))) := by
  show (atD (cs.map D.int) p).map RV.fz = _
  unfold atD
  rw [if_pos h0, if_pos h1, List.getElem?_map]
  have hl : p.toNat < cs.length := by rw [List.length_map] at h1; omega
  rw [List.getD_eq_getElem?_getD, List.getElem?_eq_getElem hl]
  rfl
/-- a tape from which at most b times was drawn anew -/
def TOk (cs : List Int) (b : Nat) (d : D) : Prop := ∃ p v m n : Int, d = tp cs p v m n ∧ 0 ≤ p ∧ 0 ≤ m ∧ m < 2147483647 ∧ 0 ≤ n ∧ n ≤ b
theorem pick_ok {cs : List Int} {b : Nat} {d : D} {M : Int} (ht : TOk cs b d) (hb : b ≤ 1000000000) (h0 : 0 < M) (h1 : M < 2 ^ 62) :
    ∃ k d', 0 ≤ k ∧ k < M ∧ TOk cs (b + 1) d' ∧ f_law_pick [.brw d, .val (.int M)] = .ok (.fz (.int k)) [.brw d', .val (.int M)] := by
  obtain ⟨p, v, m, n, rfl, hp, hm0, hm1, hn0, hn1⟩ := ht
  have z : ∃ x r, f_law_pick [.brw (tp cs p v m n), .val (.int M)] = .ok x r ∧ ∃ k d', 0 ≤ k ∧ k < M ∧ TOk cs (b + 1) d' ∧ x = .fz (.int k) ∧ r = [.brw d', .val (.int M)] := by
    refine fn_ok (Q := fun x r => ∃ k d', 0 ≤ k ∧ k < M ∧ TOk cs (b + 1) d' ∧ x = .fz (.int k) ∧ r = [.brw d', .val (.int M)]) rfl ?_
    show wp _ [.brw (tp cs p v m n), .val (.int M), .no, .no, .no] _
    unfold tp
    have end_ : ∀ (k p v m n : Int), 0 ≤ k → k < M → 0 ≤ p → 0 ≤ m → m < 2147483647 → 0 ≤ n → n ≤ (b : Int) + 1 → ∃ k' d', 0 ≤ k' ∧ k' < M ∧ TOk cs (b + 1) d' ∧ RV.fz (.int k) = .fz (.int k') ∧ [Slot.brw (.lst [.lst (cs.map .int), .int p, .int v, .int m, .int n]), Slot.val (.int M)] = [.brw d', .val (.int M)] :=
      fun k p v m n a1 a2 a3 a4 a5 a6 a7 => ⟨k, _, a1, a2, ⟨p, v, m, n, rfl, a3, a4, a5, a6, by omega⟩, rfl, rfl⟩
    walk_at "st"
    by_cases hv : 1 < v
    · refine wi_ifT (decide_eq_true hv) ?_
      walk_at "st"
      apply onO_of (oMod_ok h0)
      walk_at "st"
      apply onO_of (oDiv_ok h0 (by omega))
      walk_at "st"
      exact end_ _ _ _ _ _ (Int.emod_nonneg _ (by omega)) (Int.emod_lt_of_pos _ h0) hp hm0 hm1 hn0 (by omega)
    · refine wi_ifF (by simpa using hv) ?_
      walk_at "st"
      by_cases hpl : p < ((cs.map D.int).length : Int)
      · refine wi_ifT (decide_eq_true hpl) ?_
        walk_at "st"
        apply onO_of (oIx_ints hp hpl)
        walk_at "st"
        generalize hcell : cs.getD p.toNat 0 = cell
        by_cases hc : 10 ^ Int.toNat 18 ≤ cell
        · refine wi_ifT (decide_eq_true hc) ?_
          walk_at "st"
          apply onO_of (oDiv_ok h0 (by omega))
          walk_at "st"
          apply onO_of (oMod_ok h0)
          walk_at "st"
          exact end_ (cell % M) (p + 1) (cell / M) m (n + 1) (Int.emod_nonneg _ (by omega)) (Int.emod_lt_of_pos _ h0) (by omega) hm0 hm1 (by omega) (by omega)
        · refine wi_ifF (by simpa using hc) ?_
          walk_at "st"
          apply onO_of (oMul_ok hm0 (by omega) (by decide) (by decide))
          walk_at "st"
          apply onO_of (oMul_ok (by omega) (by omega) (by decide) (by decide))
          walk_at "st"
          generalize hx : (m * 48271 + cell % 2147483629 + (n + 1) * 69621) % 2147483647 = x
          have x0 : 0 ≤ x := by rw [← hx]; exact Int.emod_nonneg _ (by decide)
          have x1 : x < 2147483647 := by rw [← hx]; exact Int.emod_lt_of_pos _ (by decide)
          apply onO_of (oMul_ok x0 (by omega) (by omega) (by omega))
          walk_at "st"
          generalize hy : x * (x / 1009 + 40692) % 2147483399 = y
          have y0 : 0 ≤ y := by rw [← hy]; exact Int.emod_nonneg _ (by decide)
          have y1 : y < 2147483399 := by rw [← hy]; exact Int.emod_lt_of_pos _ (by decide)
          walk_at "st"
          apply onO_of (oMod_ok h0)
          walk_at "st"
          exact end_ (y / 16 % M) (p + 1) v y (n + 1) (Int.emod_nonneg _ (by omega)) (Int.emod_lt_of_pos _ h0) (by omega) y0 (by omega) (by omega) (by omega)
      · refine wi_ifF (by simpa using hpl) ?_
        walk_at "st"
        by_cases hc : 10 ^ Int.toNat 18 ≤ (0 : Int)
        · refine wi_ifT (decide_eq_true hc) ?_
          walk_at "st"
          apply onO_of (oDiv_ok h0 (by omega))
          walk_at "st"
          apply onO_of (oMod_ok h0)
          walk_at "st"
          exact end_ (0 % M) (p) (0 / M) m (n + 1) (Int.emod_nonneg _ (by omega)) (Int.emod_lt_of_pos _ h0) (by omega) hm0 hm1 (by omega) (by omega)
        · refine wi_ifF (by simpa using hc) ?_
          walk_at "st"
          apply onO_of (oMul_ok hm0 (by omega) (by decide) (by decide))
          walk_at "st"
          apply onO_of (oMul_ok (by omega) (by omega) (by decide) (by decide))
          walk_at "st"
          generalize hx : (m * 48271 + 0 % 2147483629 + (n + 1) * 69621) % 2147483647 = x
          have x0 : 0 ≤ x := by rw [← hx]; exact Int.emod_nonneg _ (by decide)
          have x1 : x < 2147483647 := by rw [← hx]; exact Int.emod_lt_of_pos _ (by decide)
          apply onO_of (oMul_ok x0 (by omega) (by omega) (by omega))
          walk_at "st"
          generalize hy : x * (x / 1009 + 40692) % 2147483399 = y
          have y0 : 0 ≤ y := by rw [← hy]; exact Int.emod_nonneg _ (by decide)
          have y1 : y < 2147483399 := by rw [← hy]; exact Int.emod_lt_of_pos _ (by decide)
          walk_at "st"
          apply onO_of (oMod_ok h0)
          walk_at "st"
          exact end_ (y / 16 % M) (p) v y (n + 1) (Int.emod_nonneg _ (by omega)) (Int.emod_lt_of_pos _ h0) (by omega) y0 (by omega) (by omega) (by omega)
  obtain ⟨x, r, e, k, d', q0, q1, q2, rfl, rfl⟩ := z
  exact ⟨k, d', q0, q1, q2, e⟩
end LW

end

section
set_option Elab.async false
set_option linter.all false
set_option maxRecDepth 100000
/-! Pairs drawn off the tape. -/
namespace LW
open DL
theorem big62_of {j : Int} (h0 : 0 ≤ j) (h1 : j < 1000000) : big62 j = true := by
  unfold big62
  rw [Bool.and_eq_true]
  exact ⟨decide_eq_true (by omega), decide_eq_true (by omega)⟩
/-- a call of the pick at the head -/
theorem wp_pickB {cs : List Int} {b : Nat} {d : D} {M : Int} {r : Env} {i : Nat} {Q : RV → Env → Prop} (hs : r[i]? = some (.brw d)) (ht : TOk cs b d) (hb : b ≤ 1000000000) (h0 : 0 < M) (h1 : M < 2 ^ 62)
    (q : ∀ k d', 0 ≤ k → k < M → TOk cs (b + 1) d' → Q (.fz (.int k)) (r.set i (.brw d'))) : wp (callFn f_law_pick [.loc i, .fz (.int M)]) r Q := by
  obtain ⟨k, d', k0, k1, t', e⟩ := pick_ok ht hb h0 h1
  have nd : (locs [.loc i, .fz (.int M)]).Nodup := by simp [locs]
  refine wp_callFn nd (ss := [.brw d, .val (.int M)]) ?_ e (r' := r.set i (.brw d')) ?_ (q k d' k0 k1 t')
  · simp [argSlots, argSlot, hs]
  · simp [backAll, backOne, hs]
theorem wp_pickO {cs : List Int} {b : Nat} {d : D} {M : Int} {r : Env} {i : Nat} {Q : RV → Env → Prop} (hs : r[i]? = some (.own d)) (ht : TOk cs b d) (hb : b ≤ 1000000000) (h0 : 0 < M) (h1 : M < 2 ^ 62)
    (q : ∀ k d', 0 ≤ k → k < M → TOk cs (b + 1) d' → Q (.fz (.int k)) (r.set i (.own d'))) : wp (callFn f_law_pick [.loc i, .fz (.int M)]) r Q := by
  obtain ⟨k, d', k0, k1, t', e⟩ := pick_ok ht hb h0 h1
  have nd : (locs [.loc i, .fz (.int M)]).Nodup := by simp [locs]
  refine wp_callFn nd (ss := [.brw d, .val (.int M)]) ?_ e (r' := r.set i (.own d')) ?_ (q k d' k0 k1 t')
  · simp [argSlots, argSlot, hs]
  · simp [backAll, backOne, hs]
theorem TOk.mono {cs : List Int} {b b' : Nat} {d : D} (h : TOk cs b d) (hb : b ≤ b') : TOk cs b' d := by
  obtain ⟨p, v, m, n, e, h1, h2, h3, h4, h5⟩ := h
  exact ⟨p, v, m, n, e, h1, h2, h3, h4, by omega⟩
/-- pairs that some rank sets right, ascending -/
structure PrOk (many : Int) (ps : List (List Int)) : Prop where
  rk : ∃ rk : Int → Nat, ∀ p ∈ ps, ∃ a c, p = [a, c] ∧ 0 ≤ a ∧ a < many ∧ 0 ≤ c ∧ c < many ∧ rk a < rk c
  asc : ps.Pairwise (· < ·)
theorem insert_row {row : List Int} {i : Nat} {k : Nat} (h : row.Nodup ∧ ∀ x ∈ row, 0 ≤ x ∧ x < (i : Int)) : (row.take k ++ [(i : Int)] ++ row.drop k).Nodup ∧ (∀ x ∈ row.take k ++ [(i : Int)] ++ row.drop k, 0 ≤ x ∧ x < ((i + 1 : Nat) : Int)) ∧ (row.take k ++ [(i : Int)] ++ row.drop k).length = row.length + 1 := by
  have pm : (row.take k ++ [(i : Int)] ++ row.drop k).Perm ((i : Int) :: row) := by
    rw [List.append_assoc]
    refine List.perm_append_comm.trans ?_
    show ((i : Int) :: (row.drop k ++ row.take k)).Perm _
    refine List.Perm.cons _ ?_
    refine List.perm_append_comm.trans ?_
    rw [List.take_append_drop]
  refine ⟨pm.nodup_iff.mpr (List.nodup_cons.mpr ⟨fun hm => ?_, h.1⟩), fun x hx => ?_, pm.length_eq⟩
  · have := (h.2 _ hm).2; omega
  · rcases List.mem_cons.mp (pm.mem_iff.mp hx) with z | z
    · omega
    · have := h.2 x z; omega
/-- the pair of two places -/
def prOf (row : List Int) (q : Nat × Nat) : List Int := [row.getD q.1 0, row.getD q.2 0]
theorem lt_of_le_ne {x y : List Int} (h : x ≤ y) (n : x ≠ y) : x < y := Classical.byContradiction fun c => n (List.le_antisymm h (List.not_lt.mp c))
theorem asc_of {l : List (List Int)} (h : l.Nodup) : (sortRows l).Pairwise (· < ·) := by
  have n : (sortRows l).Nodup := (sortRows_perm l).nodup_iff.mpr h
  exact ((sortRows_sorted l).and n).imp fun ⟨a, b⟩ => lt_of_le_ne a b
theorem pr_of {row : List Int} {many : Int} {ixs : List (Nat × Nat)} (hn : row.Nodup) (hl : row.length = many.toNat) (hb : ∀ x ∈ row, 0 ≤ x ∧ x < (many.toNat : Int)) (nd : ixs.Nodup) (hq : ∀ q ∈ ixs, q.1 < q.2 ∧ q.2 < many.toNat) : PrOk many (sortRows (ixs.map (prOf row))) := by
  have gd : ∀ i, (h : i < row.length) → row.getD i 0 = row[i] := fun i h => by rw [List.getD_eq_getElem?_getD, List.getElem?_eq_getElem h]; rfl
  refine ⟨⟨fun x => row.idxOf x, fun p hp => ?_⟩, asc_of ?_⟩
  · obtain ⟨q, hm, rfl⟩ := List.mem_map.mp ((sortRows_perm _).mem_iff.mp hp)
    obtain ⟨h1, h2⟩ := hq q hm
    have i1 : q.1 < row.length := by omega
    have i2 : q.2 < row.length := by omega
    refine ⟨row[q.1], row[q.2], by unfold prOf; rw [gd _ i1, gd _ i2], (hb _ (List.getElem_mem i1)).1, ?_, (hb _ (List.getElem_mem i2)).1, ?_, ?_⟩
    · have := (hb _ (List.getElem_mem i1)).2; omega
    · have := (hb _ (List.getElem_mem i2)).2; omega
    · show row.idxOf row[q.1] < row.idxOf row[q.2]
      rw [hn.idxOf_getElem, hn.idxOf_getElem]
      exact h1
  · refine List.pairwise_map.mpr (nd.imp_of_mem fun {q q'} hm hm' ne e => ne ?_)
    obtain ⟨h1, h2⟩ := hq q hm
    obtain ⟨h3, h4⟩ := hq q' hm'
    unfold prOf at e
    rw [gd _ (by omega), gd _ (by omega), gd _ (by omega), gd _ (by omega)] at e
    have e1 := (List.cons.inj e).1
    have e2 := (List.cons.inj (List.cons.inj e).2).1
    have f1 := congrArg row.idxOf e1
    have f2 := congrArg row.idxOf e2
    rw [hn.idxOf_getElem, hn.idxOf_getElem] at f1 f2
    exact Prod.ext f1 f2
theorem pairs_ok {cs : List Int} {b : Nat} {d : D} {many : Int} (ht : TOk cs b d) (hb : b ≤ 900000000) (h0 : 0 ≤ many) (h1 : many ≤ 8) :
    ∃ ps d', PrOk many ps ∧ TOk cs (b + 100) d' ∧ f_law_pairs [.brw d, .val (.int many)] = .ok (.fz (.tup (ps.map tupI))) [.brw d', .val (.int many)] := by
  have z : ∃ x r, f_law_pairs [.brw d, .val (.int many)] = .ok x r ∧ ∃ ps d', PrOk many ps ∧ TOk cs (b + 100) d' ∧ x = .fz (.tup (ps.map tupI)) ∧ r = [.brw d', .val (.int many)] := by
    refine fn_ok (Q := fun x r => ∃ ps d', PrOk many ps ∧ TOk cs (b + 100) d' ∧ x = .fz (.tup (ps.map tupI)) ∧ r = [.brw d', .val (.int many)]) rfl ?_
    show wp _ [.brw d, .val (.int many), .no, .no, .no, .no, .no, .no] _
    walk_at "st"
    refine onR_int (big62_of h0 (by omega)) ?_
    refine forGo_inv (fun i r => ∃ d' row s3, TOk cs (b + i) d' ∧ row.length = i ∧ (row.Nodup ∧ ∀ x ∈ row, 0 ≤ x ∧ x < (i : Int)) ∧ (s3 = Slot.no ∨ ∃ u, s3 = Slot.val u) ∧ r = [.brw d', .val (.int many), .own (.lst (row.map D.int)), s3, .no, .no, .no, .no]) ?_ ?_ ⟨d, [], .no, ht, rfl, ⟨List.nodup_nil, fun x hx => nomatch hx⟩, .inl rfl, rfl⟩
    · rintro i u r hi ⟨d', row, s3, ht', hl, hrow, hs3, rfl⟩
      obtain ⟨rfl, hlt⟩ := rng_get hi
      have put3 : ∀ {QU : Unit → Env → Prop} {x : Slot}, QU () [.brw d', .val (.int many), .own (.lst (row.map D.int)), x, .no, .no, .no, .no] → wp (put 3 x) [.brw d', .val (.int many), .own (.lst (row.map D.int)), s3, .no, .no, .no, .no] QU := fun {QU x} q => by
        rcases hs3 with rfl | ⟨u, rfl⟩
        · exact wi_pno rfl q
        · exact wi_pval rfl q
      walk_at "st"
      refine put3 ?_
      walk_at "st"
      refine wp_pickB rfl ht' (by omega) (by omega) (by omega) fun k d2 k0 k1 t2 => ?_
      walk_at "st"
      have hmi : mInsert (.lst (row.map D.int)) [.int k, .int (0 + (i : Int))] = some (.lst ((row.take k.toNat ++ [(i : Int)] ++ row.drop k.toNat).map D.int), .non) := by
        show (if (row.map D.int).length < line ∧ 0 ≤ k ∧ k < 2 ^ 63 then some (D.lst ((row.map D.int).take k.toNat ++ [D.int (0 + (i : Int))] ++ (row.map D.int).drop k.toNat), D.non) else none) = _
        have ln : (row.map D.int).length < line := by
          rw [List.length_map, hl]
          have : i < 8 := by omega
          exact Nat.lt_trans this (by decide)
        rw [if_pos ⟨ln, k0, by omega⟩]
        simp [List.map_take, List.map_drop]
      refine wi_mown rfl hmi ?_
      obtain ⟨r1, r2, r3⟩ := insert_row (k := k.toNat) hrow
      walk_at "st"
      exact ⟨d2, _, _, t2, by rw [r3, hl], ⟨r1, r2⟩, .inr ⟨_, rfl⟩, rfl⟩
    · rintro r ⟨d', row, s3, ht', hl, hrow, hs3, rfl⟩
      rw [rng_len] at ht' hl hrow
      have hml : many.toNat = (many - 0).toNat := by omega
      rw [← hml] at ht' hl hrow
      walk_at "st"
      refine wp_pickB rfl ht' (by omega) (by decide) (by decide) fun th d1 th0 th1 t1 => ?_
      walk_at "st"
      refine onR_int (big62_of h0 (by omega)) ?_
      have ht1 : TOk cs (b + 10) d1 := t1.mono (by omega)
      generalize hthin : 2 + th = thin
      have thin0 : 0 < thin := by omega
      have thin1 : thin < 2 ^ 62 := by omega
      refine forGo_inv (fun i r => ∃ (d2 : D) (ixs : List (Nat × Nat)) (s6 s7 : Slot), TOk cs (b + 10 + 8 * i) d2 ∧ ixs.Nodup ∧ (∀ q ∈ ixs, q.1 < q.2 ∧ q.2 < many.toNat ∧ q.1 < i) ∧ ixs.length ≤ 8 * i ∧ (s6 = Slot.no ∨ ∃ u, s6 = Slot.val u) ∧ (s7 = Slot.no ∨ ∃ u, s7 = Slot.val u) ∧
        r = [.brw d2, .val (.int many), .own (.lst (row.map D.int)), s3, .val (.int thin), .own (.lst ((ixs.map (prOf row)).map tupI)), s6, s7]) ?_ ?_ ⟨d1, [], .no, .no, ht1, List.nodup_nil, (fun q hq => nomatch hq), Nat.zero_le _, .inl rfl, .inl rfl, rfl⟩
      · rintro i u r hi ⟨d2, ixs, s6, s7, t2, nd, hq, hil, hs6, hs7, rfl⟩
        obtain ⟨rfl, hlt⟩ := rng_get hi
        have put6 : ∀ {QU : Unit → Env → Prop} {x : Slot}, QU () [.brw d2, .val (.int many), .own (.lst (row.map D.int)), s3, .val (.int thin), .own (.lst ((ixs.map (prOf row)).map tupI)), x, s7] → wp (put 6 x) [.brw d2, .val (.int many), .own (.lst (row.map D.int)), s3, .val (.int thin), .own (.lst ((ixs.map (prOf row)).map tupI)), s6, s7] QU := fun {QU x} q => by
          rcases hs6 with rfl | ⟨u, rfl⟩
          · exact wi_pno rfl q
          · exact wi_pval rfl q
        walk_at "st"
        refine put6 ?_
        walk_at "st"
        refine onR_int (big62_of (by omega) (by omega)) ?_
        refine onR_int (big62_of h0 (by omega)) ?_
        refine forGo_inv (fun j r => ∃ (d2 : D) (ixs : List (Nat × Nat)) (s7 : Slot), TOk cs (b + 10 + 8 * i + j) d2 ∧ ixs.Nodup ∧ (∀ q ∈ ixs, q.1 < q.2 ∧ q.2 < many.toNat ∧ (q.1 < i ∨ (q.1 = i ∧ q.2 < i + 1 + j))) ∧ ixs.length ≤ 8 * i + j ∧ (s7 = Slot.no ∨ ∃ u, s7 = Slot.val u) ∧
          r = [.brw d2, .val (.int many), .own (.lst (row.map D.int)), s3, .val (.int thin), .own (.lst ((ixs.map (prOf row)).map tupI)), .val (.int (0 + (i : Int))), s7]) ?_ ?_ ⟨d2, ixs, s7, t2, nd, fun q h => ⟨(hq q h).1, (hq q h).2.1, .inl (hq q h).2.2⟩, hil, hs7, rfl⟩
        · clear hq hs7 nd t2 put6 hil
          rintro j u r hj ⟨d2, ixs, s7, t2, nd, hq, hil, hs7, rfl⟩
          obtain ⟨rfl, hlt2⟩ := rng_get hj
          have put7 : ∀ {QU : Unit → Env → Prop} {x : Slot}, QU () [.brw d2, .val (.int many), .own (.lst (row.map D.int)), s3, .val (.int thin), .own (.lst ((ixs.map (prOf row)).map tupI)), .val (.int (0 + (i : Int))), x] → wp (put 7 x) [.brw d2, .val (.int many), .own (.lst (row.map D.int)), s3, .val (.int thin), .own (.lst ((ixs.map (prOf row)).map tupI)), .val (.int (0 + (i : Int))), s7] QU := fun {QU x} q => by
            rcases hs7 with rfl | ⟨u, rfl⟩
            · exact wi_pno rfl q
            · exact wi_pval rfl q
          walk_at "st"
          refine put7 ?_
          walk_at "st"
          refine wp_pickB rfl t2 (by omega) thin0 thin1 fun k d3 k0 k1 t3 => ?_
          walk_at "st"
          by_cases hk : k = 0
          · refine wi_ifT (decide_eq_true hk) ?_
            walk_at "st"
            apply onO_of (oIx_ints (by omega) (by rw [List.length_map]; omega))
            walk_at "st"
            apply onO_of (oIx_ints (by omega) (by rw [List.length_map]; omega))
            walk_at "st"
            have e1 : (0 + (i : Int)).toNat = i := by omega
            have e2 : (0 + (i : Int) + 1 + (j : Int)).toNat = i + 1 + j := by omega
            have ap : mAppend (.lst ((ixs.map (prOf row)).map tupI)) [.tup [.int (row.getD (0 + (i : Int)).toNat 0), .int (row.getD (0 + (i : Int) + 1 + (j : Int)).toNat 0)]] = some (.lst (((ixs ++ [(i, i + 1 + j)]).map (prOf row)).map tupI), .non) := by
              rw [e1, e2]
              show (if ((ixs.map (prOf row)).map tupI).length < line then some (D.lst (((ixs.map (prOf row)).map tupI) ++ [D.tup [.int (row.getD i 0), .int (row.getD (i + 1 + j) 0)]]), D.non) else none) = _
              have ln : ((ixs.map (prOf row)).map tupI).length < line := by
                rw [List.length_map, List.length_map]
                have : ixs.length < 100 := by omega
                exact Nat.lt_trans this (by decide)
              rw [if_pos ln]
              simp [prOf, tupI]
            refine wi_mown rfl ap ?_
            walk_at "st"
            refine ⟨d3, ixs ++ [(i, i + 1 + j)], _, t3.mono (by omega), ?_, ?_, by rw [List.length_append]; show ixs.length + 1 ≤ _; omega, .inr ⟨_, rfl⟩, rfl⟩
            · refine List.nodup_append.mpr ⟨nd, by simp, fun x hx y hy => ?_⟩
              have hy : y = (i, i + 1 + j) := by simpa using hy
              rintro rfl
              have := (hq _ hx).2.2
              rw [hy] at this
              simp at this
            · intro q hm
              rcases List.mem_append.mp hm with z | z
              · have := hq q z
                exact ⟨this.1, this.2.1, by omega⟩
              · have z : q = (i, i + 1 + j) := by simpa using z
                subst z
                exact ⟨by show i < i + 1 + j; omega, by show i + 1 + j < many.toNat; omega, .inr ⟨rfl, by show i + 1 + j < i + 1 + (j + 1); omega⟩⟩
          · refine wi_ifF (by simpa using hk) ?_
            walk_at "st"
            exact ⟨d3, ixs, _, t3.mono (by omega), nd, fun q hm => ⟨(hq q hm).1, (hq q hm).2.1, by have := (hq q hm).2.2; omega⟩, by omega, .inr ⟨_, rfl⟩, rfl⟩
        · rintro r ⟨d2, ixs, s7, t2, nd, hq, hil, hs7, rfl⟩
          rw [rng_len] at t2 hq hil
          refine ⟨d2, ixs, _, s7, t2.mono (by omega), nd, fun q hm => ⟨(hq q hm).1, (hq q hm).2.1, by have := (hq q hm).2.2; omega⟩, by omega, .inr ⟨_, rfl⟩, hs7, rfl⟩
      · rintro r ⟨d2, ixs, s6, s7, t2, nd, hq, hil, hs6, hs7, rfl⟩
        rw [rng_len] at t2 hq
        walk_at "st"
        apply onO_of (oSorted_rows _)
        walk_at "st"
        refine ⟨_, d2, pr_of hrow.1 hl hrow.2 nd fun q hm => ⟨(hq q hm).1, (hq q hm).2.1⟩, t2.mono (by omega), rfl, rfl⟩
  obtain ⟨x, r, e, ps, d', q0, q1, rfl, rfl⟩ := z
  exact ⟨ps, d', q0, q1, e⟩
end LW

end

section
set_option Elab.async false
set_option linter.all false
set_option maxRecDepth 100000
/-! The law's own closing. -/
namespace LW
open DL
theorem rows_bd {many : Int} {L : List (Int × Int)} (h : ∀ q ∈ L, 0 ≤ q.1 ∧ q.1 < many ∧ 0 ≤ q.2 ∧ q.2 < many) (hm : many ≤ 8) : rowsOk (L.map rw2) = true := by
  have ok : ∀ q ∈ L, rowOk 2 (rw2 q) = true := fun q hq => by
    obtain ⟨a, b, c, d⟩ := h q hq
    unfold rowOk rw2
    simp
    omega
  cases L with
  | nil => rfl
  | cons x L =>
    show ((x :: L).map rw2).all (rowOk 2) = true
    exact List.all_eq_true.mpr fun y hy => by
      obtain ⟨q, hq, rfl⟩ := List.mem_map.mp hy
      exact ok q hq
theorem rows?_pD : ∀ L : List (Int × Int), rows? (L.map pD) = some (L.map rw2)
  | [] => rfl
  | q :: L => by
    show (match ints? [.int q.1, .int q.2], rows? (L.map pD) with
      | some (n :: ns), some nss => some ((n :: ns) :: nss)
      | _, _ => none) = _
    rw [rows?_pD L]
    rfl
theorem srtSet_ok {many : Int} {L : List (Int × Int)} (hm : many ≤ 8) (h : ∀ q ∈ L, (0 ≤ q.1 ∧ q.1 < many ∧ 0 ≤ q.2 ∧ q.2 < many) ∧ q.1 ≠ q.2) : srtSet (L.map pD) = some (.tmp (.lst ((sset L).map pD))) := by
  unfold srtSet
  rw [rows?_pD]
  have few : (dups (L.map rw2)).length < 63 := by
    have z : (sset L).length ≤ 56 := few_pairs hm (by
      have a := sset_asc L
      exact (List.pairwise_map.mp a).imp fun {x y} hab e => by subst e; exact List.lt_irrefl _ hab) fun q hq => h q (mem_sset.mp hq)
    have e := congrArg List.length (sset_rows L)
    rw [List.length_map] at e
    have e2 : (sortSet (L.map rw2)).length = (dups (L.map rw2)).length := (sortRows_perm _).length_eq
    omega
  simp only
  rw [if_pos ⟨rows_bd (fun q hq => (h q hq).1) hm, few⟩, map_pD, sset_rows]
/-- what one turn of the closing adds -/
def more (L : List (Int × Int)) : List (Int × Int) := L.flatMap fun p => (L.filter fun q => decide (q.1 = p.2)).map fun q => (p.1, q.2)
theorem mem_more {L : List (Int × Int)} {q : Int × Int} : q ∈ more L ↔ ∃ b, (q.1, b) ∈ L ∧ (b, q.2) ∈ L := by
  unfold more
  rw [List.mem_flatMap]
  constructor
  · rintro ⟨p, hp, hq⟩
    obtain ⟨s, hs, rfl⟩ := List.mem_map.mp hq
    obtain ⟨h1, h2⟩ := List.mem_filter.mp hs
    have e : s.1 = p.2 := of_decide_eq_true h2
    exact ⟨p.2, hp, e ▸ h1⟩
  · rintro ⟨b, h1, h2⟩
    exact ⟨(q.1, b), h1, List.mem_map.mpr ⟨(b, q.2), List.mem_filter.mpr ⟨h2, decide_eq_true rfl⟩, rfl⟩⟩
/-- all paths of at most m pairs -/
def Upto (ps L : List (Int × Int)) (m : Nat) : Prop := ∀ q, q ∈ L ↔ ∃ n, n < m ∧ Pn ps n q.1 q.2
theorem upto_step {ps L : List (Int × Int)} {m : Nat} (hm : 1 ≤ m) (h : Upto ps L m) : Upto ps (sset (L ++ more L)) (2 * m) := fun q => by
  rw [mem_sset, List.mem_append, mem_more, h]
  constructor
  · rintro (⟨n, h1, h2⟩ | ⟨b, h1, h2⟩)
    · exact ⟨n, by omega, h2⟩
    · obtain ⟨n, n1, n2⟩ := (h _).mp h1
      obtain ⟨k, k1, k2⟩ := (h _).mp h2
      exact ⟨n + k + 1, by omega, Pn.join n2 k2⟩
  · rintro ⟨n, h1, h2⟩
    by_cases c : n < m
    · exact .inl ⟨n, c, h2⟩
    · have e : n = (m - 1) + (n - m) + 1 := by omega
      rw [e] at h2
      obtain ⟨b, p1, p2⟩ := Pn.part h2
      exact .inr ⟨b, (h _).mpr ⟨m - 1, by omega, p1⟩, (h _).mpr ⟨n - m, by omega, p2⟩⟩
/-- what one pair adds -/
def addOf (L : List (Int × Int)) (p : Int × Int) : List (Int × Int) := (L.filter fun q => decide (q.1 = p.2)).map fun q => (p.1, q.2)
def pFst (c : Int) (d : D) : Bool := match d with
  | .tup [.int f, .int _] => decide (f = c)
  | _ => false
def gSnd (a : Int) (d : D) : D := match d with
  | .tup [.int _, .int o] => .tup [.int a, .int o]
  | d => d
theorem add_eq (L : List (Int × Int)) (a c : Int) : ((L.map pD).filter (pFst c)).map (gSnd a) = (addOf L (a, c)).map pD := by
  unfold addOf
  rw [List.filter_map, List.map_map, List.map_map]
  rfl
theorem addOf_len (L : List (Int × Int)) (p : Int × Int) : (addOf L p).length ≤ L.length := by
  unfold addOf
  rw [List.length_map]
  exact List.length_filter_le _ _
theorem add_pD {A B : List (Int × Int)} (h : A.length + B.length ≤ 100000) : oAdd (.lst (A.map pD)) (.lst (B.map pD)) = some (.tmp (.lst ((A ++ B).map pD))) := by
  show (if (A.map pD).length + (B.map pD).length ≤ line then some (RV.tmp (.lst (A.map pD ++ B.map pD))) else none) = _
  rw [if_pos (by rw [List.length_map, List.length_map]; exact Nat.le_trans h (by decide)), List.map_append]
def pSame (d : D) : Bool := match d with
  | .tup [.int x, .int y] => decide (x = y)
  | _ => false
end LW

end

section
set_option Elab.async false
set_option linter.all false
set_option maxRecDepth 100000
/-! The web's own closing: a dict of pairs. -/
namespace LW
open DL
/-- a dict of pairs -/
def dP (K : List (Int × Int)) : D := .dic true (K.map fun q => (pD q, .bl true))
theorem dkey_pD (q : Int × Int) : dkey (pD q) = some (.row [.inl q.1, .inl q.2]) := rfl
theorem dkey_eq {q s : Int × Int} : (dkey (pD q) == dkey (pD s)) = decide (q = s) := by
  rw [dkey_pD, dkey_pD]
  by_cases h : q = s
  · subst h; simp
  · rw [decide_eq_false h]
    have : ¬ (q.1 = s.1 ∧ q.2 = s.2) := fun z => h (Prod.ext z.1 z.2)
    simp
    intro z
    exact fun w => this ⟨z, w⟩
theorem look_dP (K : List (Int × Int)) (q : Int × Int) : (look (K.map fun q => (pD q, D.bl true)) (.row [.inl q.1, .inl q.2])).isSome = decide (q ∈ K) := by
  unfold look
  rw [Option.isSome_map, ← dkey_pD q]
  induction K with
  | nil => rfl
  | cons s K ih =>
    rw [List.map_cons, List.find?_cons]
    have e : (dkey ((pD s, D.bl true) : D × D).1 == dkey (pD q)) = decide (s = q) := dkey_eq
    rw [e]
    by_cases h : s = q
    · subst h; simp
    · have : ¬ q = s := fun e => h e.symm
      rw [decide_eq_false h]
      simp only
      rw [ih]
      simp [this]
/-- a pair comes in -/
def inK (K : List (Int × Int)) (q : Int × Int) : List (Int × Int) := if q ∈ K then K else K ++ [q]
theorem stor_dP (K : List (Int × Int)) (q : Int × Int) : stor (K.map fun q => (pD q, D.bl true)) (pD q) (.bl true) = (inK K q).map fun q => (pD q, D.bl true) := by
  unfold stor inK
  have e : ((K.map fun q => (pD q, D.bl true)).any fun p => dkey p.1 == dkey (pD q)) = decide (q ∈ K) := by
    rw [List.any_map]
    induction K with
    | nil => rfl
    | cons s K ih =>
      rw [List.any_cons, ih]
      show (dkey (pD s) == dkey (pD q) || _) = _
      rw [dkey_eq]
      by_cases h : s = q
      · subst h; simp
      · have : ¬ q = s := fun e => h e.symm
        simp [h, this]
  rw [e]
  by_cases h : q ∈ K
  · rw [if_pos (decide_eq_true h), if_pos h, List.map_map]
    refine List.map_congr_left fun s hs => ?_
    show (if dkey (pD s) == dkey (pD q) then (pD s, D.bl true) else (pD s, D.bl true)) = _
    split <;> rfl
  · rw [if_neg (by simpa using h), if_neg h, List.map_append]
    rfl
theorem mem_inK {K : List (Int × Int)} {q s : Int × Int} : s ∈ inK K q ↔ s = q ∨ s ∈ K := by
  unfold inK
  split
  · rename_i h
    exact ⟨.inr, fun z => z.elim (fun e => e ▸ h) id⟩
  · rw [List.mem_append, List.mem_singleton]
    exact Or.comm
theorem nd_inK {K : List (Int × Int)} {q : Int × Int} (h : K.Nodup) : (inK K q).Nodup := by
  unfold inK
  split
  · exact h
  · rename_i n
    exact List.nodup_append.mpr ⟨h, by simp, fun x hx y hy e => n (by rw [List.mem_singleton] at hy; rw [← hy, ← e]; exact hx)⟩
theorem mPut_dP {K : List (Int × Int)} {a c : Int} (h : K.length < 1000) : mPut (dP K) [.tup [.int a, .int c], .bl true] = some (dP (inK K (a, c)), .non) := by
  show (match kkey true (pD (a, c)) with
    | some _ => if (K.map fun q => (pD q, D.bl true)).length < line then some (D.dic true (stor (K.map fun q => (pD q, D.bl true)) (pD (a, c)) (.bl true)), D.non) else none
    | none => none) = _
  show (if (K.map fun q => (pD q, D.bl true)).length < line then some (D.dic true (stor (K.map fun q => (pD q, D.bl true)) (pD (a, c)) (.bl true)), D.non) else none) = _
  rw [if_pos (by rw [List.length_map]; exact Nat.lt_trans h (by decide)), stor_dP]
  rfl
end LW

end

section
set_option Elab.async false
set_option linter.all false
set_option maxRecDepth 100000
/-! The web's own closing is the closure. -/
namespace DL
section
variable {r : Env} {Q : RV → Env → Prop} {t : Tg} {is : List Nat}
theorem wp_dcomp {it : M (List D)} {c : M Bool} {kd : Bool} {k v : M RV} (h : wp it r fun ds r1 => is.all (plainAt r1) = true ∧ wp (wip is) r1 fun _ rw => wp (dcGo is t c kd k v ds []) rw fun kvs r' => Q (.tmp (.dic kd kvs)) (rest is r1 r')) : wp (eDComp is t it c kd k v) r Q := by
  unfold eDComp
  refine wp_bnd.mpr (wp_mono h fun ds r1 ⟨hp, h1⟩ => wp_bnd.mpr (wp_inBlk hp (wp_mono h1 fun _ rw h2 => wp_mono h2 fun ys r' q => wp_pur.mpr q)))
theorem dcGo_inv {QL : List (D × D) → Env → Prop} {c : M Bool} {kd : Bool} {k v : M RV} (I : Nat → List (D × D) → Env → Prop) {ds : List D}
    (step : ∀ i d acc r, ds[i]? = some d → I i acc r → wp (asg t d) r fun _ r1 => wp c r1 fun x r2 => if x = true then wp (eF k) r2 fun y r3 => wp (eF v) r3 fun z r4 => wp (wip is) r4 fun _ r5 => ((kkey kd y).isSome = true ∧ acc.length < line) ∧ I (i + 1) (stor acc y z) r5 else wp (wip is) r2 fun _ r4 => I (i + 1) acc r4)
    (done : ∀ acc r, I ds.length acc r → QL acc r) (h : I 0 [] r) : wp (dcGo is t c kd k v ds []) r QL := by
  have go : ∀ (n : Nat) (i : Nat) (acc : List (D × D)) (r : Env), i + n = ds.length → I i acc r → wp (dcGo is t c kd k v (ds.drop i) acc) r QL := by
    intro n
    induction n with
    | zero =>
      intro i acc r hi h
      have e : i = ds.length := by omega
      subst e
      rw [List.drop_length]
      exact wp_pur.mpr (done acc r h)
    | succ n ih =>
      intro i acc r hi h
      have hlt : i < ds.length := by omega
      rw [List.drop_eq_getElem_cons hlt]
      refine wp_bnd.mpr (wp_mono (step i _ acc r (List.getElem?_eq_getElem hlt) h) fun _ r1 h1 => wp_bnd.mpr (wp_mono h1 fun x r2 h2 => ?_))
      rw [wp_ite]
      split
      · rename_i hx
        rw [if_pos hx] at h2
        refine wp_bnd.mpr (wp_mono h2 fun y r3 h3 => wp_bnd.mpr (wp_mono h3 fun z r4 h4 => wp_bnd.mpr (wp_mono h4 fun _ r5 h5 => ?_)))
        rw [if_pos h5.1]
        exact ih (i + 1) _ r5 (by omega) h5.2
      · rename_i hx
        rw [if_neg hx] at h2
        refine wp_bnd.mpr (wp_mono h2 fun _ r4 h4 => ?_)
        exact ih (i + 1) _ r4 (by omega) h4
  exact go ds.length 0 [] r (Nat.zero_add _) h
end
/-- paths whose inner names are below m -/
def Vm (ps : List (Int × Int)) : Nat → Int → Int → Prop
  | 0, a, c => (a, c) ∈ ps
  | m + 1, a, c => Vm ps m a c ∨ (Vm ps m a m ∧ Vm ps m m c)
theorem Vm.base {ps : List (Int × Int)} {a c : Int} (h : (a, c) ∈ ps) : ∀ m, Vm ps m a c
  | 0 => h
  | m + 1 => .inl (Vm.base h m)
theorem Vm.join {ps : List (Int × Int)} : ∀ {m b : Nat} {a c : Int}, b < m → Vm ps m a b → Vm ps m b c → Vm ps m a c
  | 0, b, a, c, h, _, _ => absurd h (Nat.not_lt_zero _)
  | m + 1, b, a, c, h, h1, h2 => by
    by_cases e : b = m
    · subst e
      exact .inr ⟨h1.elim id And.left, h2.elim id And.right⟩
    · have hb : b < m := by omega
      rcases h1 with h1 | ⟨p1, p2⟩
      · rcases h2 with h2 | ⟨q1, q2⟩
        · exact .inl (Vm.join hb h1 h2)
        · exact .inr ⟨Vm.join hb h1 q1, q2⟩
      · rcases h2 with h2 | ⟨q1, q2⟩
        · exact .inr ⟨p1, Vm.join hb p2 h2⟩
        · exact .inr ⟨p1, q2⟩
theorem Vm.of_pn {ps : List (Int × Int)} {m : Nat} (hb : ∀ q ∈ ps, 0 ≤ q.2 ∧ q.2 < (m : Int)) : ∀ {n : Nat} {a c : Int}, Pn ps n a c → Vm ps m a c
  | 0, a, c, h => Vm.base h m
  | n + 1, a, c, ⟨b, h1, h2⟩ => by
    obtain ⟨b0, b1⟩ := hb (a, b) h1
    have e : b = (b.toNat : Int) := by
      have : 0 ≤ b := b0
      omega
    have lt : b.toNat < m := by
      have : b < (m : Int) := b1
      have : 0 ≤ b := b0
      omega
    have v1 := Vm.base h1 m
    have v2 := Vm.of_pn hb h2
    rw [e] at v1 v2
    exact Vm.join lt v1 v2
theorem dups_nodup : ∀ {l : List (List Int)}, l.Nodup → dups l = l
  | [], _ => rfl
  | x :: l, h => by
    obtain ⟨h1, h2⟩ := List.nodup_cons.mp h
    unfold dups
    rw [dups_nodup h2, if_neg h1]
end DL
namespace LW
open DL
theorem nd_rows {K : List (Int × Int)} (h : K.Nodup) : (K.map rw2).Nodup := List.pairwise_map.mpr (h.imp fun {a b} ne e => ne (by have := congrArg un2 e; exact this))
theorem oSorted_pD {K : List (Int × Int)} (h : K.Nodup) : oSorted (.lst (K.map pD)) = some (.tmp (.lst ((sset K).map pD))) := by
  have e : sortRows (K.map rw2) = (sset K).map rw2 := by
    rw [sset_rows]
    unfold sortSet
    rw [dups_nodup (nd_rows h)]
  rw [map_pD, oSorted_rows, e, map_pD]
theorem oAny_no (l : List D) : oAny (.lst (l.map fun _ => D.bl false)) = some (.fz (.bl false)) := by
  have b : bools? (l.map fun _ => D.bl false) = some (l.map fun _ => false) := by
    induction l with
    | nil => rfl
    | cons x l ih =>
      show (bools? (l.map fun _ => D.bl false)).map (false :: ·) = _
      rw [ih]; rfl
  show (bools? (l.map fun _ => D.bl false)).map (fun bs => RV.fz (.bl (bs.any id))) = _
  rw [b]
  simp
theorem vm_tr {ps : List (Int × Int)} : ∀ {m : Nat} {a c : Int}, Vm ps m a c → Tr ps a c
  | 0, a, c, h => ⟨0, h⟩
  | m + 1, a, c, h => by
    rcases h with h | ⟨h1, h2⟩
    · exact vm_tr h
    · obtain ⟨n, p⟩ := vm_tr h1
      obtain ⟨k, q⟩ := vm_tr h2
      exact ⟨_, Pn.join p q⟩
theorem vm_bd {many : Int} {ps : List (Int × Int)} (ha : Acy many ps) {m : Nat} {a c : Int} (h : Vm ps m a c) : 0 ≤ c ∧ c < many := by
  obtain ⟨n, p⟩ := vm_tr h
  exact (p.bd ha).2.2
theorem vm_ad {many : Int} {ps : List (Int × Int)} (ha : Acy many ps) {m : Nat} {a c : Int} (h : Vm ps m a c) : 0 ≤ a ∧ a < many := by
  obtain ⟨n, p⟩ := vm_tr h
  exact ⟨(p.bd ha).1, (p.bd ha).2.1⟩
theorem wclosed_ok {many : Int} {ps : List (Int × Int)} (ha : Acy many ps) (h0 : 0 ≤ many) (hm : many ≤ 8) : ∃ L, IsCl ps L ∧ f_closed [.val (.int many), .val (.tup (ps.map pD))] = .ok (.fz (.tup (L.map pD))) [.val (.int many), .val (.tup (ps.map pD))] := by
  have tr1 : ∀ q ∈ ps, Tr ps q.1 q.2 := fun q hq => ⟨0, hq⟩
  have few : ∀ {K : List (Int × Int)}, K.Nodup → (∀ q ∈ K, Tr ps q.1 q.2) → K.length ≤ 56 := fun {K} hn ht => few_pairs hm hn fun q hq => by
    obtain ⟨n, t⟩ := ht q hq
    exact ⟨t.bd ha, Tr.ne ha ⟨n, t⟩⟩
  have z : ∃ x r, f_closed [.val (.int many), .val (.tup (ps.map pD))] = .ok x r ∧ ∃ L, IsCl ps L ∧ x = .fz (.tup (L.map pD)) ∧ r = [.val (.int many), .val (.tup (ps.map pD))] := by
    refine fn_ok (Q := fun x r => ∃ L, IsCl ps L ∧ x = .fz (.tup (L.map pD)) ∧ r = [.val (.int many), .val (.tup (ps.map pD))]) rfl ?_
    show wp _ [.val (.int many), .val (.tup (ps.map pD)), .no, .no, .no, .no, .no, .no] _
    walk_at "st"
    refine wp_dcomp ?_
    walk_at "st"
    refine ⟨rfl, ?_⟩
    walk_at "st"
    refine dcGo_inv (fun i acc r => ∃ K : List (Int × Int), acc = (K.map fun q => (pD q, D.bl true)) ∧ K.Nodup ∧ (∀ q, q ∈ K ↔ q ∈ ps.take i) ∧ r = [.val (.int many), .val (.tup (ps.map pD)), .no, .no, .no, .no, .no, .no]) ?_ ?_ ⟨[], rfl, List.nodup_nil, by simp, rfl⟩
    · rintro i d acc r hd ⟨K, rfl, nd, hK, rfl⟩
      rw [List.getElem?_map] at hd
      cases hq : ps[i]? with
      | none => rw [hq] at hd; cases hd
      | some q =>
        rw [hq] at hd
        cases hd
        have tk : ps.take (i + 1) = ps.take i ++ [q] := by rw [List.take_succ, hq]; rfl
        walk_at "st"
        refine wi_ifT rfl ?_
        walk_at "st"
        refine ⟨⟨rfl, ?_⟩, inK K q, stor_dP K q, nd_inK nd, fun s => ?_, rfl⟩
        · rw [List.length_map]
          have := few nd fun s hs => tr1 s (List.mem_of_mem_take ((hK s).mp hs))
          exact Nat.lt_of_le_of_lt this (by decide)
        · rw [mem_inK, hK, tk, List.mem_append, List.mem_singleton]
          exact Or.comm
    · rintro acc r ⟨K, rfl, nd, hK, rfl⟩
      rw [List.length_map, List.take_length] at hK
      walk_at "st"
      have bm : big62 many = true := big62_of h0 (by omega)
      refine onR_int bm ?_
      have sound : ∀ {m : Nat} {a c : Int}, Tr ps a m → Tr ps m c → Tr ps a c := fun ⟨n, h⟩ ⟨k, h'⟩ => ⟨_, Pn.join h h'⟩
      refine forGo_inv (fun m r => ∃ (K : List (Int × Int)) (s3 s4 s5 : Slot), K.Nodup ∧ (∀ q ∈ K, Tr ps q.1 q.2) ∧ (∀ a c, Vm ps m a c → (a, c) ∈ K) ∧ Frs s3 ∧ Frs s4 ∧ Frs s5 ∧
        r = [.val (.int many), .val (.tup (ps.map pD)), .own (dP K), s3, s4, s5, .no, .no]) ?_ ?_ ⟨K, .no, .no, .no, nd, fun q hq => tr1 q ((hK q).mp hq), fun a c h => (hK (a, c)).mpr h, .no, .no, .no, rfl⟩
      · rintro m u r hu ⟨K, s3, s4, s5, nd, hs, hv, f3, f4, f5, rfl⟩
        obtain ⟨rfl, hlt⟩ := rng_get hu
        rw [show (0 + (m : Int)) = (m : Int) by omega]
        walk_at "st"
        refine wi_frs rfl f3 ?_
        walk_at "st"
        refine onR_int bm ?_
        refine forGo_inv (fun i r => ∃ (K : List (Int × Int)) (s4 s5 : Slot), K.Nodup ∧ (∀ q ∈ K, Tr ps q.1 q.2) ∧ (∀ a c, Vm ps m a c → (a, c) ∈ K) ∧ (∀ a c, a < (i : Int) → 0 ≤ a → Vm ps (m + 1) a c → (a, c) ∈ K) ∧ Frs s4 ∧ Frs s5 ∧
          r = [.val (.int many), .val (.tup (ps.map pD)), .own (dP K), .val (.int m), s4, s5, .no, .no]) ?_ ?_ ⟨K, s4, s5, nd, hs, hv, fun a c h h' => by omega, f4, f5, rfl⟩
        · clear nd hs hv f4 f5 hK
          rintro i u r hu ⟨K, s4, s5, nd, hs, hv, hw, f4, f5, rfl⟩
          obtain ⟨rfl, hlt2⟩ := rng_get hu
          rw [show (0 + (i : Int)) = (i : Int) by omega]
          walk_at "st"
          refine wi_frs rfl f4 ?_
          walk_at "st"
          refine onR_int bm ?_
          refine forGo_inv (fun j r => ∃ (K : List (Int × Int)) (s5 : Slot), K.Nodup ∧ (∀ q ∈ K, Tr ps q.1 q.2) ∧ (∀ a c, Vm ps m a c → (a, c) ∈ K) ∧ (∀ a c, a < (i : Int) → 0 ≤ a → Vm ps (m + 1) a c → (a, c) ∈ K) ∧ (∀ c, c < (j : Int) → 0 ≤ c → Vm ps (m + 1) i c → ((i : Int), c) ∈ K) ∧ Frs s5 ∧
            r = [.val (.int many), .val (.tup (ps.map pD)), .own (dP K), .val (.int m), .val (.int i), s5, .no, .no]) ?_ ?_ ⟨K, s5, nd, hs, hv, hw, fun c h h' => by omega, f5, rfl⟩
          · clear nd hs hv hw f4 f5
            rintro j u r hu ⟨K, s5, nd, hs, hv, hw, hx, f5, rfl⟩
            obtain ⟨rfl, hlt3⟩ := rng_get hu
            rw [show (0 + (j : Int)) = (j : Int) by omega]
            walk_at "st"
            refine wi_frs rfl f5 ?_
            walk_at "st"
            have keep : ¬ (((i : Int), (m : Int)) ∈ K ∧ ((m : Int), (j : Int)) ∈ K) → ∀ c, c < ((j + 1 : Nat) : Int) → 0 ≤ c → Vm ps (m + 1) i c → ((i : Int), c) ∈ K := fun hn c hc hc0 hvm => by
              by_cases e : c < (j : Int)
              · exact hx c e hc0 hvm
              · have ec : c = (j : Int) := by omega
                subst ec
                rcases hvm with h | ⟨h1, h2⟩
                · exact hv _ _ h
                · exact (hn ⟨hv _ _ h1, hv _ _ h2⟩).elim
            by_cases c1 : ((i : Int), (m : Int)) ∈ K
            · refine wi_ifT ((look_dP K ((i : Int), (m : Int))).trans (decide_eq_true c1)) ?_
              walk_at "st"
              by_cases c2 : ((m : Int), (j : Int)) ∈ K
              · refine wi_ifT ((look_dP K ((m : Int), (j : Int))).trans (decide_eq_true c2)) ?_
                walk_at "st"
                refine wi_mown rfl (mPut_dP (Nat.lt_of_le_of_lt (few nd hs) (by decide))) ?_
                walk_at "st"
                refine ⟨inK K (i, j), _, nd_inK nd, fun q hq => ?_, fun a c h => mem_inK.mpr (.inr (hv a c h)), fun a c h h' h2 => mem_inK.mpr (.inr (hw a c h h' h2)), fun c hc hc0 hvm => ?_, .val, rfl⟩
                · rcases mem_inK.mp hq with rfl | hq
                  · exact sound (m := m) (a := (i : Int)) (c := (j : Int)) (hs ((i : Int), (m : Int)) c1) (hs ((m : Int), (j : Int)) c2)
                  · exact hs q hq
                · by_cases e : c = (j : Int)
                  · subst e; exact mem_inK.mpr (.inl rfl)
                  · exact mem_inK.mpr (.inr (hx c (by omega) hc0 hvm))
              · refine wi_ifF (fun z => c2 (of_decide_eq_true ((look_dP K ((m : Int), (j : Int))).symm.trans z))) ?_
                walk_at "st"
                exact ⟨K, _, nd, hs, hv, hw, keep fun z => c2 z.2, .val, rfl⟩
            · refine wi_ifF (fun z => c1 (of_decide_eq_true ((look_dP K ((i : Int), (m : Int))).symm.trans z))) ?_
              walk_at "st"
              refine wi_ifF (by decide) ?_
              walk_at "st"
              exact ⟨K, _, nd, hs, hv, hw, keep fun z => c1 z.1, .val, rfl⟩
          · rintro r ⟨K, s5, nd, hs, hv, hw, hx, f5, rfl⟩
            rw [rng_len] at hx
            refine ⟨K, _, s5, nd, hs, hv, fun a c h h' hvm => ?_, .val, f5, rfl⟩
            by_cases e : a < (i : Int)
            · exact hw a c e h' hvm
            · have ea : a = (i : Int) := by omega
              subst ea
              have cb : 0 ≤ c ∧ c < many := vm_bd ha hvm
              exact hx c (by omega) cb.1 hvm
        · rintro r ⟨K, s4, s5, nd, hs, hv, hw, f4, f5, rfl⟩
          rw [rng_len] at hw
          refine ⟨K, _, s4, s5, nd, hs, fun a c hvm => ?_, .val, f4, f5, rfl⟩
          have ab : 0 ≤ a ∧ a < many := vm_ad ha hvm
          exact hw a c (by omega) ab.1 hvm
      · rintro r ⟨K, s3, s4, s5, nd, hs, hv, f3, f4, f5, rfl⟩
        rw [rng_len] at hv
        have mem : ∀ q, q ∈ K ↔ Tr ps q.1 q.2 := fun q => ⟨hs q, fun ⟨n, h⟩ => hv q.1 q.2 (Vm.of_pn (fun q hq => by have := ha.bd q hq; omega) h)⟩
        walk_at "st"
        refine onR_int bm ?_
        refine ⟨rfl, ?_⟩
        walk_at "st"
        refine wp_mono (compGo_pure (fun _ => true) (fun _ => .bl false) ?_ fun d hd => ?_) fun ys r' ⟨h1, h2⟩ => ?_
        · rw [rng_len]
          have : (many - 0).toNat ≤ 8 := by omega
          exact Nat.le_trans this (by decide)
        · obtain ⟨i, hi⟩ := List.mem_iff_getElem?.mp hd
          obtain ⟨rfl, hlt⟩ := rng_get hi
          walk_at "st"
          refine ⟨rfl, ?_⟩
          refine wi_ifT rfl ?_
          walk_at "st"
          have no : ¬ ((0 + (i : Int)), (0 + (i : Int))) ∈ K := fun h => Tr.ne ha (hs _ h) rfl
          refine ⟨congrArg D.bl ((look_dP K ((0 + (i : Int)), (0 + (i : Int)))).trans (decide_eq_false no)), ?_⟩
          walk_at "st"
        · rw [List.filter_eq_self.mpr fun _ _ => rfl] at h1
          subst h1 h2
          walk_at "st"
          apply onO_of (oAny_no _)
          walk_at "st"
          refine wi_ifF (by decide) ?_
          walk_at "st"
          have e1 : (K.map fun q => (pD q, D.bl true)).map (·.1) = K.map pD := by rw [List.map_map]; rfl
          rw [e1]
          apply onO_of (oSorted_pD nd)
          walk_at "st"
          exact ⟨sset K, ⟨sset_asc K, fun q => mem_sset.trans (mem q)⟩, rfl, rfl⟩
  obtain ⟨x, r, e, L, q0, rfl, rfl⟩ := z
  exact ⟨L, q0, e⟩
end LW

end

section
set_option Elab.async false
set_option linter.all false
set_option maxRecDepth 100000
/-! The checks of names and pairs. -/
namespace LW
open DL
theorem is_integer_ok (x : Int) : f_is_integer [.val (.int x)] = .ok (.fz (.bl true)) [.val (.int x)] := rfl
theorem is_within_ok (x lo hi : Int) : f_is_within [.val (.int x), .val (.int lo), .val (.int hi)] = .ok (.fz (.bl (decide (lo ≤ x) && decide (x ≤ hi)))) [.val (.int x), .val (.int lo), .val (.int hi)] := by
  have z : ∃ v r, f_is_within [.val (.int x), .val (.int lo), .val (.int hi)] = .ok v r ∧ (v = .fz (.bl (decide (lo ≤ x) && decide (x ≤ hi))) ∧ r = [.val (.int x), .val (.int lo), .val (.int hi)]) := by
    refine fn_ok (Q := fun v r => v = .fz (.bl (decide (lo ≤ x) && decide (x ≤ hi))) ∧ r = [.val (.int x), .val (.int lo), .val (.int hi)]) rfl ?_
    show wp _ [.val (.int x), .val (.int lo), .val (.int hi)] _
    walk_at "st"
    refine wp_callFn (by simp [locs]) rfl (is_integer_ok x) rfl ?_
    walk_at "st"
    refine wi_ifT rfl ?_
    walk_at "st"
    by_cases h : lo ≤ x
    · refine wi_ifT (decide_eq_true h) ?_
      walk_at "st"
      rw [decide_eq_true h, Bool.true_and]
      exact ⟨rfl, rfl⟩
    · refine wi_ifF (by simpa using h) ?_
      walk_at "st"
      rw [decide_eq_false h, Bool.false_and]
      exact ⟨rfl, rfl⟩
  obtain ⟨v, r, e, rfl, rfl⟩ := z
  exact e
theorem is_pair_ok (a c : Int) : f_is_pair [.val (.tup [.int a, .int c])] = .ok (.fz (.bl true)) [.val (.tup [.int a, .int c])] := rfl
end LW

end

section
set_option Elab.async false
set_option linter.all false
set_option maxRecDepth 100000
/-! The checks of names, lots and befores. -/
namespace LW
open DL
/-- a dict that holds just keys of a kind -/
def dS {α : Type} (f : α → D) (K : List α) : List (D × D) := K.map fun a => (f a, D.bl true)
section
variable {α : Type} [DecidableEq α] {f : α → D} {kf : α → DKey} (hk : ∀ a, dkey (f a) = some (kf a)) (hi : ∀ a b, kf a = kf b → a = b)
include hk hi
theorem dS_eq (a b : α) : (dkey (f a) == dkey (f b)) = decide (a = b) := by
  rw [hk, hk]
  by_cases h : a = b
  · subst h; simp
  · rw [decide_eq_false h]
    have : ¬ kf a = kf b := fun z => h (hi _ _ z)
    simpa using this
theorem stor_dS (K : List α) (a : α) : stor (dS f K) (f a) (.bl true) = dS f (if a ∈ K then K else K ++ [a]) := by
  have e : ((dS f K).any fun p => dkey p.1 == dkey (f a)) = decide (a ∈ K) := by
    unfold dS
    rw [List.any_map]
    induction K with
    | nil => rfl
    | cons s K ih =>
      rw [List.any_cons, ih]
      show (dkey (f s) == dkey (f a) || _) = _
      rw [dS_eq hk hi]
      by_cases h : s = a
      · subst h; simp
      · have : ¬ a = s := fun e => h e.symm
        simp [h, this]
  unfold stor
  rw [e]
  by_cases h : a ∈ K
  · rw [if_pos (decide_eq_true h), if_pos h]
    unfold dS
    rw [List.map_map]
    refine List.map_congr_left fun s hs => ?_
    show (if dkey (f s) == dkey (f a) then (f s, D.bl true) else (f s, D.bl true)) = _
    split <;> rfl
  · rw [if_neg (by simpa using h), if_neg h]
    unfold dS
    rw [List.map_append]
    rfl
end
/-- what comes in, once -/
def onceL {α : Type} [DecidableEq α] (K : List α) (a : α) : List α := if a ∈ K then K else K ++ [a]
theorem kI (a : Int) : dkey (.int a) = some (.one (.inl a)) := rfl
theorem kI_inj (a b : Int) (h : DKey.one (.inl a) = .one (.inl b)) : a = b := by cases h; rfl
theorem are_names_ok {many : Int} {ns : List Int} (h : ∀ x ∈ ns, 0 ≤ x ∧ x < many) (nd : ns.Nodup) (hl : ns.length ≤ 1000) : f_are_names [.val (.int many), .val (.tup (ns.map .int))] = .ok (.fz (.bl true)) [.val (.int many), .val (.tup (ns.map .int))] := by
  have z : ∃ v r, f_are_names [.val (.int many), .val (.tup (ns.map .int))] = .ok v r ∧ (v = .fz (.bl true) ∧ r = [.val (.int many), .val (.tup (ns.map .int))]) := by
    refine fn_ok (Q := fun v r => v = .fz (.bl true) ∧ r = [.val (.int many), .val (.tup (ns.map .int))]) rfl ?_
    show wp _ [.val (.int many), .val (.tup (ns.map .int)), .no] _
    walk_at "st"
    refine wi_ifF (by decide) ?_
    walk_at "st"
    refine ⟨rfl, ?_⟩
    walk_at "st"
    refine wp_mono (compGo_of D.int (fun _ => true) (fun _ => .bl true) (Nat.le_trans hl (by decide)) fun a ha => ?_) fun ys r' ⟨h1, h2⟩ => ?_
    · walk_at "st"
      refine ⟨rfl, ?_⟩
      refine wi_ifT rfl ?_
      walk_at "st"
      refine wp_callFn (by simp [locs]) rfl (is_within_ok a 0 (many - 1)) rfl ?_
      have e : (decide (0 ≤ a) && decide (a ≤ many - 1)) = true := by
        have := h a ha
        rw [Bool.and_eq_true]
        exact ⟨decide_eq_true this.1, decide_eq_true (by omega)⟩
      rw [e]
      walk_at "st"
      refine ⟨rfl, ?_⟩
      walk_at "st"
    · subst h1 h2
      rw [List.filter_eq_self.mpr fun _ _ => rfl]
      walk_at "st"
      apply onO_of (oAll_map (fun _ => true) ns)
      rw [List.all_eq_true.mpr fun _ _ => rfl]
      walk_at "st"
      refine wi_ifF (by decide) ?_
      walk_at "st"
      refine wp_dcomp ?_
      walk_at "st"
      refine ⟨rfl, ?_⟩
      walk_at "st"
      refine dcGo_inv (fun i acc r => acc = dS D.int (ns.take i) ∧ r = [.val (.int many), .val (.tup (ns.map .int)), .no]) ?_ ?_ ⟨rfl, rfl⟩
      · rintro i d acc r hd ⟨rfl, rfl⟩
        rw [List.getElem?_map] at hd
        cases hq : ns[i]? with
        | none => rw [hq] at hd; cases hd
        | some q =>
          rw [hq] at hd
          cases hd
          have tk : ns.take (i + 1) = ns.take i ++ [q] := by rw [List.take_succ, hq]; rfl
          walk_at "st"
          refine wi_ifT rfl ?_
          walk_at "st"
          refine ⟨⟨rfl, ?_⟩, ?_, rfl⟩
          · unfold dS
            rw [List.length_map]
            have : (ns.take i).length ≤ 1000 := by rw [List.length_take]; omega
            exact Nat.lt_of_le_of_lt this (by decide)
          · rw [stor_dS kI kI_inj, tk, if_neg]
            intro hm
            have nd' := nd
            rw [← List.take_append_drop (i + 1) ns, tk] at nd'
            have := (List.nodup_append.mp (List.nodup_append.mp nd').1).2.2 q hm q (by simp)
            exact this rfl
      · rintro acc r ⟨rfl, rfl⟩
        rw [List.length_map, List.take_length]
        walk_at "st"
        refine ⟨?_, rfl⟩
        have : decide (((dS D.int ns).length : Int) = ((ns.map D.int).length : Int)) = true := by
          unfold dS
          rw [List.length_map, List.length_map]
          simp
        rw [this]
  obtain ⟨v, r, e, rfl, rfl⟩ := z
  exact e
theorem is_ascending_ok {α : Type} {f : α → D} {l : List α} (hl : l.length ≤ 100000) (h : l.Pairwise fun a b => oLt (f a) (f b) = some (.fz (.bl true))) : f_is_ascending [.val (.tup (l.map f))] = .ok (.fz (.bl true)) [.val (.tup (l.map f))] := by
  have z : ∃ v r, f_is_ascending [.val (.tup (l.map f))] = .ok v r ∧ (v = .fz (.bl true) ∧ r = [.val (.tup (l.map f))]) := by
    refine fn_ok (Q := fun v r => v = .fz (.bl true) ∧ r = [.val (.tup (l.map f))]) rfl ?_
    show wp _ [.val (.tup (l.map f)), .no] _
    walk_at "st"
    refine onR_int rfl (onR_int ?_ ?_)
    · exact big62_of (by omega) (by rw [List.length_map]; omega)
    refine ⟨rfl, ?_⟩
    walk_at "st"
    refine wp_mono (compGo_pure (fun _ => true) (fun _ => .bl true) ?_ fun d hd => ?_) fun ys r' ⟨h1, h2⟩ => ?_
    · rw [rng_len, List.length_map]
      exact Nat.le_trans (show (((l.length : Int) - 1).toNat ≤ 100000) by omega) (by decide)
    · obtain ⟨i, hi⟩ := List.mem_iff_getElem?.mp hd
      obtain ⟨rfl, hlt⟩ := rng_get hi
      rw [List.length_map] at hlt
      have e1 : l[i]? = some (l[i]'(by omega)) := List.getElem?_eq_getElem _
      have e2 : l[i + 1]? = some (l[i + 1]'(by omega)) := List.getElem?_eq_getElem _
      have hp := List.pairwise_iff_getElem.mp h i (i + 1) (by omega) (by omega) (by omega)
      generalize l[i]'(by omega) = a at e1 hp
      generalize l[i + 1]'(by omega) = c at e2 hp
      walk_at "st"
      refine ⟨rfl, ?_⟩
      refine wi_ifT rfl ?_
      walk_at "st"
      apply onO_of (oIx_T (f := f) (l := l) (a := a) (by omega) (by rw [show ((1 : Int) + (i : Int) - 1).toNat = i by omega]; exact e1))
      walk_at "st"
      apply onO_of (oIx_T (f := f) (l := l) (a := c) (by omega) (by rw [show ((1 : Int) + (i : Int)).toNat = i + 1 by omega]; exact e2))
      walk_at "st"
      apply onO_of hp
      walk_at "st"
      refine ⟨rfl, ?_⟩
      walk_at "st"
    · subst h1 h2
      walk_at "st"
      apply onO_of (oAll_map (fun _ => true) _)
      rw [List.all_eq_true.mpr fun _ _ => rfl]
      walk_at "st"
      exact ⟨rfl, rfl⟩
  obtain ⟨v, r, e, rfl, rfl⟩ := z
  exact e
theorem oLt_rows {x y : List Int} (h : x < y) : oLt (tupI x) (tupI y) = some (.fz (.bl true)) := by
  show (match ints? (x.map .int), ints? (y.map .int) with
    | some ns, some ms => some (RV.fz (.bl (decide (ns < ms))))
    | _, _ => none) = _
  rw [ints_map, ints_map]
  show some (RV.fz (.bl (decide (x < y)))) = _
  rw [decide_eq_true h]
theorem are_befores_ok {many : Int} {ps : List (Int × Int)} (ha : Acy many ps) (hm : many ≤ 8) (hs : (ps.map rw2).Pairwise (· < ·)) : f_are_befores [.val (.int many), .val (.tup (ps.map pD))] = .ok (.fz (.bl true)) [.val (.int many), .val (.tup (ps.map pD))] := by
  have few : ps.length ≤ 56 := few_pairs hm ((List.pairwise_map.mp hs).imp fun {x y} hab e => by subst e; exact List.lt_irrefl _ hab) fun q hq => ⟨ha.bd q hq, Tr.ne ha ⟨0, hq⟩⟩
  have z : ∃ v r, f_are_befores [.val (.int many), .val (.tup (ps.map pD))] = .ok v r ∧ (v = .fz (.bl true) ∧ r = [.val (.int many), .val (.tup (ps.map pD))]) := by
    refine fn_ok (Q := fun v r => v = .fz (.bl true) ∧ r = [.val (.int many), .val (.tup (ps.map pD))]) rfl ?_
    show wp _ [.val (.int many), .val (.tup (ps.map pD)), .no] _
    walk_at "st"
    refine wi_ifF (by decide) ?_
    walk_at "st"
    refine ⟨rfl, ?_⟩
    walk_at "st"
    refine wp_mono (compGo_of pD (fun _ => true) (fun _ => .bl true) (Nat.le_trans few (by decide)) fun q hq => ?_) fun ys r' ⟨h1, h2⟩ => ?_
    · obtain ⟨a, c⟩ := q
      rw [show pD (a, c) = .tup ([a, c].map .int) from rfl]
      have bd := ha.bd (a, c) hq
      have ne : a ≠ c := Tr.ne ha ⟨0, hq⟩
      walk_at "st"
      refine ⟨rfl, ?_⟩
      refine wi_ifT rfl ?_
      walk_at "st"
      refine wp_callFn (by simp [locs]) rfl (is_pair_ok a c) rfl ?_
      walk_at "st"
      refine wi_ifT rfl ?_
      walk_at "st"
      refine wp_callFn (by simp [locs]) rfl (are_names_ok (ns := [a, c]) (fun x hx => ?_) (by simpa using ne) (by show 2 ≤ 1000; decide)) rfl ?_
      · rcases List.mem_cons.mp hx with rfl | hx
        · exact ⟨bd.1, bd.2.1⟩
        · have : x = c := by simpa using hx
          subst this
          exact ⟨bd.2.2.1, bd.2.2.2⟩
      walk_at "st"
      refine ⟨rfl, ?_⟩
      walk_at "st"
    · subst h1 h2
      rw [List.filter_eq_self.mpr fun _ _ => rfl]
      walk_at "st"
      apply onO_of (oAll_map (fun _ => true) _)
      rw [List.all_eq_true.mpr fun _ _ => rfl]
      walk_at "st"
      refine wi_ifT rfl ?_
      walk_at "st"
      refine wp_callFn (by simp [locs]) rfl (is_ascending_ok (Nat.le_trans few (by decide)) ?_) rfl ?_
      · exact (List.pairwise_map.mp hs).imp fun {p q} h => oLt_rows h
      walk_at "st"
      exact ⟨rfl, rfl⟩
  obtain ⟨v, r, e, rfl, rfl⟩ := z
  exact e
end LW

end

section
set_option Elab.async false
set_option linter.all false
set_option maxRecDepth 100000
/-! Webs as values. -/
namespace DL
section
variable {r : Env} {Q : RV → Env → Prop} {c : Nat} {f : Fn}
theorem wp_make {as : List (M RV)} : wp (eMake c f as) r Q ↔ wp (eArgs as) r fun vs r1 => wp (makeFn c f vs) r1 Q := wp_bnd
theorem back_fz : ∀ {ds : List D} {ss : List Slot} {r : Env}, ss.length = ds.length → backAll (ds.map RV.fz) ss r = some r
  | [], [], r, _ => rfl
  | [], _ :: _, _, h => by simp at h
  | _ :: _, [], _, h => by simp at h
  | d :: ds, s :: ss, r, h => by
    show (match backOne (.fz d) s r with
      | some r' => backAll (ds.map RV.fz) ss r'
      | none => none) = _
    exact back_fz (by simpa using h)
/-- a new instance: the arguments are values -/
theorem wp_makeV {ds : List D} {d : D} {ss : List Slot} (hl : ss.length = ds.length) (hf : f (.brw (.ins c []) :: ds.map Slot.val) = .ok (.fz .non) (.brw d :: ss)) (q : Q (.tmp d) r) : wp (makeFn c f (ds.map RV.fz)) r Q := by
  refine ⟨_, _, ?_, q⟩
  unfold makeFn callFn
  have e0 : (r ++ [Slot.own (.ins c [])])[r.length]? = some (.own (.ins c [])) := by simp
  have nd : (locs (.loc r.length :: ds.map RV.fz)).Nodup := locs_one
  have a1 : argSlots (r ++ [Slot.own (.ins c [])]) (.loc r.length :: ds.map RV.fz) = some (.brw (.ins c []) :: ds.map Slot.val) := argSlots_cons (by simp [argSlot]) (argSlots_fz ds)
  have b1 : backAll (.loc r.length :: ds.map RV.fz) (.brw d :: ss) (r ++ [Slot.own (.ins c [])]) = some (r ++ [.own d]) := by
    show (match backOne (.loc r.length) (.brw d) (r ++ [Slot.own (.ins c [])]) with
      | some r' => backAll (ds.map RV.fz) ss r'
      | none => none) = _
    have : backOne (.loc r.length) (.brw d) (r ++ [Slot.own (.ins c [])]) = some (r ++ [.own d]) := by
      unfold backOne
      simp only [e0]
      simp
    rw [this]
    exact back_fz hl
  rw [if_pos nd, a1]
  simp only [hf, b1]
  simp
/-- an instance of the class c, and k -/
def onI (c : Nat) (d : D) (k : Prop) : Prop := match d with
  | .ins c' _ => if c' = c then k else False
  | _ => False
theorem onI_ins {fs : List D} {k : Prop} (h : k) : onI c (.ins c fs) k := by
  show if c = c then k else False
  rw [if_pos rfl]
  exact h
/-- a method that is called on an instance -/
theorem wi_chk {o : M RV} (h : wp o r fun x r1 => onO (vw r1 x) fun d => onI c d (Q x r1)) : wp (chk c o) r Q := by
  unfold chk
  refine wp_bnd.mpr (wp_mono h fun x r1 h => wp_bnd.mpr (wp_vwM.mpr ?_))
  cases e : vw r1 x with
  | none => rw [e] at h; exact h
  | some d =>
    rw [e] at h
    have h : onI c d (Q x r1) := h
    cases d with
    | ins c' fs =>
      have h : if c' = c then Q x r1 else False := h
      show wp (if c' = c then pur x else badM) r1 Q
      rw [wp_ite]
      split at h
      · rename_i z; rw [if_pos z]; exact wp_pur.mpr h
      · exact h.elim
    | _ => exact h.elim
theorem wp_meth {o : M RV} {as : List (M RV)} : wp (eMeth c f o as) r Q ↔ wp (chk c o) r fun v r1 => wp (eArgs as) r1 fun vs r2 => wp (callFn f (v :: vs)) r2 Q := by
  unfold eMeth
  rw [wp_call, wp_args_cons]
end
end DL
namespace LW
open DL
def aheadL (many : Int) (L : List (Int × Int)) : List (List Int) := (names many).map fun n => (L.filter fun q => decide (q.2 = n)).map (·.1)
def laterL (many : Int) (L : List (Int × Int)) : List (List Int) := (names many).map fun n => (L.filter fun q => decide (q.1 = n)).map (·.2)
/-- a web: its class, its names, all its befores -/
def webD (c : Nat) (many : Int) (L : List (Int × Int)) : D := .ins c [.int many, .tup (L.map pD), .lst ((aheadL many L).map tupI), .lst ((laterL many L).map tupI)]
theorem mfld_ok {cs : List Nat} {c k : Nat} {ds : List D} {v : D} (h : c ∈ cs) (hk : k = ds.length) (hl : ds.length < 1000) : mFld cs k (.ins c ds) [v] = some (.ins c (ds ++ [v]), .non) := by
  show (if c ∈ cs ∧ ds.length < 1000 then (if k = ds.length then some (D.ins c (ds ++ [v]), D.non) else if k < ds.length then some (D.ins c (ds.set k v), D.non) else none) else none) = _
  rw [if_pos ⟨h, hl⟩, if_pos hk]
theorem names_le {n : Int} (h : n ≤ 1000) : (names n).length ≤ line := by
  rw [names_len]
  exact Nat.le_trans (show n.toNat ≤ 1000 by omega) (by decide)
theorem keep_ok {c : Nat} (hc : c ∈ webCs) {many : Int} {L : List (Int × Int)} (h0 : 0 ≤ many) (hm : many ≤ 1000) (hl : L.length ≤ 1000) : f_Web_keep [.brw (.ins c []), .val (.int many), .val (.tup (L.map pD))] = .ok (.fz .non) [.brw (webD c many L), .val (.int many), .val (.tup (L.map pD))] := by
  have z : ∃ v r, f_Web_keep [.brw (.ins c []), .val (.int many), .val (.tup (L.map pD))] = .ok v r ∧ (v = .fz .non ∧ r = [.brw (webD c many L), .val (.int many), .val (.tup (L.map pD))]) := by
    refine fn_ok (Q := fun v r => v = .fz .non ∧ r = [.brw (webD c many L), .val (.int many), .val (.tup (L.map pD))]) rfl ?_
    show wp _ [.brw (.ins c []), .val (.int many), .val (.tup (L.map pD)), .no, .no, .no] _
    · walk_at "st"
      refine wi_mbrw rfl (mfld_ok hc rfl (by simp)) ?_
      walk_at "st"
      refine wi_mbrw rfl (mfld_ok hc rfl (by simp)) ?_
      walk_at "st"
      refine onR_int (big62_of h0 (by omega)) ?_
      refine ⟨rfl, ?_⟩
      walk_at "st"
      rw [rng0]
      refine wp_mono (compGo_of D.int (fun _ => true) (fun n => tupI ((L.filter fun q => decide (q.2 = n)).map (·.1))) (names_le hm) fun n hn => ?_) fun ys r' ⟨h1, h2⟩ => ?_
      · walk_at "st"
        refine ⟨rfl, ?_⟩
        refine wi_ifT rfl ?_
        walk_at "st"
        refine ⟨rfl, ?_⟩
        walk_at "st"
        refine wp_mono (compGo_of pD (fun q => decide (q.2 = n)) (fun q => .int q.1) (Nat.le_trans hl (by decide)) fun q hq => ?_) fun ys r' ⟨h1, h2⟩ => ?_
        · obtain ⟨x, y⟩ := q
          rw [show pD (x, y) = .tup [.int x, .int y] from rfl]
          walk_at "st"
          refine ⟨rfl, ?_⟩
          by_cases hx : y = n
          · refine wi_ifT (decide_eq_true hx) ?_
            walk_at "st"
            refine ⟨rfl, ?_⟩
            walk_at "st"
          · refine wi_ifF (by simpa using hx) ?_
            walk_at "st"
        · subst h1 h2
          walk_at "st"
          refine ⟨?_, ?_⟩
          · show D.tup _ = D.tup _
            rw [List.map_map]
            rfl
          walk_at "st"
          all_goals rfl
      · subst h1 h2
        rw [List.filter_eq_self.mpr fun _ _ => rfl]
        walk_at "st"
        refine wi_mbrw rfl (mfld_ok hc rfl (by simp)) ?_
        walk_at "st"
        refine onR_int (big62_of h0 (by omega)) ?_
        refine ⟨rfl, ?_⟩
        walk_at "st"
        rw [rng0]
        refine wp_mono (compGo_of D.int (fun _ => true) (fun n => tupI ((L.filter fun q => decide (q.1 = n)).map (·.2))) (names_le hm) fun n hn => ?_) fun ys r' ⟨h1, h2⟩ => ?_
        · walk_at "st"
          refine ⟨rfl, ?_⟩
          refine wi_ifT rfl ?_
          walk_at "st"
          refine ⟨rfl, ?_⟩
          walk_at "st"
          refine wp_mono (compGo_of pD (fun q => decide (q.1 = n)) (fun q => .int q.2) (Nat.le_trans hl (by decide)) fun q hq => ?_) fun ys r' ⟨h1, h2⟩ => ?_
          · obtain ⟨x, y⟩ := q
            rw [show pD (x, y) = .tup [.int x, .int y] from rfl]
            walk_at "st"
            refine ⟨rfl, ?_⟩
            by_cases hx : x = n
            · refine wi_ifT (decide_eq_true hx) ?_
              walk_at "st"
              refine ⟨rfl, ?_⟩
              walk_at "st"
              all_goals rfl
            · refine wi_ifF (by simpa using hx) ?_
              walk_at "st"
              all_goals rfl
          · subst h1 h2
            walk_at "st"
            refine ⟨?_, ?_⟩
            · show D.tup _ = D.tup _
              rw [List.map_map]
              rfl
            walk_at "st"
            all_goals rfl
        · subst h1 h2
          rw [List.filter_eq_self.mpr fun _ _ => rfl]
          walk_at "st"
          refine wi_mbrw rfl (mfld_ok hc rfl (by simp)) ?_
          walk_at "st"
          refine ⟨rfl, ?_⟩
          unfold webD aheadL laterL
          rw [List.map_map, List.map_map]
          rfl
  obtain ⟨v, r, e, rfl, rfl⟩ := z
  exact e
theorem web_ok {many : Int} {ps : List (Int × Int)} (ha : Acy many ps) (h1 : 1 ≤ many) (hm : many ≤ 8) (hs : (ps.map rw2).Pairwise (· < ·)) : ∃ L, IsCl ps L ∧ L.length ≤ 56 ∧ f_Web_init [.brw (.ins cWeb []), .val (.int many), .val (.tup (ps.map pD))] = .ok (.fz .non) [.brw (webD cWeb many L), .val (.int many), .val (.tup (ps.map pD))] := by
  obtain ⟨L, hL, eL⟩ := wclosed_ok ha (by omega) hm
  have few : L.length ≤ 56 := few_pairs hm ((List.pairwise_map.mp hL.asc).imp fun {x y} hab e => by subst e; exact List.lt_irrefl _ hab) fun q hq => by
    obtain ⟨n, t⟩ := (hL.mem q).mp hq
    exact ⟨t.bd ha, Tr.ne ha ⟨n, t⟩⟩
  have z : ∃ v r, f_Web_init [.brw (.ins cWeb []), .val (.int many), .val (.tup (ps.map pD))] = .ok v r ∧ (v = .fz .non ∧ r = [.brw (webD cWeb many L), .val (.int many), .val (.tup (ps.map pD))]) := by
    refine fn_ok (Q := fun v r => v = .fz .non ∧ r = [.brw (webD cWeb many L), .val (.int many), .val (.tup (ps.map pD))]) rfl ?_
    show wp _ [.brw (.ins cWeb []), .val (.int many), .val (.tup (ps.map pD)), .no] _
    walk_at "st"
    refine wp_callFn (by simp [locs]) rfl (is_within_ok many 1 8) rfl ?_
    rw [decide_eq_true h1, decide_eq_true hm]
    walk_at "st"
    refine wi_ifF (by decide) ?_
    walk_at "st"
    refine wp_callFn (by simp [locs]) rfl (are_befores_ok ha hm hs) rfl ?_
    walk_at "st"
    refine wi_ifF (by decide) ?_
    walk_at "st"
    refine wp_callFn (by simp [locs]) rfl eL rfl ?_
    walk_at "st"
    refine wi_ifF (fun z => Bool.false_ne_true z) ?_
    walk_at "st"
    refine wp_meth.mpr (wi_chk ?_)
    walk_at "st"
    refine onI_ins ?_
    walk_at "st"
    refine wp_callFn (by simp [locs]) rfl (keep_ok (by decide) (by omega) (by omega) (by omega)) rfl ?_
    walk_at "st"
    exact ⟨rfl, rfl⟩
  obtain ⟨v, r, e, rfl, rfl⟩ := z
  exact ⟨L, hL, few, e⟩
end LW

end

section
set_option Elab.async false
set_option linter.all false
set_option maxRecDepth 100000
/-! Lots of webs: who is free, all closed lots. -/
namespace LW
open DL
/-- the drawn befores, as pairs -/
theorem pr_acy {many : Int} {ps : List (List Int)} (h : PrOk many ps) : ∃ qs : List (Int × Int), ps = qs.map rw2 ∧ Acy many qs ∧ (qs.map rw2).Pairwise (· < ·) := by
  obtain ⟨⟨rk, hr⟩, hs⟩ := h
  have e : (ps.map un2).map rw2 = ps := by
    rw [List.map_map]
    refine (List.map_congr_left fun p hp => ?_).trans (List.map_id' _)
    obtain ⟨a, c, rfl, _⟩ := hr p hp
    rfl
  refine ⟨ps.map un2, e.symm, ⟨fun q hq => ?_, rk, fun q hq => ?_⟩, by rw [e]; exact hs⟩
  · obtain ⟨p, hp, rfl⟩ := List.mem_map.mp hq
    obtain ⟨a, c, rfl, h1, h2, h3, h4, _⟩ := hr p hp
    exact ⟨h1, h2, h3, h4⟩
  · obtain ⟨p, hp, rfl⟩ := List.mem_map.mp hq
    obtain ⟨a, c, rfl, _, _, _, _, h⟩ := hr p hp
    exact h
theorem pairs_okP {cs : List Int} {b : Nat} {d : D} {many : Int} (ht : TOk cs b d) (hb : b ≤ 900000000) (h0 : 0 ≤ many) (h1 : many ≤ 8) :
    ∃ qs d', Acy many qs ∧ (qs.map rw2).Pairwise (· < ·) ∧ TOk cs (b + 100) d' ∧ f_law_pairs [.brw d, .val (.int many)] = .ok (.fz (.tup (qs.map pD))) [.brw d', .val (.int many)] := by
  obtain ⟨ps, d', h, t, e⟩ := pairs_ok ht hb h0 h1
  obtain ⟨qs, rfl, ha, hs⟩ := pr_acy h
  exact ⟨qs, d', ha, hs, t, by rw [map_pD]; exact e⟩
/-- all befores of a web: within the names, a rank that they raise -/
structure LOk (many : Int) (L : List (Int × Int)) : Prop where
  bd : ∀ q ∈ L, 0 ≤ q.1 ∧ q.1 < many ∧ 0 ≤ q.2 ∧ q.2 < many
  rk : ∃ rk : Int → Nat, ∀ q ∈ L, rk q.1 < rk q.2
  nd : L.Nodup
theorem LOk.ne {many : Int} {L : List (Int × Int)} (h : LOk many L) : ∀ q ∈ L, q.1 ≠ q.2 := fun q hq e => by
  obtain ⟨rk, hr⟩ := h.rk
  have := hr q hq
  rw [e] at this
  exact Nat.lt_irrefl _ this
theorem LOk.few {many : Int} {L : List (Int × Int)} (h : LOk many L) (hm : many ≤ 8) : L.length ≤ 56 := few_pairs hm h.nd fun q hq => ⟨h.bd q hq, h.ne q hq⟩
theorem asc_nd {L : List (Int × Int)} (h : (L.map rw2).Pairwise (· < ·)) : L.Nodup := (List.pairwise_map.mp h).imp fun {x y} hab e => by subst e; exact List.lt_irrefl _ hab
theorem cl_lok {many : Int} {ps L : List (Int × Int)} (ha : Acy many ps) (h : IsCl ps L) : LOk many L := by
  obtain ⟨rk, hr⟩ := ha.rk
  refine ⟨fun q hq => ?_, ⟨rk, fun q hq => ?_⟩, asc_nd h.asc⟩
  · obtain ⟨n, t⟩ := (h.mem q).mp hq
    exact t.bd ha
  · obtain ⟨n, t⟩ := (h.mem q).mp hq
    exact Pn.rk hr t
/-- whether a name may come -/
def freeP (L : List (Int × Int)) (lot : List Int) (n : Int) : Bool := !decide (n ∈ lot) && ((L.filter fun q => decide (q.2 = n)).map (·.1)).all fun a => decide (a ∈ lot)
def freeL (many : Int) (L : List (Int × Int)) (lot : List Int) : List Int := (names many).filter (freeP L lot)
theorem freeP_iff {L : List (Int × Int)} {lot : List Int} {n : Int} : freeP L lot n = true ↔ n ∉ lot ∧ ∀ q ∈ L, q.2 = n → q.1 ∈ lot := by
  unfold freeP
  rw [Bool.and_eq_true]
  constructor
  · rintro ⟨h1, h2⟩
    refine ⟨by simpa using h1, fun q hq e => ?_⟩
    exact of_decide_eq_true (List.all_eq_true.mp h2 q.1 (List.mem_map.mpr ⟨q, List.mem_filter.mpr ⟨hq, decide_eq_true e⟩, rfl⟩))
  · rintro ⟨h1, h2⟩
    refine ⟨by simpa using h1, List.all_eq_true.mpr fun a ha => ?_⟩
    obtain ⟨q, hq, rfl⟩ := List.mem_map.mp ha
    obtain ⟨hq, e⟩ := List.mem_filter.mp hq
    exact decide_eq_true (h2 q hq (of_decide_eq_true e))
theorem aheadL_get {many : Int} {L : List (Int × Int)} {n : Int} (h0 : 0 ≤ n) (h1 : n < many) : (aheadL many L)[n.toNat]? = some ((L.filter fun q => decide (q.2 = n)).map (·.1)) := by
  unfold aheadL
  rw [List.getElem?_map, names_get (by omega)]
  rw [show ((n.toNat : Nat) : Int) = n by omega]
  rfl
theorem laterL_get {many : Int} {L : List (Int × Int)} {n : Int} (h0 : 0 ≤ n) (h1 : n < many) : (laterL many L)[n.toNat]? = some ((L.filter fun q => decide (q.1 = n)).map (·.2)) := by
  unfold laterL
  rw [List.getElem?_map, names_get (by omega)]
  rw [show ((n.toNat : Nat) : Int) = n by omega]
  rfl
theorem fld0 {c : Nat} (hc : c ∈ webCs) {many : Int} {L : List (Int × Int)} : oFld webCs 0 (webD c many L) = some (.fz (.int many)) := by unfold webD oFld; simp only []; rw [if_pos hc]; rfl
theorem fld1 {c : Nat} (hc : c ∈ webCs) {many : Int} {L : List (Int × Int)} : oFld webCs 1 (webD c many L) = some (.fz (.tup (L.map pD))) := by unfold webD oFld; simp only []; rw [if_pos hc]; rfl
theorem fld2 {c : Nat} (hc : c ∈ webCs) {many : Int} {L : List (Int × Int)} : oFld webCs 2 (webD c many L) = some (.fz (.lst ((aheadL many L).map tupI))) := by unfold webD oFld; simp only []; rw [if_pos hc]; rfl
theorem fld3 {c : Nat} (hc : c ∈ webCs) {many : Int} {L : List (Int × Int)} : oFld webCs 3 (webD c many L) = some (.fz (.lst ((laterL many L).map tupI))) := by unfold webD oFld; simp only []; rw [if_pos hc]; rfl
theorem append_int {l : List Int} {a : Int} (h : l.length < 100000) : mAppend (.lst (l.map .int)) [.int a] = some (.lst ((l ++ [a]).map .int), .non) := by
  show (if (l.map D.int).length < line then some (D.lst (l.map D.int ++ [.int a]), D.non) else none) = _
  rw [if_pos (by rw [List.length_map]; exact Nat.lt_trans h (by decide)), List.map_append]
  rfl
theorem take_next {α : Type} {l : List α} {i : Nat} {a : α} (h : l[i]? = some a) : l.take (i + 1) = l.take i ++ [a] := by rw [List.take_succ, h]; rfl
end LW

end

section
set_option Elab.async false
set_option linter.all false
set_option maxRecDepth 100000
/-! == of webs; pairs turned about. -/
namespace LW
open DL
def swapL (L : List (Int × Int)) : List (Int × Int) := L.map fun q => (q.2, q.1)
theorem sset_len (M : List (Int × Int)) : (sset M).length ≤ M.length := nodup_len (asc_nd (sset_asc M)) fun x hx => mem_sset.mp hx
theorem nd_swap {L : List (Int × Int)} (h : L.Nodup) : (swapL L).Nodup := List.pairwise_map.mpr (h.imp fun {a b} ne e => ne (by
  have e1 := (Prod.mk.inj e).1
  have e2 := (Prod.mk.inj e).2
  exact Prod.ext e2 e1))
theorem mem_swap {L : List (Int × Int)} {q : Int × Int} : q ∈ swapL L ↔ (q.2, q.1) ∈ L := by
  unfold swapL
  rw [List.mem_map]
  constructor
  · rintro ⟨p, hp, rfl⟩; exact hp
  · intro h; exact ⟨_, h, rfl⟩
end LW

end

section
set_option Elab.async false
set_option linter.all false
set_option maxRecDepth 100000
/-! Turned webs: plain Lean. -/
namespace LW
open DL
theorem LOk.turn {many : Int} {L : List (Int × Int)} (h : LOk many L) : LOk many (sset (swapL L)) := by
  obtain ⟨rk, hr⟩ := h.rk
  let B := ((names many).map rk).sum
  have le : ∀ {l : List Int} {x : Int}, x ∈ l → rk x ≤ (l.map rk).sum := fun {l x} hx => by
    induction l with
    | nil => cases hx
    | cons y l ih =>
      rw [List.map_cons, List.sum_cons]
      rcases List.mem_cons.mp hx with rfl | hx
      · omega
      · have := ih hx; omega
  refine ⟨fun q hq => ?_, ⟨fun x => B - rk x, fun q hq => ?_⟩, asc_nd (sset_asc _)⟩
  · have := h.bd _ (mem_swap.mp (mem_sset.mp hq))
    exact ⟨this.2.2.1, this.2.2.2, this.1, this.2.1⟩
  · have hq' := mem_swap.mp (mem_sset.mp hq)
    have a := hr _ hq'
    have b := h.bd _ hq'
    have c1 : rk q.2 ≤ B := le (mem_names.mpr ⟨b.1, b.2.1⟩)
    have c2 : rk q.1 ≤ B := le (mem_names.mpr ⟨b.2.2.1, b.2.2.2⟩)
    show B - rk q.1 < B - rk q.2
    have a : rk q.2 < rk q.1 := a
    omega
end LW

end

section
set_option Elab.async false
set_option linter.all false
set_option maxRecDepth 100000
/-! Closures, straight pairs, pairs apart: plain Lean. -/
namespace DL
theorem Pn.mono {A B : List (Int × Int)} (h : ∀ q ∈ A, q ∈ B) : ∀ {n : Nat} {a c : Int}, Pn A n a c → Pn B n a c
  | 0, a, c, q => h (a, c) q
  | n + 1, a, c, ⟨b, q1, q2⟩ => ⟨b, h (a, b) q1, Pn.mono h q2⟩
theorem Tr.mono {A B : List (Int × Int)} (h : ∀ q ∈ A, q ∈ B) {a c : Int} (t : Tr A a c) : Tr B a c := by
  obtain ⟨n, t⟩ := t
  exact ⟨n, t.mono h⟩
theorem Tr.join {A : List (Int × Int)} {a b c : Int} (h : Tr A a b) (k : Tr A b c) : Tr A a c := by
  obtain ⟨n, h⟩ := h
  obtain ⟨m, k⟩ := k
  exact ⟨_, Pn.join h k⟩
/-- closed under following -/
def Trs (L : List (Int × Int)) : Prop := ∀ a b c, (a, b) ∈ L → (b, c) ∈ L → (a, c) ∈ L
theorem Trs.tr {L : List (Int × Int)} (h : Trs L) : ∀ {n : Nat} {a c : Int}, Pn L n a c → (a, c) ∈ L
  | 0, a, c, q => q
  | n + 1, a, c, ⟨b, q1, q2⟩ => h a b c q1 (h.tr q2)
theorem IsCl.trs {ps L : List (Int × Int)} (h : IsCl ps L) : Trs L := fun a b c h1 h2 => (h.mem (a, c)).mpr (((h.mem (a, b)).mp h1).join ((h.mem (b, c)).mp h2))
theorem isCl_self {L : List (Int × Int)} (hs : (L.map rw2).Pairwise (· < ·)) (h : Trs L) : IsCl L L := ⟨hs, fun q => ⟨fun hq => ⟨0, hq⟩, fun ⟨n, t⟩ => h.tr t⟩⟩
/-- whether a pair is straight -/
def strP (L : List (Int × Int)) (q : Int × Int) : Bool := L.all fun s => !(decide (s.1 = q.1) && decide ((s.2, q.2) ∈ L))
def strL (L : List (Int × Int)) : List (Int × Int) := L.filter (strP L)
/-- the numbers from lo to below hi -/
def rngI (lo hi : Int) : List Int := (List.range (hi - lo).toNat).map fun (i : Nat) => lo + (i : Int)
theorem rng_rngI (lo hi : Int) : rng lo hi = (rngI lo hi).map D.int := by
  unfold rng rngI
  rw [List.map_map]
  rfl
theorem mem_rngI {lo hi x : Int} : x ∈ rngI lo hi ↔ lo ≤ x ∧ x < hi := by
  unfold rngI
  rw [List.mem_map]
  constructor
  · rintro ⟨i, hi', rfl⟩
    rw [List.mem_range] at hi'
    omega
  · rintro ⟨h0, h1⟩
    exact ⟨(x - lo).toNat, List.mem_range.mpr (by omega), by omega⟩
theorem rngI_len (lo hi : Int) : (rngI lo hi).length = (hi - lo).toNat := by unfold rngI; rw [List.length_map, List.length_range]
/-- whether two names are apart -/
def apP (L : List (Int × Int)) (a c : Int) : Bool := !decide ((a, c) ∈ L) && !decide ((c, a) ∈ L)
def apRow (many : Int) (L : List (Int × Int)) (a : Int) : List (Int × Int) := ((rngI (a + 1) many).filter (apP L a)).map fun c => (a, c)
def apL (many : Int) (L : List (Int × Int)) : List (Int × Int) := (names many).flatMap (apRow many L)
theorem apRow_len {many : Int} (hm : many ≤ 8) (L : List (Int × Int)) {a : Int} (h0 : 0 ≤ a) : (apRow many L a).length ≤ 8 := by
  unfold apRow
  rw [List.length_map]
  have := List.length_filter_le (apP L a) (rngI (a + 1) many)
  rw [rngI_len] at this
  omega
theorem mem_fst {L : List (Int × Int)} {a c : Int} : a ∈ (L.filter fun q => decide (q.2 = c)).map (·.1) ↔ (a, c) ∈ L := by
  rw [List.mem_map]
  constructor
  · rintro ⟨q, hq, rfl⟩
    obtain ⟨h1, h2⟩ := List.mem_filter.mp hq
    have e : q.2 = c := of_decide_eq_true h2
    rw [← e]; exact h1
  · intro h
    exact ⟨(a, c), List.mem_filter.mpr ⟨h, decide_eq_true rfl⟩, rfl⟩
theorem mem_snd {L : List (Int × Int)} {a c : Int} : c ∈ (L.filter fun q => decide (q.1 = a)).map (·.2) ↔ (a, c) ∈ L := by
  rw [List.mem_map]
  constructor
  · rintro ⟨q, hq, rfl⟩
    obtain ⟨h1, h2⟩ := List.mem_filter.mp hq
    have e : q.1 = a := of_decide_eq_true h2
    rw [← e]; exact h1
  · intro h
    exact ⟨(a, c), List.mem_filter.mpr ⟨h, decide_eq_true rfl⟩, rfl⟩
end DL

end

section
set_option Elab.async false
set_option linter.all false
set_option maxRecDepth 100000
/-! Levels, or three names that bar them: plain Lean. -/
namespace LW
open DL
theorem asc_ext {l m : List Int} (h1 : l.Pairwise (· < ·)) (h2 : m.Pairwise (· < ·)) (h : ∀ x, x ∈ l ↔ x ∈ m) : l = m := by
  induction l generalizing m with
  | nil =>
    cases m with
    | nil => rfl
    | cons b m => exact nomatch (h b).mpr List.mem_cons_self
  | cons a l ih =>
    cases m with
    | nil => exact nomatch (h a).mp List.mem_cons_self
    | cons b m =>
      obtain ⟨p1, q1⟩ := List.pairwise_cons.mp h1
      obtain ⟨p2, q2⟩ := List.pairwise_cons.mp h2
      have e : a = b := by
        rcases List.mem_cons.mp ((h a).mp List.mem_cons_self) with e | k
        · exact e
        · rcases List.mem_cons.mp ((h b).mpr List.mem_cons_self) with e | k2
          · exact e.symm
          · have := p2 a k
            have := p1 b k2
            omega
      subst e
      congr 1
      refine ih q1 q2 fun x => ⟨fun hx => ?_, fun hx => ?_⟩
      · rcases List.mem_cons.mp ((h x).mp (List.mem_cons_of_mem _ hx)) with e | k
        · have := p1 x hx; omega
        · exact k
      · rcases List.mem_cons.mp ((h x).mpr (List.mem_cons_of_mem _ hx)) with e | k
        · have := p2 x hx; omega
        · exact k
theorem asc_ndI {l : List Int} (h : l.Pairwise (· < ·)) : l.Nodup := h.imp fun h => by omega
/-- those of some names with none of them ahead -/
def frontP (L : List (Int × Int)) (l : List Int) (n : Int) : Bool := !(l.any fun x => decide ((x, n) ∈ L))
def frontL (L : List (Int × Int)) (l : List Int) : List Int := l.filter (frontP L l)
def leftL (l m : List Int) : List Int := l.filter fun n => !decide (n ∈ m)
/-- whether one of the level is not ahead of one behind it -/
def badL (L : List (Int × Int)) (l m : List Int) : Bool := (l.flatMap fun a => m.map fun b => (a, b)).any fun q => !decide (q ∈ L)
def levO (L : List (Int × Int)) : Nat → List Int → Option (List (List Int))
  | 0, _ => some []
  | k + 1, l => if l = [] then some [] else if badL L (frontL L l) (leftL l (frontL L l)) = true then none else (levO L k (leftL l (frontL L l))).map (frontL L l :: ·)
/-- lists that are levels -/
def LvOk (L : List (Int × Int)) (ls : List (List Int)) : Prop := (∀ l ∈ ls, l ≠ [] ∧ l.Pairwise (· < ·) ∧ ∀ a ∈ l, ∀ b ∈ l, (a, b) ∉ L) ∧ ls.Pairwise fun l m => ∀ a ∈ l, ∀ b ∈ m, (a, b) ∈ L ∧ (b, a) ∉ L
section
variable {many : Int} {L : List (Int × Int)}
/-- three names that bar levels -/
def Bars (L : List (Int × Int)) (a b t : Int) : Prop := (a, b) ∈ L ∧ t ≠ a ∧ t ≠ b ∧ (a, t) ∉ L ∧ (t, a) ∉ L ∧ (b, t) ∉ L ∧ (t, b) ∉ L
end
end LW

end

section
set_option Elab.async false
set_option linter.all false
set_option maxRecDepth 100000
/-! The least three names; webs turned about: plain Lean. -/
namespace LW
open DL
section
variable {α β γ : Type}
end
/-- all pairs of names, ascending -/
def sqL (many : Int) : List (Int × Int) := (names many).flatMap fun a => (names many).map fun b => (a, b)
def barB (L : List (Int × Int)) (a b t : Int) : Bool := (!decide (t ∈ [a, b])) && (apP L a t && apP L b t)
def th1 (many : Int) (L : List (Int × Int)) (q : Int × Int) : Option (Int × Int × Int) := (names many).findSome? fun t => if barB L q.1 q.2 t = true then some (q.1, q.2, t) else none
/-- the least three names -/
def th3 (many : Int) (L : List (Int × Int)) : Option (Int × Int × Int) := L.findSome? (th1 many L)
def le1 (L : List (Int × Int)) (a b t : Int) : Option (Int × Int × Int) := if (decide ((a, b) ∈ L) && (!decide (t = a) && !decide (t = b))) = true then (if ([a, b].all fun n => !decide ((n, t) ∈ L) && !decide ((t, n) ∈ L)) = true then some (a, b, t) else none) else none
def le3 (many : Int) (L : List (Int × Int)) : Option (Int × Int × Int) := (names many).findSome? fun a => (names many).findSome? fun b => (names many).findSome? fun t => le1 L a b t
/-- all befores of a web -/
structure WOk (many : Int) (L : List (Int × Int)) : Prop where
  m1 : 1 ≤ many
  m8 : many ≤ 8
  lok : LOk many L
  trs : Trs L
  asc : (L.map rw2).Pairwise (· < ·)
def levs (many : Int) (L : List (Int × Int)) : Option (List (List Int)) := levO L many.toNat (names many)
def turnL (L : List (Int × Int)) : List (Int × Int) := sset (swapL L)
theorem mem_turn {L : List (Int × Int)} {a b : Int} : (a, b) ∈ turnL L ↔ (b, a) ∈ L := mem_sset.trans mem_swap
theorem WOk.turn {many : Int} {L : List (Int × Int)} (h : WOk many L) : WOk many (turnL L) := ⟨h.m1, h.m8, h.lok.turn, fun a b c h1 h2 => mem_turn.mpr (h.trs _ _ _ (mem_turn.mp h2) (mem_turn.mp h1)), sset_asc _⟩
theorem LvOk.turn {L : List (Int × Int)} {ls : List (List Int)} (h : LvOk L ls) : LvOk (turnL L) ls.reverse := by
  obtain ⟨h1, h2⟩ := h
  refine ⟨fun l hl => ?_, ?_⟩
  · obtain ⟨g1, g2, g3⟩ := h1 l (List.mem_reverse.mp hl)
    exact ⟨g1, g2, fun a ha b hb z => g3 b hb a ha (mem_turn.mp z)⟩
  · rw [List.pairwise_reverse]
    exact h2.imp fun {l m} h a ha b hb => ⟨mem_turn.mpr (h b hb a ha).1, fun z => (h b hb a ha).2 (mem_turn.mp z)⟩
end LW

end

section
set_option Elab.async false
set_option linter.all false
set_option maxRecDepth 100000
/-! Webs one behind the other: plain Lean. -/
namespace LW
open DL
def shiftL (k : Int) (L : List (Int × Int)) : List (Int × Int) := L.map fun q => (q.1 + k, q.2 + k)
def acrL (m1 m2 : Int) : List (Int × Int) := (names m1).flatMap fun a => (names m2).map fun b => (a, b + m1)
theorem mem_shift {k : Int} {L : List (Int × Int)} {a b : Int} : (a, b) ∈ shiftL k L ↔ (a - k, b - k) ∈ L := by
  unfold shiftL
  rw [List.mem_map]
  constructor
  · rintro ⟨q, hq, e⟩
    have e1 := (Prod.mk.inj e).1
    have e2 := (Prod.mk.inj e).2
    have : q = (a - k, b - k) := Prod.ext (show q.1 = a - k by omega) (show q.2 = b - k by omega)
    rw [← this]; exact hq
  · intro h
    exact ⟨_, h, Prod.ext (show a - k + k = a by omega) (show b - k + k = b by omega)⟩
theorem mem_acr {m1 m2 a b : Int} : (a, b) ∈ acrL m1 m2 ↔ (0 ≤ a ∧ a < m1) ∧ m1 ≤ b ∧ b < m1 + m2 := by
  unfold acrL
  rw [List.mem_flatMap]
  constructor
  · rintro ⟨x, hx, hq⟩
    obtain ⟨y, hy, e⟩ := List.mem_map.mp hq
    have e1 := (Prod.mk.inj e).1
    have e2 := (Prod.mk.inj e).2
    have hx := mem_names.mp hx
    have hy := mem_names.mp hy
    omega
  · rintro ⟨h1, h2⟩
    exact ⟨a, mem_names.mpr h1, List.mem_map.mpr ⟨b - m1, mem_names.mpr (by omega), Prod.ext rfl (show b - m1 + m1 = b by omega)⟩⟩
def behL (m1 m2 : Int) (L1 L2 : List (Int × Int)) : List (Int × Int) := L1 ++ shiftL m1 L2 ++ acrL m1 m2
section
variable {m1 m2 : Int} {L1 L2 : List (Int × Int)}
theorem mem_beh {a b : Int} : (a, b) ∈ behL m1 m2 L1 L2 ↔ (a, b) ∈ L1 ∨ (a - m1, b - m1) ∈ L2 ∨ ((0 ≤ a ∧ a < m1) ∧ m1 ≤ b ∧ b < m1 + m2) := by
  unfold behL
  rw [List.mem_append, List.mem_append, mem_shift, mem_acr, or_assoc]
theorem WOk.behind (h1 : WOk m1 L1) (h2 : WOk m2 L2) (hm : m1 + m2 ≤ 8) : WOk (m1 + m2) (sset (behL m1 m2 L1 L2)) := by
  have p1 := h1.m1
  have p2 := h2.m1
  have b1 : ∀ {a b : Int}, (a, b) ∈ L1 → 0 ≤ a ∧ a < m1 ∧ 0 ≤ b ∧ b < m1 := fun h => h1.lok.bd _ h
  have b2 : ∀ {a b : Int}, (a, b) ∈ L2 → 0 ≤ a ∧ a < m2 ∧ 0 ≤ b ∧ b < m2 := fun h => h2.lok.bd _ h
  refine ⟨by omega, hm, ⟨?_, ?_, asc_nd (sset_asc _)⟩, ?_, sset_asc _⟩
  · rintro ⟨a, b⟩ h
    rcases mem_beh.mp (mem_sset.mp h) with h | h | h
    · have := b1 h; show 0 ≤ a ∧ a < m1 + m2 ∧ 0 ≤ b ∧ b < m1 + m2; omega
    · have := b2 h; show 0 ≤ a ∧ a < m1 + m2 ∧ 0 ≤ b ∧ b < m1 + m2; omega
    · show 0 ≤ a ∧ a < m1 + m2 ∧ 0 ≤ b ∧ b < m1 + m2; omega
  · obtain ⟨r1, k1⟩ := h1.lok.rk
    obtain ⟨r2, k2⟩ := h2.lok.rk
    let B := ((names m1).map r1).sum
    have le : ∀ {l : List Int} {x : Int}, x ∈ l → r1 x ≤ (l.map r1).sum := fun {l x} hx => by
      induction l with
      | nil => cases hx
      | cons y l ih =>
        rw [List.map_cons, List.sum_cons]
        rcases List.mem_cons.mp hx with rfl | hx
        · omega
        · have := ih hx; omega
    refine ⟨fun x => if x < m1 then r1 x else B + 1 + r2 (x - m1), ?_⟩
    rintro ⟨a, b⟩ h
    show (if a < m1 then r1 a else B + 1 + r2 (a - m1)) < (if b < m1 then r1 b else B + 1 + r2 (b - m1))
    rcases mem_beh.mp (mem_sset.mp h) with h | h | h
    · have := b1 h
      rw [if_pos (by omega), if_pos (by omega)]
      exact k1 _ h
    · have := b2 h
      rw [if_neg (by omega), if_neg (by omega)]
      have : r2 (a - m1) < r2 (b - m1) := k2 _ h
      omega
    · rw [if_pos (by omega), if_neg (by omega)]
      have : r1 a ≤ B := le (mem_names.mpr h.1)
      omega
  · intro a b c x y
    have x := mem_beh.mp (mem_sset.mp x)
    have y := mem_beh.mp (mem_sset.mp y)
    refine mem_sset.mpr (mem_beh.mpr ?_)
    rcases x with x | x | x <;> rcases y with y | y | y
    · exact .inl (h1.trs _ _ _ x y)
    · have := b1 x; have := b2 y; omega
    · have := b1 x; exact .inr (.inr ⟨⟨by omega, by omega⟩, y.2⟩)
    · have := b2 x; have := b1 y; omega
    · exact .inr (.inl (h2.trs _ _ _ x y))
    · have := b2 x; omega
    · have := b1 y; omega
    · have := b2 y; exact .inr (.inr ⟨x.1, by omega, by omega⟩)
    · omega
end
end LW

end

section
set_option Elab.async false
set_option linter.all false
set_option maxRecDepth 100000
/-! Webs side by side: plain Lean. -/
namespace LW
open DL
def sideL (m1 : Int) (L1 L2 : List (Int × Int)) : List (Int × Int) := L1 ++ shiftL m1 L2
section
variable {m1 m2 : Int} {L1 L2 : List (Int × Int)}
theorem mem_side {a b : Int} : (a, b) ∈ sideL m1 L1 L2 ↔ (a, b) ∈ L1 ∨ (a - m1, b - m1) ∈ L2 := by
  unfold sideL
  rw [List.mem_append, mem_shift]
theorem WOk.beside (h1 : WOk m1 L1) (h2 : WOk m2 L2) (hm : m1 + m2 ≤ 8) : WOk (m1 + m2) (sset (sideL m1 L1 L2)) := by
  have p1 := h1.m1
  have p2 := h2.m1
  have b1 : ∀ {a b : Int}, (a, b) ∈ L1 → 0 ≤ a ∧ a < m1 ∧ 0 ≤ b ∧ b < m1 := fun h => h1.lok.bd _ h
  have b2 : ∀ {a b : Int}, (a, b) ∈ L2 → 0 ≤ a ∧ a < m2 ∧ 0 ≤ b ∧ b < m2 := fun h => h2.lok.bd _ h
  refine ⟨by omega, hm, ⟨?_, ?_, asc_nd (sset_asc _)⟩, ?_, sset_asc _⟩
  · rintro ⟨a, b⟩ h
    rcases mem_side.mp (mem_sset.mp h) with h | h
    · have := b1 h; show 0 ≤ a ∧ a < m1 + m2 ∧ 0 ≤ b ∧ b < m1 + m2; omega
    · have := b2 h; show 0 ≤ a ∧ a < m1 + m2 ∧ 0 ≤ b ∧ b < m1 + m2; omega
  · obtain ⟨rk, hr⟩ := (h1.behind h2 hm).lok.rk
    refine ⟨rk, ?_⟩
    rintro ⟨a, b⟩ h
    refine hr (a, b) (mem_sset.mpr (mem_beh.mpr ?_))
    rcases mem_side.mp (mem_sset.mp h) with h | h
    · exact .inl h
    · exact .inr (.inl h)
  · intro a b c x y
    have x := mem_side.mp (mem_sset.mp x)
    have y := mem_side.mp (mem_sset.mp y)
    refine mem_sset.mpr (mem_side.mpr ?_)
    rcases x with x | x <;> rcases y with y | y
    · exact .inl (h1.trs _ _ _ x y)
    · have := b1 x; have := b2 y; omega
    · have := b2 x; have := b1 y; omega
    · exact .inr (h2.trs _ _ _ x y)
end
end LW

end

section
set_option Elab.async false
set_option linter.all false
set_option maxRecDepth 100000
/-! Parts of webs: plain Lean. -/
namespace LW
open DL
/-- the place of a name in a row -/
def plc : List Int → Int → Nat
  | [], _ => 0
  | y :: l, x => if y = x then 0 else plc l x + 1
theorem plc_at : ∀ {l : List Int} {i : Nat} {x : Int}, l.Nodup → l[i]? = some x → plc l x = i
  | [], i, x, _, h => by simp at h
  | y :: l, 0, x, nd, h => by
    have : y = x := by simpa using h
    unfold plc
    rw [if_pos this]
  | y :: l, i + 1, x, nd, h => by
    have h : l[i]? = some x := by simpa using h
    have ne : y ≠ x := fun e => (List.nodup_cons.mp nd).1 (e ▸ List.mem_of_getElem? h)
    unfold plc
    rw [if_neg ne, plc_at (List.nodup_cons.mp nd).2 h]
theorem plc_get {l : List Int} {x : Int} (nd : l.Nodup) (h : x ∈ l) : l[plc l x]? = some x := by
  obtain ⟨i, hi⟩ := List.getElem?_of_mem h
  rw [plc_at nd hi]
  exact hi
theorem plc_inj {l : List Int} {x y : Int} (nd : l.Nodup) (hx : x ∈ l) (hy : y ∈ l) (e : plc l x = plc l y) : x = y := by
  have a := plc_get nd hx
  have b := plc_get nd hy
  rw [e, b] at a
  exact (Option.some.inj a).symm
def partL (lot : List Int) (L : List (Int × Int)) : List (Int × Int) := (L.filter fun q => decide (q.1 ∈ lot) && decide (q.2 ∈ lot)).map fun q => ((plc lot q.1 : Int), (plc lot q.2 : Int))
end LW

end

section
set_option Elab.async false
set_option linter.all false
set_option maxRecDepth 100000
/-! Webs put together: plain Lean. -/
namespace LW
open DL
section
variable {m1 m2 m3 : Int} {L1 L2 L3 : List (Int × Int)}
/-! ### pairs apart -/
/-! ### three by three -/
end
end LW

end

section
set_option Elab.async false
set_option linter.all false
set_option maxRecDepth 100000
set_option maxHeartbeats 4000000
/-! Things of any kind judged: the program's looks. -/
namespace LW
open DL
/-- a thing of a built-in kind -/
def thgB : D → Bool
  | .non => true
  | .bl _ => true
  | .int _ => true
  | .str _ => true
  | .tup _ => true
  | .lst _ => true
  | .dic _ _ => true
  | .ptup _ => true
  | _ => false
def isnB (lo hi : Int) : D → Bool
  | .int i => decide (lo ≤ i) && decide (i ≤ hi)
  | _ => false
def intB : D → Bool
  | .int _ => true
  | _ => false
def namB (many : Int) : D → Bool
  | .tup xs => match ints? xs with
    | some ns => decide (∀ n ∈ ns, 0 ≤ n ∧ n < many) && decide ns.Nodup
    | none => false
  | _ => false
theorem ints_map : ∀ ns : List Int, ints? (ns.map D.int) = some ns
  | [] => rfl
  | n :: ns => by
    rw [List.map_cons, ints?, ints_map ns]
    rfl
/-- a thing's parts -/
def prtB : D → Bool
  | .tup xs => xs.all thgB && decide (xs.length ≤ 1000)
  | .ptup _ => false
  | x => thgB x
/-- ascending: neighbour by neighbour -/
def upB (ns : List Int) : Bool := (rngI 1 (ns.length : Int)).all fun i => decide (ns.getD (i - 1).toNat 0 < ns.getD i.toNat 0)
end LW

end

section
set_option Elab.async false
set_option linter.all false
set_option maxRecDepth 100000
set_option maxHeartbeats 4000000
/-! Things of any kind judged: the law's looks. -/
namespace LW
open DL
end LW

end

section
set_option Elab.async false
set_option linter.all false
set_option maxRecDepth 100000
set_option maxHeartbeats 4000000
/-! Tuples that are known to the object judged. -/
namespace LW
open DL
end LW

end

section
set_option Elab.async false
set_option linter.all false
set_option maxRecDepth 100000
/-! Closed lots: plain Lean. -/
namespace DL
/-- all ascending rows of names below n -/
def subsL : Nat → List (List Int)
  | 0 => [[]]
  | n + 1 => subsL n ++ (subsL n).map fun l => l ++ [(n : Int)]
theorem mem_subsL : ∀ {n : Nat} {l : List Int}, l ∈ subsL n ↔ l.Pairwise (· < ·) ∧ ∀ x ∈ l, 0 ≤ x ∧ x < (n : Int)
  | 0, l => by
    unfold subsL
    rw [List.mem_singleton]
    constructor
    · rintro rfl
      exact ⟨.nil, fun x hx => nomatch hx⟩
    · rintro ⟨_, h⟩
      cases l with
      | nil => rfl
      | cons x l => have := h x List.mem_cons_self; omega
  | n + 1, l => by
    unfold subsL
    rw [List.mem_append, List.mem_map]
    constructor
    · rintro (h | ⟨m, hm, rfl⟩)
      · obtain ⟨h1, h2⟩ := mem_subsL.mp h
        exact ⟨h1, fun x hx => by have := h2 x hx; omega⟩
      · obtain ⟨h1, h2⟩ := mem_subsL.mp hm
        refine ⟨List.pairwise_append.mpr ⟨h1, by simp, fun x hx y hy => ?_⟩, fun x hx => ?_⟩
        · rw [List.mem_singleton] at hy
          have := h2 x hx
          omega
        · rcases List.mem_append.mp hx with hx | hx
          · have := h2 x hx; omega
          · rw [List.mem_singleton] at hx; omega
    · rintro ⟨h1, h2⟩
      rcases List.eq_nil_or_concat l with rfl | ⟨m, y, rfl⟩
      · exact .inl (mem_subsL.mpr ⟨.nil, fun x hx => nomatch hx⟩)
      · rw [List.concat_eq_append] at h1 h2 ⊢
        obtain ⟨a1, a2, a3⟩ := List.pairwise_append.mp h1
        have hy := h2 y (by simp)
        have lt : ∀ x ∈ m, 0 ≤ x ∧ x < y := fun x hx => ⟨(h2 x (by simp [hx])).1, a3 x hx y (by simp)⟩
        by_cases e : y = n
        · subst e
          exact .inr ⟨m, mem_subsL.mpr ⟨a1, fun x hx => lt x hx⟩, rfl⟩
        · refine .inl (mem_subsL.mpr ⟨h1, fun x hx => ?_⟩)
          rcases List.mem_append.mp hx with hx | hx
          · have := lt x hx; omega
          · rw [List.mem_singleton] at hx; omega
/-- ascending rows are told by their members -/
theorem row_ext {l m : List Int} (h1 : l.Pairwise (· < ·)) (h2 : m.Pairwise (· < ·)) (h : ∀ x, x ∈ l ↔ x ∈ m) : l = m := by
  have nd : ∀ {l : List Int}, l.Pairwise (· < ·) → l.Nodup := fun h => h.imp fun h => by omega
  exact eq_of_sorted (r := fun x y : Int => x < y) (fun x y a b => by omega) ((List.perm_ext_iff_of_nodup (nd h1) (nd h2)).mpr h) h1 h2
theorem asc_nodup {l : List Int} (h : l.Pairwise (· < ·)) : l.Nodup := h.imp fun h => by omega
/-- a lot with one name more -/
def withN (l : List Int) (n : Int) : List Int := sortInts (l ++ [n])
theorem mem_withN {l : List Int} {n x : Int} : x ∈ withN l n ↔ x ∈ l ∨ x = n := by
  unfold withN
  rw [(sortInts_perm _).mem_iff, List.mem_append, List.mem_singleton]
theorem withN_len (l : List Int) (n : Int) : (withN l n).length = l.length + 1 := by
  unfold withN
  rw [(sortInts_perm _).length_eq, List.length_append]
  rfl
theorem withN_asc {l : List Int} {n : Int} (h : l.Pairwise (· < ·)) (hn : n ∉ l) : (withN l n).Pairwise (· < ·) := by
  have nd : (withN l n).Nodup := by
    unfold withN
    refine (sortInts_perm _).nodup_iff.mpr (List.nodup_append.mpr ⟨asc_nodup h, by simp, fun x hx y hy e => ?_⟩)
    rw [List.mem_singleton] at hy
    exact hn (by rw [← hy, ← e]; exact hx)
  exact ((sortInts_sorted _).and nd).imp fun ⟨a, b⟩ => by omega
/-- an element of most rank -/
theorem exists_most {α : Type} (rk : α → Nat) : ∀ {l : List α}, l ≠ [] → ∃ x ∈ l, ∀ y ∈ l, rk y ≤ rk x
  | [], h => absurd rfl h
  | [x], _ => ⟨x, by simp, fun y hy => by rw [List.mem_singleton] at hy; rw [hy]; exact Nat.le_refl _⟩
  | x :: z :: l, _ => by
    obtain ⟨m, hm, h⟩ := exists_most rk (l := z :: l) (by simp)
    by_cases c : rk x ≤ rk m
    · exact ⟨m, List.mem_cons_of_mem _ hm, fun y hy => by
        rcases List.mem_cons.mp hy with rfl | hy
        · exact c
        · exact h y hy⟩
    · exact ⟨x, List.mem_cons_self, fun y hy => by
        rcases List.mem_cons.mp hy with rfl | hy
        · exact Nat.le_refl _
        · exact Nat.le_trans (h y hy) (by omega)⟩
end DL
namespace LW
open DL
/-- a closed lot -/
structure CL (many : Int) (L : List (Int × Int)) (l : List Int) : Prop where
  asc : l.Pairwise (· < ·)
  bd : ∀ x ∈ l, 0 ≤ x ∧ x < many
  cl : ∀ q ∈ L, q.2 ∈ l → q.1 ∈ l
def cloB (L : List (Int × Int)) (l : List Int) : Bool := L.all fun q => !decide (q.2 ∈ l) || decide (q.1 ∈ l)
/-- the ascending list of all closed lots -/
def lotsL (many : Int) (L : List (Int × Int)) : List (List Int) := sortRows ((subsL many.toNat).filter (cloB L))
section
variable {many : Int} {L : List (Int × Int)} {l : List Int}
theorem CL.sub (h : CL many L l) : l ∈ subsL many.toNat := mem_subsL.mpr ⟨h.asc, fun x hx => by have := h.bd x hx; omega⟩
theorem CL.nil : CL many L [] := ⟨.nil, (fun x hx => nomatch hx), fun q _ h => nomatch h⟩
theorem mem_free {n : Int} : n ∈ freeL many L l ↔ (0 ≤ n ∧ n < many) ∧ n ∉ l ∧ ∀ q ∈ L, q.2 = n → q.1 ∈ l := by
  unfold freeL
  rw [List.mem_filter, mem_names, freeP_iff]
theorem CL.more (hL : LOk many L) (h : CL many L l) {n : Int} (hn : n ∈ freeL many L l) : CL many L (withN l n) := by
  obtain ⟨h1, h2, h3⟩ := mem_free.mp hn
  refine ⟨withN_asc h.asc h2, fun x hx => ?_, fun q hq hx => ?_⟩
  · rcases mem_withN.mp hx with hx | rfl
    · exact h.bd x hx
    · exact h1
  · rw [mem_withN] at hx ⊢
    rcases hx with hx | hx
    · exact .inl (h.cl q hq hx)
    · exact .inl (h3 q hq hx)
theorem CL.less (hL : LOk many L) (h : CL many L l) {k : Nat} (hk : l.length = k + 1) : ∃ m n, CL many L m ∧ m.length = k ∧ n ∈ freeL many L m ∧ withN m n = l := by
  obtain ⟨rk, hr⟩ := hL.rk
  obtain ⟨n, hn, most⟩ := exists_most rk (l := l) (by intro e; rw [e] at hk; cases hk)
  have nd := asc_nodup h.asc
  have mem : ∀ x, x ∈ l.erase n ↔ x ≠ n ∧ x ∈ l := fun x => nd.mem_erase_iff
  have cm : CL many L (l.erase n) := by
    refine ⟨h.asc.sublist List.erase_sublist, fun x hx => h.bd x ((mem x).mp hx).2, fun q hq hx => ?_⟩
    have h2 := ((mem _).mp hx).2
    refine (mem _).mpr ⟨fun e => ?_, h.cl q hq h2⟩
    have a := hr q hq
    have b := most q.2 h2
    rw [e] at a
    omega
  have nn : n ∉ l.erase n := fun z => ((mem n).mp z).1 rfl
  refine ⟨l.erase n, n, cm, by rw [List.length_erase_of_mem hn, hk]; rfl, mem_free.mpr ⟨h.bd n hn, nn, fun q hq e => (mem _).mpr ⟨fun z => hL.ne q hq (z.trans e.symm), h.cl q hq (by rw [e]; exact hn)⟩⟩, ?_⟩
  refine row_ext (withN_asc cm.asc nn) h.asc fun x => ?_
  rw [mem_withN, mem]
  constructor
  · rintro (⟨_, h⟩ | rfl)
    · exact h
    · exact hn
  · intro hx
    by_cases e : x = n
    · exact .inr e
    · exact .inl ⟨e, hx⟩
theorem CL.len (h : CL many L l) (h0 : 0 ≤ many) : l.length ≤ many.toNat := by
  have z := nodup_len (m := names many) (asc_nodup h.asc) fun x hx => mem_names.mpr (h.bd x hx)
  rwa [names_len] at z
end
end LW

end

section
set_option Elab.async false
set_option linter.all false
set_option maxRecDepth 100000
/-! Counting orders over lots: plain Lean. -/
namespace LW
open DL
def sumN (l : List Nat) : Nat := l.foldr (· + ·) 0
theorem sumN_cons (x : Nat) (l : List Nat) : sumN (x :: l) = x + sumN l := rfl
theorem sumN_congr {α : Type} {f g : α → Nat} {l : List α} (h : ∀ x ∈ l, f x = g x) : sumN (l.map f) = sumN (l.map g) := congrArg sumN (List.map_congr_left h)
/-- the ways to go on from a lot, by so many names -/
def waysL (many : Int) (L : List (Int × Int)) : Nat → List Int → Nat
  | 0, _ => 1
  | k + 1, l => sumN ((freeL many L l).map fun n => waysL many L k (withN l n))
theorem waysL_succ (many : Int) (L : List (Int × Int)) (k : Nat) (l : List Int) : waysL many L (k + 1) l = sumN ((freeL many L l).map fun n => waysL many L k (withN l n)) := rfl
/-- the ways to go on from a lot to the end -/
def restN (many : Int) (L : List (Int × Int)) (l : List Int) : Nat := waysL many L (many.toNat - l.length) l
/-- the number of orders -/
def cntN (many : Int) (L : List (Int × Int)) : Nat := waysL many L many.toNat []
/-- the names of two webs laid into one another -/
def bnTo (f : Nat → Nat) : Nat → Nat
  | 0 => 1
  | j + 1 => f (j + 1) + bnTo f j
def bn : Nat → Nat → Nat
  | 0 => fun _ => 1
  | i + 1 => bnTo (bn i)
section
variable {many : Int} {L : List (Int × Int)} {l : List Int}
theorem freeL_asc (many : Int) (L : List (Int × Int)) (l : List Int) : (freeL many L l).Pairwise (· < ·) := (names_asc many).sublist List.filter_sublist
end
/-! ### two webs side by side -/
/-- the lot of both -/
def twoL (m1 : Int) (l1 l2 : List Int) : List Int := l1 ++ l2.map fun x => x + m1
section
variable {m1 m2 : Int} {L1 L2 : List (Int × Int)} {l1 l2 : List Int}
/-! ### one behind the other -/
end
end LW

end

section
set_option Elab.async false
set_option linter.all false
set_option maxRecDepth 100000
/-! Orders as rows: plain Lean. -/
namespace LW
open DL
/-- the rows that go on from a row by so many names -/
def rowsL (many : Int) (L : List (Int × Int)) : Nat → List Int → List (List Int)
  | 0, r => [r]
  | k + 1, r => (freeL many L r).flatMap fun n => rowsL many L k (r ++ [n])
/-- all orders -/
def ordsL (many : Int) (L : List (Int × Int)) : List (List Int) := rowsL many L many.toNat []
section
variable {many : Int} {L : List (Int × Int)}
theorem freeP_same {r l : List Int} (h : ∀ x, x ∈ r ↔ x ∈ l) (n : Int) : freeP L r n = freeP L l n := by
  rw [Bool.eq_iff_iff, freeP_iff, freeP_iff, h n]
  exact and_congr Iff.rfl (forall_congr' fun q => forall_congr' fun _ => forall_congr' fun _ => h q.1)
theorem freeL_same {r l : List Int} (h : ∀ x, x ∈ r ↔ x ∈ l) : freeL many L r = freeL many L l := by
  unfold freeL
  exact List.filter_congr fun n _ => freeP_same h n
theorem len_flatMap {α β : Type} (f : α → List β) (l : List α) : (l.flatMap f).length = sumN (l.map fun a => (f a).length) := by
  induction l with
  | nil => rfl
  | cons a l ih => rw [List.flatMap_cons, List.length_append, ih, List.map_cons, sumN_cons]
theorem rows_len : ∀ (k : Nat) (r l : List Int), (∀ x, x ∈ r ↔ x ∈ l) → (rowsL many L k r).length = waysL many L k l
  | 0, r, l, h => rfl
  | k + 1, r, l, h => by
    show ((freeL many L r).flatMap fun n => rowsL many L k (r ++ [n])).length = _
    rw [len_flatMap, waysL_succ, freeL_same h]
    refine sumN_congr fun n _ => rows_len k _ _ fun x => ?_
    rw [mem_withN, List.mem_append, List.mem_singleton, h x]
theorem ords_len : (ordsL many L).length = cntN many L := rows_len _ _ _ fun _ => Iff.rfl
theorem mem_rows (hL : LOk many L) : ∀ (k : Nat) (r s : List Int), s ∈ rowsL many L k r ↔ ∃ t, s = r ++ t ∧ t.length = k ∧ t.Nodup ∧ (∀ x ∈ t, (0 ≤ x ∧ x < many) ∧ x ∉ r) ∧ t.Pairwise (fun x y => (y, x) ∉ L) ∧ ∀ q ∈ L, q.2 ∈ t → q.1 ∈ r ∨ q.1 ∈ t
  | 0, r, s => by
    show s ∈ [r] ↔ _
    rw [List.mem_singleton]
    constructor
    · rintro rfl
      exact ⟨[], (List.append_nil _).symm, rfl, .nil, (fun x h => nomatch h), .nil, fun q _ h => nomatch h⟩
    · rintro ⟨t, rfl, h, _⟩
      rw [List.length_eq_zero_iff.mp h, List.append_nil]
  | k + 1, r, s => by
    show s ∈ (freeL many L r).flatMap (fun n => rowsL many L k (r ++ [n])) ↔ _
    rw [List.mem_flatMap]
    constructor
    · rintro ⟨n, hn, hs⟩
      obtain ⟨t, rfl, hl, nd, bd, pw, cl⟩ := (mem_rows hL k _ _).mp hs
      obtain ⟨b, ni, fr⟩ := mem_free.mp hn
      refine ⟨n :: t, by rw [List.append_assoc]; rfl, by rw [List.length_cons, hl], List.nodup_cons.mpr ⟨fun h => (bd n h).2 (by simp), nd⟩, fun x hx => ?_, List.pairwise_cons.mpr ⟨fun y hy z => ?_, pw⟩, fun q hq h => ?_⟩
      · rcases List.mem_cons.mp hx with rfl | hx
        · exact ⟨b, ni⟩
        · exact ⟨(bd x hx).1, fun z => (bd x hx).2 (List.mem_append.mpr (.inl z))⟩
      · exact (bd y hy).2 (List.mem_append.mpr (.inl (fr (y, n) z rfl)))
      · rcases List.mem_cons.mp h with h | h
        · exact .inl (fr q hq h)
        · rcases cl q hq h with z | z
          · rcases List.mem_append.mp z with z | z
            · exact .inl z
            · rw [List.mem_singleton] at z
              exact .inr (z ▸ List.mem_cons_self)
          · exact .inr (List.mem_cons_of_mem _ z)
    · rintro ⟨t, rfl, hl, nd, bd, pw, cl⟩
      cases t with
      | nil => cases hl
      | cons n t =>
        obtain ⟨n1, n2⟩ := List.nodup_cons.mp nd
        obtain ⟨p1, p2⟩ := List.pairwise_cons.mp pw
        obtain ⟨b, ni⟩ := bd n List.mem_cons_self
        refine ⟨n, mem_free.mpr ⟨b, ni, fun q hq e => ?_⟩, (mem_rows hL k _ _).mpr ⟨t, by rw [List.append_assoc]; rfl, by simpa using hl, n2, fun x hx => ?_, p2, fun q hq h => ?_⟩⟩
        · rcases cl q hq (e ▸ List.mem_cons_self) with z | z
          · exact z
          · rcases List.mem_cons.mp z with z | z
            · exact (hL.ne q hq (z.trans e.symm)).elim
            · exact (p1 q.1 z (by rw [← e]; exact hq)).elim
        · refine ⟨(bd x (List.mem_cons_of_mem _ hx)).1, fun z => ?_⟩
          rcases List.mem_append.mp z with z | z
          · exact (bd x (List.mem_cons_of_mem _ hx)).2 z
          · rw [List.mem_singleton] at z
            exact n1 (z ▸ hx)
        · rcases cl q hq (List.mem_cons_of_mem _ h) with z | z
          · exact .inl (List.mem_append.mpr (.inl z))
          · rcases List.mem_cons.mp z with z | z
            · exact .inl (List.mem_append.mpr (.inr (by rw [z]; simp)))
            · exact .inr z
theorem mem_ords (hL : LOk many L) {s : List Int} : s ∈ ordsL many L ↔ s.Perm (names many) ∧ s.Pairwise (fun x y => (y, x) ∉ L) := by
  unfold ordsL
  rw [mem_rows hL]
  constructor
  · rintro ⟨t, rfl, hl, nd, bd, pw, cl⟩
    refine ⟨?_, pw⟩
    refine (List.perm_ext_iff_of_nodup nd (asc_ndI (names_asc many))).mpr fun x => ⟨fun hx => mem_names.mpr (bd x hx).1, fun hx => Classical.byContradiction fun no => ?_⟩
    have sub : ∀ y ∈ s, y ∈ (names many).erase x := fun y hy => ((asc_ndI (names_asc many)).mem_erase_iff).mpr ⟨fun e => no (e ▸ hy), mem_names.mpr (bd y hy).1⟩
    have := nodup_len nd sub
    rw [List.length_erase_of_mem hx, names_len] at this
    have : 0 < (names many).length := List.length_pos_of_mem hx
    rw [names_len] at this
    omega
  · rintro ⟨pm, pw⟩
    have mm : ∀ x, x ∈ s ↔ 0 ≤ x ∧ x < many := fun x => pm.mem_iff.trans mem_names
    refine ⟨s, rfl, by rw [pm.length_eq, names_len], pm.nodup_iff.mpr (asc_ndI (names_asc many)), fun x hx => ⟨(mm x).mp hx, fun z => nomatch z⟩, pw, fun q hq h => .inr ((mm _).mpr ?_)⟩
    have := hL.bd q hq
    exact ⟨this.1, this.2.1⟩
theorem nd_rowsL (hL : LOk many L) : ∀ (k : Nat) (r : List Int), (rowsL many L k r).Nodup
  | 0, r => List.pairwise_singleton _ _
  | k + 1, r => by
    show ((freeL many L r).flatMap fun n => rowsL many L k (r ++ [n])).Nodup
    refine List.pairwise_flatMap.mpr ⟨fun n _ => nd_rowsL hL k _, (freeL_asc many L r).imp fun {n m} lt s hs u hu e => ?_⟩
    obtain ⟨t, rfl, _⟩ := (mem_rows hL k _ _).mp hs
    obtain ⟨t', e2, _⟩ := (mem_rows hL k _ _).mp hu
    rw [← e, List.append_assoc, List.append_assoc] at e2
    have := List.append_cancel_left e2
    have : n = m := by injection this
    omega
theorem nd_ords (hL : LOk many L) : (ordsL many L).Nodup := nd_rowsL hL _ _
end
/-! ### the rest behind a lot -/
section
variable {m m' : Int} {L P : List (Int × Int)} {l0 : List Int} {g : Int → Int}
end
end LW

end

section
set_option Elab.async false
set_option linter.all false
set_option maxRecDepth 100000
/-! Hooks of forests: plain Lean. -/
namespace LW
open DL
def fct : Nat → Nat
  | 0 => 1
  | n + 1 => fct n * (n + 1)
def prodN (l : List Nat) : Nat := l.foldr (· * ·) 1
/-- a name and those behind it -/
def hookN (L : List (Int × Int)) (v : Int) : Nat := 1 + (L.filter fun q => decide (q.1 = v)).length
/-- whoever are ahead of one name are so of one another -/
def Chn (L : List (Int × Int)) : Prop := ∀ a c b, (a, b) ∈ L → (c, b) ∈ L → a = c ∨ (a, c) ∈ L ∨ (c, a) ∈ L
def leftN (many : Int) (l : List Int) : List Int := (names many).filter fun n => !decide (n ∈ l)
section
variable {many : Int} {L : List (Int × Int)} {l : List Int}
/-- below each name that is left stands one that is free -/
theorem free_below {rk : Int → Nat} (hr : ∀ q ∈ L, rk q.1 < rk q.2) (hL : LOk many L) (ht : Trs L) : ∀ (k : Nat) (x : Int), rk x ≤ k → (0 ≤ x ∧ x < many) → x ∉ l → ∃ n ∈ freeL many L l, n = x ∨ (n, x) ∈ L
  | k, x, hk, bx, hx => by
    by_cases c : ∀ q ∈ L, q.2 = x → q.1 ∈ l
    · exact ⟨x, mem_free.mpr ⟨bx, hx, c⟩, .inl rfl⟩
    · have : ∃ q ∈ L, q.2 = x ∧ q.1 ∉ l := Classical.byContradiction fun no => c fun q hq e => Classical.byContradiction fun h => no ⟨q, hq, e, h⟩
      obtain ⟨q, hq, e, h⟩ := this
      have r := hr q hq
      rw [e] at r
      have bq := hL.bd q hq
      cases k with
      | zero => omega
      | succ k =>
        obtain ⟨n, hn, h2⟩ := free_below hr hL ht k q.1 (by omega) ⟨bq.1, bq.2.1⟩ h
        refine ⟨n, hn, .inr ?_⟩
        have hq' : (q.1, x) ∈ L := by rw [← e]; exact hq
        rcases h2 with rfl | h2
        · exact hq'
        · exact ht _ _ _ h2 hq'
end
end LW

end

section
set_option Elab.async false
set_option linter.all false
set_option maxRecDepth 100000
/-! Webs of levels: plain Lean. -/
namespace LW
open DL
/-- the numbers of names that are free at each place, multiplied -/
def frN (many : Int) (L : List (Int × Int)) (r : List Int) (k : Nat) : Nat := prodN ((List.range k).map fun p => (freeL many L (r.take p)).length)
/-- the names left on a level -/
def onLv (many : Int) (f : Int → Nat) (l : List Int) (j : Nat) : List Int := (names many).filter fun x => decide (x ∉ l ∧ f x = j)
def lvF (many : Int) (f : Int → Nat) (B : Nat) (l : List Int) : Nat := prodN ((List.range B).map fun j => fct (onLv many f l j).length)
/-- a web of levels -/
structure Lvl (many : Int) (L : List (Int × Int)) (f : Int → Nat) (B : Nat) : Prop where
  iff : ∀ a b, 0 ≤ a → a < many → 0 ≤ b → b < many → ((a, b) ∈ L ↔ f a < f b)
  lt : ∀ a, 0 ≤ a → a < many → f a < B
section
variable {many : Int} {L : List (Int × Int)} {f : Int → Nat} {B : Nat} {l : List Int}
/-- turned about, the levels are turned -/
theorem Lvl.turn (hv : Lvl many L f B) : Lvl many (turnL L) (fun x => B - 1 - f x) B := ⟨fun a b a0 a1 b0 b1 => by
  rw [mem_turn, hv.iff b a b0 b1 a0 a1]
  have := hv.lt a a0 a1
  have := hv.lt b b0 b1
  show f b < f a ↔ B - 1 - f a < B - 1 - f b
  omega, fun a a0 a1 => by
  have := hv.lt a a0 a1
  show B - 1 - f a < B
  omega⟩
end
/-! ### webs built level by level -/
theorem Lvl.behind {m1 m2 : Int} {L1 : List (Int × Int)} {f : Int → Nat} {B : Nat} (h : Lvl m1 L1 f B) (hL : LOk m1 L1) (p2 : 0 ≤ m2) : Lvl (m1 + m2) (sset (behL m1 m2 L1 [])) (fun x => if x < m1 then f x else B) (B + 1) := ⟨fun a b a0 a1 b0 b1 => by
  rw [mem_sset, mem_beh]
  show _ ↔ (if a < m1 then f a else B) < (if b < m1 then f b else B)
  by_cases ca : a < m1
  · rw [if_pos ca]
    by_cases cb : b < m1
    · rw [if_pos cb]
      constructor
      · rintro (z | z | z)
        · exact (h.iff a b a0 ca b0 cb).mp z
        · cases z
        · omega
      · exact fun z => .inl ((h.iff a b a0 ca b0 cb).mpr z)
    · rw [if_neg cb]
      exact ⟨fun _ => h.lt a a0 ca, fun _ => .inr (.inr (by omega))⟩
  · rw [if_neg ca]
    by_cases cb : b < m1
    · rw [if_pos cb]
      constructor
      · rintro (z | z | z)
        · have := hL.bd _ z; simp only at this; omega
        · cases z
        · omega
      · intro z
        have := h.lt b b0 cb
        omega
    · rw [if_neg cb]
      constructor
      · rintro (z | z | z)
        · have := hL.bd _ z; simp only at this; omega
        · cases z
        · omega
      · intro z
        omega, fun a a0 a1 => by
  show (if a < m1 then f a else B) < B + 1
  split
  · rename_i c
    have := h.lt a a0 c
    omega
  · omega⟩
end LW

end

section
set_option Elab.async false
set_option linter.all false
set_option maxRecDepth 100000
/-! The web of an order drawn by numbers: plain Lean. -/
namespace LW
open DL
/-- who must have a lesser number than whom, by the first places of an order -/
def numL (many : Int) (L : List (Int × Int)) (r : List Int) : Nat → List (Int × Int)
  | 0 => []
  | p + 1 => numL many L r p ++ ((freeL many L (r.take p)).filter fun o => !decide (o = r.getD p 0)).map fun o => (r.getD p 0, o)
section
variable {many : Int} {L : List (Int × Int)} {r : List Int}
/-! ### webs of levels -/
variable {f : Int → Nat} {B : Nat}
end
end LW

end

section
set_option Elab.async false
set_option linter.all false
set_option maxRecDepth 100000
/-! Few free names. Plain Lean. -/
namespace LW
open DL
section
variable {many : Int} {L : List (Int × Int)} {ro : List Int}
end
end LW

end

section
set_option Elab.async false
set_option linter.all false
set_option maxRecDepth 100000
/-! Rows of an order's first names. Plain Lean. -/
namespace LW
open DL
section
variable {many : Int} {L : List (Int × Int)} {ro : List Int}
theorem srt_asc {r : List Int} (nd : r.Nodup) : (sortInts r).Pairwise (· < ·) := (List.Pairwise.and (sortInts_sorted r) ((sortInts_perm r).nodup_iff.mpr nd)).imp fun {a b} h => by
  have h1 := h.1
  have h2 := h.2
  omega
theorem mem_srt {r : List Int} {x : Int} : x ∈ sortInts r ↔ x ∈ r := (sortInts_perm r).mem_iff
theorem srt_more {r : List Int} {n : Int} (nd : r.Nodup) (hn : n ∉ r) : sortInts (r ++ [n]) = withN (sortInts r) n := asc_ext (srt_asc (List.nodup_append.mpr ⟨nd, List.pairwise_singleton _ _, fun x hx y hy e => by
  rw [List.mem_singleton] at hy
  exact hn (by rw [← hy, ← e]; exact hx)⟩)) (withN_asc (srt_asc nd) fun h => hn (mem_srt.mp h)) fun x => by
  rw [mem_srt, mem_withN, mem_srt, List.mem_append, List.mem_singleton]
/-- the first names of an order -/
structure Pre (many : Int) (L : List (Int × Int)) (r : List Int) : Prop where
  nd : r.Nodup
  cl : CL many L (sortInts r)
  pw : r.Pairwise fun x y => (y, x) ∉ L
theorem srt_nil : sortInts [] = [] := by unfold sortInts; simp
theorem Pre.nil : Pre many L [] := ⟨.nil, by rw [srt_nil]; exact CL.nil, .nil⟩
theorem Pre.free (h : Pre many L ro) : freeL many L ro = freeL many L (sortInts ro) := freeL_same fun x => mem_srt.symm
theorem Pre.more (hL : LOk many L) (h : Pre many L ro) {n : Int} (hn : n ∈ freeL many L ro) : Pre many L (ro ++ [n]) := by
  have ni := (mem_free.mp hn).2.1
  refine ⟨List.nodup_append.mpr ⟨h.nd, List.pairwise_singleton _ _, fun x hx y hy e => ?_⟩, ?_, List.pairwise_append.mpr ⟨h.pw, List.pairwise_singleton _ _, fun x hx y hy z => ?_⟩⟩
  · rw [List.mem_singleton] at hy
    exact ni (by rw [← hy, ← e]; exact hx)
  · rw [srt_more h.nd ni]
    exact h.cl.more hL (by rw [← h.free]; exact hn)
  · rw [List.mem_singleton] at hy
    subst hy
    exact ni (mem_srt.mp (h.cl.cl _ z (mem_srt.mpr hx)))
end
end LW

end

section
set_option Elab.async false
set_option linter.all false
set_option maxRecDepth 100000
/-! Who is free. -/
namespace LW
open DL
end LW

end

section
set_option Elab.async false
set_option linter.all false
set_option maxRecDepth 100000
/-! Rows known to the object: sums, places. -/
namespace LW
open DL
abbrev ptupI (l : List Int) : D := .ptup (l.map .int)
theorem addP_I {l m : List Int} (h : l.length + m.length ≤ 100000) : oAddP (.ptup (l.map .int)) (.ptup (m.map .int)) = some (.fz (.ptup ((l ++ m).map .int))) := by
  show (if (l.map D.int).length + (m.map D.int).length ≤ line then some (RV.fz (.ptup (l.map D.int ++ m.map D.int))) else none) = _
  rw [if_pos (by rw [List.length_map, List.length_map]; exact Nat.le_trans h (by decide)), List.map_append]
end LW

end

section
set_option Elab.async false
set_option linter.all false
set_option maxRecDepth 100000
/-! Who is free. -/
namespace LW
open DL
end LW

end

section
set_option Elab.async false
set_option linter.all false
set_option maxRecDepth 100000
/-! All closed lots. -/
namespace LW
open DL
/-! ### the functions -/
end LW

end

section
set_option Elab.async false
set_option linter.all false
set_option maxRecDepth 100000
/-! The rests of a web, counted. -/
namespace LW
open DL
end LW

end

section
set_option Elab.async false
set_option linter.all false
set_option maxRecDepth 100000
/-! The count. -/
namespace LW
open DL
end LW

end

section
set_option Elab.async false
set_option linter.all false
set_option maxRecDepth 100000
/-! The order of a number, the number of an order. Plain Lean. -/
namespace LW
open DL
section
variable {many : Int} {L : List (Int × Int)}
/-- which of the rows it is: all that go ahead of each of its names are counted -/
def numN (many : Int) (L : List (Int × Int)) : List Int → List Int → Nat
  | _, [] => 0
  | r, x :: t => sumN (((freeL many L r).filter fun y => decide (y < x)).map fun y => (rowsL many L t.length (r ++ [y])).length) + numN many L (r ++ [x]) t
end
end LW

end

section
set_option Elab.async false
set_option linter.all false
set_option maxRecDepth 100000
/-! The order with a number, known to the object. -/
namespace LW
open DL
section
variable {c : Nat} {many : Int} {L : List (Int × Int)} {s : Slot} {ro : List Int}
end
end LW

end

section
set_option Elab.async false
set_option linter.all false
set_option maxRecDepth 100000
/-! Gaps: plain Lean. -/
namespace LW
open DL
/-- the first and the last place, by so many names of the row; who is ahead, who is later -/
def gsN (fs : List (Bool × Bool)) : Nat → Nat × Nat
  | 0 => (0, fs.length)
  | i + 1 => match fs[i]? with
    | some q => (if q.1 = true then i + 1 else (gsN fs i).1, if q.2 = true then min (gsN fs i).2 i else (gsN fs i).2)
    | none => gsN fs i
def gapB (fs : List (Bool × Bool)) : Nat × Nat := gsN fs fs.length
def gapN (fs : List (Bool × Bool)) : Nat := (gapB fs).2 - (gapB fs).1 + 1
section
variable {fs : List (Bool × Bool)}
/-- none of the later ones stands ahead of one that is ahead -/
def Fit (fs : List (Bool × Bool)) : Prop := ∀ (j k : Nat) (p q : Bool), fs[j]? = some (true, q) → fs[k]? = some (p, true) → j < k
end
/-- who of a row is ahead of a name, who is later -/
def flg (L : List (Int × Int)) (row : List Int) (x : Int) : List (Bool × Bool) := row.map fun y => (decide ((y, x) ∈ L), decide ((x, y) ∈ L))
def ins (row : List Int) (p : Nat) (x : Int) : List Int := row.take p ++ x :: row.drop p
def posL (fs : List (Bool × Bool)) : List Nat := (List.range ((gapB fs).2 + 1 - (gapB fs).1)).map fun i => i + (gapB fs).1
/-- the rows of called names that keep the befores; those called, the last one first -/
def extV (L : List (Int × Int)) : List Int → List (List Int)
  | [] => [[]]
  | x :: cs => (extV L cs).flatMap fun row => (posL (flg L row x)).map fun p => ins row p x
/-- the numbers of gaps, multiplied -/
def gp (L : List (Int × Int)) : List Int → List Int → Nat
  | [], _ => 1
  | x :: cs, r => gp L cs r * gapN (flg L (r.filter fun y => decide (y ∈ cs)) x)
section
variable {L : List (Int × Int)}
/-- the row of fractions' common bottom -/
def botN : Nat → Nat
  | 0 => 1
  | n + 1 => botN n * fct (n + 1)
end
end LW

end

section
set_option Elab.async false
set_option linter.all false
set_option maxRecDepth 100000
/-! Fractions in lowest terms: plain Lean. -/
namespace DL
def euS (p : Nat × Nat) : Nat × Nat := if 0 < p.2 then (p.2, p.1 % p.2) else p
def euN : Nat → Nat × Nat → Nat × Nat
  | 0, p => p
  | n + 1, p => euS (euN n p)
/-- lowest terms -/
def lowN (t b : Nat) : Nat × Nat := (t / Nat.gcd t b, b / Nat.gcd t b)
/-- sums -/
def plusN (p q : Nat × Nat) : Nat × Nat := lowN (p.1 * q.2 + q.1 * p.2) (p.2 * q.2)
def frD (p : Nat × Nat) : D := .tup [.int (p.1 : Int), .int (p.2 : Int)]
end DL

end

section
set_option Elab.async false
set_option linter.all false
set_option maxRecDepth 100000
/-! Gaps of all orders; webs renamed: plain Lean. -/
namespace LW
open DL
section
variable {many : Int} {L : List (Int × Int)}
theorem WOk.ir (h : WOk many L) : ∀ a, (a, a) ∉ L := fun a z => h.lok.ne _ z rfl
end
/-! ### renamed -/
def ren (ns : List Int) (n : Int) : Int := ns.getD n.toNat 0
def renL (ns : List Int) (L : List (Int × Int)) : List (Int × Int) := L.map fun q => (ren ns q.1, ren ns q.2)
section
variable {many : Int} {L : List (Int × Int)} {ns : List Int}
theorem ren_get (h : ns.length = many.toNat) {n : Int} (h0 : 0 ≤ n) (h1 : n < many) : ns[n.toNat]? = some (ren ns n) := by
  unfold ren
  rw [List.getD_eq_getElem?_getD, List.getElem?_eq_getElem (by omega)]
  rfl
theorem perm_len (h : ns.Perm (names many)) : ns.length = many.toNat := by rw [h.length_eq, names_len]
theorem ren_bd (h : ns.Perm (names many)) {n : Int} (h0 : 0 ≤ n) (h1 : n < many) : 0 ≤ ren ns n ∧ ren ns n < many := mem_names.mp (h.mem_iff.mp (List.mem_of_getElem? (ren_get (perm_len h) h0 h1)))
theorem ren_inj (h : ns.Perm (names many)) {a b : Int} (a0 : 0 ≤ a) (a1 : a < many) (b0 : 0 ≤ b) (b1 : b < many) (e : ren ns a = ren ns b) : a = b := by
  have nd : ns.Nodup := h.nodup_iff.mpr (asc_ndI (names_asc many))
  have x := plc_at nd (ren_get (perm_len h) a0 a1)
  have y := plc_at nd (ren_get (perm_len h) b0 b1)
  rw [e, y] at x
  omega
theorem WOk.ren (hw : WOk many L) (h : ns.Perm (names many)) : WOk many (sset (renL ns L)) := by
  have nd : ns.Nodup := h.nodup_iff.mpr (asc_ndI (names_asc many))
  obtain ⟨rk, hr⟩ := hw.lok.rk
  have back : ∀ q ∈ renL ns L, ∃ p ∈ L, (LW.ren ns p.1, LW.ren ns p.2) = q := fun q hq => List.mem_map.mp hq
  refine ⟨hw.m1, hw.m8, ⟨fun q hq => ?_, ⟨fun x => rk (plc ns x : Int), fun q hq => ?_⟩, asc_nd (sset_asc _)⟩, fun a b c h1 h2 => ?_, sset_asc _⟩
  · obtain ⟨p, hp, rfl⟩ := back q (mem_sset.mp hq)
    have bp := hw.lok.bd _ hp
    have x := ren_bd h bp.1 bp.2.1
    have y := ren_bd h bp.2.2.1 bp.2.2.2
    exact ⟨x.1, x.2, y.1, y.2⟩
  · obtain ⟨p, hp, rfl⟩ := back q (mem_sset.mp hq)
    have bp := hw.lok.bd _ hp
    have x := plc_at nd (ren_get (perm_len h) bp.1 bp.2.1)
    have y := plc_at nd (ren_get (perm_len h) bp.2.2.1 bp.2.2.2)
    show rk (plc ns (LW.ren ns p.1) : Int) < rk (plc ns (LW.ren ns p.2) : Int)
    rw [x, y, Int.toNat_of_nonneg bp.1, Int.toNat_of_nonneg bp.2.2.1]
    exact hr p hp
  · obtain ⟨p, hp, e1⟩ := back _ (mem_sset.mp h1)
    obtain ⟨q, hq, e2⟩ := back _ (mem_sset.mp h2)
    have bp := hw.lok.bd _ hp
    have bq := hw.lok.bd _ hq
    have e := ren_inj h bp.2.2.1 bp.2.2.2 bq.1 bq.2.1 ((Prod.mk.inj e1).2.trans (Prod.mk.inj e2).1.symm)
    refine mem_sset.mpr (List.mem_map.mpr ⟨(p.1, q.2), hw.trs p.1 p.2 q.2 hp (by rw [e]; exact hq), Prod.ext (Prod.mk.inj e1).1 (Prod.mk.inj e2).2⟩)
end
end LW

end

section
set_option Elab.async false
set_option linter.all false
set_option maxRecDepth 100000
/-! Names in a row. -/
namespace LW
open DL
section
variable {many : Int} {ns : List Int}
theorem ns_nd (h : ns.Perm (names many)) : ns.Nodup := h.nodup_iff.mpr (asc_ndI (names_asc many))
end
end LW

end

section
set_option Elab.async false
set_option linter.all false
set_option maxRecDepth 100000
/-! Orders judged. -/
namespace LW
open DL
section
variable {c : Nat} {many : Int} {L : List (Int × Int)} {s : Slot} {ro : List Int}
end
end LW

end

section
set_option Elab.async false
set_option linter.all false
set_option maxRecDepth 100000
set_option maxHeartbeats 4000000
/-! The number of an order. -/
namespace LW
open DL
section
variable {c : Nat} {many : Int} {L : List (Int × Int)} {s : Slot} {o : List Int}
end
end LW

end

section
set_option Elab.async false
set_option linter.all false
set_option maxRecDepth 100000
/-! All orders listed by levels. Plain Lean. -/
namespace LW
open DL
def lvlL (many : Int) (L : List (Int × Int)) : Nat → List (List Int)
  | 0 => [[]]
  | i + 1 => (lvlL many L i).flatMap fun r => (freeL many L r).map fun n => r ++ [n]
theorem rows_back (many : Int) (L : List (Int × Int)) : ∀ (k : Nat) (r : List Int), rowsL many L (k + 1) r = (rowsL many L k r).flatMap fun s => (freeL many L s).map fun n => s ++ [n]
  | 0, r => by
    show (freeL many L r).flatMap (fun n => [r ++ [n]]) = [r].flatMap fun s => (freeL many L s).map fun n => s ++ [n]
    rw [List.flatMap_cons, List.flatMap_nil, List.append_nil]
    induction freeL many L r with
    | nil => rfl
    | cons x l ih => rw [List.flatMap_cons, ih]; rfl
  | k + 1, r => by
    show (freeL many L r).flatMap (fun n => rowsL many L (k + 1) (r ++ [n])) = ((freeL many L r).flatMap fun n => rowsL many L k (r ++ [n])).flatMap fun s => (freeL many L s).map fun n => s ++ [n]
    rw [List.flatMap_assoc]
    have : (fun n => rowsL many L (k + 1) (r ++ [n])) = fun n => (rowsL many L k (r ++ [n])).flatMap fun s => (freeL many L s).map fun n => s ++ [n] := funext fun n => rows_back many L k (r ++ [n])
    rw [this]
theorem lvl_rows (many : Int) (L : List (Int × Int)) : ∀ k, lvlL many L k = rowsL many L k []
  | 0 => rfl
  | k + 1 => by
    rw [rows_back, ← lvl_rows many L k]
    rfl
theorem rows_few {many : Int} {L : List (Int × Int)} : ∀ (k : Nat) (r : List Int), r.Nodup → (∀ x ∈ r, 0 ≤ x ∧ x < many) → (rowsL many L k r).length ≤ fct (many.toNat - r.length)
  | 0, r, _, _ => by
    show 1 ≤ _
    induction (many.toNat - r.length) with
    | zero => exact Nat.le_refl _
    | succ n ih => exact Nat.mul_pos ih (Nat.succ_pos n)
  | k + 1, r, nd, bd => by
    show ((freeL many L r).flatMap fun n => rowsL many L k (r ++ [n])).length ≤ _
    have lf : (freeL many L r).length + r.length ≤ many.toNat := by
      have := nodup_len (l := freeL many L r ++ r) (m := names many) (List.nodup_append.mpr ⟨asc_ndI (freeL_asc many L r), nd, fun x hx y hy e => (mem_free.mp hx).2.1 (e ▸ hy)⟩) fun x hx => by
        rcases List.mem_append.mp hx with h | h
        · exact mem_names.mpr (mem_free.mp h).1
        · exact mem_names.mpr (bd x h)
      rw [List.length_append, names_len] at this
      exact this
    have key : ∀ l : List Int, (∀ n ∈ l, n ∈ freeL many L r) → (l.flatMap fun n => rowsL many L k (r ++ [n])).length ≤ l.length * fct (many.toNat - r.length - 1) := by
      intro l
      induction l with
      | nil => intro _; exact Nat.zero_le _
      | cons n l ih =>
        intro h
        obtain ⟨b, ni, _⟩ := mem_free.mp (h n List.mem_cons_self)
        have h1 := rows_few (many := many) (L := L) k (r ++ [n]) (List.nodup_append.mpr ⟨nd, List.pairwise_singleton _ _, fun x hx y hy e => by
          rw [List.mem_singleton] at hy
          exact ni (by rw [← hy, ← e]; exact hx)⟩) fun x hx => by
            rcases List.mem_append.mp hx with hx | hx
            · exact bd x hx
            · rw [List.mem_singleton] at hx; omega
        rw [List.length_append, List.length_singleton, ← Nat.sub_sub] at h1
        have h2 := ih fun n hn => h n (List.mem_cons_of_mem _ hn)
        rw [List.flatMap_cons, List.length_append, List.length_cons, Nat.add_mul]
        omega
    refine Nat.le_trans (key _ fun _ h => h) ?_
    cases e : many.toNat - r.length with
    | zero =>
      have : (freeL many L r).length = 0 := by omega
      rw [this, Nat.zero_mul]
      exact Nat.zero_le _
    | succ n =>
      show _ ≤ fct n * (n + 1)
      rw [Nat.add_sub_cancel, Nat.mul_comm]
      exact Nat.mul_le_mul_left _ (by omega)
theorem lvl_few (many : Int) (L : List (Int × Int)) (k : Nat) : (lvlL many L k).length ≤ fct many.toNat := by
  rw [lvl_rows]
  exact rows_few k [] .nil fun x h => nomatch h
end LW

end

section
set_option Elab.async false
set_option linter.all false
set_option maxRecDepth 100000
set_option maxHeartbeats 4000000
/-! Orders counted, judged: plain Lean. -/
namespace LW
open DL
/-- all befores are kept -/
def ordB (L : List (Int × Int)) (ro : List Int) : Bool := decide (∀ q ∈ L, plc ro q.1 < plc ro q.2)
theorem plc_ltO {L : List (Int × Int)} {ro : List Int} (nd : ro.Nodup) (pw : ro.Pairwise fun x y => (y, x) ∉ L) {a b : Int} (ha : a ∈ ro) (hb : b ∈ ro) (hab : (a, b) ∈ L) (ne : a ≠ b) : plc ro a < plc ro b := by
  have ea := plc_get nd ha
  have eb := plc_get nd hb
  obtain ⟨p1, e1⟩ := List.getElem?_eq_some_iff.mp ea
  obtain ⟨p2, e2⟩ := List.getElem?_eq_some_iff.mp eb
  rcases Nat.lt_trichotomy (plc ro a) (plc ro b) with c | c | c
  · exact c
  · exact (ne (plc_inj nd ha hb c)).elim
  · have := List.pairwise_iff_getElem.mp pw _ _ p2 p1 c
    rw [e1, e2] at this
    exact (this hab).elim
theorem ordB_pw {many : Int} {L : List (Int × Int)} {ro : List Int} (hL : LOk many L) (pm : ro.Perm (names many)) : ordB L ro = true ↔ ro.Pairwise fun x y => (y, x) ∉ L := by
  have nd := ns_nd pm
  unfold ordB
  rw [decide_eq_true_iff]
  constructor
  · intro h
    rw [List.pairwise_iff_getElem]
    intro i j hi hj lt hm
    have z := h _ hm
    simp only at z
    rw [plc_at nd (List.getElem?_eq_getElem hj), plc_at nd (List.getElem?_eq_getElem hi)] at z
    omega
  · intro pw q hq
    have b := hL.bd q hq
    exact plc_ltO nd pw (pm.mem_iff.mpr (mem_names.mpr ⟨b.1, b.2.1⟩)) (pm.mem_iff.mpr (mem_names.mpr ⟨b.2.2.1, b.2.2.2⟩)) hq (hL.ne q hq)
end LW

end

section
set_option Elab.async false
set_option linter.all false
set_option maxRecDepth 100000
set_option maxHeartbeats 4000000
/-! Rows that are known as tuples to the object: whether they are orders. -/
namespace LW
open DL
section
variable {c : Nat} {many : Int} {L C : List (Int × Int)} {s : Slot} {ro : List Int}
end
end LW

end

section
set_option Elab.async false
set_option linter.all false
set_option maxRecDepth 100000
set_option maxHeartbeats 4000000
/-! The number of an order. -/
namespace LW
open DL
section
variable {c : Nat} {many : Int} {L : List (Int × Int)} {s : Slot} {o : List Int}
end
end LW

end

section
set_option Elab.async false
set_option linter.all false
set_option maxRecDepth 100000
/-! Runs that end with an exception; try. -/
namespace DL
/-- m, run at r, ends with x -/
def wx {α : Type} (m : M α) (r : Env) (x : Exn) (r1 : Env) : Prop := m r = .exc x r1
section
variable {α β : Type} {m : M α} {k : α → M β} {r r1 r' : Env} {x : Exn} {a : α} {f : Fn} {vs : List RV} {ss ss' : List Slot}
end
section
variable {sub : Nat → Option Bool} {i : Nat} {fb : S} {fh : Exn → S} {r r1 : Env} {x : Exn} {Q : Flow → Env → Prop}
end
end DL

end

section
set_option Elab.async false
set_option linter.all false
set_option maxRecDepth 100000
set_option maxHeartbeats 4000000
/-! Numbers and orders that are none: refused. -/
namespace LW
open DL
section
variable {c : Nat} {many : Int} {L C : List (Int × Int)} {s : Slot} {ro : List Int} {x : D}
/-- no row of all names -/
def NoRow (many : Int) (x : D) : Prop := ∀ ns : List Int, x = .tup (ns.map .int) → (∀ n ∈ ns, 0 ≤ n ∧ n < many) → ns.Nodup → (ns.length : Int) ≠ many
end
end LW

end

section
set_option Elab.async false
set_option linter.all false
set_option maxRecDepth 100000
set_option maxHeartbeats 4000000
/-! The law's look whether a thing is an order. -/
namespace LW
open DL
section
variable {many : Int} {L : List (Int × Int)} {ro : List Int} {x : D}
theorem plc_idx (k : Int) : ∀ l : List Int, l.idxOf k = plc l k
  | [] => rfl
  | y :: l => by
    rw [List.idxOf_cons, plc_idx k l]
    show _ = if y = k then 0 else plc l k + 1
    by_cases e : y = k
    · rw [if_pos e, e]
      simp
    · rw [if_neg e, beq_eq_false_iff_ne.mpr e]
      rfl
theorem idxP {k : Int} (h : k ∈ ro) : oIdx (.ptup (ro.map .int)) (.int k) = some (.fz (.int (plc ro k : Int))) := by
  show (match ints? (ro.map D.int) with | some ns => if k ∈ ns then some (RV.fz (D.int (ns.idxOf k : Nat))) else none | none => none) = _
  rw [ints_map]
  show (if k ∈ ro then some (RV.fz (D.int (ro.idxOf k : Nat))) else none) = _
  rw [if_pos h, plc_idx]
end
end LW

end

section
set_option Elab.async false
set_option linter.all false
set_option maxRecDepth 100000
/-! Checks of names and places. -/
namespace LW
open DL
section
variable {c : Nat} {many : Int} {L : List (Int × Int)} {s : Slot}
end
end LW

end

section
set_option Elab.async false
set_option linter.all false
set_option maxRecDepth 100000
/-! The ways in which just the names of a lot come first. Plain Lean. -/
namespace LW
open DL
/-- the list of all closed lots, those with fewer names first -/
structure Lots (many : Int) (L : List (Int × Int)) (F : List (List Int)) : Prop where
  nd : F.Nodup
  asc : F.Pairwise fun l m => l.length ≤ m.length
  mem : ∀ l, l ∈ F ↔ CL many L l
def updF (f : List Int → Nat) (a : List Int) (v : Nat) : List Int → Nat := fun l => if l = a then v else f l
def bgL (l : List Int) (ns : List Int) (f : List Int → Nat) : List Int → Nat := ns.foldl (fun f n => updF f (withN l n) (f (withN l n) + f l)) f
def bgS (many : Int) (L : List (Int × Int)) (l : List Int) (f : List Int → Nat) : List Int → Nat := bgL l (freeL many L l) f
def bgF (many : Int) (L : List (Int × Int)) (F : List (List Int)) (f : List Int → Nat) : List Int → Nat := F.foldl (fun f l => bgS many L l f) f
def bg0 : List Int → Nat := fun l => if l = [] then 1 else 0
section
variable {many : Int} {L : List (Int × Int)}
def T1 (many : Int) (L : List (Int × Int)) (x : Int) (f : List Int → Nat) (m : List Int) : Nat := if x ∈ m then 0 else f m * restN many L m
def T2 (many : Int) (L : List (Int × Int)) (x : Int) (f : List Int → Nat) (m : List Int) : Nat := if x ∈ freeL many L m then f m * restN many L (withN m x) else 0
end
end LW

end

section
set_option Elab.async false
set_option linter.all false
set_option maxRecDepth 100000
/-! Orders counted by the names ahead of one of them. Plain Lean. -/
namespace LW
open DL
section
variable {many : Int} {L : List (Int × Int)} {x : Int} {C : List Int → Bool}
def T2C (many : Int) (L : List (Int × Int)) (x : Int) (C : List Int → Bool) (f : List Int → Nat) (m : List Int) : Nat := if C m = true then T2 many L x f m else 0
/-- the ways to go on from a lot, the lot ahead of x being as C wants -/
def gW (many : Int) (L : List (Int × Int)) (x : Int) (C : List Int → Bool) : Nat → List Int → Nat
  | 0, _ => 0
  | k + 1, l => sumN ((freeL many L l).map fun n => if n = x then (if C l = true then restN many L (withN l n) else 0) else gW many L x C k (withN l n))
def gN (many : Int) (L : List (Int × Int)) (x : Int) (C : List Int → Bool) (l : List Int) : Nat := gW many L x C (many.toNat - l.length) l
def T1C (many : Int) (L : List (Int × Int)) (x : Int) (C : List Int → Bool) (f : List Int → Nat) (m : List Int) : Nat := if x ∈ m then 0 else f m * gN many L x C m
/-- what stands ahead of x in a row -/
def ahd (x : Int) (ro : List Int) : List Int := sortInts (ro.takeWhile fun y => !decide (y = x))
end
end LW

end

section
set_option Elab.async false
set_option linter.all false
set_option maxRecDepth 100000
/-! Trees and rows: plain Lean. -/
namespace LW
open DL
theorem Pn.last {ps : List (Int × Int)} : ∀ {n : Nat} {a c : Int}, Pn ps n a c → (a, c) ∈ ps ∨ ∃ p, Tr ps a p ∧ (p, c) ∈ ps
  | 0, a, c, h => .inl h
  | n + 1, a, c, ⟨b, h1, h2⟩ => by
    rcases Pn.last h2 with h | ⟨p, hp, hc⟩
    · exact .inr ⟨b, ⟨0, h1⟩, h⟩
    · exact .inr ⟨p, Tr.join ⟨0, h1⟩ hp, hc⟩
/-! ### rows -/
def rowP (n : Int) : List (Int × Int) := (names (n - 1)).map fun k => (k, k + 1)
end LW

end

section
set_option Elab.async false
set_option linter.all false
set_option maxRecDepth 100000
/-! Webs apart, numbers of orders. -/
namespace LW
open DL
theorem wok_cl {many : Int} {ps L : List (Int × Int)} (h1 : 1 ≤ many) (hm : many ≤ 8) (ha : Acy many ps) (h : IsCl ps L) : WOk many L := ⟨h1, hm, cl_lok ha h, h.trs, h.asc⟩
theorem ways_pos {many : Int} {L : List (Int × Int)} (hL : LOk many L) (ht : Trs L) : ∀ (k : Nat) (l : List Int), CL many L l → l.length + k = many.toNat → 0 < waysL many L k l
  | 0, l, h, e => Nat.one_pos
  | k + 1, l, h, e => by
    rw [waysL_succ]
    obtain ⟨rk, hr⟩ := hL.rk
    have ex : ∃ x, (0 ≤ x ∧ x < many) ∧ x ∉ l := Classical.byContradiction fun no => by
      have : ∀ z ∈ names many, z ∈ l := fun z hz => Classical.byContradiction fun h => no ⟨z, mem_names.mp hz, h⟩
      have := nodup_len (asc_ndI (names_asc many)) this
      rw [names_len] at this
      omega
    obtain ⟨x, bx, nx⟩ := ex
    obtain ⟨n, hn, _⟩ := free_below (l := l) hr hL ht (rk x) x (Nat.le_refl _) bx nx
    have p := ways_pos hL ht k _ (h.more hL hn) (by rw [withN_len]; omega)
    have le : ∀ (f : Int → Nat) (A : List Int), n ∈ A → f n ≤ sumN (A.map f) := fun f A => by
      induction A with
      | nil => intro h; cases h
      | cons y A ih =>
        intro h
        rw [List.map_cons, sumN_cons]
        rcases List.mem_cons.mp h with rfl | h
        · omega
        · have := ih h; omega
    exact Nat.lt_of_lt_of_le p (le (fun n => waysL many L k (withN l n)) _ hn)
theorem cnt_pos {many : Int} {L : List (Int × Int)} (hL : LOk many L) (ht : Trs L) : 0 < cntN many L := ways_pos hL ht _ _ CL.nil (by simp)
end LW

end

section
set_option Elab.async false
set_option linter.all false
set_option maxRecDepth 100000
/-! Places in orders: sums. Plain Lean. -/
namespace LW
open DL
/-- the orders in which x has the place p -/
def plN (many : Int) (L : List (Int × Int)) (x : Int) (p : Nat) : Nat := ((ordsL many L).filter fun ro => decide (ro.idxOf x = p)).length
/-- the sum of the places of x -/
def idxS (many : Int) (L : List (Int × Int)) (x : Int) : Nat := sumN ((ordsL many L).map fun ro => ro.idxOf x)
section
variable {many : Int} {L : List (Int × Int)} {x : Int}
end
end LW

end

section
set_option Elab.async false
set_option linter.all false
set_option maxRecDepth 100000
/-! A pair may be put in: plain Lean. -/
namespace LW
open DL
section
variable {many : Int} {L : List (Int × Int)} {a b : Int}
/-- a pair may be put in -/
theorem acy_more (hw : WOk many L) (ha : 0 ≤ a ∧ a < many) (hb : 0 ≤ b ∧ b < many) (ne : a ≠ b) (no : (b, a) ∉ L) : Acy many (L ++ [(a, b)]) := by
  refine ⟨fun q hq => ?_, ?_⟩
  · rcases List.mem_append.mp hq with h | h
    · exact hw.lok.bd q h
    · rw [List.mem_singleton.mp h]
      exact ⟨ha.1, ha.2, hb.1, hb.2⟩
  · obtain ⟨rk, hr⟩ := hw.lok.rk
    refine ⟨fun x => if x = b ∨ (b, x) ∈ L then rk x + (rk a + 1) else rk x, fun q hq => ?_⟩
    rcases List.mem_append.mp hq with h | h
    · have lt := hr q h
      show (if q.1 = b ∨ (b, q.1) ∈ L then rk q.1 + (rk a + 1) else rk q.1) < if q.2 = b ∨ (b, q.2) ∈ L then rk q.2 + (rk a + 1) else rk q.2
      by_cases c : q.1 = b ∨ (b, q.1) ∈ L
      · have c2 : q.2 = b ∨ (b, q.2) ∈ L := by
          rcases c with c | c
          · right
            rw [← c]
            exact h
          · right
            exact hw.trs b q.1 q.2 c h
        rw [if_pos c, if_pos c2]
        omega
      · rw [if_neg c]
        split <;> omega
    · rw [List.mem_singleton.mp h]
      show (if a = b ∨ (b, a) ∈ L then rk a + (rk a + 1) else rk a) < if b = b ∨ (b, b) ∈ L then rk b + (rk a + 1) else rk b
      rw [if_neg (fun z => z.elim ne no), if_pos (.inl rfl)]
      omega
end
end LW

end

section
set_option Elab.async false
set_option linter.all false
set_option maxRecDepth 100000
/-! Who comes ahead of whom, counted over the orders. Plain Lean. -/
namespace LW
open DL
/-- the orders with a ahead of b -/
def ahN (many : Int) (L : List (Int × Int)) (a b : Int) : Nat := ((ordsL many L).filter fun ro => decide (ro.idxOf a < ro.idxOf b)).length
section
variable {many : Int} {L : List (Int × Int)} {a b : Int}
theorem wok_more (hw : WOk many L) (ha : 0 ≤ a ∧ a < many) (hb : 0 ≤ b ∧ b < many) (ne : a ≠ b) (no : (b, a) ∉ L) {M : List (Int × Int)} (hM : IsCl (L ++ [(a, b)]) M) : WOk many M := wok_cl hw.m1 hw.m8 (acy_more hw ha hb ne no) hM
end
end LW

end

section
set_option Elab.async false
set_option linter.all false
set_option maxRecDepth 100000
/-! Raw webs. -/
namespace LW
open DL
theorem raw_init_ok {many : Int} {L : List (Int × Int)} (h0 : 0 ≤ many) (hm : many ≤ 1000) (hl : L.length ≤ 1000) : f_RawWeb_init [.brw (.ins cRawWeb []), .val (.int many), .val (.tup (L.map pD))] = .ok (.fz .non) [.brw (webD cRawWeb many L), .val (.int many), .val (.tup (L.map pD))] := by
  have z : ∃ v r, f_RawWeb_init [.brw (.ins cRawWeb []), .val (.int many), .val (.tup (L.map pD))] = .ok v r ∧ (v = .fz .non ∧ r = [.brw (webD cRawWeb many L), .val (.int many), .val (.tup (L.map pD))]) := by
    refine fn_ok (Q := fun v r => v = .fz .non ∧ r = [.brw (webD cRawWeb many L), .val (.int many), .val (.tup (L.map pD))]) rfl ?_
    show wp _ [.brw (.ins cRawWeb []), .val (.int many), .val (.tup (L.map pD))] _
    walk_at "st"
    refine wp_meth.mpr (wi_chk ?_)
    walk_at "st"
    refine onI_ins ?_
    walk_at "st"
    refine wp_callFn (by simp [locs]) rfl (show f_RawWeb_keep _ = _ from keep_ok (c := cRawWeb) (by decide) h0 hm hl) rfl ?_
    walk_at "st"
    exact ⟨rfl, rfl⟩
  obtain ⟨v, r, e, rfl, rfl⟩ := z
  exact e
theorem raw_webH_ok {many : Int} {M : List (Int × Int)} {t : Slot} (h0 : 0 ≤ many) (hm : many ≤ 1000) (nM : M.Nodup) (hl : M.length ≤ 1000) (ht : Hld t (.lst (M.map pD))) : f_raw_web [.val (.int many), t] = .ok (.tmp (webD cRawWeb many (sset M))) [.val (.int many), t] := by
  have z : ∃ v r, f_raw_web [.val (.int many), t] = .ok v r ∧ (v = .tmp (webD cRawWeb many (sset M)) ∧ r = [.val (.int many), t]) := by
    refine fn_ok (Q := fun v r => v = .tmp (webD cRawWeb many (sset M)) ∧ r = [.val (.int many), t]) rfl ?_
    show wp _ [.val (.int many), t] _
    walk_at "st"
    refine wp_make.mpr ?_
    walk_at "st"
    apply onO_of (oSorted_pD nM)
    walk_at "st"
    refine wp_makeV (ds := [.int many, .tup ((sset M).map pD)]) (ss := [.val (.int many), .val (.tup ((sset M).map pD))]) rfl (raw_init_ok h0 hm (Nat.le_trans (sset_len M) hl)) ?_
    walk_at "st"
    exact ⟨rfl, rfl⟩
  obtain ⟨v, r, e, rfl, rfl⟩ := z
  exact e
theorem raw_web_ok {many : Int} {M : List (Int × Int)} (h0 : 0 ≤ many) (hm : many ≤ 1000) (nM : M.Nodup) (hl : M.length ≤ 1000) : f_raw_web [.val (.int many), .own (.lst (M.map pD))] = .ok (.tmp (webD cRawWeb many (sset M))) [.val (.int many), .own (.lst (M.map pD))] := raw_webH_ok h0 hm nM hl .own
end LW

end

section
set_option Elab.async false
set_option linter.all false
set_option maxRecDepth 100000
/-! Raw webs of a row of pairs. -/
namespace LW
open DL
section
variable {many : Int}
end
end LW

end

section
set_option Elab.async false
set_option linter.all false
set_option maxRecDepth 100000
/-! The package's closing of a list of pairs. -/
namespace LW
open DL
end LW

end

section
set_option Elab.async false
set_option linter.all false
set_option maxRecDepth 100000
set_option maxHeartbeats 4000000
/-! A pair put in. -/
namespace LW
open DL
section
variable {c : Nat} {many : Int} {L : List (Int × Int)} {s : Slot} {a b : Int}
end
end LW

end

section
set_option Elab.async false
set_option linter.all false
set_option maxRecDepth 100000
/-! What makes an order known. Plain Lean. -/
namespace LW
open DL
section
variable {many : Int} {L P C : List (Int × Int)} {ro : List Int}
/-- a pair, answered by an order -/
def ansP (ro : List Int) (q : Int × Int) : Int × Int := if plc ro q.1 < plc ro q.2 then q else (q.2, q.1)
/-- neighbours in an order -/
def Nbr (ro : List Int) (q : Int × Int) : Prop := plc ro q.1 + 1 = plc ro q.2 ∨ plc ro q.2 + 1 = plc ro q.1
/-- a pair of names, the lesser one first -/
def Fst (many : Int) (q : Int × Int) : Prop := 0 ≤ q.1 ∧ q.1 < q.2 ∧ q.2 < many
/-! ### neighbours listed -/
def zipN (ro : List Int) : List (Int × Int) := ro.zip (ro.drop 1)
def mmP (q : Int × Int) : Int × Int := (min q.1 q.2, max q.1 q.2)
/-- the open neighbours of an order -/
def ngh (L : List (Int × Int)) (ro : List Int) : List (Int × Int) := ((zipN ro).filter fun q => apP L q.1 q.2).map mmP
/-! ### lots of pairs -/
def ltK (O : List (Int × Int)) : Nat → List (List (Int × Int))
  | 0 => [[]]
  | k + 1 => ltK O k ++ (ltK O k).map fun l => l ++ [O.getD k (0, 0)]
end
end LW

end

section
set_option Elab.async false
set_option linter.all false
set_option maxRecDepth 100000
set_option maxHeartbeats 4000000
/-! Open pairs, the law's. -/
namespace LW
open DL
section
variable {many : Int} {L P C : List (Int × Int)} {ro : List Int}
/-- the open pairs -/
def openL (many : Int) (L : List (Int × Int)) : List (Int × Int) := (names many).flatMap fun a => ((rngI (a + 1) many).filter fun b => apP L a b).map fun b => (a, b)
theorem mem_openL {q : Int × Int} : q ∈ openL many L ↔ Fst many q ∧ apP L q.1 q.2 = true := by
  unfold openL Fst
  rw [List.mem_flatMap]
  constructor
  · rintro ⟨a, ha, h⟩
    obtain ⟨b, hb, rfl⟩ := List.mem_map.mp h
    obtain ⟨h1, h2⟩ := List.mem_filter.mp hb
    have := mem_names.mp ha
    have := mem_rngI.mp h1
    exact ⟨⟨by omega, by simp only; omega, by omega⟩, h2⟩
  · rintro ⟨⟨h0, h1, h2⟩, h3⟩
    exact ⟨q.1, mem_names.mpr ⟨h0, by omega⟩, List.mem_map.mpr ⟨q.2, List.mem_filter.mpr ⟨mem_rngI.mpr ⟨by omega, h2⟩, h3⟩, rfl⟩⟩
theorem rngI_nd (lo hi : Int) : (rngI lo hi).Nodup := by
  unfold rngI
  exact List.pairwise_map.mpr (List.nodup_range.imp fun {x y} ne e => ne (by omega))
theorem openL_nd (many : Int) (L : List (Int × Int)) : (openL many L).Nodup := by
  unfold openL
  refine List.pairwise_flatMap.mpr ⟨fun a ha => List.pairwise_map.mpr (((rngI_nd _ _).filter _).imp fun ne e => ne (congrArg Prod.snd e)), (asc_ndI (names_asc many)).imp fun {a b} ne q h1 p h2 e => ?_⟩
  obtain ⟨x, _, rfl⟩ := List.mem_map.mp h1
  obtain ⟨y, _, rfl⟩ := List.mem_map.mp h2
  exact ne (congrArg Prod.fst e)
theorem openL_few {k : Nat} (hm : many ≤ (k : Int)) : (openL many L).length ≤ k * k := by
  have n1 : ((openL many L).map fun q : Int × Int => (q.1 * (k : Int) + q.2 : Int)).Nodup := by
    refine List.pairwise_map.mpr (List.Pairwise.imp_of_mem (fun {p q} hp hq ne e => ne ?_) (openL_nd many L))
    obtain ⟨⟨a0, a1, a2⟩, _⟩ := mem_openL.mp hp
    obtain ⟨⟨b0, b1, b2⟩, _⟩ := mem_openL.mp hq
    have h1 : p.1 = q.1 := by
      rcases Int.lt_trichotomy p.1 q.1 with c | c | c
      · have : (p.1 + 1) * (k : Int) ≤ q.1 * k := Int.mul_le_mul_of_nonneg_right (by omega) (by omega)
        rw [Int.add_mul, Int.one_mul] at this
        omega
      · exact c
      · have : (q.1 + 1) * (k : Int) ≤ p.1 * k := Int.mul_le_mul_of_nonneg_right (by omega) (by omega)
        rw [Int.add_mul, Int.one_mul] at this
        omega
    rw [h1] at e
    exact Prod.ext h1 (by omega)
  have n2 : ∀ x ∈ ((openL many L).map fun q : Int × Int => (q.1 * (k : Int) + q.2 : Int)), x ∈ names ((k : Int) * (k : Int)) := fun x hx => by
    obtain ⟨q, hq, rfl⟩ := List.mem_map.mp hx
    obtain ⟨⟨a0, a1, a2⟩, _⟩ := mem_openL.mp hq
    have h1 : (q.1 + 1) * (k : Int) ≤ (k : Int) * k := Int.mul_le_mul_of_nonneg_right (by omega) (by omega)
    rw [Int.add_mul, Int.one_mul] at h1
    have h2 : 0 ≤ q.1 * (k : Int) := Int.mul_nonneg a0 (by omega)
    exact mem_names.mpr ⟨by omega, by omega⟩
  have := nodup_len n1 n2
  rw [List.length_map, names_len] at this
  exact Nat.le_trans this (by rw [← Int.natCast_mul, Int.toNat_natCast]; exact Nat.le_refl _)
theorem open_ok (hL : LOk many L) (h1 : 1 ≤ many) (h8 : many ≤ 8) : f_law_open [.val (.tup (L.map pD)), .val (.int many)] = .ok (.tmp (.lst ((openL many L).map pD))) [.val (.tup (L.map pD)), .val (.int many)] := by
  have z : ∃ v r, f_law_open [.val (.tup (L.map pD)), .val (.int many)] = .ok v r ∧ (v = .tmp (.lst ((openL many L).map pD)) ∧ r = [.val (.tup (L.map pD)), .val (.int many)]) := by
    refine fn_ok (Q := fun v r => v = .tmp (.lst ((openL many L).map pD)) ∧ r = [.val (.tup (L.map pD)), .val (.int many)]) rfl ?_
    show wp _ [.val (.tup (L.map pD)), .val (.int many), .no, .no, .no] _
    walk_at "st"
    refine onR_int (big62_of (by omega) (by omega)) ?_
    rw [rng0]
    refine forGo_of D.int (fun i r => ∃ s3 s4, Frs s3 ∧ Frs s4 ∧ r = [.val (.tup (L.map pD)), .val (.int many), .own (.lst ((((names many).take i).flatMap fun a => ((rngI (a + 1) many).filter fun b => apP L a b).map fun b => (a, b)).map pD)), s3, s4]) ?_ ?_ ⟨.no, .no, .no, .no, rfl⟩
    · rintro i x r hi ⟨s3, s4, f3, f4, rfl⟩
      obtain ⟨rfl, li⟩ := names_at hi
      generalize hA : (((names many).take i).flatMap fun a => ((rngI (a + 1) many).filter fun b => apP L a b).map fun b => (a, b)) = A
      have lA : A.length ≤ 64 := by
        have h0 := openL_few (L := L) (k := 8) h8
        have h2 : A.length ≤ (openL many L).length := by
          rw [← hA]
          unfold openL
          conv => rhs; rw [← List.take_append_drop i (names many), List.flatMap_append, List.length_append]
          omega
        omega
      walk_at "st"
      refine wi_frs rfl f3 ?_
      walk_at "st"
      refine onR_int (big62_of (by omega) (by omega)) (onR_int (big62_of (by omega) (by omega)) ?_)
      rw [rng_rngI]
      refine forGo_of D.int (fun k r => ∃ s4, Frs s4 ∧ r = [.val (.tup (L.map pD)), .val (.int many), .own (.lst ((A ++ ((((rngI ((i : Int) + 1) many).take k).filter fun b => apP L (i : Int) b).map fun b => ((i : Int), b))).map pD)), .val (.int (i : Int)), s4]) ?_ ?_ ⟨s4, f4, by rw [List.take_zero]; simp⟩
      · clear f4 s4
        rintro k y r hk ⟨s4, f4, rfl⟩
        have tk := take_next hk
        have lk := (List.getElem?_eq_some_iff.mp hk).1
        rw [rngI_len] at lk
        have lb : (((((rngI ((i : Int) + 1) many).take k).filter fun b => apP L (i : Int) b).map fun b => ((i : Int), b))).length ≤ 8 := by
          rw [List.length_map]
          have h1 := List.length_filter_le (fun b => apP L (i : Int) b) ((rngI ((i : Int) + 1) many).take k)
          rw [List.length_take, rngI_len] at h1
          omega
        walk_at "st"
        refine wi_frs rfl f4 ?_
        walk_at "st"
        apply onO_of (notIn_pDT (i : Int) y L)
        walk_at "st"
        have nx : ∀ {b : Bool}, apP L (i : Int) y = b → (((rngI ((i : Int) + 1) many).take (k + 1)).filter fun b => apP L (i : Int) b).map (fun b => ((i : Int), b)) = (((rngI ((i : Int) + 1) many).take k).filter fun b => apP L (i : Int) b).map (fun b => ((i : Int), b)) ++ (if b = true then [((i : Int), y)] else []) := fun {b} e => by
          rw [tk, List.filter_append, List.map_append]
          congr 1
          cases b
          · rw [List.filter_cons, if_neg (by rw [e]; exact Bool.false_ne_true)]; rfl
          · rw [List.filter_cons, if_pos e]; rfl
        by_cases c1 : ((i : Int), y) ∈ L
        · have e : apP L (i : Int) y = false := by unfold apP; rw [decide_eq_true c1]; rfl
          rw [decide_eq_true c1]
          refine wi_ifF (by decide) ?_
          refine wi_ifF (by decide) ?_
          walk_at "st"
          refine ⟨.val (.int y), .val, ?_⟩
          rw [nx e, if_neg (by decide), List.append_nil]
        · rw [decide_eq_false c1]
          refine wi_ifT (by decide) ?_
          walk_at "st"
          apply onO_of (notIn_pDT y (i : Int) L)
          walk_at "st"
          by_cases c2 : (y, (i : Int)) ∈ L
          · have e : apP L (i : Int) y = false := by unfold apP; rw [decide_eq_true c2, Bool.not_true, Bool.and_false]
            rw [decide_eq_true c2]
            refine wi_ifF (by decide) ?_
            walk_at "st"
            refine ⟨.val (.int y), .val, ?_⟩
            rw [nx e, if_neg (by decide), List.append_nil]
          · have e : apP L (i : Int) y = true := by unfold apP; rw [decide_eq_false c1, decide_eq_false c2]; rfl
            rw [decide_eq_false c2]
            refine wi_ifT (by decide) ?_
            walk_at "st"
            refine wi_mown rfl (append_map (f := pD) (a := ((i : Int), y)) (by rw [List.length_append]; omega)) ?_
            walk_at "st"
            refine ⟨.val (.int y), .val, ?_⟩
            rw [nx e, if_pos rfl, ← List.append_assoc]
      · rintro r ⟨s4, f4, rfl⟩
        rw [List.take_length]
        walk_at "st"
        refine ⟨.val (.int (i : Int)), s4, .val, f4, ?_⟩
        rw [take_next hi, List.flatMap_append, hA]
        simp
    · rintro r ⟨s3, s4, f3, f4, rfl⟩
      rw [List.take_length]
      walk_at "st"
      exact ⟨rfl, rfl⟩
  obtain ⟨v, r, e, rfl, rfl⟩ := z
  exact e
end
end LW

end

section
set_option Elab.async false
set_option linter.all false
set_option maxRecDepth 100000
/-! Who is apart. -/
namespace LW
open DL
section
variable {c : Nat} {many : Int} {L : List (Int × Int)} {s : Slot}
theorem is_apart_ok (hc : c ∈ webCs) (hs : Hld s (webD c many L)) {a b : Int} (h0 : 0 ≤ b) (h1 : b < many) : f_is_apart [s, .val (.int a), .val (.int b)] = .ok (.fz (.bl (apP L a b))) [s, .val (.int a), .val (.int b)] := by
  have z : ∃ v r, f_is_apart [s, .val (.int a), .val (.int b)] = .ok v r ∧ (v = .fz (.bl (apP L a b)) ∧ r = [s, .val (.int a), .val (.int b)]) := by
    refine fn_ok (Q := fun v r => v = .fz (.bl (apP L a b)) ∧ r = [s, .val (.int a), .val (.int b)]) rfl ?_
    show wp _ [s, .val (.int a), .val (.int b)] _
    walk_at "st"
    apply onO_of (fld2 hc)
    walk_at "st"
    apply onO_of (oIx_L h0 (aheadL_get h0 h1))
    walk_at "st"
    apply onO_of (notIn_row a _)
    rw [dec_mem (q := (a, b) ∈ L) (j := inferInstance) mem_fst]
    walk_at "st"
    unfold apP
    by_cases c1 : (a, b) ∈ L
    · rw [decide_eq_true c1]
      refine wi_ifF (by decide) ?_
      walk_at "st"
      exact ⟨rfl, rfl⟩
    · rw [decide_eq_false c1]
      refine wi_ifT (by decide) ?_
      walk_at "st"
      apply onO_of (fld3 hc)
      walk_at "st"
      apply onO_of (oIx_L h0 (laterL_get h0 h1))
      walk_at "st"
      apply onO_of (notIn_row a _)
      rw [dec_mem (q := (b, a) ∈ L) (j := inferInstance) mem_snd]
      walk_at "st"
      exact ⟨rfl, rfl⟩
  obtain ⟨v, r, e, rfl, rfl⟩ := z
  exact e
end
end LW

end

section
set_option Elab.async false
set_option linter.all false
set_option maxRecDepth 100000
/-! Open pairs. -/
namespace LW
open DL
section
variable {c : Nat} {many : Int} {L : List (Int × Int)} {s : Slot}
theorem ext_any {xs ys : List D} (h : xs.length + ys.length ≤ 100000) : mExtend (.lst xs) [.lst ys] = some (.lst (xs ++ ys), .non) := by
  show (if xs.length + ys.length ≤ line then some (D.lst (xs ++ ys), D.non) else none) = _
  rw [if_pos (Nat.le_trans h (by decide))]
theorem pairs_apart_ok (hc : c ∈ webCs) (h0 : 0 ≤ many) (hm : many ≤ 8) (hs : Hld s (webD c many L)) : f_pairs_apart [s] = .ok (.tmp (.lst ((apL many L).map pD))) [s] := by
  have z : ∃ v r, f_pairs_apart [s] = .ok v r ∧ (v = .tmp (.lst ((apL many L).map pD)) ∧ r = [s]) := by
    refine fn_ok (Q := fun v r => v = .tmp (.lst ((apL many L).map pD)) ∧ r = [s]) rfl ?_
    show wp _ [s, .no, .no, .no] _
    walk_at "st"
    apply onO_of (fld0 hc)
    refine onR_int (big62_of h0 (by omega)) ?_
    rw [rng0]
    refine forGo_of D.int (fun i r => ∃ s2, Frs s2 ∧ (((names many).take i).flatMap (apRow many L)).length ≤ 8 * i ∧ r = [s, .own (.lst ((((names many).take i).flatMap (apRow many L)).map pD)), s2, .no]) ?_ ?_ ⟨.no, .no, by simp, by rw [List.take_zero]; rfl⟩
    · rintro i a r hi ⟨s2, f2, hl, rfl⟩
      have ha := names_at hi
      have tk := take_next hi
      walk_at "st"
      refine wi_frs rfl f2 ?_
      walk_at "st"
      apply onO_of (fld0 hc)
      walk_at "st"
      refine onR_int (big62_of (by omega) (by omega)) (onR_int (big62_of h0 (by omega)) ?_)
      refine ⟨rfl, ?_⟩
      walk_at "st"
      rw [rng_rngI]
      refine wp_mono (compGo_of D.int (apP L a) (fun b => pD (a, b)) ?_ fun b hb => ?_) fun ys r' ⟨h1, h2⟩ => ?_
      · rw [rngI_len]
        exact Nat.le_trans (show (many - (a + 1)).toNat ≤ 8 by omega) (by decide)
      · have hb' := mem_rngI.mp hb
        walk_at "st"
        refine wi_any rfl hs fun x hv hax hx => ?_
        walk_at "st"
        refine wp_callV (ds := [.int a, .int b]) hax (is_apart_ok hc hs.lend (by omega) (by omega)) ?_
        walk_at "st"
        refine ⟨rfl, ?_⟩
        by_cases h : apP L a b = true
        · refine wi_ifT h ?_
          walk_at "st"
          refine ⟨rfl, ?_⟩
          walk_at "st"
          all_goals rfl
        · refine wi_ifF h ?_
          walk_at "st"
          all_goals rfl
      · subst h1 h2
        have e1 : ((rngI (a + 1) many).filter (apP L a)).map (fun b => pD (a, b)) = (apRow many L a).map pD := by
          unfold apRow
          rw [List.map_map]
          rfl
        rw [e1]
        walk_at "st"
        have lr := apRow_len hm L (a := a) (by omega)
        refine wi_mown rfl (ext_any (by rw [List.length_map, List.length_map]; omega)) ?_
        walk_at "st"
        refine ⟨.val (.int a), .val, ?_, ?_⟩
        · rw [tk, List.flatMap_append, List.length_append]
          simp only [List.flatMap_cons, List.flatMap_nil, List.append_nil]
          omega
        · rw [tk, List.flatMap_append, List.map_append]
          simp only [List.flatMap_cons, List.flatMap_nil, List.append_nil]
          rfl
    · rintro r ⟨s2, f2, hl, rfl⟩
      rw [List.take_length]
      walk_at "st"
      exact ⟨rfl, rfl⟩
  obtain ⟨v, r, e, rfl, rfl⟩ := z
  exact e
end
end LW

end

section
set_option Elab.async false
set_option linter.all false
set_option maxRecDepth 100000
/-! Who is free, by the law's own look. -/
namespace LW
open DL
theorem notIn_rowZ (a : Int) (l : List Int) : oNotIn (.int a) (.ptup (l.map .int)) = some (.fz (.bl (!decide (a ∈ l)))) := notIn_row a l
theorem law_freeZ_ok {many : Int} {L : List (Int × Int)} {lot : List Int} (h0 : 0 ≤ many) (hm : many ≤ 8) (hL : LOk many L) :
    f_law_free [.val (.tup (L.map pD)), .val (.int many), .val (.ptup (lot.map .int))] = .ok (.tmp (.lst ((freeL many L lot).map .int))) [.val (.tup (L.map pD)), .val (.int many), .val (.ptup (lot.map .int))] := by
  have few := hL.few hm
  have z : ∃ v r, f_law_free [.val (.tup (L.map pD)), .val (.int many), .val (.ptup (lot.map .int))] = .ok v r ∧ (v = .tmp (.lst ((freeL many L lot).map .int)) ∧ r = [.val (.tup (L.map pD)), .val (.int many), .val (.ptup (lot.map .int))]) := by
    refine fn_ok (Q := fun v r => v = .tmp (.lst ((freeL many L lot).map .int)) ∧ r = [.val (.tup (L.map pD)), .val (.int many), .val (.ptup (lot.map .int))]) rfl ?_
    show wp _ [.val (.tup (L.map pD)), .val (.int many), .val (.ptup (lot.map .int)), .no, .no, .no, .no] _
    walk_at "st"
    refine onR_int (big62_of h0 (by omega)) ?_
    rw [rng0]
    refine forGo_of D.int (fun i r => ∃ s4, Frs s4 ∧ r = [.val (.tup (L.map pD)), .val (.int many), .val (.ptup (lot.map .int)), .own (.lst ((((names many).take i).filter (freeP L lot)).map .int)), s4, .no, .no]) ?_ ?_ ⟨.no, .no, by rw [List.take_zero]; rfl⟩
    · rintro i n r hn ⟨s4, f4, rfl⟩
      have tk := take_next hn
      have ap : ∀ {b : Bool}, freeP L lot n = b → ((names many).take (i + 1)).filter (freeP L lot) = ((names many).take i).filter (freeP L lot) ++ (if b = true then [n] else []) := fun {b} e => by
        rw [tk, List.filter_append]
        cases b <;> simp [e]
      walk_at "st"
      refine wi_frs rfl f4 ?_
      walk_at "st"
      apply onO_of (notIn_rowZ n lot)
      walk_at "st"
      by_cases c1 : n ∈ lot
      · rw [decide_eq_true c1]
        refine wi_ifF (by decide) ?_
        walk_at "st"
        refine wi_ifF (by decide) ?_
        walk_at "st"
        refine ⟨.val (.int n), .val, ?_⟩
        rw [ap (b := false) (by unfold freeP; rw [decide_eq_true c1]; rfl), if_neg (by decide), List.append_nil]
      · rw [decide_eq_false c1]
        refine wi_ifT (by decide) ?_
        walk_at "st"
        refine ⟨rfl, ?_⟩
        walk_at "st"
        refine wp_mono (compGo_of pD (fun q => decide (q.2 = n) && !decide (q.1 ∈ lot)) (fun q => .int q.1) (Nat.le_trans few (by decide)) fun q hq => ?_) fun ys r' ⟨h1, h2⟩ => ?_
        · obtain ⟨x, y⟩ := q
          rw [show pD (x, y) = .tup [.int x, .int y] from rfl]
          walk_at "st"
          by_cases hx : y = n
          · refine wi_ifT (decide_eq_true hx) ?_
            walk_at "st"
            apply onO_of (notIn_rowZ x lot)
            walk_at "st"
            have e1 : (decide ((x, y).2 = n) && !decide ((x, y).1 ∈ lot)) = !decide (x ∈ lot) := by
              rw [decide_eq_true (show (x, y).2 = n from hx)]; rfl
            refine ⟨e1.symm, ?_⟩
            by_cases hin : x ∈ lot
            · rw [decide_eq_true hin]
              refine wi_ifF (by decide) ?_
              walk_at "st"
              all_goals rfl
            · rw [decide_eq_false hin]
              refine wi_ifT (by decide) ?_
              walk_at "st"
              refine ⟨rfl, ?_⟩
              walk_at "st"
              all_goals rfl
          · refine wi_ifF (by simpa using hx) ?_
            have e1 : (decide ((x, y).2 = n) && !decide ((x, y).1 ∈ lot)) = false := by
              rw [decide_eq_false (show ¬ (x, y).2 = n from hx)]; rfl
            refine ⟨e1.symm, ?_⟩
            refine wi_ifF (by decide) ?_
            walk_at "st"
            all_goals rfl
        · subst h1 h2
          walk_at "st"
          have fe : freeP L lot n = decide ((((L.filter fun q => decide (q.2 = n) && !decide (q.1 ∈ lot)).map fun q => D.int q.1).length : Int) = 0) := by
            rw [List.length_map]
            by_cases c2 : freeP L lot n = true
            · rw [c2]
              have := (freeP_iff.mp c2).2
              have e0 : (L.filter fun q => decide (q.2 = n) && !decide (q.1 ∈ lot)) = [] := by
                rw [List.filter_eq_nil_iff]
                intro q hq z
                rw [Bool.and_eq_true] at z
                have := this q hq (of_decide_eq_true z.1)
                rw [decide_eq_true this] at z
                exact Bool.false_ne_true z.2
              rw [e0]
              rfl
            · have c2' : freeP L lot n = false := by simpa using c2
              rw [c2']
              symm
              refine decide_eq_false fun z => c2 (freeP_iff.mpr ⟨c1, fun q hq e => ?_⟩)
              refine Classical.byContradiction fun hno => ?_
              have hm' : q ∈ L.filter fun q => decide (q.2 = n) && !decide (q.1 ∈ lot) := List.mem_filter.mpr ⟨hq, by rw [decide_eq_true e, decide_eq_false hno]; rfl⟩
              have := List.length_pos_of_mem hm'
              omega
          by_cases c2 : freeP L lot n = true
          · refine wi_ifT (fe.symm.trans c2) ?_
            walk_at "st"
            refine wi_mown rfl (append_int ?_) ?_
            · have := List.length_filter_le (freeP L lot) ((names many).take i)
              rw [List.length_take, names_len] at this
              omega
            walk_at "st"
            refine ⟨.val (.int n), .val, ?_⟩
            rw [ap (b := true) c2, if_pos rfl]
            rfl
          · have c2' : freeP L lot n = false := by simpa using c2
            refine wi_ifF (by
              show ¬ decide ((((L.filter fun q => decide (q.2 = n) && !decide (q.1 ∈ lot)).map fun q => D.int q.1).length : Int) = 0) = true
              rw [← fe, c2']; decide) ?_
            walk_at "st"
            refine ⟨.val (.int n), .val, ?_⟩
            rw [ap (b := false) c2', if_neg (by decide), List.append_nil]
            rfl
    · rintro r ⟨s4, f4, rfl⟩
      rw [List.take_length]
      walk_at "st"
      exact ⟨rfl, rfl⟩
  obtain ⟨v, r, e, rfl, rfl⟩ := z
  exact e
end LW

end

section
set_option Elab.async false
set_option linter.all false
set_option maxRecDepth 100000
/-! All orders listed by the law, as rows known to the object. -/
namespace LW
open DL
theorem fct_leZ : ∀ n ≤ 8, fct n ≤ 40320 := by decide
theorem law_ordersZ_ok {many : Int} {L : List (Int × Int)} (h0 : 1 ≤ many) (hm : many ≤ 8) (hL : LOk many L) :
    f_law_orders [.val (.tup (L.map pD)), .val (.int many)] = .ok (.fz (.lst ((ordsL many L).map ptupI))) [.val (.tup (L.map pD)), .val (.int many)] := by
  have z : ∃ v r, f_law_orders [.val (.tup (L.map pD)), .val (.int many)] = .ok v r ∧ (v = .fz (.lst ((ordsL many L).map ptupI)) ∧ r = [.val (.tup (L.map pD)), .val (.int many)]) := by
    refine fn_ok (Q := fun v r => v = .fz (.lst ((ordsL many L).map ptupI)) ∧ r = [.val (.tup (L.map pD)), .val (.int many)]) rfl ?_
    show wp _ [.val (.tup (L.map pD)), .val (.int many), .no, .no, .no, .no, .no] _
    walk_at "st"
    refine onR_int (big62_of (by omega) (by omega)) ?_
    rw [rng0]
    have f7 := fct_leZ many.toNat (by omega)
    refine forGo_of D.int (fun i r => ∃ s2 s3 s4 s5, (if i = 0 then s2 = .own (.lst ((lvlL many L i).map ptupI)) else s2 = .val (.lst ((lvlL many L i).map ptupI))) ∧ Frs s3 ∧ Frs s4 ∧ Frs s5 ∧ r = [.val (.tup (L.map pD)), .val (.int many), s2, s3, s4, s5, .no]) ?_ ?_ ⟨.own (.lst ((lvlL many L 0).map ptupI)), .no, .no, .no, by rw [if_pos rfl], .no, .no, .no, rfl⟩
    · rintro i t r hi ⟨s2, s3, s4, s5, h2, f3, f4, f5, rfl⟩
      have v2 : VO s2 (.lst ((lvlL many L i).map ptupI)) := by
        split at h2
        · exact .inr h2
        · exact .inl h2
      clear h2
      walk_at "st"
      refine wi_frs rfl f3 ?_
      walk_at "st"
      refine wi_frs rfl f4 ?_
      walk_at "st"
      refine wi_vo rfl v2 ?_
      walk_at "st"
      refine forGo_of ptupI (fun a r => ∃ s5, Frs s5 ∧ r = [.val (.tup (L.map pD)), .val (.int many), .val (.lst ((lvlL many L i).map ptupI)), .val (.int t), .own (.lst ((((lvlL many L i).take a).flatMap fun r => (freeL many L r).map fun n => r ++ [n]).map ptupI)), s5, .no]) ?_ ?_ ⟨s5, f5, by rw [List.take_zero]; rfl⟩
      · clear f5 s5
        rintro a row r ha ⟨s5, f5, rfl⟩
        have tk := take_next ha
        have lacc : (((lvlL many L i).take a).flatMap fun r => (freeL many L r).map fun n => r ++ [n]).length ≤ 40320 := by
          refine Nat.le_trans (Nat.le_trans ?_ (lvl_few many L (i + 1))) f7
          show _ ≤ ((lvlL many L i).flatMap fun r => (freeL many L r).map fun n => r ++ [n]).length
          conv => rhs; rw [← List.take_append_drop a (lvlL many L i), List.flatMap_append, List.length_append]
          omega
        have lf : (freeL many L row).length ≤ 8 := by
          have := List.length_filter_le (freeP L row) (names many)
          rw [names_len] at this
          show ((names many).filter (freeP L row)).length ≤ 8
          omega
        have lr : row.length ≤ 8 := by
          have h1 := List.mem_of_getElem? ha
          rw [lvl_rows] at h1
          obtain ⟨u, e, lu, nu, bu, _⟩ := (mem_rows hL i [] row).mp h1
          rw [List.nil_append] at e
          subst e
          have := nodup_len (m := names many) nu fun x hx => mem_names.mpr (bu x hx).1
          rw [names_len] at this
          omega
        walk_at "st"
        refine wi_frs rfl f5 ?_
        walk_at "st"
        refine wp_callFn (by simp [locs]) rfl (law_freeZ_ok (by omega) (by omega) hL) rfl ?_
        walk_at "st"
        refine ⟨rfl, ?_⟩
        walk_at "st"
        refine wp_mono (compGo_of D.int (fun _ => true) (fun n => ptupI (row ++ [n])) (Nat.le_trans lf (by decide)) fun n hn => ?_) fun ys r' ⟨h1, h2⟩ => ?_
        · walk_at "st"
          refine ⟨rfl, ?_⟩
          refine wi_ifT rfl ?_
          walk_at "st"
          apply onO_of (addP_I (l := row) (m := [n]) (by show row.length + 1 ≤ 100000; omega))
          walk_at "st"
          refine ⟨rfl, ?_⟩
          walk_at "st"
          all_goals rfl
        · subst h1 h2
          rw [List.filter_eq_self.mpr fun _ _ => rfl]
          rw [show ((freeL many L row).map fun n => ptupI (row ++ [n])) = ((freeL many L row).map fun n => row ++ [n]).map ptupI by rw [List.map_map]; rfl]
          walk_at "st"
          apply onO_of (add_L (f := ptupI) (by rw [List.length_map]; omega))
          walk_at "st"
          refine ⟨.val (ptupI row), .val, ?_⟩
          rw [tk, List.flatMap_append]
          simp only [List.flatMap_cons, List.flatMap_nil, List.append_nil]
          rfl
      · rintro r ⟨s5, f5, rfl⟩
        rw [List.take_length]
        walk_at "st"
        exact ⟨_, _, _, s5, by rw [if_neg (by omega)]; rfl, .val, .val, f5, rfl⟩
    · rintro r ⟨s2, s3, s4, s5, h2, f3, f4, f5, rfl⟩
      rw [names_len] at h2
      rw [if_neg (by omega)] at h2
      subst h2
      walk_at "st"
      exact ⟨by rw [lvl_rows]; rfl, rfl⟩
  obtain ⟨v, r, e, rfl, rfl⟩ := z
  exact e
end LW

end

section
set_option Elab.async false
set_option linter.all false
set_option maxRecDepth 100000
/-! The law's own closing. -/
namespace LW
open DL
theorem closed_okS {many : Int} {ps : List (Int × Int)} {s : Slot} {dd : D} (hs : Hld s dd) (hdd : oSortSet dd = srtSet (ps.map pD)) (ha : Acy many ps) (hm : many ≤ 8) : ∃ L, IsCl ps L ∧ f_law_closed [s] = .ok (.fz (.tup (L.map pD))) [s] := by
  have good : ∀ {L : List (Int × Int)} {m : Nat}, Upto ps L m → ∀ q ∈ L, (0 ≤ q.1 ∧ q.1 < many ∧ 0 ≤ q.2 ∧ q.2 < many) ∧ q.1 ≠ q.2 := fun {L m} h q hq => by
    obtain ⟨n, _, t⟩ := (h q).mp hq
    exact ⟨t.bd ha, Tr.ne ha ⟨n, t⟩⟩
  have z : ∃ x r, f_law_closed [s] = .ok x r ∧ ∃ L, IsCl ps L ∧ x = .fz (.tup (L.map pD)) ∧ r = [s] := by
    refine fn_ok (Q := fun x r => ∃ L, IsCl ps L ∧ x = .fz (.tup (L.map pD)) ∧ r = [s]) rfl ?_
    show wp _ [s, .no, .no, .no, .no, .no, .no, .no, .no] _
    have u0 : Upto ps (sset ps) 1 := fun q => by
      rw [mem_sset]
      exact ⟨fun h => ⟨0, by decide, h⟩, fun ⟨n, h1, h2⟩ => by
        have e : n = 0 := by omega
        subst e
        exact h2⟩
    walk_at "st"
    apply onO_of (hdd.trans <| srtSet_ok hm fun q hq => ⟨ha.bd q hq, Tr.ne ha ⟨0, hq⟩⟩)
    walk_at "st"
    refine onR_int rfl ?_
    refine forGo_inv (fun k r => ∃ (L : List (Int × Int)) (s2 s3 s4 s5 : Slot), Upto ps L (2 ^ k) ∧ (L.map rw2).Pairwise (· < ·) ∧ Frs s2 ∧ Frs s3 ∧ Frs s4 ∧ Frs s5 ∧
      r = [s, .own (.lst (L.map pD)), s2, s3, s4, s5, .no, .no, .no]) ?_ ?_ ⟨sset ps, .no, .no, .no, .no, u0, sset_asc ps, .no, .no, .no, .no, rfl⟩
    · rintro k u r hk ⟨L, s2, s3, s4, s5, hL, hs, f2, f3, f4, f5, rfl⟩
      obtain ⟨rfl, hlt⟩ := rng_get hk
      have len : L.length ≤ 56 := few_pairs hm ((List.pairwise_map.mp hs).imp fun {x y} hab e => by subst e; exact List.lt_irrefl _ hab) fun q hq => good hL q hq
      walk_at "st"
      refine wi_frs rfl f2 ?_
      walk_at "st"
      refine wi_frs rfl f3 ?_
      walk_at "st"
      refine forGo_inv (fun i r => ∃ (s4 s5 : Slot), Frs s4 ∧ Frs s5 ∧ ((L.take i).flatMap (addOf L)).length ≤ 56 * i ∧
        r = [s, .val (.lst (L.map pD)), .val (.int (0 + (k : Int))), .own (.lst (((L.take i).flatMap (addOf L)).map pD)), s4, s5, .no, .no, .no]) ?_ ?_ ⟨s4, s5, f4, f5, by simp, rfl⟩
      · rintro i u r hi ⟨s4, s5, f4, f5, hl, rfl⟩
        rw [List.getElem?_map] at hi
        cases hq : L[i]? with
        | none => rw [hq] at hi; cases hi
        | some q =>
          rw [hq] at hi
          cases hi
          obtain ⟨a, c⟩ := q
          have tk : L.take (i + 1) = L.take i ++ [(a, c)] := by rw [List.take_succ, hq]; rfl
          have hi' : i < L.length := (List.getElem?_eq_some_iff.mp hq).1
          rw [show pD (a, c) = .tup [.int a, .int c] from rfl]
          walk_at "st"
          refine wi_frs rfl f4 ?_
          walk_at "st"
          refine wi_frs rfl f5 ?_
          walk_at "st"
          refine ⟨rfl, ?_⟩
          walk_at "st"
          refine wp_mono (compGo_pure (pFst c) (gSnd a) ?_ fun d hd => ?_) fun ys r' ⟨h1, h2⟩ => ?_
          · rw [List.length_map]; exact Nat.le_trans len (by decide)
          · obtain ⟨⟨x, y⟩, _, rfl⟩ := List.mem_map.mp hd
            rw [show pD (x, y) = .tup [.int x, .int y] from rfl]
            walk_at "st"
            refine ⟨rfl, ?_⟩
            by_cases hx : x = c
            · refine wi_ifT (decide_eq_true hx) ?_
              walk_at "st"
              refine ⟨rfl, ?_⟩
              walk_at "st"
            · refine wi_ifF (by simpa using hx) ?_
              walk_at "st"
          · subst h1 h2
            have ad : oAdd (.lst (((L.take i).flatMap (addOf L)).map pD)) (.lst (((L.map pD).filter (pFst c)).map (gSnd a))) = some (.tmp (.lst (((L.take (i + 1)).flatMap (addOf L)).map pD))) := by
              rw [add_eq]
              have l1 := addOf_len L (a, c)
              show (if (((L.take i).flatMap (addOf L)).map pD).length + ((addOf L (a, c)).map pD).length ≤ line then some (RV.tmp (.lst (((L.take i).flatMap (addOf L)).map pD ++ (addOf L (a, c)).map pD))) else none) = _
              have ln : (((L.take i).flatMap (addOf L)).map pD).length + ((addOf L (a, c)).map pD).length ≤ line := by
                rw [List.length_map, List.length_map]
                have : ((L.take i).flatMap (addOf L)).length + (addOf L (a, c)).length ≤ 10000 := by omega
                exact Nat.le_trans this (by decide)
              rw [if_pos ln, tk, List.flatMap_append, List.map_append]
              simp
            walk_at "st"
            apply onO_of ad
            walk_at "st"
            refine ⟨_, _, .val, .val, ?_, rfl⟩
            rw [tk, List.flatMap_append, List.length_append]
            have l1 := addOf_len L (a, c)
            have e1 : ([(a, c)] : List (Int × Int)).flatMap (addOf L) = addOf L (a, c) := by simp
            rw [e1]
            omega
      · rintro r ⟨s4, s5, f4, f5, hl, rfl⟩
        rw [List.length_map, List.take_length] at *
        have mr : L.flatMap (addOf L) = more L := rfl
        rw [mr] at hl ⊢
        walk_at "st"
        apply onO_of (add_pD (by omega))
        walk_at "st"
        have up := upto_step (Nat.one_le_two_pow) hL
        rw [show 2 * 2 ^ k = 2 ^ (k + 1) by rw [Nat.pow_succ]; omega] at up
        apply onO_of (show oSortSet (.lst ((L ++ more L).map pD)) = _ from srtSet_ok hm fun q hq => good up q (mem_sset.mpr hq))
        walk_at "st"
        exact ⟨_, _, _, _, _, up, sset_asc _, .val, .own, f4, f5, rfl⟩
    · rintro r ⟨L, s2, s3, s4, s5, hL, hs, f2, f3, f4, f5, rfl⟩
      have hL : Upto ps L 16 := hL
      have len : L.length ≤ 56 := few_pairs hm ((List.pairwise_map.mp hs).imp fun {x y} hab e => by subst e; exact List.lt_irrefl _ hab) fun q hq => good hL q hq
      have cl : IsCl ps L := ⟨hs, fun q => (hL q).trans ⟨fun ⟨n, _, h⟩ => ⟨n, h⟩, fun ⟨n, h⟩ => ⟨n, h.short ha hm, h⟩⟩⟩
      walk_at "st"
      refine ⟨rfl, ?_⟩
      walk_at "st"
      refine wp_mono (compGo_pure pSame id ?_ fun d hd => ?_) fun ys r' ⟨h1, h2⟩ => ?_
      · rw [List.length_map]; exact Nat.le_trans len (by decide)
      · obtain ⟨⟨x, y⟩, _, rfl⟩ := List.mem_map.mp hd
        rw [show pD (x, y) = .tup [.int x, .int y] from rfl]
        walk_at "st"
        refine ⟨rfl, ?_⟩
        by_cases hx : x = y
        · refine wi_ifT (decide_eq_true hx) ?_
          walk_at "st"
          refine ⟨rfl, ?_⟩
          walk_at "st"
        · refine wi_ifF (by simpa using hx) ?_
          walk_at "st"
      · have e0 : ((L.map pD).filter pSame).map id = [] := by
          rw [List.map_id, List.filter_eq_nil_iff]
          intro d hd
          obtain ⟨q, hq, rfl⟩ := List.mem_map.mp hd
          have := (good hL q hq).2
          show ¬ decide (q.1 = q.2) = true
          simpa using this
        rw [e0] at h1
        subst h1 h2
        walk_at "st"
        refine wi_ifF (by decide) ?_
        walk_at "st"
        exact ⟨L, cl, rfl, rfl⟩
  obtain ⟨x, r, e, L, q0, rfl, rfl⟩ := z
  exact ⟨L, q0, e⟩
theorem closed_ok {many : Int} {ps : List (Int × Int)} (ha : Acy many ps) (hm : many ≤ 8) : ∃ L, IsCl ps L ∧ f_law_closed [.val (.tup (ps.map pD))] = .ok (.fz (.tup (L.map pD))) [.val (.tup (ps.map pD))] := closed_okS (dd := .tup (ps.map pD)) .val rfl ha hm
end LW

end

section
set_option Elab.async false
set_option linter.all false
set_option maxRecDepth 100000
set_option maxHeartbeats 4000000
/-! Trees of asks: plain. -/
namespace LW
open DL
inductive Tr where
  | lf (row : List Int)
  | ak (a b : Int) (s t : Tr)
def Tr.d : Tr → D
  | .lf r => .tup [.str "order", .ptup (r.map .int)]
  | .ak a b s t => .tup [.int a, .int b, s.d, t.d]
def Tr.dp : Tr → Nat
  | .lf _ => 0
  | .ak _ _ s t => max s.dp t.dp + 1
def Tr.ls : Tr → List (List Int)
  | .lf r => [r]
  | .ak _ _ s t => s.ls ++ t.ls
/-- rows of at most k names -/
def Tr.sh (k : Nat) : Tr → Prop
  | .lf r => r.length ≤ k
  | .ak _ _ s t => s.sh k ∧ t.sh k
structure Apt (many : Int) (L : List (Int × Int)) (a b : Int) : Prop where
  ha : 0 ≤ a ∧ a < many
  hb : 0 ≤ b ∧ b < many
  ne : a ≠ b
  n1 : (a, b) ∉ L
  n2 : (b, a) ∉ L
theorem Apt.sw {many : Int} {L : List (Int × Int)} {a b : Int} (h : Apt many L a b) : Apt many L b a := ⟨h.hb, h.ha, fun e => h.ne e.symm, h.n2, h.n1⟩
theorem apP72 {L : List (Int × Int)} {a b : Int} : apP L a b = true ↔ (a, b) ∉ L ∧ (b, a) ∉ L := by
  unfold apP
  rw [Bool.and_eq_true, Bool.not_eq_true', Bool.not_eq_true', decide_eq_false_iff_not, decide_eq_false_iff_not]
theorem Apt.of_open {many : Int} {L : List (Int × Int)} {q : Int × Int} (h : q ∈ openL many L) : Apt many L q.1 q.2 := by
  obtain ⟨⟨h0, h1, h2⟩, h3⟩ := mem_openL.mp h
  obtain ⟨n1, n2⟩ := apP72.mp h3
  exact ⟨⟨h0, by omega⟩, ⟨by omega, h2⟩, by omega, n1, n2⟩
inductive TrOk : Int → List (Int × Int) → Tr → Prop
  | lf {many : Int} {L : List (Int × Int)} {r : List Int} : openL many L = [] → r ∈ ordsL many L → TrOk many L (.lf r)
  | ak {many : Int} {L M N : List (Int × Int)} {a b : Int} {s t : Tr} : Apt many L a b → IsCl (L ++ [(a, b)]) M → IsCl (L ++ [(b, a)]) N → TrOk many M s → TrOk many N t → TrOk many L (.ak a b s t)
theorem cl_sub {P M : List (Int × Int)} (hM : IsCl P M) : ∀ q ∈ P, q ∈ M := fun q hq => (hM.mem q).mpr ⟨0, hq⟩
/-- with an answer known fewer pairs are open -/
theorem open_less {many : Int} {L M : List (Int × Int)} {a b : Int} (h : Apt many L a b) (hM : IsCl (L ++ [(a, b)]) M) : (openL many M).length < (openL many L).length := by
  obtain ⟨q, hq, eq⟩ : ∃ q ∈ openL many L, q = (a, b) ∨ q = (b, a) := by
    by_cases c : a < b
    · exact ⟨(a, b), mem_openL.mpr ⟨⟨h.ha.1, c, h.hb.2⟩, apP72.mpr ⟨h.n1, h.n2⟩⟩, .inl rfl⟩
    · exact ⟨(b, a), mem_openL.mpr ⟨⟨h.hb.1, by have := h.ne; show b < a; omega, h.ha.2⟩, apP72.mpr ⟨h.n2, h.n1⟩⟩, .inr rfl⟩
  have inM : (a, b) ∈ M := cl_sub hM _ (List.mem_append_right _ (List.mem_singleton.mpr rfl))
  have no : q ∉ openL many M := fun hm => by
    obtain ⟨_, h3⟩ := mem_openL.mp hm
    obtain ⟨n1, n2⟩ := apP72.mp h3
    rcases eq with rfl | rfl
    · exact n1 inM
    · exact n2 inM
  have := nodup_len (List.nodup_cons.mpr ⟨no, openL_nd many M⟩) (m := openL many L) fun x hx => by
    rcases List.mem_cons.mp hx with rfl | hx
    · exact hq
    · obtain ⟨h1, h3⟩ := mem_openL.mp hx
      obtain ⟨n1, n2⟩ := apP72.mp h3
      exact mem_openL.mpr ⟨h1, apP72.mpr ⟨fun h => n1 (cl_sub hM _ (List.mem_append_left _ h)), fun h => n2 (cl_sub hM _ (List.mem_append_left _ h))⟩⟩
  exact this
end LW

end

section
set_option Elab.async false
set_option linter.all false
set_option maxRecDepth 100000
set_option maxHeartbeats 4000000
/-! Trees of asks judged, by the program and by the law: alike. -/
namespace LW
open DL
section
variable {c : Nat} {many : Int} {L : List (Int × Int)} {s : Slot}
end
end LW

end

section
set_option Elab.async false
set_option linter.all false
set_option maxRecDepth 100000
set_option maxHeartbeats 4000000
/-! Trees of asks drawn, and bent. -/
namespace LW
open DL
section
variable {many : Int} {L : List (Int × Int)} {cs : List Int} {b : Nat} {d : D}
theorem ords_ne72 (hw : WOk many L) : ordsL many L ≠ [] := fun e => by
  have h := ords_len (many := many) (L := L)
  rw [e] at h
  have := cnt_pos hw.lok hw.trs
  simp at h
  omega
theorem get_mem72 {α : Type} {l : List α} {i : Nat} {x : α} (h : l[i]? = some x) : x ∈ l := List.mem_of_getElem? h
end
end LW

end

section
set_option Elab.async false
set_option linter.all false
set_option maxRecDepth 100000
set_option maxHeartbeats 8000000
/-! Trees of asks bent. -/
namespace LW
open DL
section
variable {many : Int} {cs : List Int}
end
end LW

end

section
set_option Elab.async false
set_option linter.all false
set_option maxRecDepth 100000
set_option maxHeartbeats 4000000
/-! Webs drawn, with many names mostly. -/
namespace LW
open DL
section
variable {many most : Int} {L : List (Int × Int)}
theorem web_drawn {cs : List Int} {b : Nat} {d : D} (m4 : 4 ≤ most) (m8 : most ≤ 8) (ht : TOk cs b d) (hb : b ≤ 800000000) : ∃ (many : Int) (L : List (Int × Int)) (d' : D), many ≤ most ∧ WOk many L ∧ TOk cs (b + 110) d' ∧ f_law_web [.brw d, .val (.int most)] = .ok (.fz (.tup [.int many, .tup (L.map pD)])) [.brw d', .val (.int most)] := by
  have z : ∃ v r, f_law_web [.brw d, .val (.int most)] = .ok v r ∧ ∃ (many : Int) (L : List (Int × Int)) (d' : D), many ≤ most ∧ WOk many L ∧ TOk cs (b + 110) d' ∧ v = .fz (.tup [.int many, .tup (L.map pD)]) ∧ r = [.brw d', .val (.int most)] := by
    refine fn_ok (Q := fun v r => ∃ (many : Int) (L : List (Int × Int)) (d' : D), many ≤ most ∧ WOk many L ∧ TOk cs (b + 110) d' ∧ v = .fz (.tup [.int many, .tup (L.map pD)]) ∧ r = [.brw d', .val (.int most)]) rfl ?_
    show wp _ [.brw d, .val (.int most), .no] _
    walk_at "st"
    refine wp_pickB rfl ht (by omega) (by omega) (by omega) fun k d2 k0 k1 t2 => ?_
    walk_at "st"
    refine wp_pickB rfl t2 (by omega) (by decide) (by decide) fun k' d3 k0' k1' t3 => ?_
    walk_at "st"
    by_cases c : 0 < k'
    · refine wi_ifT (decide_eq_true c) ?_
      walk_at "st"
      by_cases c2 : most - 1 > 1 + k
      · rw [if_pos c2]
        have g1 : 1 ≤ (most - 1) := by omega
        have g2 : (most - 1) ≤ most := by omega
        generalize (most - 1) = mm at g1 g2
        obtain ⟨ps, d4, ha, hs, t4, e4⟩ := pairs_okP t3 (by omega) (show 0 ≤ mm by omega) (by omega)
        refine wp_callFn (by simp [locs]) rfl e4 rfl ?_
        walk_at "st"
        obtain ⟨L, hL, e5⟩ := closed_ok ha (show mm ≤ 8 by omega)
        refine wp_callFn (by simp [locs]) rfl e5 rfl ?_
        walk_at "st"
        exact ⟨mm, L, d4, g2, wok_cl (by omega) (by omega) ha hL, t4.mono (by omega), rfl, rfl⟩
      · rw [if_neg c2]
        have g1 : 1 ≤ (1 + k) := by omega
        have g2 : (1 + k) ≤ most := by omega
        generalize (1 + k) = mm at g1 g2
        obtain ⟨ps, d4, ha, hs, t4, e4⟩ := pairs_okP t3 (by omega) (show 0 ≤ mm by omega) (by omega)
        refine wp_callFn (by simp [locs]) rfl e4 rfl ?_
        walk_at "st"
        obtain ⟨L, hL, e5⟩ := closed_ok ha (show mm ≤ 8 by omega)
        refine wp_callFn (by simp [locs]) rfl e5 rfl ?_
        walk_at "st"
        exact ⟨mm, L, d4, g2, wok_cl (by omega) (by omega) ha hL, t4.mono (by omega), rfl, rfl⟩
    · refine wi_ifF (by simpa using c) ?_
      walk_at "st"
      have g1 : 1 ≤ (1 + k) := by omega
      have g2 : (1 + k) ≤ most := by omega
      generalize (1 + k) = mm at g1 g2
      obtain ⟨ps, d4, ha, hs, t4, e4⟩ := pairs_okP t3 (by omega) (show 0 ≤ mm by omega) (by omega)
      refine wp_callFn (by simp [locs]) rfl e4 rfl ?_
      walk_at "st"
      obtain ⟨L, hL, e5⟩ := closed_ok ha (show mm ≤ 8 by omega)
      refine wp_callFn (by simp [locs]) rfl e5 rfl ?_
      walk_at "st"
      exact ⟨mm, L, d4, g2, wok_cl (by omega) (by omega) ha hL, t4.mono (by omega), rfl, rfl⟩
  obtain ⟨v, r, e, many, L, d', h1, h2, h3, rfl, rfl⟩ := z
  exact ⟨many, L, d', h1, h2, h3, e⟩
end
end LW

end

section
set_option Elab.async false
set_option linter.all false
set_option maxRecDepth 100000
set_option maxHeartbeats 8000000
/-! Small webs, rows drawn. -/
namespace LW
open DL
section
variable {many : Int} {L : List (Int × Int)}
theorem one_order (hw : WOk many L) (h : openL many L = []) : (ordsL many L).length ≤ 1 := by
  have all : ∀ x ∈ ordsL many L, ∀ y ∈ ordsL many L, x = y := fun x hx y hy => by
    obtain ⟨p1, q1⟩ := (mem_ords hw.lok).mp hx
    obtain ⟨p2, q2⟩ := (mem_ords hw.lok).mp hy
    have tot : ∀ a b : Int, (0 ≤ a ∧ a < many) → (0 ≤ b ∧ b < many) → (a, b) ∉ L → (b, a) ∉ L → a = b := fun a b ha hb n1 n2 => Classical.byContradiction fun ne => by
      by_cases c : a < b
      · have := (mem_openL (many := many) (q := (a, b)) (L := L)).mpr ⟨⟨ha.1, c, hb.2⟩, apP72.mpr ⟨n1, n2⟩⟩
        rw [h] at this
        cases this
      · have := (mem_openL (many := many) (q := (b, a)) (L := L)).mpr ⟨⟨hb.1, (show b < a by omega), ha.2⟩, apP72.mpr ⟨n2, n1⟩⟩
        rw [h] at this
        cases this
    have bd : ∀ {p : List Int}, p.Perm (names many) → ∀ z ∈ p, 0 ≤ z ∧ z < many := fun pm z hz => mem_names.mp (pm.mem_iff.mp hz)
    refine eq_of_sorted (r := fun x y : Int => (y, x) ∉ L ∧ (0 ≤ x ∧ x < many) ∧ 0 ≤ y ∧ y < many) (fun x y h1 h2 => tot x y h1.2.1 h1.2.2 h2.1 h1.1) (p1.trans p2.symm) ?_ ?_
    · exact List.Pairwise.imp_of_mem (fun {a b} ha hb n => ⟨n, bd p1 a ha, bd p1 b hb⟩) q1
    · exact List.Pairwise.imp_of_mem (fun {a b} ha hb n => ⟨n, bd p2 a ha, bd p2 b hb⟩) q2
  have nd := nd_ords hw.lok
  generalize ordsL many L = l at all nd
  match l, all, nd with
  | [], _, _ => exact Nat.zero_le _
  | [a], _, _ => exact Nat.le_refl 1
  | a :: b :: t, all, nd =>
    have e := all a (by simp) b (by simp)
    subst e
    exact absurd (List.mem_cons_self) (List.nodup_cons.mp nd).1
theorem open_ten (h5 : many ≤ 5) : (openL many L).length ≤ 10 := by
  have f : ∀ (a : Int), ((rngI (a + 1) many).filter fun b => apP L a b).length ≤ (many - (a + 1)).toNat := fun a => Nat.le_trans (List.length_filter_le _ _) (by rw [rngI_len]; exact Nat.le_refl _)
  unfold openL
  rw [List.length_flatMap]
  simp only [List.length_map]
  have g : ∀ l : List Int, (l.map fun a => ((rngI (a + 1) many).filter fun b => apP L a b).length).sum ≤ (l.map fun a => (many - (a + 1)).toNat).sum := fun l => by
    induction l with
    | nil => exact Nat.le_refl _
    | cons a l ih =>
      have := f a
      simp only [List.map_cons, List.sum_cons]
      omega
  refine Nat.le_trans (g (names many)) ?_
  by_cases h0 : 1 ≤ many
  · rcases (by omega : many = 1 ∨ many = 2 ∨ many = 3 ∨ many = 4 ∨ many = 5) with rfl | rfl | rfl | rfl | rfl <;> decide
  · have : names many = [] := by
      unfold names
      rw [show many.toNat = 0 by omega]
      rfl
    rw [this]
    exact Nat.zero_le _
theorem small_ok {cs : List Int} {b : Nat} {d : D} {most rows : Int} (m4 : 4 ≤ most) (m5 : most ≤ 5) (r0 : 1 ≤ rows) (ht : TOk cs b d) (hb : b ≤ 800000000) : ∃ (many : Int) (L : List (Int × Int)) (d' : D), many ≤ most ∧ WOk many L ∧ TOk cs (b + 130) d' ∧
    f_law_small [.brw d, .val (.int most), .val (.int rows)] = .ok (.fz (.tup [.int many, .tup (L.map pD)])) [.brw d', .val (.int most), .val (.int rows)] := by
  have z : ∃ v r, f_law_small [.brw d, .val (.int most), .val (.int rows)] = .ok v r ∧ ∃ (many : Int) (L : List (Int × Int)) (d' : D), many ≤ most ∧ WOk many L ∧ TOk cs (b + 130) d' ∧ v = .fz (.tup [.int many, .tup (L.map pD)]) ∧ r = [.brw d', .val (.int most), .val (.int rows)] := by
    refine fn_ok (Q := fun v r => ∃ (many : Int) (L : List (Int × Int)) (d' : D), many ≤ most ∧ WOk many L ∧ TOk cs (b + 130) d' ∧ v = .fz (.tup [.int many, .tup (L.map pD)]) ∧ r = [.brw d', .val (.int most), .val (.int rows)]) rfl ?_
    show wp _ [.brw d, .val (.int most), .val (.int rows), .no, .no, .no, .no, .no] _
    obtain ⟨many, L, d1, mm, hw, t1, e1⟩ := web_drawn m4 (by omega) ht hb
    walk_at "st"
    refine wp_callFn (by simp [locs]) rfl e1 rfl ?_
    walk_at "st"
    refine onR_int (by decide) ?_
    rw [rng0]
    have m1 := hw.m1
    have m8 := hw.m8
    refine forGo_of D.int (fun i r => ∃ (d' : D) (L : List (Int × Int)) (s5 s6 s7 : Slot), WOk many L ∧ TOk cs (b + 110 + i) d' ∧ Frs s5 ∧ Frs s6 ∧ Frs s7 ∧ r = [.brw d', .val (.int most), .val (.int rows), .val (.int many), .val (.tup (L.map pD)), s5, s6, s7]) ?_ ?_ ⟨d1, L, .no, .no, .no, hw, t1, .no, .no, .no, rfl⟩
    · clear hw t1 e1 L d1 ht d
      rintro i u r hi ⟨d', L, s5, s6, s7, hw, t1, f5, f6, f7, rfl⟩
      have i10 : i < 10 := by have := (names_at hi).2; omega
      have few := hw.lok.few m8
      walk_at "st"
      refine wi_frs rfl f5 ?_
      walk_at "st"
      refine wp_callFn (by simp [locs]) rfl (law_ordersZ_ok m1 m8 hw.lok) rfl ?_
      walk_at "st"
      rw [List.length_map]
      by_cases c : ((ordsL many L).length : Int) > rows
      · refine wi_ifT (decide_eq_true c) ?_
        have ne : openL many L ≠ [] := fun e => by
          have := one_order hw e
          omega
        have lp := List.length_pos_iff.mpr ne
        have l64 := openL_few (L := L) (many := many) (k := 8) m8
        walk_at "st"
        refine wp_callFn (by simp [locs]) rfl (open_ok hw.lok m1 m8) rfl ?_
        walk_at "st"
        refine wi_frs rfl f6 ?_
        walk_at "st"
        rw [List.length_map]
        refine wp_pickB rfl t1 (by omega) (by omega) (by omega) fun j d2 j0 j1 t2 => ?_
        walk_at "st"
        obtain ⟨q, hq⟩ : ∃ q, (openL many L)[j.toNat]? = some q := ⟨_, List.getElem?_eq_getElem (by omega)⟩
        apply onO_of (oIx_L (f := pD) j0 hq)
        have ap := Apt.of_open (get_mem72 hq)
        walk_at "st"
        refine wi_frs rfl f7 ?_
        walk_at "st"
        apply onO_of (add_T (f := pD) (l := L) (m := [q]) (by show L.length + 1 ≤ 100000; omega))
        walk_at "st"
        obtain ⟨M, hM, e3⟩ := closed_ok (acy_more hw ap.ha ap.hb ap.ne ap.n2) hw.m8
        have wM := wok_more hw ap.ha ap.hb ap.ne ap.n2 hM
        refine wp_callFn (by simp [locs]) rfl (show f_law_closed [.val (.tup ((L ++ [q]).map pD))] = _ from e3) rfl ?_
        walk_at "st"
        exact ⟨d2, M, _, _, _, wM, t2, .val, .own, .val, rfl⟩
      · refine wi_ifF (by simpa using c) ?_
        walk_at "st"
        exact ⟨d', L, _, s6, s7, hw, t1.mono (by omega), .val, f6, f7, rfl⟩
    · rintro r ⟨d', L, s5, s6, s7, hw, t1, f5, f6, f7, rfl⟩
      rw [names_len] at t1
      walk_at "st"
      exact ⟨many, L, d', mm, hw, t1.mono (by omega), rfl, rfl⟩
  obtain ⟨v, r, e, many, L, d', h1, h2, h3, rfl, rfl⟩ := z
  exact ⟨many, L, d', h1, h2, h3, e⟩
/-- a row as a value, known to the object or not -/
def IsRow (ro : List Int) (x : D) : Prop := x = .tup (ro.map .int) ∨ x = .ptup (ro.map .int)
theorem IsRow.ix {ro : List Int} {x : D} (h : IsRow ro x) {i a : Int} (h0 : 0 ≤ i) (e : ro[i.toNat]? = some a) : oIx x (.int i) = some (.fz (.int a)) := by
  rcases h with rfl | rfl
  · exact oIx_T (f := D.int) h0 e
  · exact oIx_T (f := D.int) h0 e
end
end LW

end

section
set_option Elab.async false
set_option linter.all false
set_option maxRecDepth 100000
set_option maxHeartbeats 4000000
/-! Lots of orders as bits: plain. -/
namespace LW
open DL
def bits : List Bool → Nat
  | [] => 0
  | b :: l => (if b then 1 else 0) + 2 * bits l
theorem bits_tb : ∀ (l : List Bool) (i : Nat), (bits l).testBit i = l.getD i false
  | [], i => by simp [bits]
  | b :: l, 0 => by
    rw [Nat.testBit_zero]
    unfold bits
    cases b
    · simp
    · simp
  | b :: l, i + 1 => by
    rw [Nat.testBit_succ]
    have e : bits (b :: l) / 2 = bits l := by
      rw [show bits (b :: l) = (if b then 1 else 0) + 2 * bits l from rfl]
      cases b
      · rw [if_neg Bool.false_ne_true]; omega
      · rw [if_pos rfl]; omega
    rw [e, bits_tb l i]
    rfl
section
variable {α : Type}
theorem bits_and (f g : α → Bool) : ∀ l : List α, bits (l.map f) &&& bits (l.map g) = bits (l.map fun x => f x && g x) := fun l => by
  refine Nat.eq_of_testBit_eq fun i => ?_
  rw [Nat.testBit_and, bits_tb, bits_tb, bits_tb]
  simp only [List.getD_eq_getElem?_getD, List.getElem?_map]
  cases l[i]? <;> rfl
theorem bits_add (f g : α → Bool) : ∀ l : List α, bits (l.map fun x => f x && g x) + bits (l.map fun x => f x && !g x) = bits (l.map f)
  | [] => rfl
  | x :: l => by
    have := bits_add f g l
    simp only [List.map_cons, bits]
    cases f x <;> cases g x <;> simp <;> omega
theorem bits_eq {f g : α → Bool} : ∀ {l : List α}, bits (l.map f) = bits (l.map g) → ∀ x ∈ l, f x = g x
  | [], _, x, h => nomatch h
  | y :: l, h, x, hx => by
    simp only [List.map_cons, bits] at h
    have h1 : f y = g y ∧ bits (l.map f) = bits (l.map g) := by
      cases ef : f y <;> cases eg : g y <;> rw [ef, eg] at h <;> simp at h ⊢ <;> omega
    rcases List.mem_cons.mp hx with rfl | hx
    · exact h1.1
    · exact bits_eq h1.2 x hx
theorem bits_congr {f g : α → Bool} {l : List α} (h : ∀ x ∈ l, f x = g x) : bits (l.map f) = bits (l.map g) := by
  rw [List.map_congr_left h]
theorem bits_zero {f : α → Bool} : ∀ {l : List α}, (∀ x ∈ l, f x = false) → bits (l.map f) = 0
  | [], _ => rfl
  | y :: l, h => by
    simp only [List.map_cons, bits]
    rw [h y List.mem_cons_self, bits_zero fun x hx => h x (List.mem_cons_of_mem _ hx)]
    rfl
theorem bits_pos {f : α → Bool} {l : List α} {x : α} (hx : x ∈ l) (h : f x = true) : bits (l.map f) ≠ 0 := fun e => by
  have z : bits (l.map f) = bits (l.map fun _ => false) := by rw [e, bits_zero fun _ _ => rfl]
  have := bits_eq z x hx
  rw [h] at this
  cases this
theorem bits_all {f : α → Bool} : ∀ {l : List α}, (∀ x ∈ l, f x = true) → bits (l.map f) = 2 ^ l.length - 1
  | [], _ => rfl
  | y :: l, h => by
    simp only [List.map_cons, bits, List.length_cons]
    rw [h y List.mem_cons_self, bits_all fun x hx => h x (List.mem_cons_of_mem _ hx), Nat.pow_succ]
    have := Nat.two_pow_pos l.length
    simp only [if_true]
    omega
theorem bits_snoc : ∀ (l : List Bool) (b : Bool), bits (l ++ [b]) = bits l + (if b then 2 ^ l.length else 0)
  | [], b => by cases b <;> rfl
  | c :: l, b => by
    simp only [List.cons_append, bits, List.length_cons]
    rw [bits_snoc l b, Nat.pow_succ]
    cases b <;> cases c <;> simp <;> omega
end
theorem names_up (n : Nat) : names ((n + 1 : Nat) : Int) = names (n : Int) ++ [(n : Int)] := by
  unfold names
  rw [Int.toNat_natCast, Int.toNat_natCast, List.range_succ, List.map_append]
  rfl
/-- the sum of the bits told -/
theorem sum_bits (R : List (List Int)) (g : List Int → Bool) : ∀ n : Nat, n ≤ R.length → (((names (n : Int)).filter fun k => g (R.getD k.toNat [])).map fun k => (2 : Int) ^ k.toNat).sum = (bits ((R.take n).map g) : Nat)
  | 0, _ => by
    rw [List.take_zero]
    rfl
  | n + 1, h => by
    obtain ⟨x, hx⟩ : ∃ x, R[n]? = some x := ⟨_, List.getElem?_eq_getElem (by omega)⟩
    have et : R.take (n + 1) = R.take n ++ [x] := by rw [List.take_add_one, hx]; rfl
    have ln : ((R.take n).map g).length = n := by rw [List.length_map, List.length_take]; omega
    rw [names_up, List.filter_append, List.map_append, List.sum_append, sum_bits R g n (by omega), et, List.map_append]
    show _ = ((bits ((R.take n).map g ++ [g x]) : Nat) : Int)
    rw [bits_snoc, ln]
    have eg : R.getD ((n : Int)).toNat [] = x := by
      rw [Int.toNat_natCast, List.getD_eq_getElem?_getD, hx]
      rfl
    cases e : g x with
    | false =>
      rw [List.filter_cons_of_neg (by rw [eg, e]; decide)]
      simp
    | true =>
      rw [List.filter_cons_of_pos (by rw [eg, e])]
      simp
/-! ### webs -/
/-- the lot of M's orders among the rows R -/
def lotN (R : List (List Int)) (M : List (Int × Int)) : Nat := bits (R.map (ordB M))
def maskN (R : List (List Int)) (q : Int × Int) : Nat := bits (R.map fun r => decide (plc r q.1 < plc r q.2))
/-- what is made of a web by answers -/
structure Mo (many : Int) (L M : List (Int × Int)) : Prop where
  w : WOk many M
  l : WOk many L
  sub : ∀ q ∈ L, q ∈ M
section
variable {many : Int} {L M M' M1 M2 : List (Int × Int)} {a b : Int}
theorem perm_L (hL : WOk many L) {r : List Int} (hr : r ∈ ordsL many L) : r.Perm (names many) := ((mem_ords hL.lok).mp hr).1
theorem ordB_of (hM : WOk many M) {r : List Int} (hr : r ∈ ordsL many M) : ordB M r = true := (ordB_pw hM.lok (perm_L hM hr)).mpr ((mem_ords hM.lok).mp hr).2
theorem ord_less (h : Mo many L M) {r : List Int} (hr : r ∈ ordsL many M) : r ∈ ordsL many L := by
  have pm := perm_L h.w hr
  have ob : ∀ q ∈ M, plc r q.1 < plc r q.2 := of_decide_eq_true (ordB_of h.w hr)
  exact (mem_ords h.l.lok).mpr ⟨pm, (ordB_pw h.l.lok pm).mp (decide_eq_true fun q hq => ob q (h.sub q hq))⟩
theorem Mo.more (h : Mo many L M) (ap : Apt many M a b) (hM : IsCl (M ++ [(a, b)]) M1) : Mo many L M1 := ⟨wok_more h.w ap.ha ap.hb ap.ne ap.n2 hM, h.l, fun q hq => cl_sub hM q (List.mem_append_left _ (h.sub q hq))⟩
theorem Apt.cl (h : WOk many M) (ap : Apt many M a b) : ∃ M1, IsCl (M ++ [(a, b)]) M1 := by
  obtain ⟨M1, hM1, _⟩ := closed_ok (acy_more h ap.ha ap.hb ap.ne ap.n2) h.m8
  exact ⟨M1, hM1⟩
theorem ord_cl (hM : IsCl (M ++ [(a, b)]) M1) (r : List Int) : ordB M1 r = (ordB M r && decide (plc r a < plc r b)) := by
  rw [Bool.eq_iff_iff, Bool.and_eq_true, decide_eq_true_iff]
  unfold ordB
  rw [decide_eq_true_iff, decide_eq_true_iff]
  constructor
  · exact fun h => ⟨fun q hq => h q (cl_sub hM q (List.mem_append_left _ hq)), h (a, b) (cl_sub hM _ (List.mem_append_right _ (List.mem_singleton.mpr rfl)))⟩
  · rintro ⟨h1, h2⟩ q hq
    obtain ⟨n, hn⟩ := (hM.mem q).mp hq
    refine Pn.rk (rk := fun x => plc r x) (ps := M ++ [(a, b)]) (fun p hp => ?_) hn
    rcases List.mem_append.mp hp with hp | hp
    · exact h1 p hp
    · rw [List.mem_singleton.mp hp]
      exact h2
theorem lot_and (hM : IsCl (M ++ [(a, b)]) M1) : lotN (ordsL many L) M &&& maskN (ordsL many L) (a, b) = lotN (ordsL many L) M1 := by
  unfold lotN maskN
  rw [bits_and]
  exact bits_congr fun r _ => (ord_cl hM r).symm
theorem lot_sub (h : Mo many L M) (ap : Apt many M a b) (hM : IsCl (M ++ [(a, b)]) M1) (hN : IsCl (M ++ [(b, a)]) M2) : lotN (ordsL many L) M1 + lotN (ordsL many L) M2 = lotN (ordsL many L) M := by
  have e1 : lotN (ordsL many L) M1 = bits ((ordsL many L).map fun r => ordB M r && decide (plc r a < plc r b)) := bits_congr fun r _ => ord_cl hM r
  have e2 : lotN (ordsL many L) M2 = bits ((ordsL many L).map fun r => ordB M r && !decide (plc r a < plc r b)) := bits_congr fun r hr => by
    rw [ord_cl hN r]
    congr 1
    have pm := perm_L h.l hr
    have nd : r.Nodup := ns_nd pm
    have ne : plc r a ≠ plc r b := fun e => ap.ne (plc_inj nd (pm.mem_iff.mpr (mem_names.mpr ap.ha)) (pm.mem_iff.mpr (mem_names.mpr ap.hb)) e)
    rw [← decide_not]
    have h : (plc r b < plc r a) ↔ ¬ (plc r a < plc r b) := by omega
    exact decide_eq_decide.mpr h
  rw [e1, e2]
  exact bits_add (ordB M) (fun r => decide (plc r a < plc r b)) _
theorem lot_in (h : (a, b) ∈ M) : lotN (ordsL many L) M &&& maskN (ordsL many L) (a, b) = lotN (ordsL many L) M := by
  unfold lotN maskN
  rw [bits_and]
  refine bits_congr fun r _ => ?_
  cases e : ordB M r with
  | false => rfl
  | true =>
    have e : ∀ q ∈ M, plc r q.1 < plc r q.2 := of_decide_eq_true e
    exact decide_eq_true (e _ h)
theorem lot_out (h : (b, a) ∈ M) : lotN (ordsL many L) M &&& maskN (ordsL many L) (a, b) = 0 := by
  unfold lotN maskN
  rw [bits_and]
  refine bits_zero fun r _ => ?_
  cases e : ordB M r with
  | false => rfl
  | true =>
    have e : ∀ q ∈ M, plc r q.1 < plc r q.2 := of_decide_eq_true e
    have lt : plc r b < plc r a := e _ h
    have n : ¬ plc r a < plc r b := by omega
    exact decide_eq_false n
theorem lot_pos (h : Mo many L M) : lotN (ordsL many L) M ≠ 0 := by
  obtain ⟨r, hr⟩ := List.exists_mem_of_ne_nil _ (ords_ne72 h.w)
  exact bits_pos (ord_less h hr) (ordB_of h.w hr)
/-- what a web holds can be seen from its orders -/
theorem in_iff (h : Mo many L M) (ha : 0 ≤ a ∧ a < many) (hb : 0 ≤ b ∧ b < many) (ne : a ≠ b) : (a, b) ∈ M ↔ ∀ r ∈ ordsL many L, ordB M r = true → plc r a < plc r b := by
  constructor
  · exact fun hm r _ ob => (of_decide_eq_true ob : ∀ q ∈ M, plc r q.1 < plc r q.2) _ hm
  · intro al
    refine Classical.byContradiction fun no => ?_
    by_cases c : (b, a) ∈ M
    · obtain ⟨r, hr⟩ := List.exists_mem_of_ne_nil _ (ords_ne72 h.w)
      have ob := ordB_of h.w hr
      have h1 := al r (ord_less h hr) ob
      have h2 := (of_decide_eq_true ob : ∀ q ∈ M, plc r q.1 < plc r q.2) _ c
      have h2 : plc r b < plc r a := h2
      omega
    · have ap : Apt many M b a := ⟨hb, ha, fun e => ne e.symm, c, no⟩
      obtain ⟨N, hN⟩ := ap.cl h.w
      have hm := h.more ap hN
      obtain ⟨r, hr⟩ := List.exists_mem_of_ne_nil _ (ords_ne72 hm.w)
      have ob := ordB_of hm.w hr
      rw [ord_cl hN r, Bool.and_eq_true, decide_eq_true_iff] at ob
      have h1 := al r (ord_less hm hr) ob.1
      omega
theorem lot_open (h : Mo many L M) (h' : Mo many L M') (e : lotN (ordsL many L) M = lotN (ordsL many L) M') : (openL many M).length = (openL many M').length := by
  have eb : ∀ r ∈ ordsL many L, ordB M r = ordB M' r := bits_eq e
  have im : ∀ {a b : Int}, (0 ≤ a ∧ a < many) → (0 ≤ b ∧ b < many) → a ≠ b → ((a, b) ∈ M ↔ (a, b) ∈ M') := fun {a b} ha hb ne => by
    rw [in_iff h ha hb ne, in_iff h' ha hb ne]
    exact forall_congr' fun r => forall_congr' fun hr => by rw [eb r hr]
  refine ((List.perm_ext_iff_of_nodup (openL_nd many M) (openL_nd many M')).mpr fun q => ?_).length_eq
  rw [mem_openL, mem_openL]
  refine and_congr_right fun f => ?_
  obtain ⟨h0, h1, h2⟩ := f
  rw [apP72, apP72, im ⟨h0, by omega⟩ ⟨by omega, h2⟩ (by omega), im ⟨by omega, h2⟩ ⟨h0, by omega⟩ (by omega)]
/-! ### an ask that tells nothing but its answer -/
def dnN (many : Int) (M : List (Int × Int)) (a : Int) : Nat := ((names many).filter fun x => decide ((x, a) ∈ M)).length
def upN (many : Int) (M : List (Int × Int)) (b : Int) : Nat := ((names many).filter fun x => decide ((b, x) ∈ M)).length
theorem filt_lt {l : List Int} {p q : Int → Bool} (h : ∀ x ∈ l, p x = true → q x = true) {y : Int} (hy : y ∈ l) (h1 : q y = true) (h2 : p y = false) : (l.filter p).length < (l.filter q).length := by
  induction l with
  | nil => exact nomatch hy
  | cons x l ih =>
    have le : ∀ {l : List Int}, (∀ x ∈ l, p x = true → q x = true) → (l.filter p).length ≤ (l.filter q).length := fun {l} h => by
      induction l with
      | nil => exact Nat.le_refl _
      | cons z l ih2 =>
        have i2 := ih2 fun x hx => h x (List.mem_cons_of_mem _ hx)
        cases e : p z with
        | true =>
          rw [List.filter_cons_of_pos e, List.filter_cons_of_pos (h z List.mem_cons_self e), List.length_cons, List.length_cons]
          omega
        | false =>
          rw [List.filter_cons_of_neg (by rw [e]; decide)]
          cases e2 : q z with
          | true => rw [List.filter_cons_of_pos e2, List.length_cons]; omega
          | false => rw [List.filter_cons_of_neg (by rw [e2]; decide)]; exact i2
    have hl := le fun x hx => h x (List.mem_cons_of_mem _ hx)
    rcases List.mem_cons.mp hy with rfl | hy
    · rw [List.filter_cons_of_neg (by rw [h2]; decide), List.filter_cons_of_pos h1, List.length_cons]
      omega
    · have i2 := ih (fun x hx => h x (List.mem_cons_of_mem _ hx)) hy
      cases e : p x with
      | true =>
        rw [List.filter_cons_of_pos e, List.filter_cons_of_pos (h x List.mem_cons_self e), List.length_cons, List.length_cons]
        omega
      | false =>
        rw [List.filter_cons_of_neg (by rw [e]; decide)]
        cases e2 : q x with
        | true => rw [List.filter_cons_of_pos e2, List.length_cons]; omega
        | false => rw [List.filter_cons_of_neg (by rw [e2]; decide)]; exact i2
theorem critical (hw : WOk many M) : ∀ (n : Nat) (a b : Int), Apt many M a b → dnN many M a + upN many M b ≤ n → ∃ a b, Apt many M a b ∧ (∀ p, (p, a) ∈ M → (p, b) ∈ M) ∧ ∀ s, (b, s) ∈ M → (a, s) ∈ M
  | n, a, b, ap, hn => by
    have bd : ∀ {x y : Int}, (x, y) ∈ M → ((0 ≤ x ∧ x < many) ∧ 0 ≤ y ∧ y < many) ∧ x ≠ y := fun {x y} h => by
      have := hw.lok.bd (x, y) h
      refine ⟨by
        have h : 0 ≤ x ∧ x < many ∧ 0 ≤ y ∧ y < many := this
        exact ⟨⟨h.1, h.2.1⟩, h.2.2⟩, fun e => ?_⟩
      obtain ⟨rk, hr⟩ := hw.lok.rk
      have := hr (x, y) h
      rw [e] at this
      exact absurd this (Nat.lt_irrefl _)
    have tr : ∀ {x y z : Int}, (x, y) ∈ M → (y, z) ∈ M → (x, z) ∈ M := fun h1 h2 => hw.trs _ _ _ h1 h2
    by_cases c1 : ∀ p, (p, a) ∈ M → (p, b) ∈ M
    · by_cases c2 : ∀ s, (b, s) ∈ M → (a, s) ∈ M
      · exact ⟨a, b, ap, c1, c2⟩
      · obtain ⟨s, c2⟩ := Classical.not_forall.mp c2
        obtain ⟨hs, ns⟩ := Classical.not_imp.mp c2
        have ap2 : Apt many M a s := ⟨ap.ha, (bd hs).1.2, fun e => ap.n2 (e ▸ hs), ns, fun h => ap.n2 (tr hs h)⟩
        have lt : upN many M s < upN many M b := filt_lt (fun x _ h => decide_eq_true (tr hs (of_decide_eq_true h))) (mem_names.mpr (bd hs).1.2) (decide_eq_true hs) (decide_eq_false fun h => (bd h).2 rfl)
        cases n with
        | zero => omega
        | succ n => exact critical hw n a s ap2 (by omega)
    · obtain ⟨p, c1⟩ := Classical.not_forall.mp c1
      obtain ⟨hp, np⟩ := Classical.not_imp.mp c1
      have ap2 : Apt many M p b := ⟨(bd hp).1.1, ap.hb, fun e => ap.n2 (e ▸ hp), np, fun h => ap.n2 (tr h hp)⟩
      have lt : dnN many M p < dnN many M a := filt_lt (fun x _ h => decide_eq_true (tr (of_decide_eq_true h) hp)) (mem_names.mpr (bd hp).1.1) (decide_eq_true hp) (decide_eq_false fun h => (bd h).2 rfl)
      cases n with
      | zero => omega
      | succ n => exact critical hw n p b ap2 (by omega)
theorem crit_open (hw : WOk many M) (ne : openL many M ≠ []) : ∃ a b M1, Apt many M a b ∧ IsCl (M ++ [(a, b)]) M1 ∧ (openL many M).length ≤ (openL many M1).length + 1 := by
  obtain ⟨q, hq⟩ := List.exists_mem_of_ne_nil _ ne
  obtain ⟨a, b, ap, dn, up⟩ := critical hw _ q.1 q.2 (Apt.of_open hq) (Nat.le_refl _)
  obtain ⟨M1, hM⟩ := ap.cl hw
  have tM : Trs (M ++ [(a, b)]) := by
    intro x y z h1 h2
    rcases List.mem_append.mp h1 with h1 | h1
    · rcases List.mem_append.mp h2 with h2 | h2
      · exact List.mem_append_left _ (hw.trs _ _ _ h1 h2)
      · cases List.mem_singleton.mp h2
        exact List.mem_append_left _ (dn _ h1)
    · cases List.mem_singleton.mp h1
      rcases List.mem_append.mp h2 with h2 | h2
      · exact List.mem_append_left _ (up _ h2)
      · cases List.mem_singleton.mp h2
        exact absurd rfl ap.ne
  have inn : ∀ q ∈ M1, q ∈ M ∨ q = (a, b) := fun q hq => by
    obtain ⟨n, hn⟩ := (hM.mem q).mp hq
    rcases List.mem_append.mp (tM.tr hn) with h | h
    · exact .inl h
    · exact .inr (List.mem_singleton.mp h)
  refine ⟨a, b, M1, ap, hM, ?_⟩
  have := nodup_len (openL_nd many M) (m := (if a < b then (a, b) else (b, a)) :: openL many M1) fun q hq => ?_
  · rw [List.length_cons] at this
    exact this
  · obtain ⟨f, k⟩ := mem_openL.mp hq
    obtain ⟨n1, n2⟩ := apP72.mp k
    have lt : q.1 < q.2 := f.2.1
    by_cases c : q = (a, b)
    · subst c
      have lt : a < b := lt
      rw [if_pos lt]
      exact List.mem_cons_self
    · by_cases c2 : q = (b, a)
      · subst c2
        have lt : b < a := lt
        rw [if_neg (by omega)]
        exact List.mem_cons_self
      · refine List.mem_cons_of_mem _ (mem_openL.mpr ⟨f, apP72.mpr ⟨fun h => ?_, fun h => ?_⟩⟩)
        · exact (inn _ h).elim n1 c
        · refine (inn _ h).elim n2 fun e => c2 ?_
          have e1 : q.2 = a := congrArg Prod.fst e
          have e2 : q.1 = b := congrArg Prod.snd e
          rw [← e1, ← e2]
end
end LW

end

section
set_option Elab.async false
set_option linter.all false
set_option maxRecDepth 100000
set_option maxHeartbeats 8000000
/-! What is known of lots; the masks. -/
namespace LW
open DL
/-! ### how many lots there can be -/
def subsL {α : Type} : List α → List (List α)
  | [] => [[]]
  | a :: l => subsL l ++ (subsL l).map (a :: ·)
theorem subs_len {α : Type} : ∀ l : List α, (subsL l).length = 2 ^ l.length
  | [] => rfl
  | a :: l => by
    unfold subsL
    rw [List.length_append, List.length_map, subs_len l, List.length_cons, Nat.pow_succ]
    omega
theorem filt_subs {α : Type} (p : α → Bool) : ∀ l : List α, l.filter p ∈ subsL l
  | [] => List.mem_singleton.mpr rfl
  | a :: l => by
    unfold subsL
    cases e : p a with
    | true =>
      rw [List.filter_cons_of_pos e]
      exact List.mem_append_right _ (List.mem_map.mpr ⟨_, filt_subs p l, rfl⟩)
    | false =>
      rw [List.filter_cons_of_neg (by rw [e]; decide)]
      exact List.mem_append_left _ (filt_subs p l)
def all20 : List (Int × Int) := ((names 5).flatMap fun a => (names 5).map fun b => (a, b)).filter fun q => decide (q.1 ≠ q.2)
theorem all20_len : all20.length = 20 := by decide +kernel
theorem mem_all20 {q : Int × Int} (h1 : 0 ≤ q.1 ∧ q.1 < 5) (h2 : 0 ≤ q.2 ∧ q.2 < 5) (ne : q.1 ≠ q.2) : q ∈ all20 :=
  List.mem_filter.mpr ⟨List.mem_flatMap.mpr ⟨q.1, mem_names.mpr h1, List.mem_map.mpr ⟨q.2, mem_names.mpr h2, rfl⟩⟩, decide_eq_true ne⟩
section
variable {many : Int} {L M : List (Int × Int)}
/-- what the dict of lots holds -/
structure KO (many : Int) (L : List (Int × Int)) (K : List (Int × (Int × Int))) : Prop where
  nd : (keysM K).Nodup
  ok : ∀ a v, (a, v) ∈ K → ∃ M, Mo many L M ∧ a = (lotN (ordsL many L) M : Nat) ∧ v.2 = ((openL many M).length : Nat)
theorem KO.few {K : List (Int × (Int × Int))} (h : KO many L K) (h5 : many ≤ 5) : K.length ≤ 1048576 := by
  have := nodup_len h.nd (m := (subsL all20).map fun S => ((lotN (ordsL many L) S : Nat) : Int)) fun a ha => by
    obtain ⟨⟨a', v⟩, hm, rfl⟩ := List.mem_map.mp ha
    obtain ⟨M, hM, ea, _⟩ := h.ok _ _ hm
    refine List.mem_map.mpr ⟨all20.filter fun q => decide (q ∈ M), filt_subs _ _, ?_⟩
    show _ = a'
    rw [ea]
    congr 1
    refine bits_congr fun r _ => ?_
    unfold ordB
    refine decide_eq_decide.mpr ⟨fun al q hq => al q (List.mem_filter.mpr ⟨?_, decide_eq_true hq⟩), fun al q hq => al q (of_decide_eq_true (List.mem_filter.mp hq).2)⟩
    have bd := hM.w.lok.bd q hq
    exact mem_all20 ⟨bd.1, by omega⟩ ⟨bd.2.2.1, by omega⟩ (hM.w.lok.ne q hq)
  rw [List.length_map, subs_len, all20_len] at this
  unfold keysM at this
  rw [List.length_map] at this
  exact this
theorem KO.put {K : List (Int × (Int × Int))} (h : KO many L K) (hM : Mo many L M) {x : Int} : KO many L (stM K ((lotN (ordsL many L) M : Nat) : Int) (x, ((openL many M).length : Nat))) := by
  have nd : (keysM (stM K ((lotN (ordsL many L) M : Nat) : Int) (x, (((openL many M).length : Nat) : Int)))).Nodup := by
    rw [keys_st]
    split
    · exact h.nd
    · rename_i no
      exact List.nodup_append.mpr ⟨h.nd, List.pairwise_singleton _ _, fun a ha b hb e => no (by rw [← List.mem_singleton.mp hb, ← e]; exact ha)⟩
  refine ⟨nd, fun a v hm => ?_⟩
  have e := lkM_mem nd hm
  rw [lkM_st] at e
  split at e
  · rename_i ea
    cases e
    exact ⟨M, hM, ea, rfl⟩
  · exact h.ok a v (lkM_some e)
theorem KO.get {K : List (Int × (Int × Int))} (h : KO many L K) (hM : Mo many L M) (hm : ((lotN (ordsL many L) M : Nat) : Int) ∈ keysM K) : ∃ x : Int, lkM K ((lotN (ordsL many L) M : Nat) : Int) = some (x, (((openL many M).length : Nat) : Int)) := by
  have s := lkM_isSome (K := K) (a := ((lotN (ordsL many L) M : Nat) : Int))
  rw [decide_eq_true hm] at s
  obtain ⟨v, e⟩ := Option.isSome_iff_exists.mp s
  obtain ⟨M', hM', ea, ev⟩ := h.ok _ _ (lkM_some e)
  have := lot_open hM hM' (Int.ofNat.inj ea)
  obtain ⟨x, k⟩ := v
  have ev : k = ((openL many M').length : Nat) := ev
  exact ⟨x, by rw [e, ev, this]⟩
theorem KO.nil : KO many L [] := ⟨List.nodup_nil, fun a v h => nomatch h⟩
theorem put70 {K : List (Int × (Int × Int))} {a : Int} {v : Int × Int} (hl : K.length ≤ 1048576) : mPut (.dic false (dM D.int pD K)) [.int a, .tup [.int v.1, .int v.2]] = some (.dic false (dM D.int pD (stM K a v)), .non) := by
  show (if (dM D.int pD K).length < line then some (D.dic false (stor (dM D.int pD K) (.int a) (pD v)), D.non) else none) = _
  rw [if_pos (by unfold dM; rw [List.length_map]; exact Nat.lt_of_le_of_lt hl (by decide)), st_dM KOk.int]
/-! ### the masks -/
def mskD (R : List (List Int)) (q : Int × Int) : D := .int ((maskN R q : Nat) : Int)
theorem masks_ok {R : List (List Int)} {P : List (Int × Int)} (hR : R.length ≤ 40320) (hP : P.length ≤ 1000) (hin : ∀ r ∈ R, ∀ q ∈ P, q.1 ∈ r ∧ q.2 ∈ r) :
    f_law_masks [.val (.lst (R.map ptupI)), .own (.lst (P.map pD))] = .ok (.tmp (.lst (P.map (mskD R)))) [.val (.lst (R.map ptupI)), .val (.lst (P.map pD))] := by
  have z : ∃ v r, f_law_masks [.val (.lst (R.map ptupI)), .own (.lst (P.map pD))] = .ok v r ∧ (v = .tmp (.lst (P.map (mskD R))) ∧ r = [.val (.lst (R.map ptupI)), .val (.lst (P.map pD))]) := by
    refine fn_ok (Q := fun v r => v = .tmp (.lst (P.map (mskD R))) ∧ r = [.val (.lst (R.map ptupI)), .val (.lst (P.map pD))]) rfl ?_
    show wp _ [.val (.lst (R.map ptupI)), .own (.lst (P.map pD)), .no, .no, .no, .no] _
    walk_at "st"
    refine forGo_of pD (fun i r => ∃ s3 s4, Frs s3 ∧ Frs s4 ∧ r = [.val (.lst (R.map ptupI)), .val (.lst (P.map pD)), .own (.lst ((P.take i).map (mskD R))), s3, s4, .no]) ?_ ?_ ⟨.no, .no, .no, .no, rfl⟩
    · rintro i q r hq ⟨s3, s4, f3, f4, rfl⟩
      have mq := List.mem_of_getElem? hq
      have ti : P.take (i + 1) = P.take i ++ [q] := by rw [List.take_add_one, hq]; rfl
      show wp _ _ _
      rw [show pD q = .tup [.int q.1, .int q.2] from rfl]
      walk_at "st"
      refine wi_frs rfl f3 ?_
      walk_at "st"
      refine wi_frs rfl f4 ?_
      walk_at "st"
      rw [List.length_map]
      refine onR_int (big62_of (by omega) (by omega)) ?_
      rw [rng0]
      refine ⟨rfl, ?_⟩
      walk_at "st"
      refine wp_mono (compGo_of D.int (fun k => decide (((plc (R.getD k.toNat []) q.1 : Nat) : Int) < ((plc (R.getD k.toNat []) q.2 : Nat) : Int))) (fun k => .int (1 * 2 ^ k.toNat)) (by rw [names_len, Int.toNat_natCast]; exact Nat.le_trans hR (by decide)) fun k hk => ?_) fun ys r' ⟨h1, h2⟩ => ?_
      · obtain ⟨k0, k1⟩ := mem_names.mp hk
        obtain ⟨ro, hro⟩ : ∃ ro, R[k.toNat]? = some ro := ⟨_, List.getElem?_eq_getElem (by omega)⟩
        have eg : R.getD k.toNat [] = ro := by rw [List.getD_eq_getElem?_getD, hro]; rfl
        obtain ⟨i1, i2⟩ := hin ro (List.mem_of_getElem? hro) q mq
        rw [eg]
        walk_at "st"
        apply onO_of (show oIx (.lst (R.map ptupI)) (.int k) = some (.fz (.ptup (ro.map .int))) from oIx_L (f := ptupI) k0 hro)
        walk_at "st"
        apply onO_of (idxP i1)
        walk_at "st"
        apply onO_of (show oIx (.lst (R.map ptupI)) (.int k) = some (.fz (.ptup (ro.map .int))) from oIx_L (f := ptupI) k0 hro)
        walk_at "st"
        apply onO_of (idxP i2)
        walk_at "st"
        refine ⟨rfl, ?_⟩
        by_cases c : ((plc ro q.1 : Nat) : Int) < ((plc ro q.2 : Nat) : Int)
        · refine wi_ifT (decide_eq_true c) ?_
          walk_at "st"
          apply onO_of (show oShl (.int 1) (.int k) = some (.fz (.int (1 * 2 ^ k.toNat))) from if_pos ⟨k0, by omega, by decide⟩)
          walk_at "st"
          refine ⟨rfl, ?_⟩
          walk_at "st"
          all_goals rfl
        · refine wi_ifF (by simpa using c) ?_
          walk_at "st"
          all_goals rfl
      · subst h1 h2
        have sb := sum_bits R (fun r => decide (((plc r q.1 : Nat) : Int) < ((plc r q.2 : Nat) : Int))) R.length (Nat.le_refl _)
        rw [List.take_length] at sb
        have eb : bits (R.map fun r => decide (((plc r q.1 : Nat) : Int) < ((plc r q.2 : Nat) : Int))) = maskN R q := bits_congr fun r _ => decide_eq_decide.mpr (by omega)
        rw [eb] at sb
        have es : oSum (.lst (((names ((R.length : Nat) : Int)).filter fun k => decide (((plc (R.getD k.toNat []) q.1 : Nat) : Int) < ((plc (R.getD k.toNat []) q.2 : Nat) : Int))).map fun k => D.int (1 * 2 ^ k.toNat))) = some (.fz (mskD R q)) := by
          rw [show (fun k : Int => D.int (1 * 2 ^ k.toNat)) = (fun k => D.int k) ∘ (fun k : Int => (2 : Int) ^ k.toNat) from funext fun k => by show D.int _ = D.int _; rw [Int.one_mul], ← List.map_map]
          show (ints? _).map (fun ns => RV.fz (D.int ns.sum)) = _
          rw [ints_map]
          show some (RV.fz (D.int _)) = _
          rw [sb]
          rfl
        walk_at "st"
        apply onO_of es
        walk_at "st"
        refine wi_mown rfl (append_map (f := mskD R) (l := P.take i) (a := q) (by rw [List.length_take]; omega)) ?_
        walk_at "st"
        exact ⟨_, _, .val, .val, by rw [ti]; rfl⟩
    · rintro r ⟨s3, s4, f3, f4, rfl⟩
      rw [List.take_length]
      walk_at "st"
      exact ⟨rfl, rfl⟩
  obtain ⟨v, r, e, rfl, rfl⟩ := z
  exact e
end
end LW

end

section
set_option Elab.async false
set_option linter.all false
set_option maxRecDepth 100000
set_option maxHeartbeats 8000000
/-! Lots asked (printed by mk70c.py). -/
namespace LW
open DL
theorem bAnd_nat (x y : Nat) : PySem.Builtin.bitAnd (x : Int) (y : Int) = ((x &&& y : Nat) : Int) := by
  unfold PySem.Builtin.bitAnd
  rw [decide_eq_true (Int.natCast_nonneg x), decide_eq_true (Int.natCast_nonneg y)]
  show ((((x : Int).toNat &&& (y : Int).toNat : Nat)) : Int) = _
  rw [Int.toNat_natCast, Int.toNat_natCast]
theorem maxL_is {ns : List Int} {m : Int} (h : m ∈ ns) (le : ∀ n ∈ ns, n ≤ m) : oMaxL (.lst (ns.map .int)) = some (.fz (.int m)) := by
  cases ns with
  | nil => exact nomatch h
  | cons n ns =>
    show (match ints? ((n :: ns).map D.int) with | some (n :: ns) => some (RV.fz (.int (mostI (n :: ns)))) | _ => none) = _
    rw [ints_map]
    show some (RV.fz (D.int (mostI (n :: ns)))) = _
    rw [← mostI_is n ns m h le]
theorem minA_any {ns : List Int} (h : ns ≠ []) : ∃ x : Int, oMinA (.lst (ns.map .int)) = some (.fz (.int x)) := by
  cases ns with
  | nil => exact absurd rfl h
  | cons n ns =>
    refine ⟨leastI (n :: ns), ?_⟩
    show (match ints? ((n :: ns).map D.int) with
      | some (n :: ns) => some (RV.fz (.int (leastI (n :: ns))))
      | _ => match (n :: ns).map D.int with
        | y :: ys => match toPds (y :: ys) with
          | some ps => if minOk ps = true then some (.fz (leastD y ys)) else none
          | none => none
        | [] => none) = _
    rw [ints_map]
section
variable {many : Int} {L M : List (Int × Int)}
/-- an ask whose answer leaves but one pair fewer -/
def Crit (many : Int) (M : List (Int × Int)) (q : Int × Int) : Prop := ∃ M1, (IsCl (M ++ [(q.1, q.2)]) M1 ∨ IsCl (M ++ [(q.2, q.1)]) M1) ∧ (openL many M).length ≤ (openL many M1).length + 1
theorem crit_at (h : Mo many L M) (ne : openL many M ≠ []) : ∃ (j : Nat) (q : Int × Int), (openL many L)[j]? = some q ∧ Apt many M q.1 q.2 ∧ Crit many M q := by
  obtain ⟨a, b, M1, ap, hM, k⟩ := crit_open h.w ne
  have go : ∀ x y, Apt many M x y → x < y → (x, y) ∈ openL many L := fun x y ap lt => mem_openL.mpr ⟨⟨ap.ha.1, lt, ap.hb.2⟩, apP72.mpr ⟨fun i => ap.n1 (h.sub _ i), fun i => ap.n2 (h.sub _ i)⟩⟩
  by_cases lt : a < b
  · obtain ⟨j, hj⟩ := List.getElem?_of_mem (go a b ap lt)
    exact ⟨j, (a, b), hj, ap, M1, .inl hM, k⟩
  · obtain ⟨j, hj⟩ := List.getElem?_of_mem (go b a ap.sw (by have := ap.ne; omega))
    exact ⟨j, (b, a), hj, ap.sw, M1, .inr hM, k⟩
/-- what asking m deep tells -/
def Ask (many : Int) (L : List (Int × Int)) (m : Nat) : Prop := ∀ (M : List (Int × Int)) (K : List (Int × (Int × Int))), Mo many L M → (openL many M).length < m → KO many L K →
  ∃ (x : Int) (K' : List (Int × (Int × Int))), KO many L K' ∧ g_law_asked m [.val (.int ((lotN (ordsL many L) M : Nat) : Int)), .val (.lst ((openL many L).map (mskD (ordsL many L)))), .brw (.dic false (dM D.int pD K))] = .ok (.fz (.tup [.int x, .int ((openL many M).length : Nat)])) [.val (.int ((lotN (ordsL many L) M : Nat) : Int)), .val (.lst ((openL many L).map (mskD (ordsL many L)))), .brw (.dic false (dM D.int pD K'))]
theorem asked_new_v {m : Nat} (ih : Ask many L m) (h5 : many ≤ 5) (hM : Mo many L M) (hk : (openL many M).length < m + 1) {K : List (Int × (Int × Int))} (hK : KO many L K) (no : ((lotN (ordsL many L) M : Nat) : Int) ∉ keysM K) :
    ∃ (x : Int) (K' : List (Int × (Int × Int))), KO many L K' ∧ g_law_asked (m + 1) [.val (.int ((lotN (ordsL many L) M : Nat) : Int)), .val (.lst ((openL many L).map (mskD (ordsL many L)))), .brw (.dic false (dM D.int pD K))] = .ok (.fz (.tup [.int x, .int ((openL many M).length : Nat)])) [.val (.int ((lotN (ordsL many L) M : Nat) : Int)), .val (.lst ((openL many L).map (mskD (ordsL many L)))), .brw (.dic false (dM D.int pD K'))] := by
  have z : ∃ v r, g_law_asked (m + 1) [.val (.int ((lotN (ordsL many L) M : Nat) : Int)), .val (.lst ((openL many L).map (mskD (ordsL many L)))), .brw (.dic false (dM D.int pD K))] = .ok v r ∧ ∃ (x : Int) (K' : List (Int × (Int × Int))), KO many L K' ∧ v = .fz (.tup [.int x, .int ((openL many M).length : Nat)]) ∧ r = [.val (.int ((lotN (ordsL many L) M : Nat) : Int)), .val (.lst ((openL many L).map (mskD (ordsL many L)))), .brw (.dic false (dM D.int pD K'))] := by
    refine fn_ok (Q := fun v r => ∃ (x : Int) (K' : List (Int × (Int × Int))), KO many L K' ∧ v = .fz (.tup [.int x, .int ((openL many M).length : Nat)]) ∧ r = [.val (.int ((lotN (ordsL many L) M : Nat) : Int)), .val (.lst ((openL many L).map (mskD (ordsL many L)))), .brw (.dic false (dM D.int pD K'))]) rfl ?_
    show wp _ [.val (.int ((lotN (ordsL many L) M : Nat) : Int)), .val (.lst ((openL many L).map (mskD (ordsL many L)))), .brw (.dic false (dM D.int pD K)), .no, .no, .no, .no, .no, .no] _
    refine wp_seq.2 (wp_mono (Q := fun fl r1 => fl = .nx ∧ ∃ (x : Int) (K' : List (Int × (Int × Int))) (s3 s4 s5 s6 s7 s8 : Slot), KO many L K' ∧ lkM K' ((lotN (ordsL many L) M : Nat) : Int) = some (x, ((((openL many M).length : Nat) : Nat) : Int)) ∧ r1 = [.val (.int ((lotN (ordsL many L) M : Nat) : Int)), .val (.lst ((openL many L).map (mskD (ordsL many L)))), .brw (.dic false (dM D.int pD K')), s3, s4, s5, s6, s7, s8]) ?_ ?_)
    · walk_at "st"
      refine wi_ifT (by rw [lookI_in, decide_eq_false no]; rfl) ?_
      refine wp_seq.2 (wp_mono (Q := fun fl r1 => fl = .nx ∧ r1 = [.val (.int ((lotN (ordsL many L) M : Nat) : Int)), .val (.lst ((openL many L).map (mskD (ordsL many L)))), .brw (.dic false (dM D.int pD K)), .own (.lst []), .own (.lst []), .no, .no, .no, .no]) ⟨.nx, _, rfl, rfl, rfl⟩ ?_)
      rintro fl r1 ⟨rfl, rfl⟩
      show wp _ _ _
      refine wp_seq.2 (wp_mono (Q := fun fl r1 => fl = .nx ∧ ∃ r, r = r1 ∧ ∃ (K' : List (Int × (Int × Int))) (ls ms : List Int) (s5 s6 s7 s8 : Slot), KO many L K' ∧ ls.length = ms.length ∧ ms.length ≤ (openL many L).length ∧ (∀ x ∈ ms, x ≤ ((((openL many M).length : Nat) : Nat) : Int)) ∧ (openL many M = [] → ms = []) ∧ (∀ (j : Nat) (q : Int × Int), j < (openL many L).length → (openL many L)[j]? = some q → Apt many M q.1 q.2 → Crit many M q → ((((openL many M).length : Nat) : Nat) : Int) ∈ ms) ∧ Frs s5 ∧ Frs s6 ∧ Frs s7 ∧ Frs s8 ∧ r = [.val (.int ((lotN (ordsL many L) M : Nat) : Int)), .val (.lst ((openL many L).map (mskD (ordsL many L)))), .brw (.dic false (dM D.int pD K')), .own (.lst (ls.map D.int)), .own (.lst (ms.map D.int)), s5, s6, s7, s8]) ?_ ?_)
      · walk_at "st"
        refine forGo_of (mskD (ordsL many L)) (fun i r => ∃ (K' : List (Int × (Int × Int))) (ls ms : List Int) (s5 s6 s7 s8 : Slot), KO many L K' ∧ ls.length = ms.length ∧ ms.length ≤ i ∧ (∀ x ∈ ms, x ≤ ((((openL many M).length : Nat) : Nat) : Int)) ∧ (openL many M = [] → ms = []) ∧ (∀ (j : Nat) (q : Int × Int), j < i → (openL many L)[j]? = some q → Apt many M q.1 q.2 → Crit many M q → ((((openL many M).length : Nat) : Nat) : Int) ∈ ms) ∧ Frs s5 ∧ Frs s6 ∧ Frs s7 ∧ Frs s8 ∧ r = [.val (.int ((lotN (ordsL many L) M : Nat) : Int)), .val (.lst ((openL many L).map (mskD (ordsL many L)))), .brw (.dic false (dM D.int pD K')), .own (.lst (ls.map D.int)), .own (.lst (ms.map D.int)), s5, s6, s7, s8]) ?_ ?_ ⟨K, [], [], .no, .no, .no, .no, hK, rfl, Nat.le_refl _, (fun x h => nomatch h), fun _ => rfl, (fun j q h => nomatch h), .no, .no, .no, .no, rfl⟩
        · clear hK no K
          rintro i q r hq ⟨K', ls, ms, s5, s6, s7, s8, ko, ll, lm, le, em, al, f5, f6, f7, f8, rfl⟩
          have mq := List.mem_of_getElem? hq
          obtain ⟨a, b⟩ := q
          have apL' : Apt many L a b := Apt.of_open mq
          refine wp_tnm.2 ?_
          refine wi_frs rfl f5 ?_
          show wp _ _ _
          rw [show mskD (ordsL many L) (a, b) = .int ((maskN (ordsL many L) (a, b) : Nat) : Int) from rfl]
          walk_at "st"
          rw [bAnd_nat]
          refine wi_frs rfl f6 ?_
          walk_at "st"
          by_cases c1 : (a, b) ∈ M
          · have no2 : ¬ Apt many M a b := fun h => h.n1 c1
            rw [lot_in c1]
            have lp := lot_pos hM
            refine wi_ifT (by simp; omega) ?_
            walk_at "st"
            refine wi_ifF (by simp) ?_
            walk_at "st"
            refine ⟨K', ls, ms, _, _, s7, s8, ko, ll, Nat.le_succ_of_le lm, le, em, fun j' q' hj' hq' ap' cr' => ?_, .val, .val, f7, f8, rfl⟩
            rcases Nat.lt_succ_iff_lt_or_eq.mp hj' with hj' | rfl
            · exact al j' q' hj' hq' ap' cr'
            · rw [hq] at hq'
              cases hq'
              exact absurd ap' no2
          by_cases c2 : (b, a) ∈ M
          · have no2 : ¬ Apt many M a b := fun h => h.n2 c2
            rw [lot_out c2]
            refine wi_ifF (by simp) ?_
            refine wi_ifF (by decide) ?_
            walk_at "st"
            refine ⟨K', ls, ms, _, _, s7, s8, ko, ll, Nat.le_succ_of_le lm, le, em, fun j' q' hj' hq' ap' cr' => ?_, .val, .val, f7, f8, rfl⟩
            rcases Nat.lt_succ_iff_lt_or_eq.mp hj' with hj' | rfl
            · exact al j' q' hj' hq' ap' cr'
            · rw [hq] at hq'
              cases hq'
              exact absurd ap' no2
          have ap : Apt many M a b := ⟨apL'.ha, apL'.hb, apL'.ne, c1, c2⟩
          obtain ⟨M1, hM1⟩ := ap.cl hM.w
          obtain ⟨M2, hM2⟩ := ap.sw.cl hM.w
          have k1 := open_less ap hM1
          have k2 := open_less ap.sw hM2
          have o1 := hM.more ap hM1
          have o2 := hM.more ap.sw hM2
          have ls2 := lot_sub hM ap hM1 hM2
          have p1 := lot_pos o1
          have p2 := lot_pos o2
          obtain ⟨x1, K1, ko1, e1⟩ := ih M1 K' o1 (by omega) ko
          obtain ⟨x2, K2, ko2, e2⟩ := ih M2 K1 o2 (by omega) ko1
          rw [lot_and hM1]
          refine wi_ifT (by simp; omega) ?_
          walk_at "st"
          refine wi_ifT (by simp; omega) ?_
          walk_at "st"
          refine wp_callFn (by simp [locs]) rfl e1 rfl ?_
          walk_at "st"
          refine wi_frs rfl f7 ?_
          walk_at "st"
          rw [show ((lotN (ordsL many L) M : Nat) : Int) - ((lotN (ordsL many L) M1 : Nat) : Int) = ((lotN (ordsL many L) M2 : Nat) : Int) by omega]
          refine wp_callFn (by simp [locs]) rfl e2 rfl ?_
          walk_at "st"
          refine wi_frs rfl f8 ?_
          walk_at "st"
          have lP : (openL many L).length ≤ 10 := open_ten h5
          have li : i < (openL many L).length := (List.getElem?_eq_some_iff.mp hq).1
          refine wi_mown rfl (append_map (f := D.int) (l := ls) (by omega)) ?_
          walk_at "st"
          refine wi_mown rfl (append_map (f := D.int) (l := ms) (by omega)) ?_
          walk_at "st"
          have top : (1 : Int) + (if ((openL many M2).length : Int) > ((openL many M1).length : Int) then ((openL many M2).length : Int) else ((openL many M1).length : Int)) ≤ ((openL many M).length : Int) := by
            split <;> omega
          refine ⟨K2, _, _, _, _, _, _, ko2, ?_, ?_, ?_, ?_, ?_, .val, .val, .val, .val, rfl⟩
          · rw [List.length_append, List.length_append, ll]
            rfl
          · rw [List.length_append]
            show ms.length + 1 ≤ i + 1
            omega
          · intro x hx
            rcases List.mem_append.mp hx with hx | hx
            · exact le x hx
            · rw [List.mem_singleton.mp hx]
              exact top
          · intro e0
            have k1 := k1
            rw [e0] at k1
            exact absurd k1 (Nat.not_lt_zero _)
          · intro j' q' hj' hq' ap' cr'
            rcases Nat.lt_succ_iff_lt_or_eq.mp hj' with hj' | rfl
            · exact List.mem_append_left _ (al j' q' hj' hq' ap' cr')
            · rw [hq] at hq'
              cases hq'
              refine List.mem_append_right _ (List.mem_singleton.mpr ?_)
              obtain ⟨N, hN, kN⟩ := cr'
              have : N = M1 ∨ N = M2 := hN.elim (fun h => .inl (h.uniq hM1)) fun h => .inr (h.uniq hM2)
              have kN : (openL many M).length ≤ (openL many M1).length + 1 ∨ (openL many M).length ≤ (openL many M2).length + 1 := this.elim (fun h => .inl (h ▸ kN)) fun h => .inr (h ▸ kN)
              by_cases c : ((openL many M2).length : Int) > ((openL many M1).length : Int)
              · rw [if_pos c] at top ⊢
                omega
              · rw [if_neg c] at top ⊢
                omega
        · rintro r hr
          exact ⟨rfl, r, rfl, hr⟩
      rintro fl r1 ⟨rfl, r, rfl, K', ls, ms, s5, s6, s7, s8, ko, ll, lm, le, em, al, f5, f6, f7, f8, rfl⟩
      show wp _ _ _
      have lP : (openL many L).length ≤ 10 := open_ten h5
      by_cases e0 : openL many M = []
      · have e1 := em e0
        subst e1
        have e2 : ls = [] := List.eq_nil_of_length_eq_zero ll
        subst e2
        walk_at "st"
        refine wi_ifF (by decide) ?_
        walk_at "st"
        have z0 : ((openL many M).length : Int) = 0 := by rw [e0]; rfl
        refine wi_mbrw rfl (put70 (v := (0, 0)) (ko.few h5)) ?_
        walk_at "st"
        have kp := ko.put hM (x := 0)
        rw [z0] at kp
        refine ⟨rfl, 0, _, _, _, _, _, _, _, kp, ?_, rfl⟩
        rw [lkM_st, if_pos rfl, z0]
      · obtain ⟨j, q, hj, ap, cr⟩ := crit_at hM e0
        have mk := al j q (List.getElem?_eq_some_iff.mp hj).1 hj ap cr
        have ln : 0 < ls.length := by rw [ll]; exact List.length_pos_iff.mpr (List.ne_nil_of_mem mk)
        obtain ⟨x, ex⟩ := minA_any (List.length_pos_iff.mp ln)
        walk_at "st"
        rw [List.length_map]
        refine wi_ifT (by simp; exact ln) ?_
        walk_at "st"
        apply onO_of ex
        walk_at "st"
        apply onO_of (maxL_is mk le)
        walk_at "st"
        refine wi_mbrw rfl (put70 (v := (x, ((((openL many M).length : Nat) : Nat) : Int))) (ko.few h5)) ?_
        walk_at "st"
        refine ⟨rfl, x, _, _, _, _, _, _, _, ko.put hM, ?_, rfl⟩
        rw [lkM_st, if_pos rfl]
    rintro fl r1 ⟨rfl, x, K', s3, s4, s5, s6, s7, s8, ko, e, rfl⟩
    show wp _ _ _
    walk_at "st"
    apply onO_of (lookI_ix e)
    walk_at "st"
    exact ⟨x, K', ko, rfl, rfl⟩
  obtain ⟨v, r, e, x, K', h1, rfl, rfl⟩ := z
  exact ⟨x, K', h1, e⟩
theorem asked_new_b {m : Nat} (ih : Ask many L m) (h5 : many ≤ 5) (hM : Mo many L M) (hk : (openL many M).length < m + 1) {K : List (Int × (Int × Int))} (hK : KO many L K) (no : ((lotN (ordsL many L) M : Nat) : Int) ∉ keysM K) :
    ∃ (x : Int) (K' : List (Int × (Int × Int))), KO many L K' ∧ g_law_asked (m + 1) [.val (.int ((lotN (ordsL many L) M : Nat) : Int)), .brw (.lst ((openL many L).map (mskD (ordsL many L)))), .brw (.dic false (dM D.int pD K))] = .ok (.fz (.tup [.int x, .int ((openL many M).length : Nat)])) [.val (.int ((lotN (ordsL many L) M : Nat) : Int)), .fbr (.lst ((openL many L).map (mskD (ordsL many L)))), .brw (.dic false (dM D.int pD K'))] := by
  have z : ∃ v r, g_law_asked (m + 1) [.val (.int ((lotN (ordsL many L) M : Nat) : Int)), .brw (.lst ((openL many L).map (mskD (ordsL many L)))), .brw (.dic false (dM D.int pD K))] = .ok v r ∧ ∃ (x : Int) (K' : List (Int × (Int × Int))), KO many L K' ∧ v = .fz (.tup [.int x, .int ((openL many M).length : Nat)]) ∧ r = [.val (.int ((lotN (ordsL many L) M : Nat) : Int)), .fbr (.lst ((openL many L).map (mskD (ordsL many L)))), .brw (.dic false (dM D.int pD K'))] := by
    refine fn_ok (Q := fun v r => ∃ (x : Int) (K' : List (Int × (Int × Int))), KO many L K' ∧ v = .fz (.tup [.int x, .int ((openL many M).length : Nat)]) ∧ r = [.val (.int ((lotN (ordsL many L) M : Nat) : Int)), .fbr (.lst ((openL many L).map (mskD (ordsL many L)))), .brw (.dic false (dM D.int pD K'))]) rfl ?_
    show wp _ [.val (.int ((lotN (ordsL many L) M : Nat) : Int)), .brw (.lst ((openL many L).map (mskD (ordsL many L)))), .brw (.dic false (dM D.int pD K)), .no, .no, .no, .no, .no, .no] _
    refine wp_seq.2 (wp_mono (Q := fun fl r1 => fl = .nx ∧ ∃ (x : Int) (K' : List (Int × (Int × Int))) (s3 s4 s5 s6 s7 s8 : Slot), KO many L K' ∧ lkM K' ((lotN (ordsL many L) M : Nat) : Int) = some (x, ((((openL many M).length : Nat) : Nat) : Int)) ∧ r1 = [.val (.int ((lotN (ordsL many L) M : Nat) : Int)), .fbr (.lst ((openL many L).map (mskD (ordsL many L)))), .brw (.dic false (dM D.int pD K')), s3, s4, s5, s6, s7, s8]) ?_ ?_)
    · walk_at "st"
      refine wi_ifT (by rw [lookI_in, decide_eq_false no]; rfl) ?_
      refine wp_seq.2 (wp_mono (Q := fun fl r1 => fl = .nx ∧ r1 = [.val (.int ((lotN (ordsL many L) M : Nat) : Int)), .brw (.lst ((openL many L).map (mskD (ordsL many L)))), .brw (.dic false (dM D.int pD K)), .own (.lst []), .own (.lst []), .no, .no, .no, .no]) ⟨.nx, _, rfl, rfl, rfl⟩ ?_)
      rintro fl r1 ⟨rfl, rfl⟩
      show wp _ _ _
      refine wp_seq.2 (wp_mono (Q := fun fl r1 => fl = .nx ∧ ∃ r, r = r1 ∧ ∃ (K' : List (Int × (Int × Int))) (ls ms : List Int) (s5 s6 s7 s8 : Slot), KO many L K' ∧ ls.length = ms.length ∧ ms.length ≤ (openL many L).length ∧ (∀ x ∈ ms, x ≤ ((((openL many M).length : Nat) : Nat) : Int)) ∧ (openL many M = [] → ms = []) ∧ (∀ (j : Nat) (q : Int × Int), j < (openL many L).length → (openL many L)[j]? = some q → Apt many M q.1 q.2 → Crit many M q → ((((openL many M).length : Nat) : Nat) : Int) ∈ ms) ∧ Frs s5 ∧ Frs s6 ∧ Frs s7 ∧ Frs s8 ∧ r = [.val (.int ((lotN (ordsL many L) M : Nat) : Int)), .fbr (.lst ((openL many L).map (mskD (ordsL many L)))), .brw (.dic false (dM D.int pD K')), .own (.lst (ls.map D.int)), .own (.lst (ms.map D.int)), s5, s6, s7, s8]) ?_ ?_)
      · walk_at "st"
        refine forGo_of (mskD (ordsL many L)) (fun i r => ∃ (K' : List (Int × (Int × Int))) (ls ms : List Int) (s5 s6 s7 s8 : Slot), KO many L K' ∧ ls.length = ms.length ∧ ms.length ≤ i ∧ (∀ x ∈ ms, x ≤ ((((openL many M).length : Nat) : Nat) : Int)) ∧ (openL many M = [] → ms = []) ∧ (∀ (j : Nat) (q : Int × Int), j < i → (openL many L)[j]? = some q → Apt many M q.1 q.2 → Crit many M q → ((((openL many M).length : Nat) : Nat) : Int) ∈ ms) ∧ Frs s5 ∧ Frs s6 ∧ Frs s7 ∧ Frs s8 ∧ r = [.val (.int ((lotN (ordsL many L) M : Nat) : Int)), .fbr (.lst ((openL many L).map (mskD (ordsL many L)))), .brw (.dic false (dM D.int pD K')), .own (.lst (ls.map D.int)), .own (.lst (ms.map D.int)), s5, s6, s7, s8]) ?_ ?_ ⟨K, [], [], .no, .no, .no, .no, hK, rfl, Nat.le_refl _, (fun x h => nomatch h), fun _ => rfl, (fun j q h => nomatch h), .no, .no, .no, .no, rfl⟩
        · clear hK no K
          rintro i q r hq ⟨K', ls, ms, s5, s6, s7, s8, ko, ll, lm, le, em, al, f5, f6, f7, f8, rfl⟩
          have mq := List.mem_of_getElem? hq
          obtain ⟨a, b⟩ := q
          have apL' : Apt many L a b := Apt.of_open mq
          refine wp_tnm.2 ?_
          refine wi_frs rfl f5 ?_
          show wp _ _ _
          rw [show mskD (ordsL many L) (a, b) = .int ((maskN (ordsL many L) (a, b) : Nat) : Int) from rfl]
          walk_at "st"
          rw [bAnd_nat]
          refine wi_frs rfl f6 ?_
          walk_at "st"
          by_cases c1 : (a, b) ∈ M
          · have no2 : ¬ Apt many M a b := fun h => h.n1 c1
            rw [lot_in c1]
            have lp := lot_pos hM
            refine wi_ifT (by simp; omega) ?_
            walk_at "st"
            refine wi_ifF (by simp) ?_
            walk_at "st"
            refine ⟨K', ls, ms, _, _, s7, s8, ko, ll, Nat.le_succ_of_le lm, le, em, fun j' q' hj' hq' ap' cr' => ?_, .val, .val, f7, f8, rfl⟩
            rcases Nat.lt_succ_iff_lt_or_eq.mp hj' with hj' | rfl
            · exact al j' q' hj' hq' ap' cr'
            · rw [hq] at hq'
              cases hq'
              exact absurd ap' no2
          by_cases c2 : (b, a) ∈ M
          · have no2 : ¬ Apt many M a b := fun h => h.n2 c2
            rw [lot_out c2]
            refine wi_ifF (by simp) ?_
            refine wi_ifF (by decide) ?_
            walk_at "st"
            refine ⟨K', ls, ms, _, _, s7, s8, ko, ll, Nat.le_succ_of_le lm, le, em, fun j' q' hj' hq' ap' cr' => ?_, .val, .val, f7, f8, rfl⟩
            rcases Nat.lt_succ_iff_lt_or_eq.mp hj' with hj' | rfl
            · exact al j' q' hj' hq' ap' cr'
            · rw [hq] at hq'
              cases hq'
              exact absurd ap' no2
          have ap : Apt many M a b := ⟨apL'.ha, apL'.hb, apL'.ne, c1, c2⟩
          obtain ⟨M1, hM1⟩ := ap.cl hM.w
          obtain ⟨M2, hM2⟩ := ap.sw.cl hM.w
          have k1 := open_less ap hM1
          have k2 := open_less ap.sw hM2
          have o1 := hM.more ap hM1
          have o2 := hM.more ap.sw hM2
          have ls2 := lot_sub hM ap hM1 hM2
          have p1 := lot_pos o1
          have p2 := lot_pos o2
          obtain ⟨x1, K1, ko1, e1⟩ := ih M1 K' o1 (by omega) ko
          obtain ⟨x2, K2, ko2, e2⟩ := ih M2 K1 o2 (by omega) ko1
          rw [lot_and hM1]
          refine wi_ifT (by simp; omega) ?_
          walk_at "st"
          refine wi_ifT (by simp; omega) ?_
          walk_at "st"
          refine wp_callFn (by simp [locs]) rfl e1 rfl ?_
          walk_at "st"
          refine wi_frs rfl f7 ?_
          walk_at "st"
          rw [show ((lotN (ordsL many L) M : Nat) : Int) - ((lotN (ordsL many L) M1 : Nat) : Int) = ((lotN (ordsL many L) M2 : Nat) : Int) by omega]
          refine wp_callFn (by simp [locs]) rfl e2 rfl ?_
          walk_at "st"
          refine wi_frs rfl f8 ?_
          walk_at "st"
          have lP : (openL many L).length ≤ 10 := open_ten h5
          have li : i < (openL many L).length := (List.getElem?_eq_some_iff.mp hq).1
          refine wi_mown rfl (append_map (f := D.int) (l := ls) (by omega)) ?_
          walk_at "st"
          refine wi_mown rfl (append_map (f := D.int) (l := ms) (by omega)) ?_
          walk_at "st"
          have top : (1 : Int) + (if ((openL many M2).length : Int) > ((openL many M1).length : Int) then ((openL many M2).length : Int) else ((openL many M1).length : Int)) ≤ ((openL many M).length : Int) := by
            split <;> omega
          refine ⟨K2, _, _, _, _, _, _, ko2, ?_, ?_, ?_, ?_, ?_, .val, .val, .val, .val, rfl⟩
          · rw [List.length_append, List.length_append, ll]
            rfl
          · rw [List.length_append]
            show ms.length + 1 ≤ i + 1
            omega
          · intro x hx
            rcases List.mem_append.mp hx with hx | hx
            · exact le x hx
            · rw [List.mem_singleton.mp hx]
              exact top
          · intro e0
            have k1 := k1
            rw [e0] at k1
            exact absurd k1 (Nat.not_lt_zero _)
          · intro j' q' hj' hq' ap' cr'
            rcases Nat.lt_succ_iff_lt_or_eq.mp hj' with hj' | rfl
            · exact List.mem_append_left _ (al j' q' hj' hq' ap' cr')
            · rw [hq] at hq'
              cases hq'
              refine List.mem_append_right _ (List.mem_singleton.mpr ?_)
              obtain ⟨N, hN, kN⟩ := cr'
              have : N = M1 ∨ N = M2 := hN.elim (fun h => .inl (h.uniq hM1)) fun h => .inr (h.uniq hM2)
              have kN : (openL many M).length ≤ (openL many M1).length + 1 ∨ (openL many M).length ≤ (openL many M2).length + 1 := this.elim (fun h => .inl (h ▸ kN)) fun h => .inr (h ▸ kN)
              by_cases c : ((openL many M2).length : Int) > ((openL many M1).length : Int)
              · rw [if_pos c] at top ⊢
                omega
              · rw [if_neg c] at top ⊢
                omega
        · rintro r hr
          exact ⟨rfl, r, rfl, hr⟩
      rintro fl r1 ⟨rfl, r, rfl, K', ls, ms, s5, s6, s7, s8, ko, ll, lm, le, em, al, f5, f6, f7, f8, rfl⟩
      show wp _ _ _
      have lP : (openL many L).length ≤ 10 := open_ten h5
      by_cases e0 : openL many M = []
      · have e1 := em e0
        subst e1
        have e2 : ls = [] := List.eq_nil_of_length_eq_zero ll
        subst e2
        walk_at "st"
        refine wi_ifF (by decide) ?_
        walk_at "st"
        have z0 : ((openL many M).length : Int) = 0 := by rw [e0]; rfl
        refine wi_mbrw rfl (put70 (v := (0, 0)) (ko.few h5)) ?_
        walk_at "st"
        have kp := ko.put hM (x := 0)
        rw [z0] at kp
        refine ⟨rfl, 0, _, _, _, _, _, _, _, kp, ?_, rfl⟩
        rw [lkM_st, if_pos rfl, z0]
      · obtain ⟨j, q, hj, ap, cr⟩ := crit_at hM e0
        have mk := al j q (List.getElem?_eq_some_iff.mp hj).1 hj ap cr
        have ln : 0 < ls.length := by rw [ll]; exact List.length_pos_iff.mpr (List.ne_nil_of_mem mk)
        obtain ⟨x, ex⟩ := minA_any (List.length_pos_iff.mp ln)
        walk_at "st"
        rw [List.length_map]
        refine wi_ifT (by simp; exact ln) ?_
        walk_at "st"
        apply onO_of ex
        walk_at "st"
        apply onO_of (maxL_is mk le)
        walk_at "st"
        refine wi_mbrw rfl (put70 (v := (x, ((((openL many M).length : Nat) : Nat) : Int))) (ko.few h5)) ?_
        walk_at "st"
        refine ⟨rfl, x, _, _, _, _, _, _, _, ko.put hM, ?_, rfl⟩
        rw [lkM_st, if_pos rfl]
    rintro fl r1 ⟨rfl, x, K', s3, s4, s5, s6, s7, s8, ko, e, rfl⟩
    show wp _ _ _
    walk_at "st"
    apply onO_of (lookI_ix e)
    walk_at "st"
    exact ⟨x, K', ko, rfl, rfl⟩
  obtain ⟨v, r, e, x, K', h1, rfl, rfl⟩ := z
  exact ⟨x, K', h1, e⟩
theorem asked_ok (h5 : many ≤ 5) : ∀ m, Ask many L m
  | 0 => fun M K hM h _ => absurd h (Nat.not_lt_zero _)
  | m + 1 => fun M K hM hk hK => by
    by_cases no : ((lotN (ordsL many L) M : Nat) : Int) ∈ keysM K
    · obtain ⟨x, ex⟩ := hK.get hM no
      refine ⟨x, K, hK, ?_⟩
      have z : ∃ v r, g_law_asked (m + 1) [.val (.int ((lotN (ordsL many L) M : Nat) : Int)), .val (.lst ((openL many L).map (mskD (ordsL many L)))), .brw (.dic false (dM D.int pD K))] = .ok v r ∧ (v = .fz (.tup [.int x, .int ((openL many M).length : Nat)]) ∧ r = [.val (.int ((lotN (ordsL many L) M : Nat) : Int)), .val (.lst ((openL many L).map (mskD (ordsL many L)))), .brw (.dic false (dM D.int pD K))]) := by
        refine fn_ok (Q := fun v r => v = .fz (.tup [.int x, .int ((openL many M).length : Nat)]) ∧ r = [.val (.int ((lotN (ordsL many L) M : Nat) : Int)), .val (.lst ((openL many L).map (mskD (ordsL many L)))), .brw (.dic false (dM D.int pD K))]) rfl ?_
        show wp _ [.val (.int ((lotN (ordsL many L) M : Nat) : Int)), .val (.lst ((openL many L).map (mskD (ordsL many L)))), .brw (.dic false (dM D.int pD K)), .no, .no, .no, .no, .no, .no] _
        walk_at "st"
        refine wi_ifF (by rw [lookI_in, decide_eq_true no]; decide) ?_
        walk_at "st"
        apply onO_of (lookI_ix ex)
        walk_at "st"
        exact ⟨rfl, rfl⟩
      obtain ⟨v, r, e, rfl, rfl⟩ := z
      exact e
    · exact asked_new_v (asked_ok h5 m) h5 hM hk hK no
end
end LW

end

section
set_option Elab.async false
set_option linter.all false
set_option maxRecDepth 100000
set_option maxHeartbeats 8000000
/-! All asks by pairs; the most asks. -/
namespace LW
open DL
section
variable {many : Int} {L : List (Int × Int)} {c : Nat} {s : Slot}
theorem lot_whole (hw : WOk many L) : lotN (ordsL many L) L = 2 ^ (ordsL many L).length - 1 := bits_all fun _ hr => ordB_of hw hr
theorem most_ok (hc : c ∈ webCs) (h0 : 0 ≤ many) (hm : many ≤ 8) (hs : Hld s (webD c many L)) : f_most_asks [s] = .ok (.fz (.int ((openL many L).length : Nat))) [s] := by
  have z : ∃ v r, f_most_asks [s] = .ok v r ∧ (v = .fz (.int ((openL many L).length : Nat)) ∧ r = [s]) := by
    refine fn_ok (Q := fun v r => v = .fz (.int ((openL many L).length : Nat)) ∧ r = [s]) rfl ?_
    show wp _ [s] _
    walk_at "st"
    refine wi_any rfl hs fun w hv hay hy => ?_
    walk_at "st"
    refine wp_callV (ds := []) hay (pairs_apart_ok hc h0 hm hs.lend) ?_
    clear hay hv hy
    walk_at "st"
    rw [List.length_map]
    exact ⟨rfl, rfl⟩
  obtain ⟨v, r, e, rfl, rfl⟩ := z
  exact e
theorem open_turn : (openL many (sset (swapL L))).length = (openL many L).length := by
  have im : ∀ a b : Int, (a, b) ∈ sset (swapL L) ↔ (b, a) ∈ L := fun a b => by
    rw [mem_sset]
    unfold swapL
    rw [List.mem_map]
    constructor
    · rintro ⟨q, hq, e⟩
      cases e
      exact hq
    · exact fun h => ⟨(b, a), h, rfl⟩
  refine ((List.perm_ext_iff_of_nodup (openL_nd many _) (openL_nd many L)).mpr fun q => ?_).length_eq
  rw [mem_openL, mem_openL, apP72, apP72, im, im]
  exact and_congr_right fun _ => ⟨fun h => ⟨h.2, h.1⟩, fun h => ⟨h.2, h.1⟩⟩
theorem by_pairs_ok (hw : WOk many L) (h5 : many ≤ 5) : ∃ (x : Int) (ys : List D), f_law_by_pairs [.val (.tup (L.map pD)), .val (.int many)] = .ok (.fz (.tup [.tup [.int x, .int ((openL many L).length : Nat)], .lst ys])) [.val (.tup (L.map pD)), .val (.int many)] := by
  have m1 := hw.m1
  have m8 := hw.m8
  have hM : Mo many L L := ⟨hw, hw, fun _ h => h⟩
  have lP : (openL many L).length ≤ 10 := open_ten h5
  have lR : (ordsL many L).length ≤ 40320 := by
    have := lvl_few many L many.toNat
    have f := fct_leZ many.toNat (by omega)
    rw [show ordsL many L = lvlL many L many.toNat by rw [lvl_rows]; rfl]
    omega
  have hin : ∀ r ∈ ordsL many L, ∀ q ∈ openL many L, q.1 ∈ r ∧ q.2 ∈ r := fun r hr q hq => by
    have ap := Apt.of_open hq
    have pm := perm_L hw hr
    exact ⟨pm.mem_iff.mpr (mem_names.mpr ap.ha), pm.mem_iff.mpr (mem_names.mpr ap.hb)⟩
  have z : ∃ v r, f_law_by_pairs [.val (.tup (L.map pD)), .val (.int many)] = .ok v r ∧ ∃ (x : Int) (ys : List D), v = .fz (.tup [.tup [.int x, .int ((openL many L).length : Nat)], .lst ys]) ∧ r = [.val (.tup (L.map pD)), .val (.int many)] := by
    refine fn_ok (Q := fun v r => ∃ (x : Int) (ys : List D), v = .fz (.tup [.tup [.int x, .int ((openL many L).length : Nat)], .lst ys]) ∧ r = [.val (.tup (L.map pD)), .val (.int many)]) rfl ?_
    show wp _ [.val (.tup (L.map pD)), .val (.int many), .no, .no, .no, .no, .no, .no, .no, .no] _
    refine wp_seq.2 (wp_mono (Q := fun fl r1 => fl = .nx ∧ r1 = [.val (.tup (L.map pD)), .val (.int many), .val (.lst ((ordsL many L).map ptupI)), .no, .no, .no, .no, .no, .no, .no]) ?_ ?_)
    · walk_at "st"
      refine wp_callFn (by simp [locs]) rfl (law_ordersZ_ok m1 m8 hw.lok) rfl ?_
      walk_at "st"
      exact ⟨rfl, rfl⟩
    rintro fl r1 ⟨rfl, rfl⟩
    show wp _ _ _
    refine wp_seq.2 (wp_mono (Q := fun fl r1 => fl = .nx ∧ r1 = [.val (.tup (L.map pD)), .val (.int many), .val (.lst ((ordsL many L).map ptupI)), .own (.lst ((openL many L).map (mskD (ordsL many L)))), .no, .no, .no, .no, .no, .no]) ?_ ?_)
    · walk_at "st"
      refine wp_callFn (by simp [locs]) rfl (open_ok hw.lok m1 m8) rfl ?_
      walk_at "st"
      refine wp_callFn .nil rfl (masks_ok lR (by omega) hin) rfl ?_
      walk_at "st"
      exact ⟨rfl, rfl⟩
    rintro fl r1 ⟨rfl, rfl⟩
    show wp _ _ _
    refine wp_seq.2 (wp_mono (Q := fun fl r1 => fl = .nx ∧ r1 = [.val (.tup (L.map pD)), .val (.int many), .val (.lst ((ordsL many L).map ptupI)), .own (.lst ((openL many L).map (mskD (ordsL many L)))), .own (.dic false (dM D.int pD [])), .no, .no, .no, .no, .no]) ?_ ?_)
    · walk_at "st"
      unfold eDict0
      refine wp_pur.mpr ?_
      walk_at "st"
      exact ⟨rfl, rfl⟩
    rintro fl r1 ⟨rfl, rfl⟩
    show wp _ _ _
    refine wp_seq.2 (wp_mono (Q := fun fl r1 => fl = .nx ∧ r1 = [.val (.tup (L.map pD)), .val (.int many), .val (.lst ((ordsL many L).map ptupI)), .own (.lst ((openL many L).map (mskD (ordsL many L)))), .own (.dic false (dM D.int pD [])), .val (.int ((lotN (ordsL many L) L : Nat) : Int)), .no, .no, .no, .no]) ?_ ?_)
    · have sh : oShl (.int 1) (.int (((ordsL many L).length : Nat) : Int)) = some (.fz (.int (1 * 2 ^ (ordsL many L).length))) := by
        have : oShl (.int 1) (.int (((ordsL many L).length : Nat) : Int)) = some (.fz (.int (1 * 2 ^ ((((ordsL many L).length : Nat) : Int)).toNat))) := if_pos ⟨by omega, by omega, by decide⟩
        rw [this, Int.toNat_natCast]
      walk_at "st"
      rw [List.length_map]
      apply onO_of sh
      walk_at "st"
      refine ⟨rfl, ?_⟩
      have e : (1 : Int) * 2 ^ (ordsL many L).length - 1 = ((lotN (ordsL many L) L : Nat) : Int) := by
        rw [lot_whole hw, Int.one_mul]
        have p := Nat.two_pow_pos (ordsL many L).length
        have c : ((2 ^ (ordsL many L).length : Nat) : Int) = (2 : Int) ^ (ordsL many L).length := by push_cast; rfl
        omega
      rw [e]
    rintro fl r1 ⟨rfl, rfl⟩
    show wp _ _ _
    refine wp_seq.2 (wp_mono (Q := fun fl r1 => fl = .nx ∧ ∃ (x : Int) (K : List (Int × (Int × Int))), KO many L K ∧ r1 = [.val (.tup (L.map pD)), .val (.int many), .val (.lst ((ordsL many L).map ptupI)), .val (.lst ((openL many L).map (mskD (ordsL many L)))), .own (.dic false (dM D.int pD K)), .val (.int ((lotN (ordsL many L) L : Nat) : Int)), .val (.tup [.int x, .int ((openL many L).length : Nat)]), .no, .no, .no]) ?_ ?_)
    · obtain ⟨x, K, ko, e⟩ := asked_new_b (m := 23) (asked_ok h5 23) h5 hM (by omega) KO.nil (fun h => nomatch h)
      walk_at "st"
      refine wp_callFn (by simp [locs]) rfl (show f_law_asked _ = _ from e) rfl ?_
      walk_at "st"
      exact ⟨rfl, x, K, ko, rfl⟩
    rintro fl r1 ⟨rfl, x, K, ko, rfl⟩
    show wp _ _ _
    refine wp_seq.2 (wp_mono (Q := fun fl r1 => fl = .nx ∧ r1 = [.val (.tup (L.map pD)), .val (.int many), .val (.lst ((ordsL many L).map ptupI)), .val (.lst ((openL many L).map (mskD (ordsL many L)))), .own (.dic false (dM D.int pD K)), .val (.int ((lotN (ordsL many L) L : Nat) : Int)), .val (.tup [.int x, .int ((openL many L).length : Nat)]), .own (.lst []), .no, .no]) ?_ ?_)
    · walk_at "st"
      exact ⟨rfl, rfl⟩
    rintro fl r1 ⟨rfl, rfl⟩
    show wp _ _ _
    refine wp_seq.2 (wp_mono (Q := fun fl r1 => fl = .nx ∧ ∃ (K : List (Int × (Int × Int))) (ys : List Int) (s8 s9 : Slot), r1 = [.val (.tup (L.map pD)), .val (.int many), .val (.lst ((ordsL many L).map ptupI)), .val (.lst ((openL many L).map (mskD (ordsL many L)))), .own (.dic false (dM D.int pD K)), .val (.int ((lotN (ordsL many L) L : Nat) : Int)), .val (.tup [.int x, .int ((openL many L).length : Nat)]), .own (.lst (ys.map D.int)), s8, s9]) ?_ ?_)
    · walk_at "st"
      refine forGo_of (mskD (ordsL many L)) (fun i r => ∃ (K : List (Int × (Int × Int))) (ys : List Int) (s8 s9 : Slot), KO many L K ∧ ys.length ≤ i ∧ Frs s8 ∧ Frs s9 ∧ r = [.val (.tup (L.map pD)), .val (.int many), .val (.lst ((ordsL many L).map ptupI)), .val (.lst ((openL many L).map (mskD (ordsL many L)))), .own (.dic false (dM D.int pD K)), .val (.int ((lotN (ordsL many L) L : Nat) : Int)), .val (.tup [.int x, .int ((openL many L).length : Nat)]), .own (.lst (ys.map D.int)), s8, s9]) ?_ ?_ ⟨K, [], .no, .no, ko, Nat.le_refl _, .no, .no, rfl⟩
      · clear ko K
        rintro i q r hq ⟨K, ys, s8, s9, ko, ly, f8, f9, rfl⟩
        have mq := List.mem_of_getElem? hq
        have li : i < (openL many L).length := (List.getElem?_eq_some_iff.mp hq).1
        obtain ⟨a, b⟩ := q
        have ap : Apt many L a b := Apt.of_open mq
        obtain ⟨M1, hM1⟩ := ap.cl hw
        obtain ⟨M2, hM2⟩ := ap.sw.cl hw
        have k1 := open_less ap hM1
        have k2 := open_less ap.sw hM2
        have ls2 := lot_sub hM ap hM1 hM2
        obtain ⟨x1, K1, ko1, e1⟩ := asked_ok h5 24 M1 K (hM.more ap hM1) (by omega) ko
        obtain ⟨x2, K2, ko2, e2⟩ := asked_ok h5 24 M2 K1 (hM.more ap.sw hM2) (by omega) ko1
        refine wp_tnm.2 ?_
        refine wi_frs rfl f8 ?_
        show wp _ _ _
        rw [show mskD (ordsL many L) (a, b) = .int ((maskN (ordsL many L) (a, b) : Nat) : Int) from rfl]
        walk_at "st"
        rw [bAnd_nat, lot_and hM1]
        refine wi_frs rfl f9 ?_
        walk_at "st"
        refine wp_callFn (by simp [locs]) rfl (show f_law_asked _ = _ from e1) rfl ?_
        walk_at "st"
        rw [show ((lotN (ordsL many L) L : Nat) : Int) - ((lotN (ordsL many L) M1 : Nat) : Int) = ((lotN (ordsL many L) M2 : Nat) : Int) by omega]
        refine wp_callFn (by simp [locs]) rfl (show f_law_asked _ = _ from e2) rfl ?_
        walk_at "st"
        refine wi_mown rfl (append_map (f := D.int) (l := ys) (by omega)) ?_
        walk_at "st"
        refine ⟨K2, _, _, _, ko2, ?_, .val, .val, rfl⟩
        rw [List.length_append]
        show ys.length + 1 ≤ i + 1
        omega
      · rintro r ⟨K, ys, s8, s9, _, _, _, _, rfl⟩
        exact ⟨rfl, K, ys, s8, s9, rfl⟩
    clear ko K
    rintro fl r1 ⟨rfl, K, ys, s8, s9, rfl⟩
    show wp _ _ _
    walk_at "st"
    exact ⟨x, _, rfl, rfl⟩
  obtain ⟨v, r, e, x, ys, rfl, rfl⟩ := z
  exact ⟨x, ys, e⟩
end
end LW

end

section
set_option Elab.async false
set_option linter.all false
set_option maxRecDepth 100000
/-! Turned webs. -/
namespace LW
open DL
theorem turned_ok {c : Nat} (hc : c ∈ webCs) {many : Int} {L : List (Int × Int)} {s : Slot} (h0 : 0 ≤ many) (hm : many ≤ 8) (hL : LOk many L) (hs : Hld s (webD c many L)) : f_turned [s] = .ok (.tmp (webD cRawWeb many (sset (swapL L)))) [s] := by
  have few := hL.few hm
  have z : ∃ v r, f_turned [s] = .ok v r ∧ (v = .tmp (webD cRawWeb many (sset (swapL L))) ∧ r = [s]) := by
    refine fn_ok (Q := fun v r => v = .tmp (webD cRawWeb many (sset (swapL L))) ∧ r = [s]) rfl ?_
    show wp _ [s, .no, .no] _
    walk_at "st"
    apply onO_of (fld0 hc)
    walk_at "st"
    apply onO_of (fld1 hc)
    walk_at "st"
    refine ⟨rfl, ?_⟩
    walk_at "st"
    refine wp_mono (compGo_of pD (fun _ => true) (fun q => pD (q.2, q.1)) (Nat.le_trans few (by decide)) fun q hq => ?_) fun ys r' ⟨h1, h2⟩ => ?_
    · obtain ⟨x, y⟩ := q
      rw [show pD (x, y) = .tup [.int x, .int y] from rfl]
      walk_at "st"
      refine ⟨rfl, ?_⟩
      refine wi_ifT rfl ?_
      walk_at "st"
      refine ⟨rfl, ?_⟩
      walk_at "st"
      all_goals rfl
    · subst h1 h2
      rw [List.filter_eq_self.mpr fun _ _ => rfl]
      have e1 : (L.map fun q => pD (q.2, q.1)) = (swapL L).map pD := by unfold swapL; rw [List.map_map]; rfl
      rw [e1]
      walk_at "st"
      refine wp_callFn (by simp [locs]) rfl (raw_web_ok h0 (by omega) (nd_swap hL.nd) (by unfold swapL; rw [List.length_map]; omega)) rfl ?_
      walk_at "st"
      exact ⟨rfl, rfl⟩
  obtain ⟨v, r, e, rfl, rfl⟩ := z
  exact e
end LW

end

section
set_option Elab.async false
set_option linter.all false
set_option maxRecDepth 100000
set_option maxHeartbeats 8000000
/-! The law of the most asks is true. -/
namespace LW
open DL
theorem web_of_70 {many : Int} {L : List (Int × Int)} (hw : WOk many L) : f_Web_init [.brw (.ins cWeb []), .val (.int many), .val (.tup (L.map pD))] = .ok (.fz .non) [.brw (webD cWeb many L), .val (.int many), .val (.tup (L.map pD))] := by
  obtain ⟨L', hL', few, e⟩ := web_ok (many := many) (ps := L) ⟨hw.lok.bd, hw.lok.rk⟩ hw.m1 hw.m8 hw.asc
  have : L' = L := hL'.uniq (isCl_self hw.asc hw.trs)
  subst this
  exact e
theorem law_true : DL.LawTrue 63 f_law := by
  intro ns d hn hd
  have z : ∃ v r, f_law [.val d] = .ok v r ∧ v = .fz (.bl true) := by
    refine fn_ok (Q := fun v r => v = .fz (.bl true)) rfl ?_
    show wp _ [.val d, .no, .no, .no, .no, .no, .no, .no, .no, .no] _
    refine wp_seq.2 (wp_mono (Q := fun fl r1 => fl = .nx ∧ ∃ d0, TOk ns 0 d0 ∧ r1 = [.val d, .own d0, .no, .no, .no, .no, .no, .no, .no, .no]) ?_ ?_)
    · walk_at "st"
      refine wp_callFn (by simp [locs]) rfl (tape_ok ns d hd) rfl ?_
      walk_at "st"
      exact ⟨rfl, _, ⟨0, 0, 1, 0, rfl, by decide, by decide, by decide, by decide, by decide⟩, rfl⟩
    rintro fl r1 ⟨rfl, d0, t0, rfl⟩
    show wp _ _ _
    refine wp_seq.2 (wp_mono (Q := fun fl r1 => fl = .nx ∧ ∃ (t : D) (s2 s3 s4 s5 s6 s7 s8 s9 : Slot), TOk ns 2000 t ∧ Frs s3 ∧ Frs s4 ∧ r1 = [.val d, .own t, s2, s3, s4, s5, s6, s7, s8, s9]) ?_ ?_)
    · walk_at "st"
      refine onR_int (by decide) ?_
      rw [rng0]
      refine forGo_of D.int (fun i r => ∃ (t : D) (s2 s3 s4 s5 s6 s7 s8 s9 : Slot), TOk ns (1000 * i) t ∧ Frs s2 ∧ Frs s3 ∧ Frs s4 ∧ Frs s5 ∧ Frs s6 ∧ Frs s7 ∧ Frs s8 ∧ Frs s9 ∧ r = [.val d, .own t, s2, s3, s4, s5, s6, s7, s8, s9]) ?_ ?_ ⟨d0, .no, .no, .no, .no, .no, .no, .no, .no, t0, .no, .no, .no, .no, .no, .no, .no, .no, rfl⟩
      · clear t0 d0
        rintro i u r hi ⟨t, s2, s3, s4, s5, s6, s7, s8, s9, ht, f2, f3, f4, f5, f6, f7, f8, f9, rfl⟩
        have hi2 : i < 2 := by have := (names_at hi).2; omega
        refine wp_tnm.2 ?_
        refine wi_frs rfl f2 ?_
        show wp _ _ _
        refine wp_seq.2 (wp_mono (Q := fun fl r1 => fl = .nx ∧ ∃ (many : Int) (L : List (Int × Int)) (d1 : D), many ≤ 5 ∧ WOk many L ∧ TOk ns (1000 * (i + 1)) d1 ∧ r1 = [.val d, .own d1, .val (.int u), .val (.int many), .val (.tup (L.map pD)), s5, s6, s7, s8, s9]) ?_ ?_)
        · walk_at "st"
          refine wp_pickO rfl ht (by omega) (by decide) (by decide) fun k d2 k0 k1 t2 => ?_
          walk_at "st"
          by_cases c : k > 0
          · refine wi_ifT (decide_eq_true c) ?_
            obtain ⟨many, L, d3, h5, hw, t3, e3⟩ := small_ok (most := 5) (rows := 30) (by decide) (by decide) (by decide) t2 (by omega)
            walk_at "st"
            refine wp_callFn (by simp [locs]) rfl e3 rfl ?_
            walk_at "st"
            refine wi_frs rfl f3 ?_
            walk_at "st"
            refine wi_frs rfl f4 ?_
            walk_at "st"
            exact ⟨rfl, many, L, d3, h5, hw, t3.mono (by omega), rfl⟩
          · refine wi_ifF (by simpa using c) ?_
            obtain ⟨many, L, d3, h5, hw, t3, e3⟩ := small_ok (most := 5) (rows := 120) (by decide) (by decide) (by decide) t2 (by omega)
            walk_at "st"
            refine wp_callFn (by simp [locs]) rfl e3 rfl ?_
            walk_at "st"
            refine wi_frs rfl f3 ?_
            walk_at "st"
            refine wi_frs rfl f4 ?_
            walk_at "st"
            exact ⟨rfl, many, L, d3, h5, hw, t3.mono (by omega), rfl⟩
        clear ht f2 f3 f4 s2 s3 s4 t
        rintro fl r1 ⟨rfl, many, L, d1, h5, hw, t1, rfl⟩
        show wp _ _ _
        have m1 := hw.m1
        have m8 := hw.m8
        refine wp_seq.2 (wp_mono (Q := fun fl r1 => fl = .nx ∧ r1 = [.val d, .own d1, .val (.int u), .val (.int many), .val (.tup (L.map pD)), .own (webD cWeb many L), s6, s7, s8, s9]) ?_ ?_)
        · walk_at "st"
          refine wp_make.mpr ?_
          walk_at "st"
          refine wp_makeV (ds := [.int many, .tup (L.map pD)]) (ss := [.val (.int many), .val (.tup (L.map pD))]) rfl (web_of_70 hw) ?_
          walk_at "st"
          refine wi_frs rfl f5 ?_
          walk_at "st"
          exact ⟨rfl, rfl⟩
        rintro fl r1 ⟨rfl, rfl⟩
        show wp _ _ _
        refine wp_seq.2 (wp_mono (Q := fun fl r1 => fl = .nx ∧ r1 = [.val d, .own d1, .val (.int u), .val (.int many), .val (.tup (L.map pD)), .own (webD cWeb many L), .val (.int ((openL many L).length : Nat)), s7, s8, s9]) ?_ ?_)
        · obtain ⟨x, ys, e⟩ := by_pairs_ok hw h5
          walk_at "st"
          refine wp_callFn (by simp [locs]) rfl e rfl ?_
          walk_at "st"
          refine wi_frs rfl f6 ?_
          walk_at "st"
          exact ⟨rfl, rfl⟩
        rintro fl r1 ⟨rfl, rfl⟩
        show wp _ _ _
        refine wp_seq.2 (wp_mono (Q := fun fl r1 => fl = .nx ∧ r1 = [.val d, .own d1, .val (.int u), .val (.int many), .val (.tup (L.map pD)), .own (webD cWeb many L), .val (.int ((openL many L).length : Nat)), .val (.int ((openL many L).length : Nat)), s8, s9]) ?_ ?_)
        · walk_at "st"
          refine wp_callFn (by simp [locs]) rfl (most_ok (by decide) (by omega) m8 .brw) rfl ?_
          walk_at "st"
          refine wi_frs rfl f7 ?_
          walk_at "st"
          exact ⟨rfl, rfl⟩
        rintro fl r1 ⟨rfl, rfl⟩
        show wp _ _ _
        refine wp_seq.2 (wp_mono (Q := fun fl r1 => fl = .nx ∧ r1 = [.val d, .own d1, .val (.int u), .val (.int many), .val (.tup (L.map pD)), .own (webD cWeb many L), .val (.int ((openL many L).length : Nat)), .val (.int ((openL many L).length : Nat)), s8, s9]) ?_ ?_)
        · walk_at "st"
          refine wi_ifF (by decide) ?_
          walk_at "st"
          refine wi_ifF (by simp) ?_
          walk_at "st"
          refine wp_callFn (by simp [locs]) rfl (open_ok hw.lok m1 m8) rfl ?_
          walk_at "st"
          refine wi_ifF (by rw [List.length_map]; simp) ?_
          walk_at "st"
          exact ⟨rfl, rfl⟩
        rintro fl r1 ⟨rfl, rfl⟩
        show wp _ _ _
        refine wp_seq.2 (wp_mono (Q := fun fl r1 => fl = .nx ∧ r1 = [.val d, .own d1, .val (.int u), .val (.int many), .val (.tup (L.map pD)), .own (webD cWeb many L), .val (.int ((openL many L).length : Nat)), .val (.int ((openL many L).length : Nat)), s8, s9]) ?_ ?_)
        · walk_at "st"
          refine wp_callFn (by simp [locs]) rfl (turned_ok (c := cWeb) (by decide) (by omega) m8 hw.lok .brw) rfl ?_
          walk_at "st"
          refine wp_callFn .nil rfl (most_ok (c := cRawWeb) (by decide) (by omega) m8 .own) rfl ?_
          rw [open_turn]
          walk_at "st"
          refine wi_ifF (by simp) ?_
          walk_at "st"
          exact ⟨rfl, rfl⟩
        rintro fl r1 ⟨rfl, rfl⟩
        show wp _ _ _
        walk_at "st"
        refine wp_callFn (by simp [locs]) rfl (open_ok hw.lok m1 m8) rfl ?_
        walk_at "st"
        refine forGo_of pD (fun j r => ∃ s8 s9, Frs s8 ∧ Frs s9 ∧ r = [.val d, .own d1, .val (.int u), .val (.int many), .val (.tup (L.map pD)), .own (webD cWeb many L), .val (.int ((openL many L).length : Nat)), .val (.int ((openL many L).length : Nat)), s8, s9]) ?_ ?_ ⟨s8, s9, f8, f9, rfl⟩
        · clear f8 f9 s8 s9
          rintro j q r hq ⟨s8, s9, f8, f9, rfl⟩
          obtain ⟨a, b⟩ := q
          have ap : Apt many L a b := Apt.of_open (List.mem_of_getElem? hq)
          obtain ⟨M, hM, eM⟩ := closed_ok (acy_more hw ap.ha ap.hb ap.ne ap.n2) m8
          have wM := wok_more hw ap.ha ap.hb ap.ne ap.n2 hM
          have few := hw.lok.few m8
          have lt := open_less ap hM
          show wp _ _ _
          rw [show pD (a, b) = .tup [.int a, .int b] from rfl]
          walk_at "st"
          refine wi_frs rfl f8 ?_
          walk_at "st"
          refine wi_frs rfl f9 ?_
          walk_at "st"
          refine wp_make.mpr ?_
          walk_at "st"
          apply onO_of (add_T (f := pD) (l := L) (m := [(a, b)]) (by show L.length + 1 ≤ 100000; omega))
          walk_at "st"
          refine wp_callFn (by simp [locs]) rfl eM rfl ?_
          walk_at "st"
          refine wp_makeV (ds := [.int many, .tup (M.map pD)]) (ss := [.val (.int many), .val (.tup (M.map pD))]) rfl (web_of_70 wM) ?_
          walk_at "st"
          refine wp_callFn .nil rfl (most_ok (c := cWeb) (by decide) (by omega) m8 .own) rfl ?_
          walk_at "st"
          refine wi_ifF (by simp; omega) ?_
          walk_at "st"
          exact ⟨_, _, .val, .val, rfl⟩
        · rintro r ⟨s8, s9, f8, f9, rfl⟩
          exact ⟨d1, _, _, _, _, _, _, s8, s9, t1, .val, .val, .val, .own, .val, .val, f8, f9, rfl⟩
      · rintro r ⟨t, s2, s3, s4, s5, s6, s7, s8, s9, ht, f2, f3, f4, f5, f6, f7, f8, f9, rfl⟩
        exact ⟨rfl, t, s2, s3, s4, s5, s6, s7, s8, s9, ht.mono (by rw [names_len]; decide), f3, f4, rfl⟩
    clear t0 d0
    rintro fl r1 ⟨rfl, t, s2, s3, s4, s5, s6, s7, s8, s9, t0, f3, f4, rfl⟩
    show wp _ _ _
    refine wp_seq.2 (wp_mono (Q := fun fl r1 => fl = .nx ∧ ∃ (many : Int) (d1 : D), 6 ≤ many ∧ many ≤ 8 ∧ TOk ns 2001 d1 ∧ r1 = [.val d, .own d1, s2, .val (.int many), s4, s5, s6, s7, s8, s9]) ?_ ?_)
    · walk_at "st"
      refine wp_pickO rfl t0 (by omega) (by decide) (by decide) fun k d2 k0 k1 t2 => ?_
      have k1 : k < 3 := k1
      walk_at "st"
      refine wi_frs rfl f3 ?_
      walk_at "st"
      exact ⟨rfl, _, d2, by omega, by omega, t2, rfl⟩
    clear t0 f3 s3 t
    rintro fl r1 ⟨rfl, many, d1, m6, m8, t1, rfl⟩
    show wp _ _ _
    refine wp_seq.2 (wp_mono (Q := fun fl r1 => fl = .nx ∧ ∃ (L : List (Int × Int)) (d1 : D), WOk many L ∧ r1 = [.val d, .own d1, s2, .val (.int many), .val (.tup (L.map pD)), s5, s6, s7, s8, s9]) ?_ ?_)
    · obtain ⟨ps, d2, ha, asc, t2, e2⟩ := pairs_okP (many := many) t1 (by omega) (by omega) m8
      obtain ⟨L, hL, e3⟩ := closed_ok ha m8
      walk_at "st"
      refine wp_callFn (by simp [locs]) rfl e2 rfl ?_
      walk_at "st"
      refine wp_callFn (by simp [locs]) rfl e3 rfl ?_
      walk_at "st"
      refine wi_frs rfl f4 ?_
      walk_at "st"
      exact ⟨rfl, L, d2, wok_cl (by omega) m8 ha hL, rfl⟩
    clear t1 d1
    rintro fl r1 ⟨rfl, L, d1, hw, rfl⟩
    show wp _ _ _
    have m1 := hw.m1
    walk_at "st"
    refine wp_make.mpr ?_
    walk_at "st"
    refine wp_makeV (ds := [.int many, .tup (L.map pD)]) (ss := [.val (.int many), .val (.tup (L.map pD))]) rfl (web_of_70 hw) ?_
    walk_at "st"
    refine wp_callFn .nil rfl (most_ok (c := cWeb) (by decide) (by omega) m8 .own) rfl ?_
    walk_at "st"
    refine wp_callFn (by simp [locs]) rfl (open_ok hw.lok m1 m8) rfl ?_
    walk_at "st"
    rw [List.length_map]
    exact congrArg (fun b => RV.fz (D.bl b)) (decide_eq_true rfl)
  obtain ⟨v, r, e, rfl⟩ := z
  exact ⟨r, e⟩
end LW

end

section
set_option Elab.async false
set_option linter.all false
set_option maxRecDepth 100000
set_option maxHeartbeats 4000000
/-! Printed by gen.py: the law's defs as functions by value, and that each keeps its function. -/
namespace LW
open PySem L2 DL PyProof.Rows
def top (i : Nat) : Stmt := PySem.Challenge.pw_evenorders_k70_whole_most_asks_by_all_ga.main.body.getD i (.Pass ⟨0, 0, 0, 0⟩)
def cfs (c : Nat) : List Str := match c with | 0 => ["many", "befores", "ahead", "later"] | 1 => ["many", "befores", "ahead", "later"] | _ => []
abbrev gm (K : PySem.W.Frag) (ca : Nat → Addr) : Gm := ⟨K, ca, cfs⟩
abbrev s_law_tape : Stmt := top 23
abbrev s_law_pick : Stmt := top 24
abbrev s_law_closed : Stmt := top 25
abbrev s_law_pairs : Stmt := top 26
abbrev s_law_web : Stmt := top 29
abbrev s_law_free : Stmt := top 27
abbrev s_law_orders : Stmt := top 28
abbrev s_law_open : Stmt := top 30
abbrev s_law_small : Stmt := top 31
abbrev s_is_integer : Stmt := top 4
abbrev s_is_within : Stmt := top 5
abbrev s_is_pair : Stmt := top 6
abbrev s_are_names : Stmt := top 8
abbrev s_is_ascending : Stmt := top 7
abbrev s_are_befores : Stmt := top 12
abbrev s_closed : Stmt := top 11
abbrev s_Web_keep : Stmt := inClass (top 13) 1
abbrev s_Web_init : Stmt := inClass (top 13) 0
abbrev s_law_masks : Stmt := top 32
abbrev s_law_asked : Stmt := top 33
abbrev s_law_by_pairs : Stmt := top 34
abbrev s_is_apart : Stmt := top 16
abbrev s_pairs_apart : Stmt := top 17
abbrev s_most_asks : Stmt := top 19
abbrev s_RawWeb_keep : Stmt := inClass (top 13) 1
abbrev s_RawWeb_init : Stmt := inClass (top 14) 0
abbrev s_raw_web : Stmt := top 15
abbrev s_turned : Stmt := top 21
abbrev s_law : Stmt := top 35
/-- what the top has written -/
structure Txt (K : PySem.W.Frag) (mg : Str → Option Value) (fa : Nat → Addr) (fd : Nat → FuncData) (ca : Nat → Addr) : Prop where
  F_law_tape : Fun K "_law_tape" "_law_tape" s_law_tape (fa 0) (fd 0)
  B_law_tape : Binds K (fd 0) ["_law_script"] []
  g_law_tape : mg "_law_tape" = some (.ref (fa 0))
  F_law_pick : Fun K "_law_pick" "_law_pick" s_law_pick (fa 1) (fd 1)
  B_law_pick : Binds K (fd 1) ["_law_tape_here", "_law_many"] []
  g_law_pick : mg "_law_pick" = some (.ref (fa 1))
  F_law_closed : Fun K "_law_closed" "_law_closed" s_law_closed (fa 2) (fd 2)
  B_law_closed : Binds K (fd 2) ["_law_pairs_here"] []
  g_law_closed : mg "_law_closed" = some (.ref (fa 2))
  F_law_pairs : Fun K "_law_pairs" "_law_pairs" s_law_pairs (fa 3) (fd 3)
  B_law_pairs : Binds K (fd 3) ["_law_tape_here", "_law_many"] []
  g_law_pairs : mg "_law_pairs" = some (.ref (fa 3))
  F_law_web : Fun K "_law_web" "_law_web" s_law_web (fa 4) (fd 4)
  B_law_web : Binds K (fd 4) ["_law_tape_here", "_law_most"] []
  g_law_web : mg "_law_web" = some (.ref (fa 4))
  F_law_free : Fun K "_law_free" "_law_free" s_law_free (fa 5) (fd 5)
  B_law_free : Binds K (fd 5) ["_law_befores", "_law_many", "_law_row"] []
  g_law_free : mg "_law_free" = some (.ref (fa 5))
  F_law_orders : Fun K "_law_orders" "_law_orders" s_law_orders (fa 6) (fd 6)
  B_law_orders : Binds K (fd 6) ["_law_befores", "_law_many"] []
  g_law_orders : mg "_law_orders" = some (.ref (fa 6))
  F_law_open : Fun K "_law_open" "_law_open" s_law_open (fa 7) (fd 7)
  B_law_open : Binds K (fd 7) ["_law_every", "_law_many"] []
  g_law_open : mg "_law_open" = some (.ref (fa 7))
  F_law_small : Fun K "_law_small" "_law_small" s_law_small (fa 8) (fd 8)
  B_law_small : Binds K (fd 8) ["_law_tape_here", "_law_most", "_law_rows"] []
  g_law_small : mg "_law_small" = some (.ref (fa 8))
  F_is_integer : Fun K "is_integer" "is_integer" s_is_integer (fa 9) (fd 9)
  B_is_integer : Binds K (fd 9) ["thing"] []
  g_is_integer : mg "is_integer" = some (.ref (fa 9))
  F_is_within : Fun K "is_within" "is_within" s_is_within (fa 10) (fd 10)
  B_is_within : Binds K (fd 10) ["thing", "least", "most"] []
  g_is_within : mg "is_within" = some (.ref (fa 10))
  F_is_pair : Fun K "is_pair" "is_pair" s_is_pair (fa 11) (fd 11)
  B_is_pair : Binds K (fd 11) ["thing"] []
  g_is_pair : mg "is_pair" = some (.ref (fa 11))
  F_are_names : Fun K "are_names" "are_names" s_are_names (fa 12) (fd 12)
  B_are_names : Binds K (fd 12) ["many", "thing"] []
  g_are_names : mg "are_names" = some (.ref (fa 12))
  F_is_ascending : Fun K "is_ascending" "is_ascending" s_is_ascending (fa 13) (fd 13)
  B_is_ascending : Binds K (fd 13) ["items"] []
  g_is_ascending : mg "is_ascending" = some (.ref (fa 13))
  F_are_befores : Fun K "are_befores" "are_befores" s_are_befores (fa 14) (fd 14)
  B_are_befores : Binds K (fd 14) ["many", "thing"] []
  g_are_befores : mg "are_befores" = some (.ref (fa 14))
  F_closed : Fun K "closed" "closed" s_closed (fa 15) (fd 15)
  B_closed : Binds K (fd 15) ["many", "pairs"] []
  g_closed : mg "closed" = some (.ref (fa 15))
  F_Web_keep : Fun K "keep" "Web.keep" s_Web_keep (fa 16) (fd 16)
  B_Web_keep : Binds K (fd 16) ["self", "many", "every"] []
  m_Web_keep : Meth K (ca 0) "keep" (fa 16)
  F_Web_init : Fun K "__init__" "Web.__init__" s_Web_init (fa 17) (fd 17)
  B_Web_init : Binds K (fd 17) ["self", "many", "befores"] []
  F_law_masks : Fun K "_law_masks" "_law_masks" s_law_masks (fa 18) (fd 18)
  B_law_masks : Binds K (fd 18) ["_law_rows", "_law_pairs_here"] []
  g_law_masks : mg "_law_masks" = some (.ref (fa 18))
  F_law_asked : Fun K "_law_asked" "_law_asked" s_law_asked (fa 19) (fd 19)
  B_law_asked : Binds K (fd 19) ["_law_lot", "_law_masks_here", "_law_known"] []
  g_law_asked : mg "_law_asked" = some (.ref (fa 19))
  F_law_by_pairs : Fun K "_law_by_pairs" "_law_by_pairs" s_law_by_pairs (fa 20) (fd 20)
  B_law_by_pairs : Binds K (fd 20) ["_law_every", "_law_many"] []
  g_law_by_pairs : mg "_law_by_pairs" = some (.ref (fa 20))
  F_is_apart : Fun K "is_apart" "is_apart" s_is_apart (fa 21) (fd 21)
  B_is_apart : Binds K (fd 21) ["web", "one", "other"] []
  g_is_apart : mg "is_apart" = some (.ref (fa 21))
  F_pairs_apart : Fun K "pairs_apart" "pairs_apart" s_pairs_apart (fa 22) (fd 22)
  B_pairs_apart : Binds K (fd 22) ["web"] []
  g_pairs_apart : mg "pairs_apart" = some (.ref (fa 22))
  F_most_asks : Fun K "most_asks" "most_asks" s_most_asks (fa 23) (fd 23)
  B_most_asks : Binds K (fd 23) ["web"] []
  g_most_asks : mg "most_asks" = some (.ref (fa 23))
  F_RawWeb_keep : Fun K "keep" "Web.keep" s_RawWeb_keep (fa 24) (fd 24)
  B_RawWeb_keep : Binds K (fd 24) ["self", "many", "every"] []
  m_RawWeb_keep : Meth K (ca 1) "keep" (fa 24)
  F_RawWeb_init : Fun K "__init__" "RawWeb.__init__" s_RawWeb_init (fa 25) (fd 25)
  B_RawWeb_init : Binds K (fd 25) ["self", "many", "every"] []
  F_raw_web : Fun K "raw_web" "raw_web" s_raw_web (fa 26) (fd 26)
  B_raw_web : Binds K (fd 26) ["many", "every"] []
  g_raw_web : mg "raw_web" = some (.ref (fa 26))
  F_turned : Fun K "turned" "turned" s_turned (fa 27) (fd 27)
  B_turned : Binds K (fd 27) ["web"] []
  g_turned : mg "turned" = some (.ref (fa 27))
  F_law : Fun K "law" "law" s_law (fa 28) (fd 28)
  B_law : Binds K (fd 28) ["_law_script"] []
  g_law : mg "law" = some (.ref (fa 28))
  c_Web : Cls K (ca 0)
  gc_Web : mg "Web" = some (.ref (ca 0))
  mk_Web : Mk K (ca 0) (fa 17)
  c_RawWeb : Cls K (ca 1)
  gc_RawWeb : mg "RawWeb" = some (.ref (ca 1))
  mk_RawWeb : Mk K (ca 1) (fa 25)
  a_ahead : FldOk K (gm K ca) [0, 1] 2 "ahead"
  a_befores : FldOk K (gm K ca) [0, 1] 1 "befores"
  a_later : FldOk K (gm K ca) [0, 1] 3 "later"
  a_many : FldOk K (gm K ca) [0, 1] 0 "many"
  n_all : mg "all" = none
  n_any : mg "any" = none
  n_bool : mg "bool" = none
  n_int : mg "int" = none
  n_isinstance : mg "isinstance" = none
  n_len : mg "len" = none
  n_list : mg "list" = none
  n_max : mg "max" = none
  n_min : mg "min" = none
  n_range : mg "range" = none
  n_set : mg "set" = none
  n_sorted : mg "sorted" = none
  n_sum : mg "sum" = none
  n_tuple : mg "tuple" = none
  v_MOST_NAMES : ∃ t, mg "MOST_NAMES" = some (.int 8 t)
section
variable {P : Program} {w : World} {K : PySem.W.Frag} {mg : Str → Option Value} {base : Heap} {fa : Nat → Addr} {fd : Nat → FuncData} {ca : Nat → Addr}
theorem sc_law_tape : FnScope ["_law_script"] ["_law_script"] (defScope s_law_tape) := ⟨rfl, rfl, rfl, by decide +kernel, rfl, by decide +kernel, by decide +kernel⟩
theorem ok_law_tape (T : Txt K mg fa fd ca) : DL.FnOk P w K mg base (L2N.CX P w) 1 (fa 0) (fd 0) ["_law_script"] (spOf (gm K ca) f_law_tape) :=
  fn_def T.F_law_tape sc_law_tape rfl rfl fun cdv A outer s H E hr =>
    (dss_one (ds_ret (de_lst (das_cons (db_list rfl rfl T.n_list (de_var 0)) (das_cons (de_int) (das_cons (de_int) (das_cons (de_int) (das_cons (de_int) (das_nil)))))))))
theorem sc_law_pick : FnScope ["_law_tape_here", "_law_many", "_law_digit", "_law_cell", "_law_mixed"] ["_law_tape_here", "_law_many"] (defScope s_law_pick) := ⟨rfl, rfl, rfl, by decide +kernel, rfl, by decide +kernel, by decide +kernel⟩
theorem ok_law_pick (T : Txt K mg fa fd ca) : DL.FnOk P w K mg base (L2N.CX P w) 1 (fa 1) (fd 1) ["_law_tape_here", "_law_many"] (spOf (gm K ca) f_law_pick) :=
  fn_def T.F_law_pick sc_law_pick rfl rfl fun cdv A outer s H E hr =>
    (dss_cons (ds_if (dc_t cd_gt (dx_ix rfl hr (de_var 0) (de_int)) (de_int))
 (dss_cons (ds_set sc_law_pick.nd (dx_mod (db_int T.n_int (dx_ix rfl hr (de_var 0) (de_int))) (de_var 1)))
 (dss_cons (dl_put (i := 0) hr (de_var 0) (pv 0) (de_int) (dx_div (dx_ix rfl hr (de_var 0) (de_int)) (de_var 1)))
 (dss_one (ds_ret (de_var 2)))))
 (dss_nil))
 (dss_cons (dl_put (i := 0) hr (de_var 0) (pv 0) (de_int) (dx_add rfl (dx_ix rfl hr (de_var 0) (de_int)) (de_int)))
 (dss_cons (ds_set sc_law_pick.nd (de_int))
 (dss_cons (ds_if (dc_t (cd_lt hr) (dx_ix rfl hr (de_var 0) (de_int)) (db_len T.n_len (dx_ix rfl hr (de_var 0) (de_int))))
 (dss_cons (ds_set sc_law_pick.nd (dx_ix rfl hr (dx_ix rfl hr (de_var 0) (de_int)) (dx_ix rfl hr (de_var 0) (de_int))))
 (dss_one (dl_put (i := 0) hr (de_var 0) (pv 0) (de_int) (dx_add rfl (dx_ix rfl hr (de_var 0) (de_int)) (de_int)))))
 (dss_nil))
 (dss_cons (ds_if (dc_t cd_ge (de_var 3) (dx_pow (de_int) (de_int)))
 (dss_cons (dl_put (i := 0) hr (de_var 0) (pv 0) (de_int) (dx_div (de_var 3) (de_var 1)))
 (dss_one (ds_ret (dx_mod (db_int T.n_int (de_var 3)) (de_var 1)))))
 (dss_nil))
 (dss_cons (ds_set sc_law_pick.nd (dx_mod (db_int T.n_int (dx_add rfl (dx_add rfl (dx_mul (dx_ix rfl hr (de_var 0) (de_int)) (de_int)) (dx_mod (db_int T.n_int (de_var 3)) (de_int))) (dx_mul (dx_ix rfl hr (de_var 0) (de_int)) (de_int)))) (de_int)))
 (dss_cons (ds_set sc_law_pick.nd (dx_mod (db_int T.n_int (dx_mul (de_var 4) (dx_add rfl (dx_div (de_var 4) (de_int)) (de_int)))) (de_int)))
 (dss_cons (dl_put (i := 0) hr (de_var 0) (pv 0) (de_int) (de_var 4))
 (dss_one (ds_ret (dx_mod (db_int T.n_int (dx_div (de_var 4) (de_int))) (de_var 1))))))))))))
theorem sc_law_closed : FnScope ["_law_pairs_here", "_law_found", "_law_turn", "_law_more", "_law_one", "_law_middle", "_law_first", "_law_other", "_law_pair"] ["_law_pairs_here"] (defScope s_law_closed) := ⟨rfl, rfl, rfl, by decide +kernel, rfl, by decide +kernel, by decide +kernel⟩
theorem ok_law_closed (T : Txt K mg fa fd ca) : DL.FnOk P w K mg base (L2N.CX P w) 1 (fa 2) (fd 2) ["_law_pairs_here"] (spOf (gm K ca) f_law_closed) :=
  fn_def T.F_law_closed sc_law_closed rfl rfl fun cdv A outer s H E hr =>
    (dss_cons (ds_set sc_law_closed.nd (db_sortSet rfl rfl hr T.n_sorted T.n_set (de_var 0)))
 (dss_cons (ds_for hpo_of rfl (di_rng1 rfl T.n_range (de_int)) (dg_name sc_law_closed.nd)
 (dss_cons (ds_set sc_law_closed.nd (de_lst (das_nil)))
 (dss_cons (ds_for hpo_of rfl (di_seq rfl (de_var 1)) (dg_tup rfl rfl (dgs_cons (dg_name sc_law_closed.nd) (dgs_cons (dg_name sc_law_closed.nd) (dgs_nil))))
 (dss_one (ds_set sc_law_closed.nd (dx_add rfl (de_var 3) (de_comp (own := [("_law_first", 6), ("_law_other", 7)]) rfl sc_law_closed.nd rfl (by simp [Tg.ns, Tg.nss]) (di_seq rfl (de_var 1)) (blkOk_by (by kernel_rfl)) (fun _ _ _ _ _ => dg_tup rfl rfl (dgs_cons (dg_name sc_law_closed.nd) (dgs_cons (dg_name sc_law_closed.nd) (dgs_nil)))) (fun _ _ _ _ _ => dpts_one (dc_t (cd_eq rfl hr) (de_var 6) (de_var 5))) (fun _ _ _ _ _ => de_tup (das_cons (de_var 4) (das_cons (de_var 7) (das_nil)))))))))
 (dss_one (ds_set sc_law_closed.nd (db_sortSet rfl rfl hr T.n_sorted T.n_set (dx_add rfl (de_var 1) (de_var 3))))))))
 (dss_cons (ds_if (dc_t cd_gt (db_len T.n_len (de_comp (own := [("_law_pair", 8)]) rfl sc_law_closed.nd rfl (by simp [Tg.ns, Tg.nss]) (di_seq rfl (de_var 1)) (blkOk_by (by kernel_rfl)) (fun _ _ _ _ _ => dg_name sc_law_closed.nd) (fun _ _ _ _ _ => dpts_one (dc_t (cd_eq rfl hr) (dx_ix rfl hr (de_var 8) (de_int)) (dx_ix rfl hr (de_var 8) (de_int)))) (fun _ _ _ _ _ => de_var 8))) (de_int))
 (dss_one (ds_ret (de_non)))
 (dss_nil))
 (dss_one (ds_ret (db_tuple T.n_tuple (de_var 1)))))))
theorem sc_law_pairs : FnScope ["_law_tape_here", "_law_many", "_law_row", "_law_name", "_law_thin", "_law_found", "_law_at", "_law_other"] ["_law_tape_here", "_law_many"] (defScope s_law_pairs) := ⟨rfl, rfl, rfl, by decide +kernel, rfl, by decide +kernel, by decide +kernel⟩
theorem ok_law_pairs (T : Txt K mg fa fd ca) : DL.FnOk P w K mg base (L2N.CX P w) 2 (fa 3) (fd 3) ["_law_tape_here", "_law_many"] (spOf (gm K ca) f_law_pairs) :=
  fn_def T.F_law_pairs sc_law_pairs rfl rfl fun cdv A outer s H E hr =>
    (dss_cons (ds_set sc_law_pairs.nd (de_lst (das_nil)))
 (dss_cons (ds_for hpo_of rfl (di_rng1 rfl T.n_range (de_var 1)) (dg_name sc_law_pairs.nd)
 (dss_one (ds_expr (dl_insert (i := 2) (pv 2) (das_cons (de_call (ok_law_pick T) (hr.mono (by decide)) rfl T.g_law_pick T.F_law_pick.kp T.B_law_pick hp_of (da_cons (de_var 0) (da_cons (dx_add rfl (de_var 3) (de_int)) (da_nil)))) (das_cons (de_var 3) (das_nil)))))))
 (dss_cons (ds_set sc_law_pairs.nd (dx_add rfl (de_int) (de_call (ok_law_pick T) (hr.mono (by decide)) rfl T.g_law_pick T.F_law_pick.kp T.B_law_pick hp_of (da_cons (de_var 0) (da_cons (de_int) (da_nil))))))
 (dss_cons (ds_set sc_law_pairs.nd (de_lst (das_nil)))
 (dss_cons (ds_for hpo_of rfl (di_rng1 rfl T.n_range (de_var 1)) (dg_name sc_law_pairs.nd)
 (dss_one (ds_for hpo_of rfl (di_rng2 rfl T.n_range (dx_add rfl (de_var 6) (de_int)) (de_var 1)) (dg_name sc_law_pairs.nd)
 (dss_one (ds_if (dc_t (cd_eq rfl hr) (de_call (ok_law_pick T) (hr.mono (by decide)) rfl T.g_law_pick T.F_law_pick.kp T.B_law_pick hp_of (da_cons (de_var 0) (da_cons (de_var 4) (da_nil)))) (de_int))
 (dss_one (ds_expr (dl_append (i := 5) (pv 5) (das_cons (de_tup (das_cons (dx_ix rfl hr (de_var 2) (de_var 6)) (das_cons (dx_ix rfl hr (de_var 2) (de_var 7)) (das_nil)))) (das_nil)))))
 (dss_nil))))))
 (dss_one (ds_ret (db_tuple T.n_tuple (db_sorted rfl hr T.n_sorted (de_var 5))))))))))
theorem sc_law_web : FnScope ["_law_tape_here", "_law_most", "_law_many"] ["_law_tape_here", "_law_most"] (defScope s_law_web) := ⟨rfl, rfl, rfl, by decide +kernel, rfl, by decide +kernel, by decide +kernel⟩
theorem ok_law_web (T : Txt K mg fa fd ca) : DL.FnOk P w K mg base (L2N.CX P w) 3 (fa 4) (fd 4) ["_law_tape_here", "_law_most"] (spOf (gm K ca) f_law_web) :=
  fn_def T.F_law_web sc_law_web rfl rfl fun cdv A outer s H E hr =>
    (dss_cons (ds_set sc_law_web.nd (dx_add rfl (de_int) (de_call (ok_law_pick T) (hr.mono (by decide)) rfl T.g_law_pick T.F_law_pick.kp T.B_law_pick hp_of (da_cons (de_var 0) (da_cons (de_var 1) (da_nil))))))
 (dss_cons (ds_if (dc_t cd_gt (de_call (ok_law_pick T) (hr.mono (by decide)) rfl T.g_law_pick T.F_law_pick.kp T.B_law_pick hp_of (da_cons (de_var 0) (da_cons (de_int) (da_nil)))) (de_int))
 (dss_one (ds_set sc_law_web.nd (db_max rfl T.n_max (de_var 2) (dx_sub (de_var 1) (de_int)))))
 (dss_nil))
 (dss_one (ds_ret (de_tup (das_cons (de_var 2) (das_cons (de_call (ok_law_closed T) (hr.mono (by decide)) rfl T.g_law_closed T.F_law_closed.kp T.B_law_closed hp_of (da_cons (de_call (ok_law_pairs T) (hr.mono (by decide)) rfl T.g_law_pairs T.F_law_pairs.kp T.B_law_pairs hp_of (da_cons (de_var 0) (da_cons (de_var 2) (da_nil)))) (da_nil))) (das_nil))))))))
theorem sc_law_free : FnScope ["_law_befores", "_law_many", "_law_row", "_law_found", "_law_name", "_law_one", "_law_other"] ["_law_befores", "_law_many", "_law_row"] (defScope s_law_free) := ⟨rfl, rfl, rfl, by decide +kernel, rfl, by decide +kernel, by decide +kernel⟩
theorem ok_law_free (T : Txt K mg fa fd ca) : DL.FnOk P w K mg base (L2N.CX P w) 1 (fa 5) (fd 5) ["_law_befores", "_law_many", "_law_row"] (spOf (gm K ca) f_law_free) :=
  fn_def T.F_law_free sc_law_free rfl rfl fun cdv A outer s H E hr =>
    (dss_cons (ds_set sc_law_free.nd (de_lst (das_nil)))
 (dss_cons (ds_for hpo_of rfl (di_rng1 rfl T.n_range (de_var 1)) (dg_name sc_law_free.nd)
 (dss_one (ds_if (PW.pt (dw_and (dc_t (cd_notIn rfl hr) (de_var 4) (de_var 2)) (dw_and1 (dc_t (cd_eq rfl hr) (db_len T.n_len (de_comp (own := [("_law_one", 5), ("_law_other", 6)]) rfl sc_law_free.nd rfl (by simp [Tg.ns, Tg.nss]) (di_seq rfl (de_var 0)) (blkOk_by (by kernel_rfl)) (fun _ _ _ _ _ => dg_tup rfl rfl (dgs_cons (dg_name sc_law_free.nd) (dgs_cons (dg_name sc_law_free.nd) (dgs_nil)))) (fun _ _ _ _ _ => dpts_one (PW.pt (dw_and (dc_t (cd_eq rfl hr) (de_var 6) (de_var 4)) (dw_and1 (dc_t (cd_notIn rfl hr) (de_var 5) (de_var 2)))))) (fun _ _ _ _ _ => de_var 5))) (de_int)))))
 (dss_one (ds_expr (dl_append (i := 3) (pv 3) (das_cons (de_var 4) (das_nil)))))
 (dss_nil))))
 (dss_one (ds_ret (de_var 3)))))
theorem sc_law_orders : FnScope ["_law_befores", "_law_many", "_law_found", "_law_turn", "_law_longer", "_law_row", "_law_name"] ["_law_befores", "_law_many"] (defScope s_law_orders) := ⟨rfl, rfl, rfl, by decide +kernel, rfl, by decide +kernel, by decide +kernel⟩
theorem ok_law_orders (T : Txt K mg fa fd ca) : DL.FnOk P w K mg base (L2N.CX P w) 2 (fa 6) (fd 6) ["_law_befores", "_law_many"] (spOf (gm K ca) f_law_orders) :=
  fn_def T.F_law_orders sc_law_orders rfl rfl fun cdv A outer s H E hr =>
    (dss_cons (ds_set sc_law_orders.nd (de_lst (das_cons (de_tupZ (das_nil)) (das_nil))))
 (dss_cons (ds_for hpo_of rfl (di_rng1 rfl T.n_range (de_var 1)) (dg_name sc_law_orders.nd)
 (dss_cons (ds_set sc_law_orders.nd (de_lst (das_nil)))
 (dss_cons (ds_for hpo_of rfl (di_seq rfl (de_var 2)) (dg_name sc_law_orders.nd)
 (dss_one (ds_set sc_law_orders.nd (dx_add rfl (de_var 4) (de_comp (own := [("_law_name", 6)]) rfl sc_law_orders.nd rfl (by simp [Tg.ns, Tg.nss]) (di_seq rfl (de_call (ok_law_free T) (hr.mono (by decide)) rfl T.g_law_free T.F_law_free.kp T.B_law_free hp_of (da_cons (de_var 0) (da_cons (de_var 1) (da_cons (de_var 5) (da_nil)))))) (blkOk_by (by kernel_rfl)) (fun _ _ _ _ _ => dg_name sc_law_orders.nd) (fun _ _ _ _ _ => dpts_nil) (fun _ _ _ _ _ => de_addP (de_var 5) (de_tupZ (das_cons (de_var 6) (das_nil)))))))))
 (dss_one (ds_set sc_law_orders.nd (de_var 4))))))
 (dss_one (ds_ret (de_var 2)))))
theorem sc_law_open : FnScope ["_law_every", "_law_many", "_law_found", "_law_one", "_law_other"] ["_law_every", "_law_many"] (defScope s_law_open) := ⟨rfl, rfl, rfl, by decide +kernel, rfl, by decide +kernel, by decide +kernel⟩
theorem ok_law_open (T : Txt K mg fa fd ca) : DL.FnOk P w K mg base (L2N.CX P w) 1 (fa 7) (fd 7) ["_law_every", "_law_many"] (spOf (gm K ca) f_law_open) :=
  fn_def T.F_law_open sc_law_open rfl rfl fun cdv A outer s H E hr =>
    (dss_cons (ds_set sc_law_open.nd (de_lst (das_nil)))
 (dss_cons (ds_for hpo_of rfl (di_rng1 rfl T.n_range (de_var 1)) (dg_name sc_law_open.nd)
 (dss_one (ds_for hpo_of rfl (di_rng2 rfl T.n_range (dx_add rfl (de_var 3) (de_int)) (de_var 1)) (dg_name sc_law_open.nd)
 (dss_one (ds_if (PW.pt (dw_and (dc_t (cd_notIn rfl hr) (de_tup (das_cons (de_var 3) (das_cons (de_var 4) (das_nil)))) (de_var 0)) (dw_and1 (dc_t (cd_notIn rfl hr) (de_tup (das_cons (de_var 4) (das_cons (de_var 3) (das_nil)))) (de_var 0)))))
 (dss_one (ds_expr (dl_append (i := 2) (pv 2) (das_cons (de_tup (das_cons (de_var 3) (das_cons (de_var 4) (das_nil)))) (das_nil)))))
 (dss_nil))))))
 (dss_one (ds_ret (de_var 2)))))
theorem sc_law_small : FnScope ["_law_tape_here", "_law_most", "_law_rows", "_law_many", "_law_every", "_law_turn", "_law_left", "_law_pair"] ["_law_tape_here", "_law_most", "_law_rows"] (defScope s_law_small) := ⟨rfl, rfl, rfl, by decide +kernel, rfl, by decide +kernel, by decide +kernel⟩
theorem ok_law_small (T : Txt K mg fa fd ca) : DL.FnOk P w K mg base (L2N.CX P w) 4 (fa 8) (fd 8) ["_law_tape_here", "_law_most", "_law_rows"] (spOf (gm K ca) f_law_small) :=
  fn_def T.F_law_small sc_law_small rfl rfl fun cdv A outer s H E hr =>
    (dss_cons (ds_asg (de_call (ok_law_web T) (hr.mono (by decide)) rfl T.g_law_web T.F_law_web.kp T.B_law_web hp_of (da_cons (de_var 0) (da_cons (de_var 1) (da_nil)))) (dg_tup rfl rfl (dgs_cons (dg_name sc_law_small.nd) (dgs_cons (dg_name sc_law_small.nd) (dgs_nil)))))
 (dss_cons (ds_for hpo_of rfl (di_rng1 rfl T.n_range (de_int)) (dg_name sc_law_small.nd)
 (dss_one (ds_if (dc_t cd_gt (db_len T.n_len (de_call (ok_law_orders T) (hr.mono (by decide)) rfl T.g_law_orders T.F_law_orders.kp T.B_law_orders hp_of (da_cons (de_var 4) (da_cons (de_var 3) (da_nil))))) (de_var 2))
 (dss_cons (ds_set sc_law_small.nd (de_call (ok_law_open T) (hr.mono (by decide)) rfl T.g_law_open T.F_law_open.kp T.B_law_open hp_of (da_cons (de_var 4) (da_cons (de_var 3) (da_nil)))))
 (dss_cons (ds_set sc_law_small.nd (dx_ix rfl hr (de_var 6) (de_call (ok_law_pick T) (hr.mono (by decide)) rfl T.g_law_pick T.F_law_pick.kp T.B_law_pick hp_of (da_cons (de_var 0) (da_cons (db_len T.n_len (de_var 6)) (da_nil))))))
 (dss_one (ds_set sc_law_small.nd (de_call (ok_law_closed T) (hr.mono (by decide)) rfl T.g_law_closed T.F_law_closed.kp T.B_law_closed hp_of (da_cons (dx_add rfl (de_var 4) (de_tup (das_cons (de_var 7) (das_nil)))) (da_nil)))))))
 (dss_nil))))
 (dss_one (ds_ret (de_tup (das_cons (de_var 3) (das_cons (de_var 4) (das_nil))))))))
theorem sc_is_integer : FnScope ["thing"] ["thing"] (defScope s_is_integer) := ⟨rfl, rfl, rfl, by decide +kernel, rfl, by decide +kernel, by decide +kernel⟩
theorem ok_is_integer (T : Txt K mg fa fd ca) : DL.FnOk P w K mg base (L2N.CX P w) 1 (fa 9) (fd 9) ["thing"] (spOf (gm K ca) f_is_integer) :=
  fn_def T.F_is_integer sc_is_integer rfl rfl fun cdv A outer s H E hr =>
    (dss_one (ds_ret (de_and (db_isi T.n_isinstance T.n_int boot_int kf_int (fun _ _ z => nomatch z) (de_var 0)) (de_one (de_not (db_isi T.n_isinstance T.n_bool boot_bool kf_bl (fun _ _ z => nomatch z) (de_var 0)))))))
theorem sc_is_within : FnScope ["thing", "least", "most"] ["thing", "least", "most"] (defScope s_is_within) := ⟨rfl, rfl, rfl, by decide +kernel, rfl, by decide +kernel, by decide +kernel⟩
theorem ok_is_within (T : Txt K mg fa fd ca) : DL.FnOk P w K mg base (L2N.CX P w) 2 (fa 10) (fd 10) ["thing", "least", "most"] (spOf (gm K ca) f_is_within) :=
  fn_def T.F_is_within sc_is_within rfl rfl fun cdv A outer s H E hr =>
    (dss_one (ds_ret (de_and (de_call (ok_is_integer T) (hr.mono (by decide)) rfl T.g_is_integer T.F_is_integer.kp T.B_is_integer hp_of (da_cons (de_var 0) (da_nil))) (de_one (dc_chain cd_le cd_le (de_var 1) (de_var 0) (de_var 2))))))
theorem sc_is_pair : FnScope ["thing"] ["thing"] (defScope s_is_pair) := ⟨rfl, rfl, rfl, by decide +kernel, rfl, by decide +kernel, by decide +kernel⟩
theorem ok_is_pair (T : Txt K mg fa fd ca) : DL.FnOk P w K mg base (L2N.CX P w) 1 (fa 11) (fd 11) ["thing"] (spOf (gm K ca) f_is_pair) :=
  fn_def T.F_is_pair sc_is_pair rfl rfl fun cdv A outer s H E hr =>
    (dss_one (ds_ret (de_and (db_isi T.n_isinstance T.n_tuple boot_tuple kf_tup (fun _ _ z => nomatch z) (de_var 0)) (de_one (dc_e (cd_eq rfl hr) (db_len T.n_len (de_var 0)) (de_int))))))
theorem sc_are_names : FnScope ["many", "thing", "name"] ["many", "thing"] (defScope s_are_names) := ⟨rfl, rfl, rfl, by decide +kernel, rfl, by decide +kernel, by decide +kernel⟩
theorem ok_are_names (T : Txt K mg fa fd ca) : DL.FnOk P w K mg base (L2N.CX P w) 3 (fa 12) (fd 12) ["many", "thing"] (spOf (gm K ca) f_are_names) :=
  fn_def T.F_are_names sc_are_names rfl rfl fun cdv A outer s H E hr =>
    (dss_cons (ds_if (PW.pt (dw_or (dt_not (dt_V (db_isi T.n_isinstance T.n_tuple boot_tuple kf_tup (fun _ _ z => nomatch z) (de_var 1)))) (dw_or1 (dt_not (dt_V (db_all rfl T.n_all (de_comp (own := [("name", 2)]) rfl sc_are_names.nd rfl (by simp [Tg.ns, Tg.nss]) (di_seq rfl (de_var 1)) (blkOk_by (by kernel_rfl)) (fun _ _ _ _ _ => dg_name sc_are_names.nd) (fun _ _ _ _ _ => dpts_nil) (fun _ _ _ _ _ => de_call (ok_is_within T) (hr.mono (by decide)) rfl T.g_is_within T.F_is_within.kp T.B_is_within pasL (da_cons (de_var 2) (da_cons (de_int) (da_cons (dx_sub (de_var 0) (de_int)) (da_nil))))))))))))
 (dss_one (ds_ret (de_bl)))
 (dss_nil))
 (dss_one (ds_ret (dc_e (cd_eq rfl hr) (db_len T.n_len (de_dcomp (own := [("name", 2)]) (DL.hu_of hr) rfl sc_are_names.nd rfl (by simp [Tg.ns, Tg.nss]) (di_seq rfl (de_var 1)) (blkOk_by (by kernel_rfl)) (fun _ _ _ _ _ => dg_name sc_are_names.nd) (fun _ _ _ _ _ => dpts_nil) (fun _ _ _ _ _ => de_var 2) (fun _ _ _ _ _ => de_bl))) (db_len T.n_len (de_var 1))))))
theorem sc_is_ascending : FnScope ["items", "at"] ["items"] (defScope s_is_ascending) := ⟨rfl, rfl, rfl, by decide +kernel, rfl, by decide +kernel, by decide +kernel⟩
theorem ok_is_ascending (T : Txt K mg fa fd ca) : DL.FnOk P w K mg base (L2N.CX P w) 1 (fa 13) (fd 13) ["items"] (spOf (gm K ca) f_is_ascending) :=
  fn_def T.F_is_ascending sc_is_ascending rfl rfl fun cdv A outer s H E hr =>
    (dss_one (ds_ret (db_all rfl T.n_all (de_comp (own := [("at", 1)]) rfl sc_is_ascending.nd rfl (by simp [Tg.ns, Tg.nss]) (di_rng2 rfl T.n_range (de_int) (db_len T.n_len (de_var 0))) (blkOk_by (by kernel_rfl)) (fun _ _ _ _ _ => dg_name sc_is_ascending.nd) (fun _ _ _ _ _ => dpts_nil) (fun _ _ _ _ _ => dc_e (cd_lt hr) (dx_ix rfl hr (de_var 0) (dx_sub (de_var 1) (de_int))) (dx_ix rfl hr (de_var 0) (de_var 1)))))))
theorem sc_are_befores : FnScope ["many", "thing", "pair"] ["many", "thing"] (defScope s_are_befores) := ⟨rfl, rfl, rfl, by decide +kernel, rfl, by decide +kernel, by decide +kernel⟩
theorem ok_are_befores (T : Txt K mg fa fd ca) : DL.FnOk P w K mg base (L2N.CX P w) 4 (fa 14) (fd 14) ["many", "thing"] (spOf (gm K ca) f_are_befores) :=
  fn_def T.F_are_befores sc_are_befores rfl rfl fun cdv A outer s H E hr =>
    (dss_cons (ds_if (dt_not (dt_V (db_isi T.n_isinstance T.n_tuple boot_tuple kf_tup (fun _ _ z => nomatch z) (de_var 1))))
 (dss_one (ds_ret (de_bl)))
 (dss_nil))
 (dss_one (ds_ret (de_and (db_all rfl T.n_all (de_comp (own := [("pair", 2)]) rfl sc_are_befores.nd rfl (by simp [Tg.ns, Tg.nss]) (di_seq rfl (de_var 1)) (blkOk_by (by kernel_rfl)) (fun _ _ _ _ _ => dg_name sc_are_befores.nd) (fun _ _ _ _ _ => dpts_nil) (fun _ _ _ _ _ => de_and (de_call (ok_is_pair T) (hr.mono (by decide)) rfl T.g_is_pair T.F_is_pair.kp T.B_is_pair pasL (da_cons (de_var 2) (da_nil))) (de_one (de_call (ok_are_names T) (hr.mono (by decide)) rfl T.g_are_names T.F_are_names.kp T.B_are_names pasL (da_cons (de_var 0) (da_cons (de_var 2) (da_nil)))))))) (de_one (de_call (ok_is_ascending T) (hr.mono (by decide)) rfl T.g_is_ascending T.F_is_ascending.kp T.B_is_ascending hp_of (da_cons (de_var 1) (da_nil))))))))
theorem sc_closed : FnScope ["many", "pairs", "found", "middle", "one", "other", "name", "pair"] ["many", "pairs"] (defScope s_closed) := ⟨rfl, rfl, rfl, by decide +kernel, rfl, by decide +kernel, by decide +kernel⟩
theorem ok_closed (T : Txt K mg fa fd ca) : DL.FnOk P w K mg base (L2N.CX P w) 1 (fa 15) (fd 15) ["many", "pairs"] (spOf (gm K ca) f_closed) :=
  fn_def T.F_closed sc_closed rfl rfl fun cdv A outer s H E hr =>
    (dss_cons (ds_set sc_closed.nd (de_dcomp (own := [("pair", 7)]) (DL.hu_of hr) rfl sc_closed.nd rfl (by simp [Tg.ns, Tg.nss]) (di_seq rfl (de_var 1)) (blkOk_by (by kernel_rfl)) (fun _ _ _ _ _ => dg_name sc_closed.nd) (fun _ _ _ _ _ => dpts_nil) (fun _ _ _ _ _ => de_var 7) (fun _ _ _ _ _ => de_bl)))
 (dss_cons (ds_for hpo_of rfl (di_rng1 rfl T.n_range (de_var 0)) (dg_name sc_closed.nd)
 (dss_one (ds_for hpo_of rfl (di_rng1 rfl T.n_range (de_var 0)) (dg_name sc_closed.nd)
 (dss_one (ds_for hpo_of rfl (di_rng1 rfl T.n_range (de_var 0)) (dg_name sc_closed.nd)
 (dss_one (ds_if (PW.pt (dw_and (dc_t (cd_in rfl hr) (de_tup (das_cons (de_var 4) (das_cons (de_var 3) (das_nil)))) (de_var 2)) (dw_and1 (dc_t (cd_in rfl hr) (de_tup (das_cons (de_var 3) (das_cons (de_var 5) (das_nil)))) (de_var 2)))))
 (dss_one (dl_put (i := 2) hr (de_var 2) (pv 2) (de_tup (das_cons (de_var 4) (das_cons (de_var 5) (das_nil)))) (de_bl)))
 (dss_nil))))))))
 (dss_cons (ds_if (dt_V (db_any rfl T.n_any (de_comp (own := [("name", 6)]) rfl sc_closed.nd rfl (by simp [Tg.ns, Tg.nss]) (di_rng1 rfl T.n_range (de_var 0)) (blkOk_by (by kernel_rfl)) (fun _ _ _ _ _ => dg_name sc_closed.nd) (fun _ _ _ _ _ => dpts_nil) (fun _ _ _ _ _ => dc_e (cd_in rfl hr) (de_tup (das_cons (de_var 6) (das_cons (de_var 6) (das_nil)))) (de_var 2)))))
 (dss_one (ds_ret (de_non)))
 (dss_nil))
 (dss_one (ds_ret (db_tuple T.n_tuple (db_sorted rfl hr T.n_sorted (db_list rfl rfl T.n_list (de_var 2)))))))))
theorem sc_Web_keep : FnScope ["self", "many", "every", "name", "one", "other"] ["self", "many", "every"] (defScope s_Web_keep) := ⟨rfl, rfl, rfl, by decide +kernel, rfl, by decide +kernel, by decide +kernel⟩
theorem ok_Web_keep (T : Txt K mg fa fd ca) : DL.FnOk P w K mg base (L2N.CX P w) 1 (fa 16) (fd 16) ["self", "many", "every"] (spOf (gm K ca) f_Web_keep) :=
  fn_def T.F_Web_keep sc_Web_keep rfl rfl fun cdv A outer s H E hr =>
    (dss_cons (ds_fld (i := 0) T.a_many (pv 0) (de_var 1))
 (dss_cons (ds_fld (i := 0) T.a_befores (pv 0) (de_var 2))
 (dss_cons (ds_fld (i := 0) T.a_ahead (pv 0) (de_comp (own := [("name", 3)]) rfl sc_Web_keep.nd rfl (by simp [Tg.ns, Tg.nss]) (di_rng1 rfl T.n_range (de_var 1)) (blkOk_by (by kernel_rfl)) (fun _ _ _ _ _ => dg_name sc_Web_keep.nd) (fun _ _ _ _ _ => dpts_nil) (fun _ _ _ _ _ => db_tuple T.n_tuple (de_comp (own := [("one", 4), ("other", 5)]) rfl sc_Web_keep.nd rfl (by simp [Tg.ns, Tg.nss]) (di_seq rfl (de_var 2)) (blkOk_by (by kernel_rfl)) (fun _ _ _ _ _ => dg_tup rfl rfl (dgs_cons (dg_name sc_Web_keep.nd) (dgs_cons (dg_name sc_Web_keep.nd) (dgs_nil)))) (fun _ _ _ _ _ => dpts_one (dc_t (cd_eq rfl hr) (de_var 5) (de_var 3))) (fun _ _ _ _ _ => de_var 4)))))
 (dss_one (ds_fld (i := 0) T.a_later (pv 0) (de_comp (own := [("name", 3)]) rfl sc_Web_keep.nd rfl (by simp [Tg.ns, Tg.nss]) (di_rng1 rfl T.n_range (de_var 1)) (blkOk_by (by kernel_rfl)) (fun _ _ _ _ _ => dg_name sc_Web_keep.nd) (fun _ _ _ _ _ => dpts_nil) (fun _ _ _ _ _ => db_tuple T.n_tuple (de_comp (own := [("one", 4), ("other", 5)]) rfl sc_Web_keep.nd rfl (by simp [Tg.ns, Tg.nss]) (di_seq rfl (de_var 2)) (blkOk_by (by kernel_rfl)) (fun _ _ _ _ _ => dg_tup rfl rfl (dgs_cons (dg_name sc_Web_keep.nd) (dgs_cons (dg_name sc_Web_keep.nd) (dgs_nil)))) (fun _ _ _ _ _ => dpts_one (dc_t (cd_eq rfl hr) (de_var 4) (de_var 3))) (fun _ _ _ _ _ => de_var 5)))))))))
theorem sc_Web_init : FnScope ["self", "many", "befores", "every"] ["self", "many", "befores"] (defScope s_Web_init) := ⟨rfl, rfl, rfl, by decide +kernel, rfl, by decide +kernel, by decide +kernel⟩
theorem ok_Web_init (T : Txt K mg fa fd ca) : DL.FnOk P w K mg base (L2N.CX P w) 5 (fa 17) (fd 17) ["self", "many", "befores"] (spOf (gm K ca) f_Web_init) :=
  fn_def T.F_Web_init sc_Web_init rfl rfl fun cdv A outer s H E hr =>
    (dss_cons (ds_if (dt_not (dt_V (de_call (ok_is_within T) (hr.mono (by decide)) rfl T.g_is_within T.F_is_within.kp T.B_is_within hp_of (da_cons (de_var 1) (da_cons (de_int) (da_cons (de_k T.v_MOST_NAMES) (da_nil)))))))
 (dss_one (ds_bad))
 (dss_nil))
 (dss_cons (ds_if (dt_not (dt_V (de_call (ok_are_befores T) (hr.mono (by decide)) rfl T.g_are_befores T.F_are_befores.kp T.B_are_befores hp_of (da_cons (de_var 1) (da_cons (de_var 2) (da_nil))))))
 (dss_one (ds_bad))
 (dss_nil))
 (dss_cons (ds_set sc_Web_init.nd (de_call (ok_closed T) (hr.mono (by decide)) rfl T.g_closed T.F_closed.kp T.B_closed hp_of (da_cons (de_var 1) (da_cons (de_var 2) (da_nil)))))
 (dss_cons (ds_if (dc_t cd_is (de_var 3) (de_non))
 (dss_one (ds_bad))
 (dss_nil))
 (dss_one (ds_expr (de_meth (c := 0) (by show _ ∉ cfs 0; decide +kernel) (de_var 0) T.c_Web T.m_Web_keep (ok_Web_keep T) (hr.mono (by decide)) T.B_Web_keep hq_of (da_cons (de_var 1) (da_cons (de_var 3) (da_nil))))))))))
theorem sc_law_masks : FnScope ["_law_rows", "_law_pairs_here", "_law_found", "_law_one", "_law_other", "_law_k"] ["_law_rows", "_law_pairs_here"] (defScope s_law_masks) := ⟨rfl, rfl, rfl, by decide +kernel, rfl, by decide +kernel, by decide +kernel⟩
theorem ok_law_masks (T : Txt K mg fa fd ca) : DL.FnOk P w K mg base (L2N.CX P w) 1 (fa 18) (fd 18) ["_law_rows", "_law_pairs_here"] (spOf (gm K ca) f_law_masks) :=
  fn_def T.F_law_masks sc_law_masks rfl rfl fun cdv A outer s H E hr =>
    (dss_cons (ds_set sc_law_masks.nd (de_lst (das_nil)))
 (dss_cons (ds_for hpo_of rfl (di_seq rfl (de_var 1)) (dg_tup rfl rfl (dgs_cons (dg_name sc_law_masks.nd) (dgs_cons (dg_name sc_law_masks.nd) (dgs_nil))))
 (dss_one (ds_expr (dl_append (i := 2) (pv 2) (das_cons (db_sum rfl T.n_sum (de_comp (own := [("_law_k", 5)]) rfl sc_law_masks.nd rfl (by simp [Tg.ns, Tg.nss]) (di_rng1 rfl T.n_range (db_len T.n_len (de_var 0))) (blkOk_by (by kernel_rfl)) (fun _ _ _ _ _ => dg_name sc_law_masks.nd) (fun _ _ _ _ _ => dpts_one (dc_t (cd_lt hr) (de_idx (dx_ix rfl hr (de_var 0) (de_var 5)) (de_var 3)) (de_idx (dx_ix rfl hr (de_var 0) (de_var 5)) (de_var 4)))) (fun _ _ _ _ _ => dx_shl (de_int) (de_var 5)))) (das_nil))))))
 (dss_one (ds_ret (de_var 2)))))
theorem sc_law_asked : FnScope ["_law_lot", "_law_masks_here", "_law_known", "_law_least", "_law_most", "_law_mask", "_law_first", "_law_one", "_law_other"] ["_law_lot", "_law_masks_here", "_law_known"] (defScope s_law_asked) := ⟨rfl, rfl, rfl, by decide +kernel, rfl, by decide +kernel, by decide +kernel⟩
theorem go_law_asked (T : Txt K mg fa fd ca) : ∀ m : Nat, DL.FnOk P w K mg base (L2N.CX P w) (1 + m) (fa 19) (fd 19) ["_law_lot", "_law_masks_here", "_law_known"] (spOf (gm K ca) (g_law_asked m))
  | 0 => fn_def (lv := 0) T.F_law_asked sc_law_asked rfl rfl fun cdv A outer s H E hr => dss_bad
  | m + 1 => fn_def (lv := 1 + m) T.F_law_asked sc_law_asked rfl rfl fun cdv A outer s H E hr =>
    (dss_cons (ds_if (dc_t (cd_notIn rfl hr) (de_var 0) (de_var 2))
 (dss_cons (ds_par2 rfl sc_law_asked.nd rfl rfl (by decide) rfl rfl (da_cons (de_lst (das_nil)) (da_cons (de_lst (das_nil)) (da_nil))) rfl)
 (dss_cons (ds_for hpo_of rfl (di_seq rfl (de_var 1)) (dg_name sc_law_asked.nd)
 (dss_cons (ds_set sc_law_asked.nd (dx_bAnd (de_var 0) (de_var 5)))
 (dss_one (ds_if (PW.pt (dw_and (dc_t (cd_ne rfl hr) (de_var 6) (de_int)) (dw_and1 (dc_t (cd_ne rfl hr) (de_var 6) (de_var 0)))))
 (dss_cons (ds_set sc_law_asked.nd (de_call (go_law_asked T m) hr rfl T.g_law_asked T.F_law_asked.kp T.B_law_asked hp_of (da_cons (de_var 6) (da_cons (de_var 1) (da_cons (de_var 2) (da_nil))))))
 (dss_cons (ds_set sc_law_asked.nd (de_call (go_law_asked T m) hr rfl T.g_law_asked T.F_law_asked.kp T.B_law_asked hp_of (da_cons (dx_sub (de_var 0) (de_var 6)) (da_cons (de_var 1) (da_cons (de_var 2) (da_nil))))))
 (dss_cons (ds_expr (dl_append (i := 3) (pv 3) (das_cons (dx_add rfl (de_int) (db_max rfl T.n_max (dx_ix rfl hr (de_var 7) (de_int)) (dx_ix rfl hr (de_var 8) (de_int)))) (das_nil))))
 (dss_one (ds_expr (dl_append (i := 4) (pv 4) (das_cons (dx_add rfl (de_int) (db_max rfl T.n_max (dx_ix rfl hr (de_var 7) (de_int)) (dx_ix rfl hr (de_var 8) (de_int)))) (das_nil))))))))
 (dss_nil)))))
 (dss_one (dl_put (i := 2) hr (de_var 2) (pv 2) (de_var 0) (de_ifExp (dc_t cd_gt (db_len T.n_len (de_var 3)) (de_int)) (de_tup (das_cons (db_minA rfl (hu3_of hr) rfl T.n_min (de_var 3)) (das_cons (db_maxL rfl T.n_max (de_var 4)) (das_nil)))) (de_tup (das_cons (de_int) (das_cons (de_int) (das_nil)))))))))
 (dss_nil))
 (dss_one (ds_ret (dx_ix rfl hr (de_var 2) (de_var 0)))))
theorem ok_law_asked (T : Txt K mg fa fd ca) : DL.FnOk P w K mg base (L2N.CX P w) 25 (fa 19) (fd 19) ["_law_lot", "_law_masks_here", "_law_known"] (spOf (gm K ca) f_law_asked) := go_law_asked T 24
theorem sc_law_by_pairs : FnScope ["_law_every", "_law_many", "_law_rows", "_law_masks_here", "_law_known", "_law_whole", "_law_found", "_law_first", "_law_mask", "_law_here"] ["_law_every", "_law_many"] (defScope s_law_by_pairs) := ⟨rfl, rfl, rfl, by decide +kernel, rfl, by decide +kernel, by decide +kernel⟩
theorem ok_law_by_pairs (T : Txt K mg fa fd ca) : DL.FnOk P w K mg base (L2N.CX P w) 26 (fa 20) (fd 20) ["_law_every", "_law_many"] (spOf (gm K ca) f_law_by_pairs) :=
  fn_def T.F_law_by_pairs sc_law_by_pairs rfl rfl fun cdv A outer s H E hr =>
    (dss_cons (ds_set sc_law_by_pairs.nd (de_call (ok_law_orders T) (hr.mono (by decide)) rfl T.g_law_orders T.F_law_orders.kp T.B_law_orders hp_of (da_cons (de_var 0) (da_cons (de_var 1) (da_nil)))))
 (dss_cons (ds_set sc_law_by_pairs.nd (de_call (ok_law_masks T) (hr.mono (by decide)) rfl T.g_law_masks T.F_law_masks.kp T.B_law_masks hp_of (da_cons (de_var 2) (da_cons (de_call (ok_law_open T) (hr.mono (by decide)) rfl T.g_law_open T.F_law_open.kp T.B_law_open hp_of (da_cons (de_var 0) (da_cons (de_var 1) (da_nil)))) (da_nil)))))
 (dss_cons (ds_set sc_law_by_pairs.nd (de_dict0))
 (dss_cons (ds_set sc_law_by_pairs.nd (dx_sub (dx_shl (de_int) (db_len T.n_len (de_var 2))) (de_int)))
 (dss_cons (ds_set sc_law_by_pairs.nd (de_call (ok_law_asked T) (hr.mono (by decide)) rfl T.g_law_asked T.F_law_asked.kp T.B_law_asked hp_of (da_cons (de_var 5) (da_cons (de_var 3) (da_cons (de_var 4) (da_nil))))))
 (dss_cons (ds_set sc_law_by_pairs.nd (de_lst (das_nil)))
 (dss_cons (ds_for hpo_of rfl (di_seq rfl (de_var 3)) (dg_name sc_law_by_pairs.nd)
 (dss_cons (ds_set sc_law_by_pairs.nd (dx_bAnd (de_var 5) (de_var 8)))
 (dss_one (ds_expr (dl_append (i := 7) (pv 7) (das_cons (dx_add rfl (de_int) (db_max rfl T.n_max (dx_ix rfl hr (de_call (ok_law_asked T) (hr.mono (by decide)) rfl T.g_law_asked T.F_law_asked.kp T.B_law_asked hp_of (da_cons (de_var 9) (da_cons (de_var 3) (da_cons (de_var 4) (da_nil))))) (de_int)) (dx_ix rfl hr (de_call (ok_law_asked T) (hr.mono (by decide)) rfl T.g_law_asked T.F_law_asked.kp T.B_law_asked hp_of (da_cons (dx_sub (de_var 5) (de_var 9)) (da_cons (de_var 3) (da_cons (de_var 4) (da_nil))))) (de_int)))) (das_nil)))))))
 (dss_one (ds_ret (de_tup (das_cons (de_var 6) (das_cons (de_var 7) (das_nil)))))))))))))
theorem sc_is_apart : FnScope ["web", "one", "other"] ["web", "one", "other"] (defScope s_is_apart) := ⟨rfl, rfl, rfl, by decide +kernel, rfl, by decide +kernel, by decide +kernel⟩
theorem ok_is_apart (T : Txt K mg fa fd ca) : DL.FnOk P w K mg base (L2N.CX P w) 1 (fa 21) (fd 21) ["web", "one", "other"] (spOf (gm K ca) f_is_apart) :=
  fn_def T.F_is_apart sc_is_apart rfl rfl fun cdv A outer s H E hr =>
    (dss_one (ds_ret (de_and (dc_e (cd_notIn rfl hr) (de_var 1) (dx_ix rfl hr (de_fld T.a_ahead (de_var 0)) (de_var 2))) (de_one (dc_e (cd_notIn rfl hr) (de_var 1) (dx_ix rfl hr (de_fld T.a_later (de_var 0)) (de_var 2)))))))
theorem sc_pairs_apart : FnScope ["web", "found", "one", "other"] ["web"] (defScope s_pairs_apart) := ⟨rfl, rfl, rfl, by decide +kernel, rfl, by decide +kernel, by decide +kernel⟩
theorem ok_pairs_apart (T : Txt K mg fa fd ca) : DL.FnOk P w K mg base (L2N.CX P w) 2 (fa 22) (fd 22) ["web"] (spOf (gm K ca) f_pairs_apart) :=
  fn_def T.F_pairs_apart sc_pairs_apart rfl rfl fun cdv A outer s H E hr =>
    (dss_cons (ds_set sc_pairs_apart.nd (de_lst (das_nil)))
 (dss_cons (ds_for hpo_of rfl (di_rng1 rfl T.n_range (de_fld T.a_many (de_var 0))) (dg_name sc_pairs_apart.nd)
 (dss_one (ds_expr (dl_extend (i := 1) (pv 1) (das_cons (de_comp (own := [("other", 3)]) rfl sc_pairs_apart.nd rfl (by simp [Tg.ns, Tg.nss]) (di_rng2 rfl T.n_range (dx_add rfl (de_var 2) (de_int)) (de_fld T.a_many (de_var 0))) (blkOk_by (by kernel_rfl)) (fun _ _ _ _ _ => dg_name sc_pairs_apart.nd) (fun _ _ _ _ _ => dpts_one (dt_V (de_call (ok_is_apart T) (hr.mono (by decide)) rfl T.g_is_apart T.F_is_apart.kp T.B_is_apart pasL (da_cons (de_var 0) (da_cons (de_var 2) (da_cons (de_var 3) (da_nil))))))) (fun _ _ _ _ _ => de_tup (das_cons (de_var 2) (das_cons (de_var 3) (das_nil))))) (das_nil))))))
 (dss_one (ds_ret (de_var 1)))))
theorem sc_most_asks : FnScope ["web"] ["web"] (defScope s_most_asks) := ⟨rfl, rfl, rfl, by decide +kernel, rfl, by decide +kernel, by decide +kernel⟩
theorem ok_most_asks (T : Txt K mg fa fd ca) : DL.FnOk P w K mg base (L2N.CX P w) 3 (fa 23) (fd 23) ["web"] (spOf (gm K ca) f_most_asks) :=
  fn_def T.F_most_asks sc_most_asks rfl rfl fun cdv A outer s H E hr =>
    (dss_one (ds_ret (db_len T.n_len (de_call (ok_pairs_apart T) (hr.mono (by decide)) rfl T.g_pairs_apart T.F_pairs_apart.kp T.B_pairs_apart hp_of (da_cons (de_var 0) (da_nil))))))
theorem sc_RawWeb_keep : FnScope ["self", "many", "every", "name", "one", "other"] ["self", "many", "every"] (defScope s_RawWeb_keep) := ⟨rfl, rfl, rfl, by decide +kernel, rfl, by decide +kernel, by decide +kernel⟩
theorem ok_RawWeb_keep (T : Txt K mg fa fd ca) : DL.FnOk P w K mg base (L2N.CX P w) 1 (fa 24) (fd 24) ["self", "many", "every"] (spOf (gm K ca) f_RawWeb_keep) :=
  fn_def T.F_RawWeb_keep sc_RawWeb_keep rfl rfl fun cdv A outer s H E hr =>
    (dss_cons (ds_fld (i := 0) T.a_many (pv 0) (de_var 1))
 (dss_cons (ds_fld (i := 0) T.a_befores (pv 0) (de_var 2))
 (dss_cons (ds_fld (i := 0) T.a_ahead (pv 0) (de_comp (own := [("name", 3)]) rfl sc_RawWeb_keep.nd rfl (by simp [Tg.ns, Tg.nss]) (di_rng1 rfl T.n_range (de_var 1)) (blkOk_by (by kernel_rfl)) (fun _ _ _ _ _ => dg_name sc_RawWeb_keep.nd) (fun _ _ _ _ _ => dpts_nil) (fun _ _ _ _ _ => db_tuple T.n_tuple (de_comp (own := [("one", 4), ("other", 5)]) rfl sc_RawWeb_keep.nd rfl (by simp [Tg.ns, Tg.nss]) (di_seq rfl (de_var 2)) (blkOk_by (by kernel_rfl)) (fun _ _ _ _ _ => dg_tup rfl rfl (dgs_cons (dg_name sc_RawWeb_keep.nd) (dgs_cons (dg_name sc_RawWeb_keep.nd) (dgs_nil)))) (fun _ _ _ _ _ => dpts_one (dc_t (cd_eq rfl hr) (de_var 5) (de_var 3))) (fun _ _ _ _ _ => de_var 4)))))
 (dss_one (ds_fld (i := 0) T.a_later (pv 0) (de_comp (own := [("name", 3)]) rfl sc_RawWeb_keep.nd rfl (by simp [Tg.ns, Tg.nss]) (di_rng1 rfl T.n_range (de_var 1)) (blkOk_by (by kernel_rfl)) (fun _ _ _ _ _ => dg_name sc_RawWeb_keep.nd) (fun _ _ _ _ _ => dpts_nil) (fun _ _ _ _ _ => db_tuple T.n_tuple (de_comp (own := [("one", 4), ("other", 5)]) rfl sc_RawWeb_keep.nd rfl (by simp [Tg.ns, Tg.nss]) (di_seq rfl (de_var 2)) (blkOk_by (by kernel_rfl)) (fun _ _ _ _ _ => dg_tup rfl rfl (dgs_cons (dg_name sc_RawWeb_keep.nd) (dgs_cons (dg_name sc_RawWeb_keep.nd) (dgs_nil)))) (fun _ _ _ _ _ => dpts_one (dc_t (cd_eq rfl hr) (de_var 4) (de_var 3))) (fun _ _ _ _ _ => de_var 5)))))))))
theorem sc_RawWeb_init : FnScope ["self", "many", "every"] ["self", "many", "every"] (defScope s_RawWeb_init) := ⟨rfl, rfl, rfl, by decide +kernel, rfl, by decide +kernel, by decide +kernel⟩
theorem ok_RawWeb_init (T : Txt K mg fa fd ca) : DL.FnOk P w K mg base (L2N.CX P w) 2 (fa 25) (fd 25) ["self", "many", "every"] (spOf (gm K ca) f_RawWeb_init) :=
  fn_def T.F_RawWeb_init sc_RawWeb_init rfl rfl fun cdv A outer s H E hr =>
    (dss_one (ds_expr (de_meth (c := 1) (by show _ ∉ cfs 1; decide +kernel) (de_var 0) T.c_RawWeb T.m_RawWeb_keep (ok_RawWeb_keep T) (hr.mono (by decide)) T.B_RawWeb_keep hq_of (da_cons (de_var 1) (da_cons (de_var 2) (da_nil))))))
theorem sc_raw_web : FnScope ["many", "every"] ["many", "every"] (defScope s_raw_web) := ⟨rfl, rfl, rfl, by decide +kernel, rfl, by decide +kernel, by decide +kernel⟩
theorem ok_raw_web (T : Txt K mg fa fd ca) : DL.FnOk P w K mg base (L2N.CX P w) 4 (fa 26) (fd 26) ["many", "every"] (spOf (gm K ca) f_raw_web) :=
  fn_def T.F_raw_web sc_raw_web rfl rfl fun cdv A outer s H E hr =>
    (dss_one (ds_ret (de_make (c := 1) T.mk_RawWeb (ok_RawWeb_init T) (hr.mono (by decide)) rfl T.gc_RawWeb T.B_RawWeb_init hq_of (da_cons (de_var 0) (da_cons (db_tuple T.n_tuple (db_sorted rfl hr T.n_sorted (db_list rfl rfl T.n_list (de_var 1)))) (da_nil))))))
theorem sc_turned : FnScope ["web", "one", "other"] ["web"] (defScope s_turned) := ⟨rfl, rfl, rfl, by decide +kernel, rfl, by decide +kernel, by decide +kernel⟩
theorem ok_turned (T : Txt K mg fa fd ca) : DL.FnOk P w K mg base (L2N.CX P w) 5 (fa 27) (fd 27) ["web"] (spOf (gm K ca) f_turned) :=
  fn_def T.F_turned sc_turned rfl rfl fun cdv A outer s H E hr =>
    (dss_one (ds_ret (de_call (ok_raw_web T) (hr.mono (by decide)) rfl T.g_raw_web T.F_raw_web.kp T.B_raw_web hp_of (da_cons (de_fld T.a_many (de_var 0)) (da_cons (de_comp (own := [("one", 1), ("other", 2)]) rfl sc_turned.nd rfl (by simp [Tg.ns, Tg.nss]) (di_seq rfl (de_fld T.a_befores (de_var 0))) (blkOk_by (by kernel_rfl)) (fun _ _ _ _ _ => dg_tup rfl rfl (dgs_cons (dg_name sc_turned.nd) (dgs_cons (dg_name sc_turned.nd) (dgs_nil)))) (fun _ _ _ _ _ => dpts_nil) (fun _ _ _ _ _ => de_tup (das_cons (de_var 2) (das_cons (de_var 1) (das_nil))))) (da_nil))))))
theorem sc_law : FnScope ["_law_script", "_law_tape_here", "_law_turn", "_law_many", "_law_every", "_law_web_here", "_law_most", "_law_told", "_law_one", "_law_other"] ["_law_script"] (defScope s_law) := ⟨rfl, rfl, rfl, by decide +kernel, rfl, by decide +kernel, by decide +kernel⟩
theorem ok_law (T : Txt K mg fa fd ca) : DL.FnOk P w K mg base (L2N.CX P w) 27 (fa 28) (fd 28) ["_law_script"] (spOf (gm K ca) f_law) :=
  fn_def T.F_law sc_law rfl rfl fun cdv A outer s H E hr =>
    (dss_cons (ds_set sc_law.nd (de_call (ok_law_tape T) (hr.mono (by decide)) rfl T.g_law_tape T.F_law_tape.kp T.B_law_tape hp_of (da_cons (de_var 0) (da_nil))))
 (dss_cons (ds_for hpo_of rfl (di_rng1 rfl T.n_range (de_int)) (dg_name sc_law.nd)
 (dss_cons (ds_asg (de_call (ok_law_small T) (hr.mono (by decide)) rfl T.g_law_small T.F_law_small.kp T.B_law_small hp_of (da_cons (de_var 1) (da_cons (de_int) (da_cons (de_ifExp (dc_t cd_gt (de_call (ok_law_pick T) (hr.mono (by decide)) rfl T.g_law_pick T.F_law_pick.kp T.B_law_pick hp_of (da_cons (de_var 1) (da_cons (de_int) (da_nil)))) (de_int)) (de_int) (de_int)) (da_nil))))) (dg_tup rfl rfl (dgs_cons (dg_name sc_law.nd) (dgs_cons (dg_name sc_law.nd) (dgs_nil)))))
 (dss_cons (ds_set sc_law.nd (de_make (c := 0) T.mk_Web (ok_Web_init T) (hr.mono (by decide)) rfl T.gc_Web T.B_Web_init hq_of (da_cons (de_var 3) (da_cons (de_var 4) (da_nil)))))
 (dss_cons (ds_set sc_law.nd (dx_ix rfl hr (dx_ix rfl hr (de_call (ok_law_by_pairs T) (hr.mono (by decide)) rfl T.g_law_by_pairs T.F_law_by_pairs.kp T.B_law_by_pairs hp_of (da_cons (de_var 4) (da_cons (de_var 3) (da_nil)))) (de_int)) (de_int)))
 (dss_cons (ds_set sc_law.nd (de_call (ok_most_asks T) (hr.mono (by decide)) rfl T.g_most_asks T.F_most_asks.kp T.B_most_asks hp_of (da_cons (de_var 5) (da_nil))))
 (dss_cons (ds_if (PW.pt (dw_or (dt_V (db_isi T.n_isinstance T.n_bool boot_bool kf_bl (fun _ _ z => nomatch z) (de_var 7))) (dw_or (dc_t (cd_ne rfl hr) (de_var 7) (de_var 6)) (dw_or1 (dc_t (cd_ne rfl hr) (de_var 6) (db_len T.n_len (de_call (ok_law_open T) (hr.mono (by decide)) rfl T.g_law_open T.F_law_open.kp T.B_law_open hp_of (da_cons (de_var 4) (da_cons (de_var 3) (da_nil))))))))))
 (dss_one (ds_ret (de_bl)))
 (dss_nil))
 (dss_cons (ds_if (dc_t (cd_ne rfl hr) (de_call (ok_most_asks T) (hr.mono (by decide)) rfl T.g_most_asks T.F_most_asks.kp T.B_most_asks hp_of (da_cons (de_call (ok_turned T) (hr.mono (by decide)) rfl T.g_turned T.F_turned.kp T.B_turned hp_of (da_cons (de_var 5) (da_nil))) (da_nil))) (de_var 6))
 (dss_one (ds_ret (de_bl)))
 (dss_nil))
 (dss_one (ds_for hpo_of rfl (di_seq rfl (de_call (ok_law_open T) (hr.mono (by decide)) rfl T.g_law_open T.F_law_open.kp T.B_law_open hp_of (da_cons (de_var 4) (da_cons (de_var 3) (da_nil))))) (dg_tup rfl rfl (dgs_cons (dg_name sc_law.nd) (dgs_cons (dg_name sc_law.nd) (dgs_nil))))
 (dss_one (ds_if (dc_t cd_ge (de_call (ok_most_asks T) (hr.mono (by decide)) rfl T.g_most_asks T.F_most_asks.kp T.B_most_asks hp_of (da_cons (de_make (c := 0) T.mk_Web (ok_Web_init T) (hr.mono (by decide)) rfl T.gc_Web T.B_Web_init hq_of (da_cons (de_var 3) (da_cons (de_call (ok_law_closed T) (hr.mono (by decide)) rfl T.g_law_closed T.F_law_closed.kp T.B_law_closed hp_of (da_cons (dx_add rfl (de_var 4) (de_tup (das_cons (de_tup (das_cons (de_var 8) (das_cons (de_var 9) (das_nil)))) (das_nil)))) (da_nil))) (da_nil)))) (da_nil))) (de_var 6))
 (dss_one (ds_ret (de_bl)))
 (dss_nil))))))))))))
 (dss_cons (ds_set sc_law.nd (dx_add rfl (de_int) (de_call (ok_law_pick T) (hr.mono (by decide)) rfl T.g_law_pick T.F_law_pick.kp T.B_law_pick hp_of (da_cons (de_var 1) (da_cons (de_int) (da_nil))))))
 (dss_cons (ds_set sc_law.nd (de_call (ok_law_closed T) (hr.mono (by decide)) rfl T.g_law_closed T.F_law_closed.kp T.B_law_closed hp_of (da_cons (de_call (ok_law_pairs T) (hr.mono (by decide)) rfl T.g_law_pairs T.F_law_pairs.kp T.B_law_pairs hp_of (da_cons (de_var 1) (da_cons (de_var 3) (da_nil)))) (da_nil))))
 (dss_one (ds_ret (dc_e (cd_eq rfl hr) (de_call (ok_most_asks T) (hr.mono (by decide)) rfl T.g_most_asks T.F_most_asks.kp T.B_most_asks hp_of (da_cons (de_make (c := 0) T.mk_Web (ok_Web_init T) (hr.mono (by decide)) rfl T.gc_Web T.B_Web_init hq_of (da_cons (de_var 3) (da_cons (de_var 4) (da_nil)))) (da_nil))) (db_len T.n_len (de_call (ok_law_open T) (hr.mono (by decide)) rfl T.g_law_open T.F_law_open.kp T.B_law_open hp_of (da_cons (de_var 4) (da_cons (de_var 3) (da_nil))))))))))))
end
end LW

end

section
set_option Elab.async false
set_option linter.all false
set_option maxRecDepth 100000
set_option maxHeartbeats 4000000
namespace LW
open PySem L2 DL PyProof.Rows
theorem all_mk {l : PySem.W.OpenLaw} {w : World} {K : PySem.W.Frag} {h : Heap} {mg : Str → Option Value} {fa0 f0 f1 f2 f3 f4 f5 f6 f7 f8 f9 f10 f11 f12 f13 f14 f15 f16 f17 f18 f19 f20 f21 f22 f23 f24 f25 f26 f27 f28 C0 C1 : Addr} (X : K.In h) (G : h.Ns mainGlobals mg) (hfa : mg "law" = some (.ref fa0))
    {od0 an0 : Option Addr} {sl0 : Array (Option Value)} {oc0 kV0 dc0 pm0 cd0 ct0 : Value}
    {od1 an1 : Option Addr} {sl1 : Array (Option Value)} {oc1 kV1 dc1 pm1 cd1 ct1 : Value}
    {od2 an2 : Option Addr} {sl2 : Array (Option Value)} {oc2 kV2 dc2 pm2 cd2 ct2 : Value}
    {od3 an3 : Option Addr} {sl3 : Array (Option Value)} {oc3 kV3 dc3 pm3 cd3 ct3 : Value}
    {od4 an4 : Option Addr} {sl4 : Array (Option Value)} {oc4 kV4 dc4 pm4 cd4 ct4 : Value}
    {od5 an5 : Option Addr} {sl5 : Array (Option Value)} {oc5 kV5 dc5 pm5 cd5 ct5 : Value}
    {od6 an6 : Option Addr} {sl6 : Array (Option Value)} {oc6 kV6 dc6 pm6 cd6 ct6 : Value}
    {od7 an7 : Option Addr} {sl7 : Array (Option Value)} {oc7 kV7 dc7 pm7 cd7 ct7 : Value}
    {od8 an8 : Option Addr} {sl8 : Array (Option Value)} {oc8 kV8 dc8 pm8 cd8 ct8 : Value}
    {od9 an9 : Option Addr} {sl9 : Array (Option Value)} {oc9 kV9 dc9 pm9 cd9 ct9 : Value}
    {od10 an10 : Option Addr} {sl10 : Array (Option Value)} {oc10 kV10 dc10 pm10 cd10 ct10 : Value}
    {od11 an11 : Option Addr} {sl11 : Array (Option Value)} {oc11 kV11 dc11 pm11 cd11 ct11 : Value}
    {od12 an12 : Option Addr} {sl12 : Array (Option Value)} {oc12 kV12 dc12 pm12 cd12 ct12 : Value}
    {od13 an13 : Option Addr} {sl13 : Array (Option Value)} {oc13 kV13 dc13 pm13 cd13 ct13 : Value}
    {od14 an14 : Option Addr} {sl14 : Array (Option Value)} {oc14 kV14 dc14 pm14 cd14 ct14 : Value}
    {od15 an15 : Option Addr} {sl15 : Array (Option Value)} {oc15 kV15 dc15 pm15 cd15 ct15 : Value}
    {od16 an16 : Option Addr} {sl16 : Array (Option Value)} {oc16 kV16 dc16 pm16 cd16 ct16 : Value}
    {od17 an17 : Option Addr} {sl17 : Array (Option Value)} {oc17 kV17 dc17 pm17 cd17 ct17 : Value}
    {od18 an18 : Option Addr} {sl18 : Array (Option Value)} {oc18 kV18 dc18 pm18 cd18 ct18 : Value}
    {od19 an19 : Option Addr} {sl19 : Array (Option Value)} {oc19 kV19 dc19 pm19 cd19 ct19 : Value}
    {od20 an20 : Option Addr} {sl20 : Array (Option Value)} {oc20 kV20 dc20 pm20 cd20 ct20 : Value}
    {od21 an21 : Option Addr} {sl21 : Array (Option Value)} {oc21 kV21 dc21 pm21 cd21 ct21 : Value}
    {od22 an22 : Option Addr} {sl22 : Array (Option Value)} {oc22 kV22 dc22 pm22 cd22 ct22 : Value}
    {od23 an23 : Option Addr} {sl23 : Array (Option Value)} {oc23 kV23 dc23 pm23 cd23 ct23 : Value}
    {od24 an24 : Option Addr} {sl24 : Array (Option Value)} {oc24 kV24 dc24 pm24 cd24 ct24 : Value}
    {od25 an25 : Option Addr} {sl25 : Array (Option Value)} {oc25 kV25 dc25 pm25 cd25 ct25 : Value}
    {od26 an26 : Option Addr} {sl26 : Array (Option Value)} {oc26 kV26 dc26 pm26 cd26 ct26 : Value}
    {od27 an27 : Option Addr} {sl27 : Array (Option Value)} {oc27 kV27 dc27 pm27 cd27 ct27 : Value}
    {od28 an28 : Option Addr} {sl28 : Array (Option Value)} {oc28 kV28 dc28 pm28 cd28 ct28 : Value}
    {t_MOST_NAMES : Tok}
    (aC0 : PySem.W.nsIn K mainGlobals "Web" = some (some (.ref C0)))
    (aC1 : PySem.W.nsIn K mainGlobals "RawWeb" = some (some (.ref C1)))
    (a0 : PySem.W.nsIn K mainGlobals "_law_tape" = some (some (.ref f0)))
    (l0 : K.lookup f0 = some ⟨oc0, od0, .func (PySem.W.fnOf "_law_tape" "_law_tape" (defArgs s_law_tape) (defBody s_law_tape) (defScope s_law_tape) .none kV0 dc0 pm0 an0 cd0 ct0), sl0⟩)
    (c0 : PySem.W.codeIn K cd0 "_law_tape" = true)
    (k0 : PySem.W.keepIn K (.ref f0) = true)
    (a1 : PySem.W.nsIn K mainGlobals "_law_pick" = some (some (.ref f1)))
    (l1 : K.lookup f1 = some ⟨oc1, od1, .func (PySem.W.fnOf "_law_pick" "_law_pick" (defArgs s_law_pick) (defBody s_law_pick) (defScope s_law_pick) .none kV1 dc1 pm1 an1 cd1 ct1), sl1⟩)
    (c1 : PySem.W.codeIn K cd1 "_law_pick" = true)
    (k1 : PySem.W.keepIn K (.ref f1) = true)
    (a2 : PySem.W.nsIn K mainGlobals "_law_closed" = some (some (.ref f2)))
    (l2 : K.lookup f2 = some ⟨oc2, od2, .func (PySem.W.fnOf "_law_closed" "_law_closed" (defArgs s_law_closed) (defBody s_law_closed) (defScope s_law_closed) .none kV2 dc2 pm2 an2 cd2 ct2), sl2⟩)
    (c2 : PySem.W.codeIn K cd2 "_law_closed" = true)
    (k2 : PySem.W.keepIn K (.ref f2) = true)
    (a3 : PySem.W.nsIn K mainGlobals "_law_pairs" = some (some (.ref f3)))
    (l3 : K.lookup f3 = some ⟨oc3, od3, .func (PySem.W.fnOf "_law_pairs" "_law_pairs" (defArgs s_law_pairs) (defBody s_law_pairs) (defScope s_law_pairs) .none kV3 dc3 pm3 an3 cd3 ct3), sl3⟩)
    (c3 : PySem.W.codeIn K cd3 "_law_pairs" = true)
    (k3 : PySem.W.keepIn K (.ref f3) = true)
    (a4 : PySem.W.nsIn K mainGlobals "_law_web" = some (some (.ref f4)))
    (l4 : K.lookup f4 = some ⟨oc4, od4, .func (PySem.W.fnOf "_law_web" "_law_web" (defArgs s_law_web) (defBody s_law_web) (defScope s_law_web) .none kV4 dc4 pm4 an4 cd4 ct4), sl4⟩)
    (c4 : PySem.W.codeIn K cd4 "_law_web" = true)
    (k4 : PySem.W.keepIn K (.ref f4) = true)
    (a5 : PySem.W.nsIn K mainGlobals "_law_free" = some (some (.ref f5)))
    (l5 : K.lookup f5 = some ⟨oc5, od5, .func (PySem.W.fnOf "_law_free" "_law_free" (defArgs s_law_free) (defBody s_law_free) (defScope s_law_free) .none kV5 dc5 pm5 an5 cd5 ct5), sl5⟩)
    (c5 : PySem.W.codeIn K cd5 "_law_free" = true)
    (k5 : PySem.W.keepIn K (.ref f5) = true)
    (a6 : PySem.W.nsIn K mainGlobals "_law_orders" = some (some (.ref f6)))
    (l6 : K.lookup f6 = some ⟨oc6, od6, .func (PySem.W.fnOf "_law_orders" "_law_orders" (defArgs s_law_orders) (defBody s_law_orders) (defScope s_law_orders) .none kV6 dc6 pm6 an6 cd6 ct6), sl6⟩)
    (c6 : PySem.W.codeIn K cd6 "_law_orders" = true)
    (k6 : PySem.W.keepIn K (.ref f6) = true)
    (a7 : PySem.W.nsIn K mainGlobals "_law_open" = some (some (.ref f7)))
    (l7 : K.lookup f7 = some ⟨oc7, od7, .func (PySem.W.fnOf "_law_open" "_law_open" (defArgs s_law_open) (defBody s_law_open) (defScope s_law_open) .none kV7 dc7 pm7 an7 cd7 ct7), sl7⟩)
    (c7 : PySem.W.codeIn K cd7 "_law_open" = true)
    (k7 : PySem.W.keepIn K (.ref f7) = true)
    (a8 : PySem.W.nsIn K mainGlobals "_law_small" = some (some (.ref f8)))
    (l8 : K.lookup f8 = some ⟨oc8, od8, .func (PySem.W.fnOf "_law_small" "_law_small" (defArgs s_law_small) (defBody s_law_small) (defScope s_law_small) .none kV8 dc8 pm8 an8 cd8 ct8), sl8⟩)
    (c8 : PySem.W.codeIn K cd8 "_law_small" = true)
    (k8 : PySem.W.keepIn K (.ref f8) = true)
    (a9 : PySem.W.nsIn K mainGlobals "is_integer" = some (some (.ref f9)))
    (l9 : K.lookup f9 = some ⟨oc9, od9, .func (PySem.W.fnOf "is_integer" "is_integer" (defArgs s_is_integer) (defBody s_is_integer) (defScope s_is_integer) .none kV9 dc9 pm9 an9 cd9 ct9), sl9⟩)
    (c9 : PySem.W.codeIn K cd9 "is_integer" = true)
    (k9 : PySem.W.keepIn K (.ref f9) = true)
    (a10 : PySem.W.nsIn K mainGlobals "is_within" = some (some (.ref f10)))
    (l10 : K.lookup f10 = some ⟨oc10, od10, .func (PySem.W.fnOf "is_within" "is_within" (defArgs s_is_within) (defBody s_is_within) (defScope s_is_within) .none kV10 dc10 pm10 an10 cd10 ct10), sl10⟩)
    (c10 : PySem.W.codeIn K cd10 "is_within" = true)
    (k10 : PySem.W.keepIn K (.ref f10) = true)
    (a11 : PySem.W.nsIn K mainGlobals "is_pair" = some (some (.ref f11)))
    (l11 : K.lookup f11 = some ⟨oc11, od11, .func (PySem.W.fnOf "is_pair" "is_pair" (defArgs s_is_pair) (defBody s_is_pair) (defScope s_is_pair) .none kV11 dc11 pm11 an11 cd11 ct11), sl11⟩)
    (c11 : PySem.W.codeIn K cd11 "is_pair" = true)
    (k11 : PySem.W.keepIn K (.ref f11) = true)
    (a12 : PySem.W.nsIn K mainGlobals "are_names" = some (some (.ref f12)))
    (l12 : K.lookup f12 = some ⟨oc12, od12, .func (PySem.W.fnOf "are_names" "are_names" (defArgs s_are_names) (defBody s_are_names) (defScope s_are_names) .none kV12 dc12 pm12 an12 cd12 ct12), sl12⟩)
    (c12 : PySem.W.codeIn K cd12 "are_names" = true)
    (k12 : PySem.W.keepIn K (.ref f12) = true)
    (a13 : PySem.W.nsIn K mainGlobals "is_ascending" = some (some (.ref f13)))
    (l13 : K.lookup f13 = some ⟨oc13, od13, .func (PySem.W.fnOf "is_ascending" "is_ascending" (defArgs s_is_ascending) (defBody s_is_ascending) (defScope s_is_ascending) .none kV13 dc13 pm13 an13 cd13 ct13), sl13⟩)
    (c13 : PySem.W.codeIn K cd13 "is_ascending" = true)
    (k13 : PySem.W.keepIn K (.ref f13) = true)
    (a14 : PySem.W.nsIn K mainGlobals "are_befores" = some (some (.ref f14)))
    (l14 : K.lookup f14 = some ⟨oc14, od14, .func (PySem.W.fnOf "are_befores" "are_befores" (defArgs s_are_befores) (defBody s_are_befores) (defScope s_are_befores) .none kV14 dc14 pm14 an14 cd14 ct14), sl14⟩)
    (c14 : PySem.W.codeIn K cd14 "are_befores" = true)
    (k14 : PySem.W.keepIn K (.ref f14) = true)
    (a15 : PySem.W.nsIn K mainGlobals "closed" = some (some (.ref f15)))
    (l15 : K.lookup f15 = some ⟨oc15, od15, .func (PySem.W.fnOf "closed" "closed" (defArgs s_closed) (defBody s_closed) (defScope s_closed) .none kV15 dc15 pm15 an15 cd15 ct15), sl15⟩)
    (c15 : PySem.W.codeIn K cd15 "closed" = true)
    (k15 : PySem.W.keepIn K (.ref f15) = true)
    (a16 : PySem.W.findIn K (.ref C0) "keep" = some (some (.ref f16)))
    (i16 : PySem.W.isFn K (.ref f16) = true)
    (l16 : K.lookup f16 = some ⟨oc16, od16, .func (PySem.W.fnOf "keep" "Web.keep" (defArgs s_Web_keep) (defBody s_Web_keep) (defScope s_Web_keep) .none kV16 dc16 pm16 an16 cd16 ct16), sl16⟩)
    (c16 : PySem.W.codeIn K cd16 "Web.keep" = true)
    (k16 : PySem.W.keepIn K (.ref f16) = true)
    (a17 : PySem.W.findIn K (.ref C0) "__init__" = some (some (.ref f17)))
    (i17 : PySem.W.isFn K (.ref f17) = true)
    (l17 : K.lookup f17 = some ⟨oc17, od17, .func (PySem.W.fnOf "__init__" "Web.__init__" (defArgs s_Web_init) (defBody s_Web_init) (defScope s_Web_init) .none kV17 dc17 pm17 an17 cd17 ct17), sl17⟩)
    (c17 : PySem.W.codeIn K cd17 "Web.__init__" = true)
    (k17 : PySem.W.keepIn K (.ref f17) = true)
    (a18 : PySem.W.nsIn K mainGlobals "_law_masks" = some (some (.ref f18)))
    (l18 : K.lookup f18 = some ⟨oc18, od18, .func (PySem.W.fnOf "_law_masks" "_law_masks" (defArgs s_law_masks) (defBody s_law_masks) (defScope s_law_masks) .none kV18 dc18 pm18 an18 cd18 ct18), sl18⟩)
    (c18 : PySem.W.codeIn K cd18 "_law_masks" = true)
    (k18 : PySem.W.keepIn K (.ref f18) = true)
    (a19 : PySem.W.nsIn K mainGlobals "_law_asked" = some (some (.ref f19)))
    (l19 : K.lookup f19 = some ⟨oc19, od19, .func (PySem.W.fnOf "_law_asked" "_law_asked" (defArgs s_law_asked) (defBody s_law_asked) (defScope s_law_asked) .none kV19 dc19 pm19 an19 cd19 ct19), sl19⟩)
    (c19 : PySem.W.codeIn K cd19 "_law_asked" = true)
    (k19 : PySem.W.keepIn K (.ref f19) = true)
    (a20 : PySem.W.nsIn K mainGlobals "_law_by_pairs" = some (some (.ref f20)))
    (l20 : K.lookup f20 = some ⟨oc20, od20, .func (PySem.W.fnOf "_law_by_pairs" "_law_by_pairs" (defArgs s_law_by_pairs) (defBody s_law_by_pairs) (defScope s_law_by_pairs) .none kV20 dc20 pm20 an20 cd20 ct20), sl20⟩)
    (c20 : PySem.W.codeIn K cd20 "_law_by_pairs" = true)
    (k20 : PySem.W.keepIn K (.ref f20) = true)
    (a21 : PySem.W.nsIn K mainGlobals "is_apart" = some (some (.ref f21)))
    (l21 : K.lookup f21 = some ⟨oc21, od21, .func (PySem.W.fnOf "is_apart" "is_apart" (defArgs s_is_apart) (defBody s_is_apart) (defScope s_is_apart) .none kV21 dc21 pm21 an21 cd21 ct21), sl21⟩)
    (c21 : PySem.W.codeIn K cd21 "is_apart" = true)
    (k21 : PySem.W.keepIn K (.ref f21) = true)
    (a22 : PySem.W.nsIn K mainGlobals "pairs_apart" = some (some (.ref f22)))
    (l22 : K.lookup f22 = some ⟨oc22, od22, .func (PySem.W.fnOf "pairs_apart" "pairs_apart" (defArgs s_pairs_apart) (defBody s_pairs_apart) (defScope s_pairs_apart) .none kV22 dc22 pm22 an22 cd22 ct22), sl22⟩)
    (c22 : PySem.W.codeIn K cd22 "pairs_apart" = true)
    (k22 : PySem.W.keepIn K (.ref f22) = true)
    (a23 : PySem.W.nsIn K mainGlobals "most_asks" = some (some (.ref f23)))
    (l23 : K.lookup f23 = some ⟨oc23, od23, .func (PySem.W.fnOf "most_asks" "most_asks" (defArgs s_most_asks) (defBody s_most_asks) (defScope s_most_asks) .none kV23 dc23 pm23 an23 cd23 ct23), sl23⟩)
    (c23 : PySem.W.codeIn K cd23 "most_asks" = true)
    (k23 : PySem.W.keepIn K (.ref f23) = true)
    (a24 : PySem.W.findIn K (.ref C1) "keep" = some (some (.ref f24)))
    (i24 : PySem.W.isFn K (.ref f24) = true)
    (l24 : K.lookup f24 = some ⟨oc24, od24, .func (PySem.W.fnOf "keep" "Web.keep" (defArgs s_RawWeb_keep) (defBody s_RawWeb_keep) (defScope s_RawWeb_keep) .none kV24 dc24 pm24 an24 cd24 ct24), sl24⟩)
    (c24 : PySem.W.codeIn K cd24 "Web.keep" = true)
    (k24 : PySem.W.keepIn K (.ref f24) = true)
    (a25 : PySem.W.findIn K (.ref C1) "__init__" = some (some (.ref f25)))
    (i25 : PySem.W.isFn K (.ref f25) = true)
    (l25 : K.lookup f25 = some ⟨oc25, od25, .func (PySem.W.fnOf "__init__" "RawWeb.__init__" (defArgs s_RawWeb_init) (defBody s_RawWeb_init) (defScope s_RawWeb_init) .none kV25 dc25 pm25 an25 cd25 ct25), sl25⟩)
    (c25 : PySem.W.codeIn K cd25 "RawWeb.__init__" = true)
    (k25 : PySem.W.keepIn K (.ref f25) = true)
    (a26 : PySem.W.nsIn K mainGlobals "raw_web" = some (some (.ref f26)))
    (l26 : K.lookup f26 = some ⟨oc26, od26, .func (PySem.W.fnOf "raw_web" "raw_web" (defArgs s_raw_web) (defBody s_raw_web) (defScope s_raw_web) .none kV26 dc26 pm26 an26 cd26 ct26), sl26⟩)
    (c26 : PySem.W.codeIn K cd26 "raw_web" = true)
    (k26 : PySem.W.keepIn K (.ref f26) = true)
    (a27 : PySem.W.nsIn K mainGlobals "turned" = some (some (.ref f27)))
    (l27 : K.lookup f27 = some ⟨oc27, od27, .func (PySem.W.fnOf "turned" "turned" (defArgs s_turned) (defBody s_turned) (defScope s_turned) .none kV27 dc27 pm27 an27 cd27 ct27), sl27⟩)
    (c27 : PySem.W.codeIn K cd27 "turned" = true)
    (k27 : PySem.W.keepIn K (.ref f27) = true)
    (a28 : PySem.W.nsIn K mainGlobals "law" = some (some (.ref f28)))
    (l28 : K.lookup f28 = some ⟨oc28, od28, .func (PySem.W.fnOf "law" "law" (defArgs s_law) (defBody s_law) (defScope s_law) .none kV28 dc28 pm28 an28 cd28 ct28), sl28⟩)
    (c28 : PySem.W.codeIn K cd28 "law" = true)
    (k28 : PySem.W.keepIn K (.ref f28) = true)
    (pg0 : PySem.W.plainGet K C0 Str.empty = true)
    (hd0 : PySem.W.hasDictIn K C0 = true)
    (po0 : PySem.W.plainOver K C0 = true)
    (sa0 : PySem.W.findIn K (.ref C0) "__setattr__" = some (some (.builtin "object.__setattr__")))
    (mk0 : PySem.W.makesIn K C0 = true)
    (kc0 : PySem.W.keepIn K (.ref C0) = true)
    (pg1 : PySem.W.plainGet K C1 Str.empty = true)
    (hd1 : PySem.W.hasDictIn K C1 = true)
    (po1 : PySem.W.plainOver K C1 = true)
    (sa1 : PySem.W.findIn K (.ref C1) "__setattr__" = some (some (.builtin "object.__setattr__")))
    (mk1 : PySem.W.makesIn K C1 = true)
    (kc1 : PySem.W.keepIn K (.ref C1) = true)
    (na0_ahead : PySem.W.findIn K (.ref C0) "ahead" = some none)
    (na1_ahead : PySem.W.findIn K (.ref C1) "ahead" = some none)
    (na0_befores : PySem.W.findIn K (.ref C0) "befores" = some none)
    (na1_befores : PySem.W.findIn K (.ref C1) "befores" = some none)
    (na0_later : PySem.W.findIn K (.ref C0) "later" = some none)
    (na1_later : PySem.W.findIn K (.ref C1) "later" = some none)
    (na0_many : PySem.W.findIn K (.ref C0) "many" = some none)
    (na1_many : PySem.W.findIn K (.ref C1) "many" = some none)
    (z_all : PySem.W.nsIn K mainGlobals "all" = some none)
    (z_any : PySem.W.nsIn K mainGlobals "any" = some none)
    (z_bool : PySem.W.nsIn K mainGlobals "bool" = some none)
    (z_int : PySem.W.nsIn K mainGlobals "int" = some none)
    (z_isinstance : PySem.W.nsIn K mainGlobals "isinstance" = some none)
    (z_len : PySem.W.nsIn K mainGlobals "len" = some none)
    (z_list : PySem.W.nsIn K mainGlobals "list" = some none)
    (z_max : PySem.W.nsIn K mainGlobals "max" = some none)
    (z_min : PySem.W.nsIn K mainGlobals "min" = some none)
    (z_range : PySem.W.nsIn K mainGlobals "range" = some none)
    (z_set : PySem.W.nsIn K mainGlobals "set" = some none)
    (z_sorted : PySem.W.nsIn K mainGlobals "sorted" = some none)
    (z_sum : PySem.W.nsIn K mainGlobals "sum" = some none)
    (z_tuple : PySem.W.nsIn K mainGlobals "tuple" = some none)
    (v_MOST_NAMES : PySem.W.nsIn K mainGlobals "MOST_NAMES" = some (some (.int 8 t_MOST_NAMES)))
    : ∃ (fd : FuncData) (ca : Nat → Addr), (∀ (s : Shared) (v : Value), BindsTo s fd ⟨[v], []⟩ [("_law_script", v)]) ∧ ∀ base : Heap, K.In base → base.Ns mainGlobals mg → DL.FnOk l.prog w K mg base (L2N.CX l.prog w) 27 fa0 fd ["_law_script"] (spOf (gm K ca) f_law) := by
  have e := hfa.symm.trans (PySem.W.mg_of X G a28)
  cases e
  have F0 := fun_mk (st := s_law_tape) l0 c0 k0
  have b0 := F0.binds (ps := ["_law_script"]) fun _ _ _ _ _ _ us hl => match us, hl with | [_], _ => rfl
  have F1 := fun_mk (st := s_law_pick) l1 c1 k1
  have b1 := F1.binds (ps := ["_law_tape_here", "_law_many"]) fun _ _ _ _ _ _ us hl => match us, hl with | [_, _], _ => rfl
  have F2 := fun_mk (st := s_law_closed) l2 c2 k2
  have b2 := F2.binds (ps := ["_law_pairs_here"]) fun _ _ _ _ _ _ us hl => match us, hl with | [_], _ => rfl
  have F3 := fun_mk (st := s_law_pairs) l3 c3 k3
  have b3 := F3.binds (ps := ["_law_tape_here", "_law_many"]) fun _ _ _ _ _ _ us hl => match us, hl with | [_, _], _ => rfl
  have F4 := fun_mk (st := s_law_web) l4 c4 k4
  have b4 := F4.binds (ps := ["_law_tape_here", "_law_most"]) fun _ _ _ _ _ _ us hl => match us, hl with | [_, _], _ => rfl
  have F5 := fun_mk (st := s_law_free) l5 c5 k5
  have b5 := F5.binds (ps := ["_law_befores", "_law_many", "_law_row"]) fun _ _ _ _ _ _ us hl => match us, hl with | [_, _, _], _ => rfl
  have F6 := fun_mk (st := s_law_orders) l6 c6 k6
  have b6 := F6.binds (ps := ["_law_befores", "_law_many"]) fun _ _ _ _ _ _ us hl => match us, hl with | [_, _], _ => rfl
  have F7 := fun_mk (st := s_law_open) l7 c7 k7
  have b7 := F7.binds (ps := ["_law_every", "_law_many"]) fun _ _ _ _ _ _ us hl => match us, hl with | [_, _], _ => rfl
  have F8 := fun_mk (st := s_law_small) l8 c8 k8
  have b8 := F8.binds (ps := ["_law_tape_here", "_law_most", "_law_rows"]) fun _ _ _ _ _ _ us hl => match us, hl with | [_, _, _], _ => rfl
  have F9 := fun_mk (st := s_is_integer) l9 c9 k9
  have b9 := F9.binds (ps := ["thing"]) fun _ _ _ _ _ _ us hl => match us, hl with | [_], _ => rfl
  have F10 := fun_mk (st := s_is_within) l10 c10 k10
  have b10 := F10.binds (ps := ["thing", "least", "most"]) fun _ _ _ _ _ _ us hl => match us, hl with | [_, _, _], _ => rfl
  have F11 := fun_mk (st := s_is_pair) l11 c11 k11
  have b11 := F11.binds (ps := ["thing"]) fun _ _ _ _ _ _ us hl => match us, hl with | [_], _ => rfl
  have F12 := fun_mk (st := s_are_names) l12 c12 k12
  have b12 := F12.binds (ps := ["many", "thing"]) fun _ _ _ _ _ _ us hl => match us, hl with | [_, _], _ => rfl
  have F13 := fun_mk (st := s_is_ascending) l13 c13 k13
  have b13 := F13.binds (ps := ["items"]) fun _ _ _ _ _ _ us hl => match us, hl with | [_], _ => rfl
  have F14 := fun_mk (st := s_are_befores) l14 c14 k14
  have b14 := F14.binds (ps := ["many", "thing"]) fun _ _ _ _ _ _ us hl => match us, hl with | [_, _], _ => rfl
  have F15 := fun_mk (st := s_closed) l15 c15 k15
  have b15 := F15.binds (ps := ["many", "pairs"]) fun _ _ _ _ _ _ us hl => match us, hl with | [_, _], _ => rfl
  have F16 := fun_mk (st := s_Web_keep) l16 c16 k16
  have b16 := F16.binds (ps := ["self", "many", "every"]) fun _ _ _ _ _ _ us hl => match us, hl with | [_, _, _], _ => rfl
  have F17 := fun_mk (st := s_Web_init) l17 c17 k17
  have b17 := F17.binds (ps := ["self", "many", "befores"]) fun _ _ _ _ _ _ us hl => match us, hl with | [_, _, _], _ => rfl
  have F18 := fun_mk (st := s_law_masks) l18 c18 k18
  have b18 := F18.binds (ps := ["_law_rows", "_law_pairs_here"]) fun _ _ _ _ _ _ us hl => match us, hl with | [_, _], _ => rfl
  have F19 := fun_mk (st := s_law_asked) l19 c19 k19
  have b19 := F19.binds (ps := ["_law_lot", "_law_masks_here", "_law_known"]) fun _ _ _ _ _ _ us hl => match us, hl with | [_, _, _], _ => rfl
  have F20 := fun_mk (st := s_law_by_pairs) l20 c20 k20
  have b20 := F20.binds (ps := ["_law_every", "_law_many"]) fun _ _ _ _ _ _ us hl => match us, hl with | [_, _], _ => rfl
  have F21 := fun_mk (st := s_is_apart) l21 c21 k21
  have b21 := F21.binds (ps := ["web", "one", "other"]) fun _ _ _ _ _ _ us hl => match us, hl with | [_, _, _], _ => rfl
  have F22 := fun_mk (st := s_pairs_apart) l22 c22 k22
  have b22 := F22.binds (ps := ["web"]) fun _ _ _ _ _ _ us hl => match us, hl with | [_], _ => rfl
  have F23 := fun_mk (st := s_most_asks) l23 c23 k23
  have b23 := F23.binds (ps := ["web"]) fun _ _ _ _ _ _ us hl => match us, hl with | [_], _ => rfl
  have F24 := fun_mk (st := s_RawWeb_keep) l24 c24 k24
  have b24 := F24.binds (ps := ["self", "many", "every"]) fun _ _ _ _ _ _ us hl => match us, hl with | [_, _, _], _ => rfl
  have F25 := fun_mk (st := s_RawWeb_init) l25 c25 k25
  have b25 := F25.binds (ps := ["self", "many", "every"]) fun _ _ _ _ _ _ us hl => match us, hl with | [_, _, _], _ => rfl
  have F26 := fun_mk (st := s_raw_web) l26 c26 k26
  have b26 := F26.binds (ps := ["many", "every"]) fun _ _ _ _ _ _ us hl => match us, hl with | [_, _], _ => rfl
  have F27 := fun_mk (st := s_turned) l27 c27 k27
  have b27 := F27.binds (ps := ["web"]) fun _ _ _ _ _ _ us hl => match us, hl with | [_], _ => rfl
  have F28 := fun_mk (st := s_law) l28 c28 k28
  have b28 := F28.binds (ps := ["_law_script"]) fun _ _ _ _ _ _ us hl => match us, hl with | [_], _ => rfl
  have T : Txt K mg (fun i => match i with | 0 => f0 | 1 => f1 | 2 => f2 | 3 => f3 | 4 => f4 | 5 => f5 | 6 => f6 | 7 => f7 | 8 => f8 | 9 => f9 | 10 => f10 | 11 => f11 | 12 => f12 | 13 => f13 | 14 => f14 | 15 => f15 | 16 => f16 | 17 => f17 | 18 => f18 | 19 => f19 | 20 => f20 | 21 => f21 | 22 => f22 | 23 => f23 | 24 => f24 | 25 => f25 | 26 => f26 | 27 => f27 | 28 => fa0 | _ => f0) (fun i => match i with | 0 => PySem.W.fnOf "_law_tape" "_law_tape" (defArgs s_law_tape) (defBody s_law_tape) (defScope s_law_tape) .none kV0 dc0 pm0 an0 cd0 ct0 | 1 => PySem.W.fnOf "_law_pick" "_law_pick" (defArgs s_law_pick) (defBody s_law_pick) (defScope s_law_pick) .none kV1 dc1 pm1 an1 cd1 ct1 | 2 => PySem.W.fnOf "_law_closed" "_law_closed" (defArgs s_law_closed) (defBody s_law_closed) (defScope s_law_closed) .none kV2 dc2 pm2 an2 cd2 ct2 | 3 => PySem.W.fnOf "_law_pairs" "_law_pairs" (defArgs s_law_pairs) (defBody s_law_pairs) (defScope s_law_pairs) .none kV3 dc3 pm3 an3 cd3 ct3 | 4 => PySem.W.fnOf "_law_web" "_law_web" (defArgs s_law_web) (defBody s_law_web) (defScope s_law_web) .none kV4 dc4 pm4 an4 cd4 ct4 | 5 => PySem.W.fnOf "_law_free" "_law_free" (defArgs s_law_free) (defBody s_law_free) (defScope s_law_free) .none kV5 dc5 pm5 an5 cd5 ct5 | 6 => PySem.W.fnOf "_law_orders" "_law_orders" (defArgs s_law_orders) (defBody s_law_orders) (defScope s_law_orders) .none kV6 dc6 pm6 an6 cd6 ct6 | 7 => PySem.W.fnOf "_law_open" "_law_open" (defArgs s_law_open) (defBody s_law_open) (defScope s_law_open) .none kV7 dc7 pm7 an7 cd7 ct7 | 8 => PySem.W.fnOf "_law_small" "_law_small" (defArgs s_law_small) (defBody s_law_small) (defScope s_law_small) .none kV8 dc8 pm8 an8 cd8 ct8 | 9 => PySem.W.fnOf "is_integer" "is_integer" (defArgs s_is_integer) (defBody s_is_integer) (defScope s_is_integer) .none kV9 dc9 pm9 an9 cd9 ct9 | 10 => PySem.W.fnOf "is_within" "is_within" (defArgs s_is_within) (defBody s_is_within) (defScope s_is_within) .none kV10 dc10 pm10 an10 cd10 ct10 | 11 => PySem.W.fnOf "is_pair" "is_pair" (defArgs s_is_pair) (defBody s_is_pair) (defScope s_is_pair) .none kV11 dc11 pm11 an11 cd11 ct11 | 12 => PySem.W.fnOf "are_names" "are_names" (defArgs s_are_names) (defBody s_are_names) (defScope s_are_names) .none kV12 dc12 pm12 an12 cd12 ct12 | 13 => PySem.W.fnOf "is_ascending" "is_ascending" (defArgs s_is_ascending) (defBody s_is_ascending) (defScope s_is_ascending) .none kV13 dc13 pm13 an13 cd13 ct13 | 14 => PySem.W.fnOf "are_befores" "are_befores" (defArgs s_are_befores) (defBody s_are_befores) (defScope s_are_befores) .none kV14 dc14 pm14 an14 cd14 ct14 | 15 => PySem.W.fnOf "closed" "closed" (defArgs s_closed) (defBody s_closed) (defScope s_closed) .none kV15 dc15 pm15 an15 cd15 ct15 | 16 => PySem.W.fnOf "keep" "Web.keep" (defArgs s_Web_keep) (defBody s_Web_keep) (defScope s_Web_keep) .none kV16 dc16 pm16 an16 cd16 ct16 | 17 => PySem.W.fnOf "__init__" "Web.__init__" (defArgs s_Web_init) (defBody s_Web_init) (defScope s_Web_init) .none kV17 dc17 pm17 an17 cd17 ct17 | 18 => PySem.W.fnOf "_law_masks" "_law_masks" (defArgs s_law_masks) (defBody s_law_masks) (defScope s_law_masks) .none kV18 dc18 pm18 an18 cd18 ct18 | 19 => PySem.W.fnOf "_law_asked" "_law_asked" (defArgs s_law_asked) (defBody s_law_asked) (defScope s_law_asked) .none kV19 dc19 pm19 an19 cd19 ct19 | 20 => PySem.W.fnOf "_law_by_pairs" "_law_by_pairs" (defArgs s_law_by_pairs) (defBody s_law_by_pairs) (defScope s_law_by_pairs) .none kV20 dc20 pm20 an20 cd20 ct20 | 21 => PySem.W.fnOf "is_apart" "is_apart" (defArgs s_is_apart) (defBody s_is_apart) (defScope s_is_apart) .none kV21 dc21 pm21 an21 cd21 ct21 | 22 => PySem.W.fnOf "pairs_apart" "pairs_apart" (defArgs s_pairs_apart) (defBody s_pairs_apart) (defScope s_pairs_apart) .none kV22 dc22 pm22 an22 cd22 ct22 | 23 => PySem.W.fnOf "most_asks" "most_asks" (defArgs s_most_asks) (defBody s_most_asks) (defScope s_most_asks) .none kV23 dc23 pm23 an23 cd23 ct23 | 24 => PySem.W.fnOf "keep" "Web.keep" (defArgs s_RawWeb_keep) (defBody s_RawWeb_keep) (defScope s_RawWeb_keep) .none kV24 dc24 pm24 an24 cd24 ct24 | 25 => PySem.W.fnOf "__init__" "RawWeb.__init__" (defArgs s_RawWeb_init) (defBody s_RawWeb_init) (defScope s_RawWeb_init) .none kV25 dc25 pm25 an25 cd25 ct25 | 26 => PySem.W.fnOf "raw_web" "raw_web" (defArgs s_raw_web) (defBody s_raw_web) (defScope s_raw_web) .none kV26 dc26 pm26 an26 cd26 ct26 | 27 => PySem.W.fnOf "turned" "turned" (defArgs s_turned) (defBody s_turned) (defScope s_turned) .none kV27 dc27 pm27 an27 cd27 ct27 | 28 => PySem.W.fnOf "law" "law" (defArgs s_law) (defBody s_law) (defScope s_law) .none kV28 dc28 pm28 an28 cd28 ct28 | _ => PySem.W.fnOf "_law_tape" "_law_tape" (defArgs s_law_tape) (defBody s_law_tape) (defScope s_law_tape) .none kV0 dc0 pm0 an0 cd0 ct0) (fun i => match i with | 0 => C0 | 1 => C1 | _ => C0) := {
    F_law_tape := F0
    B_law_tape := b0
    g_law_tape := PySem.W.mg_of X G a0
    F_law_pick := F1
    B_law_pick := b1
    g_law_pick := PySem.W.mg_of X G a1
    F_law_closed := F2
    B_law_closed := b2
    g_law_closed := PySem.W.mg_of X G a2
    F_law_pairs := F3
    B_law_pairs := b3
    g_law_pairs := PySem.W.mg_of X G a3
    F_law_web := F4
    B_law_web := b4
    g_law_web := PySem.W.mg_of X G a4
    F_law_free := F5
    B_law_free := b5
    g_law_free := PySem.W.mg_of X G a5
    F_law_orders := F6
    B_law_orders := b6
    g_law_orders := PySem.W.mg_of X G a6
    F_law_open := F7
    B_law_open := b7
    g_law_open := PySem.W.mg_of X G a7
    F_law_small := F8
    B_law_small := b8
    g_law_small := PySem.W.mg_of X G a8
    F_is_integer := F9
    B_is_integer := b9
    g_is_integer := PySem.W.mg_of X G a9
    F_is_within := F10
    B_is_within := b10
    g_is_within := PySem.W.mg_of X G a10
    F_is_pair := F11
    B_is_pair := b11
    g_is_pair := PySem.W.mg_of X G a11
    F_are_names := F12
    B_are_names := b12
    g_are_names := PySem.W.mg_of X G a12
    F_is_ascending := F13
    B_is_ascending := b13
    g_is_ascending := PySem.W.mg_of X G a13
    F_are_befores := F14
    B_are_befores := b14
    g_are_befores := PySem.W.mg_of X G a14
    F_closed := F15
    B_closed := b15
    g_closed := PySem.W.mg_of X G a15
    F_Web_keep := F16
    B_Web_keep := b16
    m_Web_keep := ⟨a16, i16, k16⟩
    F_Web_init := F17
    B_Web_init := b17
    F_law_masks := F18
    B_law_masks := b18
    g_law_masks := PySem.W.mg_of X G a18
    F_law_asked := F19
    B_law_asked := b19
    g_law_asked := PySem.W.mg_of X G a19
    F_law_by_pairs := F20
    B_law_by_pairs := b20
    g_law_by_pairs := PySem.W.mg_of X G a20
    F_is_apart := F21
    B_is_apart := b21
    g_is_apart := PySem.W.mg_of X G a21
    F_pairs_apart := F22
    B_pairs_apart := b22
    g_pairs_apart := PySem.W.mg_of X G a22
    F_most_asks := F23
    B_most_asks := b23
    g_most_asks := PySem.W.mg_of X G a23
    F_RawWeb_keep := F24
    B_RawWeb_keep := b24
    m_RawWeb_keep := ⟨a24, i24, k24⟩
    F_RawWeb_init := F25
    B_RawWeb_init := b25
    F_raw_web := F26
    B_raw_web := b26
    g_raw_web := PySem.W.mg_of X G a26
    F_turned := F27
    B_turned := b27
    g_turned := PySem.W.mg_of X G a27
    F_law := F28
    B_law := b28
    g_law := PySem.W.mg_of X G a28
    c_Web := ⟨pg0, hd0, po0, sa0⟩
    gc_Web := PySem.W.mg_of X G aC0
    mk_Web := ⟨mk0, a17, i17, kc0⟩
    c_RawWeb := ⟨pg1, hd1, po1, sa1⟩
    gc_RawWeb := PySem.W.mg_of X G aC1
    mk_RawWeb := ⟨mk1, a25, i25, kc1⟩
    a_ahead := fun c hc => by
      simp only [List.mem_cons, List.not_mem_nil, or_false] at hc
      rcases hc with rfl | rfl
      · exact ⟨rfl, by show (cfs 0).Nodup; decide +kernel, ⟨pg0, hd0, po0, sa0⟩, na0_ahead⟩
      · exact ⟨rfl, by show (cfs 1).Nodup; decide +kernel, ⟨pg1, hd1, po1, sa1⟩, na1_ahead⟩
    a_befores := fun c hc => by
      simp only [List.mem_cons, List.not_mem_nil, or_false] at hc
      rcases hc with rfl | rfl
      · exact ⟨rfl, by show (cfs 0).Nodup; decide +kernel, ⟨pg0, hd0, po0, sa0⟩, na0_befores⟩
      · exact ⟨rfl, by show (cfs 1).Nodup; decide +kernel, ⟨pg1, hd1, po1, sa1⟩, na1_befores⟩
    a_later := fun c hc => by
      simp only [List.mem_cons, List.not_mem_nil, or_false] at hc
      rcases hc with rfl | rfl
      · exact ⟨rfl, by show (cfs 0).Nodup; decide +kernel, ⟨pg0, hd0, po0, sa0⟩, na0_later⟩
      · exact ⟨rfl, by show (cfs 1).Nodup; decide +kernel, ⟨pg1, hd1, po1, sa1⟩, na1_later⟩
    a_many := fun c hc => by
      simp only [List.mem_cons, List.not_mem_nil, or_false] at hc
      rcases hc with rfl | rfl
      · exact ⟨rfl, by show (cfs 0).Nodup; decide +kernel, ⟨pg0, hd0, po0, sa0⟩, na0_many⟩
      · exact ⟨rfl, by show (cfs 1).Nodup; decide +kernel, ⟨pg1, hd1, po1, sa1⟩, na1_many⟩
    n_all := PySem.W.mg_none_of X G z_all
    n_any := PySem.W.mg_none_of X G z_any
    n_bool := PySem.W.mg_none_of X G z_bool
    n_int := PySem.W.mg_none_of X G z_int
    n_isinstance := PySem.W.mg_none_of X G z_isinstance
    n_len := PySem.W.mg_none_of X G z_len
    n_list := PySem.W.mg_none_of X G z_list
    n_max := PySem.W.mg_none_of X G z_max
    n_min := PySem.W.mg_none_of X G z_min
    n_range := PySem.W.mg_none_of X G z_range
    n_set := PySem.W.mg_none_of X G z_set
    n_sorted := PySem.W.mg_none_of X G z_sorted
    n_sum := PySem.W.mg_none_of X G z_sum
    n_tuple := PySem.W.mg_none_of X G z_tuple
    v_MOST_NAMES := ⟨_, PySem.W.mg_of X G v_MOST_NAMES⟩
  }
  exact ⟨PySem.W.fnOf "law" "law" (defArgs s_law) (defBody s_law) (defScope s_law) .none kV28 dc28 pm28 an28 cd28 ct28, fun i => match i with | 0 => C0 | 1 => C1 | _ => C0, fun s v => .of_eq rfl, fun base _ _ => ok_law T⟩
theorem walk {l : PySem.W.OpenLaw} {q : Program} {loose : List Str} {XP : (Str → Option Value) → Heap → Prop} {YP : World → Heap → Prop} {d : DefRec} {K : Params → PySem.W.Frag} (ht : LawTrue 63 f_law) (hn : l.most = some 63) (hdf : d.params.defaults = [])
    (hY : ∀ (w : World) (h : Heap), YP w h → (K w.params).In h)
    (F : ∀ (w : World) (mg : Str → Option Value) (fa : Addr) (h : Heap), (K w.params).In h → h.Ns mainGlobals mg → mg d.name = some (.ref fa) →
      ∃ (fd : FuncData) (ca : Nat → Addr), (∀ (s : Shared) (u : Value), BindsTo s fd ⟨[u], []⟩ [("_law_script", u)]) ∧ ∀ base : Heap, (K w.params).In base → base.Ns mainGlobals mg → DL.FnOk l.prog w (K w.params) mg base (L2N.CX l.prog w) 27 fa fd ["_law_script"] (spOf (gm (K w.params) ca) f_law)) :
    PySem.W.WalkO q loose XP YP l.row.toRowW d [] (fun f vs => PySem.call f vs) :=
  DL.walk_gn (m := 63) (n := 27) (x := "_law_script") (CX := fun w => L2N.CX l.prog w) (sp := fun w vs H Q E => ∀ ca : Nat → Addr, spOf (gm (K w.params) ca) f_law vs H Q E) hn (by decide) hdf ⟨⟨rfl, by decide, by decide⟩, rfl⟩ hY
    (fun w mg fa h KX G hm => by
      obtain ⟨fd, ca, h1, h2⟩ := F w mg fa h KX G hm
      exact ⟨fd, h1, fun base b1 b2 => (h2 base b1 b2).imp fun vs H Q E z => z ca⟩)
    (fun w H a ns hl hO hS ca => sp_of_true (G := gm (K w.params) ca) ht H a ns hl hO hS) fun w H s e s' z => cx_end z
end LW
open PySem PySem.W PyProof.Rows
set_option maxRecDepth 100000 in
set_option maxHeartbeats 0 in
theorem PySem.Challenge.cw_evenorders_k70_whole_most_asks_by_all_ga_holds : PySem.Challenge.rw_evenorders_k70_whole_most_asks_by_all_ga.Holds := by
  w_on; o_law; k_head; (case hw => w_witness2)
  k_fill
  refine LW.walk (l := PySem.Challenge.rw_evenorders_k70_whole_most_asks_by_all_ga) LW.law_true rfl rfl (fun w h Y => PySem.W.kIn_of Y) ?F
  case F =>
    intro w mg fa h KX G hmg
    refine' LW.all_mk KX G hmg ?aC0 ?aC1 ?a0 ?l0 ?c0 ?k0 ?a1 ?l1 ?c1 ?k1 ?a2 ?l2 ?c2 ?k2 ?a3 ?l3 ?c3 ?k3 ?a4 ?l4 ?c4 ?k4 ?a5 ?l5 ?c5 ?k5 ?a6 ?l6 ?c6 ?k6 ?a7 ?l7 ?c7 ?k7 ?a8 ?l8 ?c8 ?k8 ?a9 ?l9 ?c9 ?k9 ?a10 ?l10 ?c10 ?k10 ?a11 ?l11 ?c11 ?k11 ?a12 ?l12 ?c12 ?k12 ?a13 ?l13 ?c13 ?k13 ?a14 ?l14 ?c14 ?k14 ?a15 ?l15 ?c15 ?k15 ?a16 ?i16 ?l16 ?c16 ?k16 ?a17 ?i17 ?l17 ?c17 ?k17 ?a18 ?l18 ?c18 ?k18 ?a19 ?l19 ?c19 ?k19 ?a20 ?l20 ?c20 ?k20 ?a21 ?l21 ?c21 ?k21 ?a22 ?l22 ?c22 ?k22 ?a23 ?l23 ?c23 ?k23 ?a24 ?i24 ?l24 ?c24 ?k24 ?a25 ?i25 ?l25 ?c25 ?k25 ?a26 ?l26 ?c26 ?k26 ?a27 ?l27 ?c27 ?k27 ?a28 ?l28 ?c28 ?k28 ?pg0 ?hd0 ?po0 ?sa0 ?mk0 ?kc0 ?pg1 ?hd1 ?po1 ?sa1 ?mk1 ?kc1 ?na0_ahead ?na1_ahead ?na0_befores ?na1_befores ?na0_later ?na1_later ?na0_many ?na1_many ?z_all ?z_any ?z_bool ?z_int ?z_isinstance ?z_len ?z_list ?z_max ?z_min ?z_range ?z_set ?z_sorted ?z_sum ?z_tuple ?v_MOST_NAMES
    (case aC0 => k_is)
    (case aC1 => k_is)
    (case a0 => k_is)
    (case l0 => k_is)
    (case c0 => k_is)
    (case k0 => k_is)
    (case a1 => k_is)
    (case l1 => k_is)
    (case c1 => k_is)
    (case k1 => k_is)
    (case a2 => k_is)
    (case l2 => k_is)
    (case c2 => k_is)
    (case k2 => k_is)
    (case a3 => k_is)
    (case l3 => k_is)
    (case c3 => k_is)
    (case k3 => k_is)
    (case a4 => k_is)
    (case l4 => k_is)
    (case c4 => k_is)
    (case k4 => k_is)
    (case a5 => k_is)
    (case l5 => k_is)
    (case c5 => k_is)
    (case k5 => k_is)
    (case a6 => k_is)
    (case l6 => k_is)
    (case c6 => k_is)
    (case k6 => k_is)
    (case a7 => k_is)
    (case l7 => k_is)
    (case c7 => k_is)
    (case k7 => k_is)
    (case a8 => k_is)
    (case l8 => k_is)
    (case c8 => k_is)
    (case k8 => k_is)
    (case a9 => k_is)
    (case l9 => k_is)
    (case c9 => k_is)
    (case k9 => k_is)
    (case a10 => k_is)
    (case l10 => k_is)
    (case c10 => k_is)
    (case k10 => k_is)
    (case a11 => k_is)
    (case l11 => k_is)
    (case c11 => k_is)
    (case k11 => k_is)
    (case a12 => k_is)
    (case l12 => k_is)
    (case c12 => k_is)
    (case k12 => k_is)
    (case a13 => k_is)
    (case l13 => k_is)
    (case c13 => k_is)
    (case k13 => k_is)
    (case a14 => k_is)
    (case l14 => k_is)
    (case c14 => k_is)
    (case k14 => k_is)
    (case a15 => k_is)
    (case l15 => k_is)
    (case c15 => k_is)
    (case k15 => k_is)
    (case a16 => k_is)
    (case i16 => k_is)
    (case l16 => k_is)
    (case c16 => k_is)
    (case k16 => k_is)
    (case a17 => k_is)
    (case i17 => k_is)
    (case l17 => k_is)
    (case c17 => k_is)
    (case k17 => k_is)
    (case a18 => k_is)
    (case l18 => k_is)
    (case c18 => k_is)
    (case k18 => k_is)
    (case a19 => k_is)
    (case l19 => k_is)
    (case c19 => k_is)
    (case k19 => k_is)
    (case a20 => k_is)
    (case l20 => k_is)
    (case c20 => k_is)
    (case k20 => k_is)
    (case a21 => k_is)
    (case l21 => k_is)
    (case c21 => k_is)
    (case k21 => k_is)
    (case a22 => k_is)
    (case l22 => k_is)
    (case c22 => k_is)
    (case k22 => k_is)
    (case a23 => k_is)
    (case l23 => k_is)
    (case c23 => k_is)
    (case k23 => k_is)
    (case a24 => k_is)
    (case i24 => k_is)
    (case l24 => k_is)
    (case c24 => k_is)
    (case k24 => k_is)
    (case a25 => k_is)
    (case i25 => k_is)
    (case l25 => k_is)
    (case c25 => k_is)
    (case k25 => k_is)
    (case a26 => k_is)
    (case l26 => k_is)
    (case c26 => k_is)
    (case k26 => k_is)
    (case a27 => k_is)
    (case l27 => k_is)
    (case c27 => k_is)
    (case k27 => k_is)
    (case a28 => k_is)
    (case l28 => k_is)
    (case c28 => k_is)
    (case k28 => k_is)
    (case pg0 => k_is)
    (case hd0 => k_is)
    (case po0 => k_is)
    (case sa0 => k_is)
    (case mk0 => k_is)
    (case kc0 => k_is)
    (case pg1 => k_is)
    (case hd1 => k_is)
    (case po1 => k_is)
    (case sa1 => k_is)
    (case mk1 => k_is)
    (case kc1 => k_is)
    (case na0_ahead => k_is)
    (case na1_ahead => k_is)
    (case na0_befores => k_is)
    (case na1_befores => k_is)
    (case na0_later => k_is)
    (case na1_later => k_is)
    (case na0_many => k_is)
    (case na1_many => k_is)
    (case z_all => k_is)
    (case z_any => k_is)
    (case z_bool => k_is)
    (case z_int => k_is)
    (case z_isinstance => k_is)
    (case z_len => k_is)
    (case z_list => k_is)
    (case z_max => k_is)
    (case z_min => k_is)
    (case z_range => k_is)
    (case z_set => k_is)
    (case z_sorted => k_is)
    (case z_sum => k_is)
    (case z_tuple => k_is)
    (case v_MOST_NAMES => k_is)

end
