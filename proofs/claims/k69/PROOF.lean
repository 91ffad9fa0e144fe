import PyProof.Rows.All
import Wide.All
import OpenK.AllK
import Wide.FinOn
import HandS.ForMost
import HandS.TupAny
import HandS.Conv
import HandS.Zip
import HandS.Deep
import HandS.Wide
import HandS.TupMul
import HandS.Flow
import HandS.Rev
import HandS.Style
import HandS.Strs
import HandS.SetFor
import HandS.TupLe
import HandS.IsInst
import KE.SortData
import KE.KTupSum
import KE.DataMinMax
import KE.SortKeyHeap
import KE.GoesZip
import KE.GoesMore
import KE.GoesEnum
import HandS.WideMore
import PySem.Challenge.RW_thingsapart_k69_arcs_found_by_a_bottom
section
set_option Elab.async false
set_option linter.all false
set_option maxRecDepth 100000
set_option maxHeartbeats 4000000
namespace Th
open PySem
abbrev D := PyData
def kt (ns : List Int) : D := .dict [(.none, .tuple (ns.map .int))]
inductive Ob where
  | lst (xs : List D)
  | dic (kvs : List (D × D))
def Ob.toD : Ob → D
  | .lst xs => .list xs
  | .dic kvs => .dict kvs
inductive Ent where
  | own (o : Ob)
  | frz (d : D)
abbrev Store := List Ent
inductive RV where
  | imm (d : D)
  | ptr (k : Nat)
  | new (o : Ob)
inductive Sl where
  | d (x : D)
  | p (k : Nat)
abbrev Env := List (Option Sl)
inductive R (α : Type) where
  | ok (a : α) (S : Store)
  | exc (c : Str) (d : D) (S : Store)
  | err
def M (α : Type) := Store → R α
def M.ret {α : Type} (a : α) : M α := fun S => .ok a S
def M.bnd {α β : Type} (m : M α) (f : α → M β) : M β := fun S => match m S with
  | .ok a S' => f a S'
  | .exc c d S' => .exc c d S'
  | .err => .err
def M.err {α : Type} : M α := fun _ => .err
instance : Monad M where
  pure := M.ret
  bind := M.bnd
def getS : M Store := fun S => .ok S S
def putS (S : Store) : M Unit := fun _ => .ok () S
def lift {α : Type} : Option α → M α
  | some a => M.ret a
  | none => M.err
def chk (p : Prop) [Decidable p] : M Unit := if p then M.ret () else M.err
theorem bind_ok {α β : Type} {m : M α} {f : α → M β} {S S' : Store} {a : α} (h : m S = .ok a S') : (m >>= f) S = f a S' := by
  show M.bnd m f S = _
  unfold M.bnd
  rw [h]
theorem bind_inv {α β : Type} {m : M α} {f : α → M β} {S S' : Store} {b : β} (h : (m >>= f) S = .ok b S') : ∃ a S1, m S = .ok a S1 ∧ f a S1 = .ok b S' := by
  have h : M.bnd m f S = .ok b S' := h
  unfold M.bnd at h
  split at h
  · exact ⟨_, _, by assumption, h⟩
  · cases h
  · cases h
theorem pure_eq {α : Type} {a : α} {S : Store} : (pure a : M α) S = .ok a S := rfl
theorem pure_inv {α : Type} {a b : α} {S S' : Store} (h : (pure a : M α) S = .ok b S') : a = b ∧ S = S' := by
  have h : R.ok a S = .ok b S' := h
  cases h; exact ⟨rfl, rfl⟩
theorem lift_inv {α : Type} {o : Option α} {b : α} {S S' : Store} (h : lift o S = .ok b S') : o = some b ∧ S = S' := by
  cases o with
  | none => cases h
  | some a =>
    have h : R.ok a S = .ok b S' := h
    cases h; exact ⟨rfl, rfl⟩
theorem chk_inv {p : Prop} {_ : Decidable p} {S S' : Store} {u : Unit} (h : chk p S = .ok u S') : p ∧ S = S' := by
  unfold chk at h
  split at h
  · have h : R.ok () S = .ok u S' := h
    cases h; exact ⟨by assumption, rfl⟩
  · cases h
theorem getS_inv {S S' T : Store} (h : getS S = .ok T S') : S = T ∧ S = S' := by
  have h : R.ok S S = .ok T S' := h
  cases h; exact ⟨rfl, rfl⟩
theorem putS_inv {S S' T : Store} {u : Unit} (h : putS T S = .ok u S') : T = S' := by
  have h : R.ok () T = .ok u S' := h
  cases h; rfl
inductive Arg where
  | imm (d : D)
  | mut (o : Ob)
abbrev Fn := List Arg → R RV
inductive Gd where
  | fn (φ : Fn)
  | con (d : D)
abbrev Gam := Str → Option Gd
inductive Bop where
  | add | sub | mul | fdiv | mod | pow | shl | shr | band
  deriving DecidableEq
inductive Cop where
  | eq | ne | lt | le | gt | ge | inn | notin
  deriving DecidableEq
inductive Bi where
  | len | abs | int | max2 | min2 | max1 | min1 | sum | any | all | tuple | list | sorted | sortset | lzip | szip | trng1 | trng2 | lrng1 | lrng2
  deriving DecidableEq
inductive Me where
  | index | get2 | pop | popAt | count
  deriving DecidableEq
inductive Ty where
  | int | bool | tuple | str | list
  deriving DecidableEq
inductive MG where
  | name (i : Nat)
  | tup (gs : List MG)
mutual
inductive ME where
  | bad
  | var (i : Nat)
  | cst (d : D)
  | glob (x : Str)
  | tup (es : List ME)
  | lst (es : List ME)
  | dic0
  | dic1 (k v : ME)
  | bin (op : Bop) (a b : ME)
  | neg (a : ME)
  | nt (a : ME)
  | an (a b : ME)
  | orr (a b : ME)
  | cmp (op : Cop) (a b : ME)
  | chain (op op' : Cop) (a b c : ME)
  | isN (a : ME) (neg : Bool)
  | isB (a : ME) (b : Bool) (neg : Bool)
  | ife (c a b : ME)
  | sub (a i : ME)
  | slc (a : ME) (lo hi : Option ME)
  | rev (a : ME)
  | call (f : Str) (es : List ME)
  | bi (f : Bi) (es : List ME)
  | sortk (f : Str) (a : ME)
  | isi (a : ME) (t : Ty)
  | isi2 (a : ME) (t u : Ty)
  | met (m : Me) (o : ME) (es : List ME)
  | lc (elt : ME) (tg : MG) (it : MI) (own : List Nat) (ifs : Option ME)
inductive MI where
  | rng1 (a : ME)
  | rng2 (a b : ME)
  | seq (a : ME)
  | enum (a : ME)
  | zip (a b : ME)
  | vals (a : ME)
end
inductive MS where
  | asg (g : MG) (e : ME)
  | par (is : List Nat) (es : List ME)
  | aset (o i e : ME)
  | aug (op : Bop) (i : Nat) (e : ME)
  | augs (op : Bop) (o i e : ME)
  | pst (o i : ME) (x : Nat) (a b : ME)
  | expr (e : ME)
  | app (o e : ME)
  | ext (o e : ME)
  | ret (e : ME)
  | retN
  | ifs (c : ME) (a b : List MS)
  | whl (c : ME) (b : List MS)
  | forr (g : MG) (it : MI) (b : List MS)
  | brk | cnt | pass | raise
inductive Fl where
  | nx | bk | ct
  | ret (r : RV)
inductive Co where
  | d (x : D)
  | o (ob : Ob)
def cont (r : RV) (S : Store) : Option Co :=
  match r with
  | .imm x => some (.d x)
  | .new o => some (.o o)
  | .ptr k => match S[k]? with
    | some (.own o) => some (.o o)
    | some (.frz x) => some (.d x)
    | none => none
def coM (r : RV) : M Co := fun S => match cont r S with
  | some c => .ok c S
  | none => .err
def frzM (r : RV) : M D := fun S => match r with
  | .imm x => .ok x S
  | .new o => .ok o.toD S
  | .ptr k => match S[k]? with
    | some (.own o) => .ok o.toD (S.set k (.frz o.toD))
    | some (.frz x) => .ok x S
    | none => .err
def frzs : List RV → M (List D)
  | [] => pure []
  | r :: rs => do
    let d ← frzM r
    let ds ← frzs rs
    pure (d :: ds)
def Co.items : Co → Option (List D)
  | .o (.lst xs) => some xs
  | .d (.list xs) => some xs
  | .d (.tuple xs) => some xs
  | _ => none
def Co.tups : Co → Option (List D)
  | .d (.tuple xs) => some xs
  | _ => none
def Co.lits : Co → Option (List D)
  | .o (.lst xs) => some xs
  | .d (.list xs) => some xs
  | _ => none
def isKt : List (D × D) → Bool
  | [(.none, .tuple _)] => true
  | _ => false
def Co.keyed : Co → Option (List (D × D))
  | .o (.dic kvs) => some kvs
  | .d (.dict kvs) => if isKt kvs = true then none else some kvs
  | _ => none
def Co.kitems : Co → Option (List D)
  | .d (.dict [(.none, .tuple xs)]) => some xs
  | _ => none
def Co.dat : Co → D
  | .o ob => ob.toD
  | .d x => x
def Co.noDict : Co → Bool
  | .d (.dict _) => false
  | .o (.dic _) => false
  | _ => true
def Co.kind : Co → Nat
  | .o (.lst _) => 0
  | .d (.list _) => 0
  | .d (.tuple _) => 1
  | .o (.dic _) => 2
  | .d (.dict kvs) => if isKt kvs then 3 else 2
  | _ => 3
def Co.isNone : Co → Bool
  | .d .none => true
  | _ => false
def Co.int : Co → Option Int
  | .d (.int i) => some i
  | _ => none
def Co.bool : Co → Option Bool
  | .d (.bool b) => some b
  | _ => none
def asInts : List D → Option (List Int)
  | [] => some []
  | .int i :: r => (asInts r).map (i :: ·)
  | _ :: _ => none
def asBools : List D → Option (List Bool)
  | [] => some []
  | .bool i :: r => (asBools r).map (i :: ·)
  | _ :: _ => none
def big : Nat := 2 ^ 8000
def mulOk (i j : Int) : Prop := (i.natAbs < 2 ^ 63 ∨ j.natAbs < 2 ^ 63) ∨ (i.natAbs < big ∧ j.natAbs < big)
instance (i j : Int) : Decidable (mulOk i j) := by unfold mulOk; infer_instance
def divOk (i j : Int) : Prop := 0 < j ∧ j.natAbs < big
instance (i j : Int) : Decidable (divOk i j) := by unfold divOk; infer_instance
def sizeL : Nat := 16777216
def intOp (op : Bop) (i j : Int) : M RV :=
  match op with
  | .add => pure (.imm (.int (i + j)))
  | .sub => pure (.imm (.int (i - j)))
  | .mul => do chk (mulOk i j); pure (.imm (.int (i * j)))
  | .fdiv => do chk (divOk i j); pure (.imm (.int (i / j)))
  | .mod => do chk (0 < j); pure (.imm (.int (i % j)))
  | .pow => do chk (0 ≤ j ∧ j ≤ 1000 ∧ i.natAbs < 2 ^ 63); pure (.imm (.int (i ^ j.toNat)))
  | .shl => do chk (0 ≤ j ∧ j ≤ 1000 ∧ i.natAbs < 2 ^ 63); pure (.imm (.int (i * 2 ^ j.toNat)))
  | .shr => do chk (0 ≤ j); pure (.imm (.int (i / 2 ^ j.toNat)))
  | .band => pure (.imm (.int (Builtin.bitAnd i j)))
def binOp (op : Bop) (x y : RV) : M RV := do
  let a ← coM x
  let b ← coM y
  match a, b with
  | .d (.int i), .d (.int j) => intOp op i j
  | .d (.tuple xs), .d (.tuple ys) => if op = .add then do
      chk (xs.length + ys.length ≤ sizeL)
      pure (.imm (.tuple (xs ++ ys))) else M.err
  | .o (.lst xs), .o (.lst ys) => if op = .add then do
      chk (xs.length + ys.length ≤ sizeL)
      pure (.new (.lst (xs ++ ys))) else M.err
  | .d (.tuple xs), .d (.int j) => if op = .mul then do
      chk (j ≤ 1000 ∧ -1000 ≤ j ∧ xs.length ≤ 1000)
      pure (.imm (.tuple (List.replicate j.toNat xs).flatten)) else M.err
  | .o (.lst xs), .d (.int j) => if op = .mul then do
      chk (j ≤ 1000 ∧ -1000 ≤ j ∧ xs.length ≤ 1000)
      pure (.new (.lst (List.replicate j.toNat xs).flatten)) else M.err
  | _, _ => M.err
def flatD : D → Bool
  | .none => true
  | .bool _ => true
  | .int _ => true
  | .str _ => true
  | _ => false
def asKeyT : D → Option (List Int)
  | .tuple xs => asInts xs
  | _ => none
def asKey : D → Option (Sum Int (List Int))
  | .int i => some (.inl i)
  | .tuple xs => (asInts xs).map .inr
  | _ => none
def keyFits (kvs : List (D × D)) (d : D) : Bool :=
  match asKey d, kvs with
  | some (.inl _), [] => true
  | some (.inl _), (.int _, _) :: _ => true
  | some (.inr _), (.tuple _, _) :: _ => true
  | _, _ => false
def keyPuts (kvs : List (D × D)) (d : D) : Bool :=
  match asKey d, kvs with
  | some _, [] => true
  | some (.inl _), (.int _, _) :: _ => true
  | some (.inr _), (.tuple _, _) :: _ => true
  | _, _ => false
def dget (kvs : List (D × D)) (k : D) : Option D := (kvs.find? fun p => PyData.eqv p.1 k).map (·.2)
def dput (kvs : List (D × D)) (k v : D) : List (D × D) :=
  if (dget kvs k).isSome then kvs.map fun p => if PyData.eqv p.1 k then (p.1, v) else p else kvs ++ [(k, v)]
def cmpOp (op : Cop) (x y : RV) : M RV := do
  let a ← coM x
  let b ← coM y
  match op with
  | .eq => do
    chk (SeqAt.shaped a.dat = true ∧ SeqAt.shaped b.dat = true)
    pure (.imm (.bool (PyData.eqv a.dat b.dat)))
  | .ne => do
    chk (SeqAt.shaped a.dat = true ∧ SeqAt.shaped b.dat = true)
    pure (.imm (.bool (!PyData.eqv a.dat b.dat)))
  | .lt => do
    let i ← lift a.int
    let j ← lift b.int
    pure (.imm (.bool (decide (i < j))))
  | .le => do
    let i ← lift a.int
    let j ← lift b.int
    pure (.imm (.bool (decide (i ≤ j))))
  | .gt => do
    let i ← lift a.int
    let j ← lift b.int
    pure (.imm (.bool (decide (j < i))))
  | .ge => do
    let i ← lift a.int
    let j ← lift b.int
    pure (.imm (.bool (decide (j ≤ i))))
  | .inn => do
    match b.items, b.keyed with
    | some xs, _ => do
      chk (flatD a.dat = true ∧ xs.all flatD = true)
      pure (.imm (.bool (xs.any fun y => PyData.eqv y a.dat)))
    | none, some kvs => do
      chk (keyFits kvs a.dat = true)
      pure (.imm (.bool (dget kvs a.dat).isSome))
    | none, none => M.err
  | .notin => do
    match b.items, b.keyed with
    | some xs, _ => do
      chk (flatD a.dat = true ∧ xs.all flatD = true)
      pure (.imm (.bool (!xs.any fun y => PyData.eqv y a.dat)))
    | none, some kvs => do
      chk (keyFits kvs a.dat = true)
      pure (.imm (.bool (!(dget kvs a.dat).isSome)))
    | none, none => M.err
def isTy (c : Co) (t : Ty) : Bool :=
  match t, c with
  | .int, .d (.int _) => true
  | .int, .d (.bool _) => true
  | .bool, .d (.bool _) => true
  | .tuple, .d (.tuple _) => true
  | .str, .d (.str _) => true
  | .list, .d (.list _) => true
  | .list, .o (.lst _) => true
  | _, _ => false
def minI : List Int → Int
  | [] => 0
  | x :: xs => xs.foldl (fun a b => if b < a then b else a) x
def maxI : List Int → Int
  | [] => 0
  | x :: xs => xs.foldl (fun a b => if b > a then b else a) x
def rngD (a b : Int) : List D := (List.range (b - a).toNat).map fun i => .int (a + (i : Nat))
def pairD (x y : D) : D := .tuple [x, y]
end Th
end
section
set_option Elab.async false
set_option linter.all false
set_option maxRecDepth 100000
set_option maxHeartbeats 4000000
namespace Th
open PySem PySem.Spec PyProof.Rows L2
structure Kit where
  K : PySem.W.Frag
  P : Program
  w : World
abbrev kit (X : Cx) : Kit := ⟨X.K, X.prog, X.w⟩
def Le (F F' : Hp) : Prop := ∀ a o, F a = some o → F' a = some o
theorem Le.refl (F : Hp) : Le F F := fun _ _ h => h
theorem Le.trans {F F1 F2 : Hp} (a : Le F F1) (b : Le F1 F2) : Le F F2 := fun x o h => b x o (a x o h)
theorem Le.new {F : Hp} {p : Addr} {o : HO} (h : F p = none) : Le F (upd F p o) := fun a u e => by
  rw [upd_ne (ne_of_none e h)]; exact e
theorem Le.rd {F F' : Hp} {a : Addr} {u : HO} (e : Le F F') (h : Rd F a u) : Rd F' a u := by
  rcases h with h | ⟨o, h⟩
  · exact .inl (e a _ h)
  · exact .inr ⟨o, e a _ h⟩
theorem Le.sl {K : Kit} {F F' : Hp} {a : Addr} {xs : List V} (e : Le F F') (h : SqL K.K F a xs) : SqL K.K F' a xs := by
  rcases h with h | h
  · exact .inl (e.rd h)
  · exact .inr h
theorem Le.st {K : Kit} {F F' : Hp} {a : Addr} {xs : List V} (e : Le F F') (h : SqT K.K F a xs) : SqT K.K F' a xs := by
  rcases h with h | h
  · exact .inl (e.rd h)
  · exact .inr h
def KT (K : Kit) (a : Addr) (xs : List V) : Prop :=
  ∃ (o : Obj) (its : Array Value) (n : Nat), K.K.lookup a = some o ∧ o.cls = .type "tuple" ∧ o.data = .seq its n ∧ its.size ≤ sizeLine ∧ Vals xs its.toList
def DTE (K : Kit) (a : Addr) (xs : List (List Key × Addr × Value)) : Heap → Prop := fun h => ∃ o es ep, h.get? a = some o ∧ o.ExactDict ∧ o.data = .dict es ep ∧ es.toList = xs.map (entryOfKey (tupleKind (mixKind K.P K.w)))
structure DTok (a : Addr) (xs : List (List Key × Addr × Value)) : Prop where
  ne : xs ≠ []
  sm : (a == sysModules) = false
  nd : (xs.map (·.1)).Nodup
  le : xs.length ≤ sizeLine
mutual
inductive Rp (K : Kit) (F : Hp) : V → D → Prop
  | non : Rp K F .non .none
  | bl (b : Bool) : Rp K F (.bl b) (.bool b)
  | int (i : Int) : Rp K F (.int i) (.int i)
  | str (x : Str) : Rp K F (.str x) (.str x)
  | lst {a : Addr} {xs : List V} {ds : List D} : SqL K.K F a xs → RpAll K F xs ds → Rp K F (.ref a) (.list ds)
  | tup {a : Addr} {o : Obj} {xs : List V} {ds : List D} : F a = some (.frz o (.tup xs)) → o.dict = none → RpAll K F xs ds → Rp K F (.ref a) (.tuple ds)
  | kt {a : Addr} {ns : List Int} : KT K a (ns.map V.int) → Rp K F (.ref a) (kt ns)
  | dK {a : Addr} {l : List (Key × V)} {kvs : List (D × D)} : F a = some (.dK l) → RpK K F l kvs → Rp K F (.ref a) (.dict kvs)
  | dT {a : Addr} {xs : List (List Key × Addr × Value)} {kvs : List (D × D)} : F a = some (.ext (DTE K a xs)) → DTok a xs → RpT K F xs kvs → Rp K F (.ref a) (.dict kvs)
inductive RpAll (K : Kit) (F : Hp) : List V → List D → Prop
  | nil : RpAll K F [] []
  | cons {v : V} {vs : List V} {d : D} {ds : List D} : Rp K F v d → RpAll K F vs ds → RpAll K F (v :: vs) (d :: ds)
inductive RpK (K : Kit) (F : Hp) : List (Key × V) → List (D × D) → Prop
  | nil : RpK K F [] []
  | cons {i : Int} {v : V} {l : List (Key × V)} {d : D} {kvs : List (D × D)} : Rp K F v d → RpK K F l kvs → RpK K F ((.inl i, v) :: l) ((.int i, d) :: kvs)
inductive RpT (K : Kit) (F : Hp) : List (List Key × Addr × Value) → List (D × D) → Prop
  | nil : RpT K F [] []
  | cons {ks : List Int} {b : Addr} {o : Obj} {u : Value} {v : V} {l : List (List Key × Addr × Value)} {d : D} {kvs : List (D × D)} : F b = some (.frz o (.tup (ks.map V.int))) → o.dict = none → RelV v u → Rp K F v d → RpT K F l kvs →
      RpT K F ((ks.map Sum.inl, b, u) :: l) ((.tuple (ks.map .int), d) :: kvs)
end
mutual
theorem Rp.mono {K : Kit} {F F' : Hp} (e : Le F F') : ∀ {d : D} {v : V}, Rp K F v d → Rp K F' v d
  | _, _, .non => .non
  | _, _, .bl b => .bl b
  | _, _, .int i => .int i
  | _, _, .str x => .str x
  | _, _, .lst h1 h2 => .lst (e.sl h1) (RpAll.mono e h2)
  | _, _, .tup h1 h3 h2 => .tup (e _ _ h1) h3 (RpAll.mono e h2)
  | _, _, .kt h => .kt h
  | _, _, .dK h1 h2 => .dK (e _ _ h1) (RpK.mono e h2)
  | _, _, .dT h1 h3 h2 => .dT (e _ _ h1) h3 (RpT.mono e h2)
theorem RpAll.mono {K : Kit} {F F' : Hp} (e : Le F F') : ∀ {ds : List D} {vs : List V}, RpAll K F vs ds → RpAll K F' vs ds
  | _, _, .nil => .nil
  | _, _, .cons h1 h2 => .cons (Rp.mono e h1) (RpAll.mono e h2)
theorem RpK.mono {K : Kit} {F F' : Hp} (e : Le F F') : ∀ {ds : List (D × D)} {vs : List (Key × V)}, RpK K F vs ds → RpK K F' vs ds
  | _, _, .nil => .nil
  | _, _, .cons h1 h2 => .cons (Rp.mono e h1) (RpK.mono e h2)
theorem RpT.mono {K : Kit} {F F' : Hp} (e : Le F F') : ∀ {ds : List (D × D)} {vs : List (List Key × Addr × Value)}, RpT K F vs ds → RpT K F' vs ds
  | _, _, .nil => .nil
  | _, _, .cons q1 q2 q3 h1 h2 => .cons (e _ _ q1) q2 q3 (Rp.mono e h1) (RpT.mono e h2)
end
section
variable {K : Kit} {F F' H H' : Hp} {vs vs' : List V} {ds ds' : List D} {v : V} {d : D}
theorem RpAll.length : ∀ {vs : List V} {ds : List D}, RpAll K F vs ds → vs.length = ds.length
  | _, _, .nil => rfl
  | _, _, .cons _ h => by rw [List.length_cons, List.length_cons, RpAll.length h]
theorem RpAll.append : ∀ {vs : List V} {ds : List D} {vs' : List V} {ds' : List D}, RpAll K F vs ds → RpAll K F vs' ds' → RpAll K F (vs ++ vs') (ds ++ ds')
  | _, _, _, _, .nil, h => h
  | _, _, _, _, .cons h1 h2, h => .cons h1 (RpAll.append h2 h)
theorem RpAll.get : ∀ {vs : List V} {ds : List D} {i : Nat} {d : D}, RpAll K F vs ds → ds[i]? = some d → ∃ v, vs[i]? = some v ∧ Rp K F v d
  | _, _, _, _, .nil, e => by simp at e
  | _, _, 0, _, .cons h _, e => by
    have e : some _ = some _ := e
    cases e; exact ⟨_, rfl, h⟩
  | _, _, i + 1, _, .cons _ h, e => by
    obtain ⟨v, h1, h2⟩ := RpAll.get (i := i) h (by simpa using e)
    exact ⟨v, by simpa using h1, h2⟩
theorem RpAll.get' : ∀ {vs : List V} {ds : List D} {i : Nat} {v : V}, RpAll K F vs ds → vs[i]? = some v → ∃ d, ds[i]? = some d ∧ Rp K F v d
  | _, _, _, _, .nil, e => by simp at e
  | _, _, 0, _, .cons h _, e => by
    have e : some _ = some _ := e
    cases e; exact ⟨_, rfl, h⟩
  | _, _, i + 1, _, .cons _ h, e => by
    obtain ⟨v, h1, h2⟩ := RpAll.get' (i := i) h (by simpa using e)
    exact ⟨v, by simpa using h1, h2⟩
theorem RpAll.take : ∀ {vs : List V} {ds : List D} (n : Nat), RpAll K F vs ds → RpAll K F (vs.take n) (ds.take n)
  | _, _, 0, _ => .nil
  | _, _, _ + 1, .nil => .nil
  | _, _, n + 1, .cons h1 h2 => .cons h1 (RpAll.take n h2)
theorem RpAll.drop : ∀ {vs : List V} {ds : List D} (n : Nat), RpAll K F vs ds → RpAll K F (vs.drop n) (ds.drop n)
  | _, _, 0, h => h
  | _, _, _ + 1, .nil => .nil
  | _, _, n + 1, .cons _ h2 => RpAll.drop n h2
theorem RpAll.set : ∀ {vs : List V} {ds : List D} {v : V} {d : D} (n : Nat), RpAll K F vs ds → Rp K F v d → RpAll K F (vs.set n v) (ds.set n d)
  | _, _, _, _, _, .nil, _ => .nil
  | _, _, _, _, 0, .cons _ h2, h => .cons h h2
  | _, _, _, _, n + 1, .cons h1 h2, h => .cons h1 (RpAll.set n h2 h)
theorem RpAll.erase : ∀ {vs : List V} {ds : List D} (n : Nat), RpAll K F vs ds → RpAll K F (vs.eraseIdx n) (ds.eraseIdx n)
  | _, _, _, .nil => .nil
  | _, _, 0, .cons _ h2 => h2
  | _, _, n + 1, .cons h1 h2 => .cons h1 (RpAll.erase n h2)
theorem RpAll.last : ∀ {vs : List V} {ds : List D}, RpAll K F vs ds → RpAll K F vs.dropLast ds.dropLast
  | _, _, .nil => .nil
  | _, _, .cons h1 .nil => .nil
  | _, _, .cons h1 (.cons h2 h3) => .cons h1 (RpAll.last (.cons h2 h3))
theorem RpAll.reverse : ∀ {vs : List V} {ds : List D}, RpAll K F vs ds → RpAll K F vs.reverse ds.reverse
  | _, _, .nil => .nil
  | _, _, .cons h1 h2 => by
    rw [List.reverse_cons, List.reverse_cons]
    exact RpAll.append (RpAll.reverse h2) (.cons h1 .nil)
theorem RpAll.rep {vs : List V} {ds : List D} (h : RpAll K F vs ds) : ∀ n : Nat, RpAll K F (List.replicate n vs).flatten (List.replicate n ds).flatten
  | 0 => .nil
  | n + 1 => by
    rw [List.replicate_succ, List.replicate_succ, List.flatten_cons, List.flatten_cons]
    exact RpAll.append h (RpAll.rep h n)
theorem RpAll.ints : ∀ {vs : List V} {ds : List D} {ns : List Int}, RpAll K F vs ds → asInts ds = some ns → vs = ns.map V.int ∧ ds = ns.map PyData.int
  | _, _, _, .nil, e => by
    have e : some [] = some _ := e
    cases e; exact ⟨rfl, rfl⟩
  | _, _, _, .cons (d := .int i) h1 h2, e => by
    have e : (asInts _).map (i :: ·) = some _ := e
    obtain ⟨r, h3, rfl⟩ := Option.map_eq_some_iff.mp e
    obtain ⟨h4, h5⟩ := RpAll.ints h2 h3
    cases h1
    rw [h4, h5]; exact ⟨rfl, rfl⟩
  | _, _, _, .cons (d := .none) _ _, e => by cases e
  | _, _, _, .cons (d := .bool _) _ _, e => by cases e
  | _, _, _, .cons (d := .str _) _ _, e => by cases e
  | _, _, _, .cons (d := .list _) _ _, e => by cases e
  | _, _, _, .cons (d := .tuple _) _ _, e => by cases e
  | _, _, _, .cons (d := .dict _) _ _, e => by cases e
theorem RpAll.bools : ∀ {vs : List V} {ds : List D} {ns : List Bool}, RpAll K F vs ds → asBools ds = some ns → vs = ns.map V.bl ∧ ds = ns.map PyData.bool
  | _, _, _, .nil, e => by
    have e : some [] = some _ := e
    cases e; exact ⟨rfl, rfl⟩
  | _, _, _, .cons (d := .bool i) h1 h2, e => by
    have e : (asBools _).map (i :: ·) = some _ := e
    obtain ⟨r, h3, rfl⟩ := Option.map_eq_some_iff.mp e
    obtain ⟨h4, h5⟩ := RpAll.bools h2 h3
    cases h1
    rw [h4, h5]; exact ⟨rfl, rfl⟩
  | _, _, _, .cons (d := .none) _ _, e => by cases e
  | _, _, _, .cons (d := .int _) _ _, e => by cases e
  | _, _, _, .cons (d := .str _) _ _, e => by cases e
  | _, _, _, .cons (d := .list _) _ _, e => by cases e
  | _, _, _, .cons (d := .tuple _) _ _, e => by cases e
  | _, _, _, .cons (d := .dict _) _ _, e => by cases e
theorem RpAll.of_ints : ∀ ns : List Int, RpAll K F (ns.map V.int) (ns.map PyData.int)
  | [] => .nil
  | n :: r => .cons (.int n) (RpAll.of_ints r)
inductive ObR (K : Kit) (F H : Hp) (a : Addr) : Ob → Prop
  | lst {xs : List V} {ds : List D} : H a = some (.lst xs) → RpAll K F xs ds → ObR K F H a (.lst ds)
  | dK {l : List (Key × V)} {kvs : List (D × D)} : H a = some (.dK l) → RpK K F l kvs → ObR K F H a (.dic kvs)
  | dT {xs : List (List Key × Addr × Value)} {kvs : List (D × D)} : H a = some (.ext (DTE K a xs)) → DTok a xs → RpT K F xs kvs → ObR K F H a (.dic kvs)
theorem ObR.there {a : Addr} {o : Ob} (h : ObR K F H a o) : H a ≠ none := by
  cases h with
  | lst h _ => rw [h]; simp
  | dK h _ => rw [h]; simp
  | dT h _ _ => rw [h]; simp
theorem ObR.mono {a : Addr} {o : Ob} (e : Le F F') (q : H' a = H a) (h : ObR K F H a o) : ObR K F' H' a o := by
  cases h with
  | lst h r => exact .lst (by rw [q]; exact h) (r.mono e)
  | dK h r => exact .dK (by rw [q]; exact h) (r.mono e)
  | dT h z r => exact .dT (by rw [q]; exact h) z (r.mono e)
theorem ObR.frz {a : Addr} {o : Ob} {u : HO} (h : ObR K F H a o) (e : H a = some u) (n : F a = none) : Rp K (upd F a u) (.ref a) o.toD := by
  have l : Le F (upd F a u) := Le.new n
  cases h with
  | lst h r =>
    rw [h] at e; cases e
    exact .lst (.inl (.inl upd_same)) (r.mono l)
  | dK h r =>
    rw [h] at e; cases e
    exact .dK upd_same (r.mono l)
  | dT h z r =>
    rw [h] at e; cases e
    exact .dT upd_same z (r.mono l)
inductive EntR (K : Kit) (F H : Hp) (a : Addr) : Ent → Prop
  | own {o : Ob} : F a = none → ObR K F H a o → EntR K F H a (.own o)
  | frz {d : D} : F a ≠ none → Rp K F (.ref a) d → EntR K F H a (.frz d)
structure StR (K : Kit) (F H : Hp) (A : List Addr) (S : Store) : Prop where
  sub : Le F H
  nd : A.Nodup
  len : A.length = S.length
  ent : ∀ (k : Nat) (a : Addr) (e : Ent), A[k]? = some a → S[k]? = some e → EntR K F H a e
inductive VR (K : Kit) (F H : Hp) (A : List Addr) : RV → V → Prop
  | imm {d : D} {v : V} : Rp K F v d → VR K F H A (.imm d) v
  | ptr {k : Nat} {a : Addr} : A[k]? = some a → VR K F H A (.ptr k) (.ref a)
  | new {o : Ob} {a : Addr} : F a = none → a ∉ A → ObR K F H a o → VR K F H A (.new o) (.ref a)
inductive SloR (K : Kit) (F : Hp) (A : List Addr) : Sl → V → Prop
  | d {x : D} {v : V} : Rp K F v x → SloR K F A (.d x) v
  | p {k : Nat} {a : Addr} : A[k]? = some a → SloR K F A (.p k) (.ref a)
structure EnvR (K : Kit) (F : Hp) (A : List Addr) (env : Env) (σ : L2.St) : Prop where
  len : σ.length = env.length
  at_ : ∀ (i : Nat) (s : Sl), env[i]? = some (some s) → ∃ v, σ[i]? = some (some v) ∧ SloR K F A s v
structure Stp (A : List Addr) (F H F' H' : Hp) : Prop where
  le : Le F F'
  fr : ∀ b, H b ≠ none → b ∉ A → H' b = H b
  ff : ∀ b, F b = none → H b ≠ none → b ∉ A → F' b = none
theorem Stp.refl (A : List Addr) (F H : Hp) : Stp A F H F H := ⟨Le.refl F, fun _ _ _ => rfl, fun _ n _ _ => n⟩
theorem Stp.trans {A : List Addr} {F H F1 H1 F2 H2 : Hp} (x : Stp A F H F1 H1) (y : Stp A F1 H1 F2 H2) : Stp A F H F2 H2 :=
  ⟨x.le.trans y.le, fun b h n => by rw [y.fr b (by rw [x.fr b h n]; exact h) n, x.fr b h n], fun b f h n => y.ff b (x.ff b f h n) (by rw [x.fr b h n]; exact h) n⟩
theorem SloR.mono {A : List Addr} {s : Sl} {v : V} (e : Le F F') (h : SloR K F A s v) : SloR K F' A s v := by
  cases h with
  | d h => exact .d (h.mono e)
  | p h => exact .p h
theorem EnvR.mono {A : List Addr} {env : Env} {σ : L2.St} (e : Le F F') (h : EnvR K F A env σ) : EnvR K F' A env σ :=
  ⟨h.len, fun i s q => let ⟨v, h1, h2⟩ := h.at_ i s q; ⟨v, h1, h2.mono e⟩⟩
theorem VR.step {A : List Addr} {r : RV} {v : V} {F' H' : Hp} (x : Stp A F H F' H') (h : VR K F H A r v) : VR K F' H' A r v := by
  cases h with
  | imm h => exact .imm (h.mono x.le)
  | ptr h => exact .ptr h
  | new h1 h2 h3 => exact .new (x.ff _ h1 h3.there h2) h2 (h3.mono x.le (x.fr _ h3.there h2))
section
variable {A : List Addr} {S : Store}
theorem StR.there (h : StR K F H A S) {a : Addr} (m : a ∈ A) : H a ≠ none := by
  obtain ⟨k, hk, e⟩ := List.getElem_of_mem m
  have e1 : A[k]? = some a := by rw [List.getElem?_eq_getElem hk, e]
  obtain ⟨x, hx⟩ : ∃ x, S[k]? = some x := ⟨S[k]'(by rw [← h.len]; exact hk), List.getElem?_eq_getElem _⟩
  cases h.ent k a x e1 hx with
  | own _ q => exact q.there
  | frz q _ =>
    intro z
    cases f : F a with
    | none => exact q f
    | some o => rw [h.sub a o f] at z; cases z
theorem StR.fresh (h : StR K F H A S) {p : Addr} (n : H p = none) : p ∉ A := fun m => h.there m n
theorem StR.free (h : StR K F H A S) {p : Addr} (n : H p = none) : F p = none := by
  cases e : F p with
  | none => rfl
  | some o => rw [h.sub p o e] at n; cases n
theorem StR.data (h : StR K F H A S) {p : Addr} {o : HO} (n : H p = none) : StR K (upd F p o) (upd H p o) A S ∧ Stp A F H (upd F p o) (upd H p o) := by
  have nf := h.free n
  refine ⟨⟨fun a u e => ?_, h.nd, h.len, fun k a e h1 h2 => ?_⟩, ⟨Le.new nf, fun b hb _ => upd_ne (fun z => hb (z ▸ n)), fun b f hb _ => ?_⟩⟩
  · by_cases q : a = p
    · subst q
      rw [upd_same] at e ⊢; exact e
    · rw [upd_ne q] at e ⊢
      exact h.sub a u e
  · have m : a ∈ A := List.mem_of_getElem? h1
    have ne : a ≠ p := fun z => h.fresh n (z ▸ m)
    cases h.ent k a e h1 h2 with
    | own q r => exact .own (by rw [upd_ne ne]; exact q) (r.mono (Le.new nf) (upd_ne ne))
    | frz q r => exact .frz (by rw [upd_ne ne]; exact q) (r.mono (Le.new nf))
  · have ne : b ≠ p := by
      intro z; rw [z] at hb; exact hb n
    rw [upd_ne ne]; exact f
theorem StR.fresh_obj (h : StR K F H A S) {p : Addr} {o : HO} (n : H p = none) : StR K F (upd H p o) A S ∧ Stp A F H F (upd H p o) := by
  refine ⟨⟨fun a u e => ?_, h.nd, h.len, fun k a e h1 h2 => ?_⟩, ⟨Le.refl F, fun b hb _ => upd_ne (fun z => hb (z ▸ n)), fun b f hb _ => f⟩⟩
  · have q := h.sub a u e
    rw [upd_ne (fun z => by rw [z, n] at q; cases q)]; exact q
  · have m : a ∈ A := List.mem_of_getElem? h1
    have ne : a ≠ p := fun z => h.fresh n (z ▸ m)
    cases h.ent k a e h1 h2 with
    | own q r => exact .own q (r.mono (Le.refl F) (upd_ne ne))
    | frz q r => exact .frz q r
theorem StR.write (h : StR K F H A S) {k : Nat} {a : Addr} {o' : Ob} {u : HO} (h1 : A[k]? = some a) (hf : F a = none) (hn : ObR K F (upd H a u) a o') :
    StR K F (upd H a u) A (S.set k (.own o')) ∧ Stp A F H F (upd H a u) := by
  have m : a ∈ A := List.mem_of_getElem? h1
  refine ⟨⟨fun b o e => ?_, h.nd, by rw [List.length_set]; exact h.len, fun j b e g1 g2 => ?_⟩, ⟨Le.refl F, fun b hb nb => upd_ne (fun z => nb (z ▸ m)), fun b f hb _ => f⟩⟩
  · rw [upd_ne (fun z => by rw [z, hf] at e; cases e)]; exact h.sub b o e
  · by_cases hj : j = k
    · subst hj
      rw [h1] at g1; cases g1
      have hk : j < S.length := by
        rw [← h.len]
        exact (List.getElem?_eq_some_iff.mp h1).1
      rw [List.getElem?_set_self hk] at g2
      cases g2
      exact .own hf hn
    · rw [List.getElem?_set_ne (Ne.symm hj)] at g2
      have ne : b ≠ a := fun z => by
        subst z
        obtain ⟨l1, e1⟩ := List.getElem?_eq_some_iff.mp g1
        obtain ⟨l2, e2⟩ := List.getElem?_eq_some_iff.mp h1
        exact hj ((List.getElem_inj h.nd).mp (e1.trans e2.symm))
      cases h.ent j b e g1 g2 with
      | own q r => exact .own q (r.mono (Le.refl F) (upd_ne ne))
      | frz q r => exact .frz q r
theorem StR.freeze (h : StR K F H A S) {k : Nat} {a : Addr} {o : Ob} {u : HO} (h1 : A[k]? = some a) (h2 : S[k]? = some (.own o)) (hu : H a = some u) :
    StR K (upd F a u) H A (S.set k (.frz o.toD)) ∧ Stp A F H (upd F a u) H ∧ Rp K (upd F a u) (.ref a) o.toD := by
  have m : a ∈ A := List.mem_of_getElem? h1
  cases h.ent k a _ h1 h2 with
  | own hf ob =>
    have r := ob.frz hu hf
    refine ⟨⟨fun b o e => ?_, h.nd, by rw [List.length_set]; exact h.len, fun j b e g1 g2 => ?_⟩, ⟨Le.new hf, fun b hb nb => rfl, fun b f hb nb => ?_⟩, r⟩
    · by_cases q : b = a
      · subst q
        rw [upd_same] at e; cases e; exact hu
      · rw [upd_ne q] at e; exact h.sub b o e
    · by_cases hj : j = k
      · subst hj
        rw [h1] at g1; cases g1
        have hk : j < S.length := by
          rw [← h.len]
          exact (List.getElem?_eq_some_iff.mp h1).1
        rw [List.getElem?_set_self hk] at g2
        cases g2
        exact .frz (by rw [upd_same]; simp) r
      · rw [List.getElem?_set_ne (Ne.symm hj)] at g2
        have ne : b ≠ a := fun z => by
          subst z
          obtain ⟨l1, e1⟩ := List.getElem?_eq_some_iff.mp g1
          obtain ⟨l2, e2⟩ := List.getElem?_eq_some_iff.mp h1
          exact hj ((List.getElem_inj h.nd).mp (e1.trans e2.symm))
        cases h.ent j b e g1 g2 with
        | own q r => exact .own (by rw [upd_ne ne]; exact q) (r.mono (Le.new hf) rfl)
        | frz q r => exact .frz (by rw [upd_ne ne]; exact q) (r.mono (Le.new hf))
    · have ne : b ≠ a := by
        intro z; rw [z] at nb; exact nb m
      rw [upd_ne ne]; exact f
theorem StR.seal_new (h : StR K F H A S) {a : Addr} {o : Ob} {u : HO} (hf : F a = none) (hA : a ∉ A) (ob : ObR K F H a o) (hu : H a = some u) :
    StR K (upd F a u) H A S ∧ Rp K (upd F a u) (.ref a) o.toD ∧ Le F (upd F a u) := by
  have r := ob.frz hu hf
  refine ⟨⟨fun b o e => ?_, h.nd, h.len, fun j b e g1 g2 => ?_⟩, r, Le.new hf⟩
  · by_cases q : b = a
    · subst q
      rw [upd_same] at e; cases e; exact hu
    · rw [upd_ne q] at e; exact h.sub b o e
  · have ne : b ≠ a := fun z => hA (z ▸ List.mem_of_getElem? g1)
    cases h.ent j b e g1 g2 with
    | own q r => exact .own (by rw [upd_ne ne]; exact q) (r.mono (Le.new hf) rfl)
    | frz q r => exact .frz (by rw [upd_ne ne]; exact q) (r.mono (Le.new hf))
end
end
end Th
end
section
set_option Elab.async false
set_option linter.all false
set_option maxRecDepth 100000
set_option maxHeartbeats 4000000
namespace Th
open PySem
open Classical
noncomputable def chkS (ks : List Nat) (S0 : Store) : M Unit := fun S => if ∀ k ∈ ks, S[k]? = S0[k]? then .ok () S else .err
noncomputable def forL (f : D → Env → M (Fl × Env)) (ks : List Nat) (S0 : Store) : List D → Env → M (Fl × Env)
  | [], env => pure (.nx, env)
  | x :: xs, env => do
    let p ← f x env
    match p.1 with
    | .nx => do
      chkS ks S0
      forL f ks S0 xs p.2
    | .ct => do
      chkS ks S0
      forL f ks S0 xs p.2
    | .bk => pure (.nx, p.2)
    | .ret r => pure (.ret r, p.2)
noncomputable def lcL (f : D → M (Option D)) (ks : List Nat) (S0 : Store) : List D → M (List D)
  | [] => pure []
  | x :: xs => do
    let y ← f x
    chkS ks S0
    let ys ← lcL f ks S0 xs
    pure (match y with | some d => d :: ys | none => ys)
def whlN (c : Env → M Bool) (b : Env → M (Fl × Env)) : Nat → Env → Store → Option (R (Fl × Env))
  | 0, _, _ => none
  | n + 1, env, S => match c env S with
    | .ok true S1 => match b env S1 with
      | .ok (.nx, env') S2 => whlN c b n env' S2
      | .ok (.ct, env') S2 => whlN c b n env' S2
      | .ok (.bk, env') S2 => some (.ok (.nx, env') S2)
      | .ok (.ret r, env') S2 => some (.ok (.ret r, env') S2)
      | .exc x d S2 => some (.exc x d S2)
      | .err => some .err
    | .ok false S1 => some (.ok (.nx, env) S1)
    | .exc x d S1 => some (.exc x d S1)
    | .err => some .err
noncomputable def whl (c : Env → M Bool) (b : Env → M (Fl × Env)) (env : Env) : M (Fl × Env) := fun S =>
  if h : ∃ n r, whlN c b n env S = some r then (Classical.choose_spec h).choose else .err
theorem whlN_mono {c : Env → M Bool} {b : Env → M (Fl × Env)} : ∀ {n m : Nat} {env : Env} {S : Store} {r : R (Fl × Env)}, whlN c b n env S = some r → n ≤ m → whlN c b m env S = some r
  | 0, _, _, _, _, h, _ => by cases h
  | n + 1, 0, _, _, _, _, hm => by omega
  | n + 1, m + 1, env, S, r, h, hm => by
    unfold whlN at h ⊢
    have ih := @whlN_mono c b n m
    split at h
    · split at h
      · exact ih h (by omega)
      · exact ih h (by omega)
      · exact h
      · exact h
      · exact h
      · exact h
    · exact h
    · exact h
    · exact h
theorem whl_of {c : Env → M Bool} {b : Env → M (Fl × Env)} {n : Nat} {env : Env} {S : Store} {r : R (Fl × Env)} (h : whlN c b n env S = some r) : whl c b env S = r := by
  have e : ∃ n r, whlN c b n env S = some r := ⟨n, r, h⟩
  unfold whl
  rw [dif_pos e]
  have q := (Classical.choose_spec e).choose_spec
  have h1 := whlN_mono q (Nat.le_max_left _ n)
  have h2 := whlN_mono h (Nat.le_max_right (Classical.choose e) n)
  rw [h1] at h2
  exact Option.some.inj h2
theorem whl_inv {c : Env → M Bool} {b : Env → M (Fl × Env)} {env : Env} {S S' : Store} {p : Fl × Env} (h : whl c b env S = .ok p S') : ∃ n, whlN c b n env S = some (.ok p S') := by
  unfold whl at h
  split at h
  · rename_i e
    have q := (Classical.choose_spec e).choose_spec
    rw [h] at q
    exact ⟨_, q⟩
  · cases h
theorem whl_false {c : Env → M Bool} {b : Env → M (Fl × Env)} {env : Env} {S S1 : Store} (h : c env S = .ok false S1) : whl c b env S = .ok (.nx, env) S1 :=
  whl_of (n := 1) (by unfold whlN; rw [h])
theorem whl_true {c : Env → M Bool} {b : Env → M (Fl × Env)} {env env' : Env} {S S1 S2 : Store} (h : c env S = .ok true S1) (hb : b env S1 = .ok (.nx, env') S2) : whl c b env S = whl c b env' S2 := by
  by_cases e : ∃ n r, whlN c b n env' S2 = some r
  · obtain ⟨n, r, e⟩ := e
    rw [whl_of e]
    exact whl_of (n := n + 1) (by unfold whlN; rw [h]; simp only; rw [hb]; exact e)
  · have e2 : ¬ ∃ n r, whlN c b n env S = some r := by
      rintro ⟨n, r, q⟩
      cases n with
      | zero => cases q
      | succ n =>
        unfold whlN at q
        rw [h] at q
        simp only at q
        rw [hb] at q
        exact e ⟨n, r, q⟩
    unfold whl
    rw [dif_neg e, dif_neg e2]
theorem whl_ret {c : Env → M Bool} {b : Env → M (Fl × Env)} {env env' : Env} {S S1 S2 : Store} {r : RV} (h : c env S = .ok true S1) (hb : b env S1 = .ok (.ret r, env') S2) : whl c b env S = .ok (.ret r, env') S2 :=
  whl_of (n := 1) (by unfold whlN; rw [h]; simp only; rw [hb])
theorem whl_bk {c : Env → M Bool} {b : Env → M (Fl × Env)} {env env' : Env} {S S1 S2 : Store} (h : c env S = .ok true S1) (hb : b env S1 = .ok (.bk, env') S2) : whl c b env S = .ok (.nx, env') S2 :=
  whl_of (n := 1) (by unfold whlN; rw [h]; simp only; rw [hb])
mutual
def MG.slots : MG → List Nat
  | .name i => [i]
  | .tup gs => MG.slotsAll gs
def MG.slotsAll : List MG → List Nat
  | [] => []
  | g :: gs => g.slots ++ MG.slotsAll gs
end
mutual
def asgG : MG → D → Env → Option Env
  | .name i, d, env => if i < env.length then some (env.set i (some (.d d))) else none
  | .tup gs, .tuple xs, env => if gs.length = xs.length then asgGs gs xs env else none
  | .tup _, _, _ => none
def asgGs : List MG → List D → Env → Option Env
  | [], _, env => some env
  | _ :: _, [], _ => none
  | g :: gs, x :: xs, env => (asgG g x env).bind (asgGs gs xs)
end
def wipeE (env : Env) : List Nat → Env
  | [] => env
  | i :: is => (wipeE env is).set i none
def putSl (i : Nat) (r : RV) (env : Env) : M Env := fun S =>
  if i < env.length then
    match r with
    | .imm d => .ok (env.set i (some (.d d))) S
    | .ptr k => .ok (env.set i (some (.p k))) S
    | .new o => .ok (env.set i (some (.p S.length))) (S ++ [.own o])
  else .err
def putSls : List Nat → List RV → Env → M Env
  | [], [], env => pure env
  | i :: is, r :: rs, env => do
    let e ← putSl i r env
    putSls is rs e
  | _, _, _ => M.err
def assignG (g : MG) (r : RV) (env : Env) : M Env :=
  match g with
  | .name i => putSl i r env
  | .tup gs => match r with
    | .imm d => lift (asgG (.tup gs) d env)
    | _ => M.err
def mkArg (r : RV) (S : Store) : Option Arg :=
  match r with
  | .imm d => some (.imm d)
  | .new o => some (.mut o)
  | .ptr k => match S[k]? with
    | some (.own o) => some (.mut o)
    | some (.frz d) => some (.imm d)
    | none => none
def mkArgs (S : Store) : List RV → Option (List Arg)
  | [] => some []
  | r :: rs => (mkArg r S).bind fun a => (mkArgs S rs).map (a :: ·)
def ownPtrs (S : Store) : List RV → List Nat
  | [] => []
  | .ptr k :: rs => match S[k]? with
    | some (.own _) => k :: ownPtrs S rs
    | _ => ownPtrs S rs
  | _ :: rs => ownPtrs S rs
def backArgs (S0 : Store) : List RV → Store → Store → Option Store
  | [], [], S => some S
  | .ptr k :: rs, outs, S => match S0[k]? with
    | some (.own _) => match outs with
      | e :: es => backArgs S0 rs es (S.set k e)
      | [] => none
    | _ => backArgs S0 rs outs S
  | .new _ :: rs, _ :: es, S => backArgs S0 rs es S
  | .imm _ :: rs, outs, S => backArgs S0 rs outs S
  | _, _, _ => none
def callM (φ : Fn) (rs : List RV) : M RV := fun S =>
  match mkArgs S rs with
  | none => .err
  | some as => if (ownPtrs S rs).Nodup then
      match φ as with
      | .ok r outs => match backArgs S rs outs S with
        | some S' => match r with
          | .ptr _ => .err
          | _ => .ok r S'
        | none => .err
      | .exc c d outs => match backArgs S rs outs S with
        | some S' => .exc c d S'
        | none => .err
      | .err => .err
    else .err
def sortOk (ds : List D) : Prop := PySem.W.AllAlike ds ∧ PySem.W.Sortable ds ∧ ∀ d ∈ ds, d.depth ≤ 60
def sortD (ds : List D) : List D := ds.mergeSort (PySem.W.dataLe false fun d => d)
def dedup : List Int → List Int
  | [] => []
  | x :: xs => if x ∈ xs then dedup xs else x :: dedup xs
def sortI (ns : List Int) : List Int := ns.mergeSort fun a b => decide (a ≤ b)
def zipD (xs ys : List D) : List D := List.zipWith pairD xs ys
noncomputable def biOp (f : Bi) (rs : List RV) : M RV :=
  match f, rs with
  | .len, [r] => do
    let c ← coM r
    match c.items, c.keyed with
    | some xs, _ => pure (.imm (.int xs.length))
    | none, some kvs => do
      chk (keyFits kvs (.int 0) = true)
      pure (.imm (.int kvs.length))
    | none, none => M.err
  | .abs, [r] => do
    let c ← coM r
    let i ← lift c.int
    pure (.imm (.int (if i < 0 then -i else i)))
  | .int, [r] => do
    let c ← coM r
    let i ← lift c.int
    pure (.imm (.int i))
  | .max2, [r, r'] => do
    let c ← coM r
    let i ← lift c.int
    let c' ← coM r'
    let j ← lift c'.int
    pure (.imm (.int (if j > i then j else i)))
  | .min2, [r, r'] => do
    let c ← coM r
    let i ← lift c.int
    let c' ← coM r'
    let j ← lift c'.int
    pure (.imm (.int (if j < i then j else i)))
  | .max1, [r] => do
    let c ← coM r
    let xs ← lift c.items
    let ns ← lift (asInts xs)
    chk (ns ≠ [])
    pure (.imm (.int (maxI ns)))
  | .min1, [r] => do
    let c ← coM r
    let xs ← lift c.items
    let ns ← lift (asInts xs)
    chk (ns ≠ [])
    pure (.imm (.int (minI ns)))
  | .sum, [r] => do
    let c ← coM r
    let xs ← lift c.items
    let ns ← lift (asInts xs)
    pure (.imm (.int ns.sum))
  | .any, [r] => do
    let c ← coM r
    let xs ← lift c.lits
    let bs ← lift (asBools xs)
    pure (.imm (.bool (bs.any id)))
  | .all, [r] => do
    let c ← coM r
    let xs ← lift c.lits
    let bs ← lift (asBools xs)
    pure (.imm (.bool (bs.all id)))
  | .tuple, [r] => do
    let c ← coM r
    let xs ← lift c.items
    pure (.imm (.tuple xs))
  | .list, [r] => do
    let c ← coM r
    match c.items, c.keyed with
    | some xs, _ => pure (.new (.lst xs))
    | none, some kvs => do
      chk (keyFits kvs (.int 0) = true)
      pure (.new (.lst (kvs.map (·.1))))
    | none, none => M.err
  | .sorted, [r] => do
    let c ← coM r
    let xs ← lift c.lits
    chk (sortOk xs)
    pure (.new (.lst (sortD xs)))
  | .sortset, [r] => do
    let c ← coM r
    let xs ← lift c.tups
    let ns ← lift (asInts xs)
    chk (ns.length ≤ 60)
    pure (.new (.lst ((sortI (dedup ns)).map .int)))
  | .lzip, [r, r'] => do
    let c ← coM r
    let xs ← lift c.items
    let c' ← coM r'
    let ys ← lift c'.items
    pure (.new (.lst (zipD xs ys)))
  | .szip, [r, r'] => do
    let c ← coM r
    let xs ← lift c.items
    let c' ← coM r'
    let ys ← lift c'.items
    chk (sortOk (zipD xs ys))
    pure (.new (.lst (sortD (zipD xs ys))))
  | .trng1, [r] => do
    let c ← coM r
    let i ← lift c.int
    chk (-1000000 ≤ i ∧ i ≤ 1000000)
    pure (.imm (.tuple (rngD 0 i)))
  | .trng2, [r, r'] => do
    let c ← coM r
    let i ← lift c.int
    let c' ← coM r'
    let j ← lift c'.int
    chk (-1000000 ≤ i ∧ i ≤ 1000000 ∧ -1000000 ≤ j ∧ j ≤ 1000000)
    pure (.imm (.tuple (rngD i j)))
  | .lrng1, [r] => do
    let c ← coM r
    let i ← lift c.int
    chk (-1000000 ≤ i ∧ i ≤ 1000000)
    pure (.new (.lst (rngD 0 i)))
  | .lrng2, [r, r'] => do
    let c ← coM r
    let i ← lift c.int
    let c' ← coM r'
    let j ← lift c'.int
    chk (-1000000 ≤ i ∧ i ≤ 1000000 ∧ -1000000 ≤ j ∧ j ≤ 1000000)
    pure (.new (.lst (rngD i j)))
  | _, _ => M.err
def idxD (xs : List D) (x : D) : Option Nat := xs.findIdx? fun y => PyData.eqv y x
def meOp (m : Me) (o : RV) (rs : List RV) : M RV :=
  match m, rs with
  | .index, [r] => do
    let c ← coM o
    let xs ← lift c.items
    let x ← coM r
    chk (flatD x.dat = true ∧ xs.all flatD = true)
    let j ← lift (idxD xs x.dat)
    pure (.imm (.int (j : Nat)))
  | .count, [r] => do
    let c ← coM o
    let xs ← lift c.items
    let ns ← lift (asInts xs)
    let x ← coM r
    let n ← lift x.int
    pure (.imm (.int (ns.count n : Nat)))
  | .get2, [r, r'] => do
    let c ← coM o
    let kvs ← lift c.keyed
    let k ← coM r
    chk (keyFits kvs k.dat = true)
    let d ← frzM r'
    pure (.imm ((dget kvs k.dat).getD d))
  | .pop, [] => do
    let c ← coM o
    match o, c with
    | .ptr k, .o (.lst xs) => do
      let d ← lift xs.getLast?
      let S ← getS
      putS (S.set k (.own (.lst xs.dropLast)))
      pure (.imm d)
    | _, _ => M.err
  | .popAt, [r] => do
    let c ← coM o
    let x ← coM r
    let i ← lift x.int
    match o, c with
    | .ptr k, .o (.lst xs) => do
      chk (0 ≤ i ∧ i < sizeL)
      let d ← lift xs[i.toNat]?
      let S ← getS
      putS (S.set k (.own (.lst (xs.eraseIdx i.toNat))))
      pure (.imm d)
    | _, _ => M.err
  | _, _ => M.err
def subOp (o i : RV) : M RV := do
  let a ← coM o
  let b ← coM i
  match a.kitems.or a.items, a.keyed with
  | some xs, _ => do
    let j ← lift b.int
    let d ← lift (L2.atI xs j)
    pure (.imm d)
  | none, some kvs => do
    chk (keyFits kvs b.dat = true)
    let d ← lift (dget kvs b.dat)
    pure (.imm d)
  | none, none => M.err
def cutD (xs : List D) (lo hi : Option Int) : List D := (xs.drop (HT.sIx xs.length 0 lo)).take (HT.sIx xs.length xs.length hi - HT.sIx xs.length 0 lo)
def slcOp (o : RV) (lo hi : Option Int) : M RV := do
  let a ← coM o
  match a with
  | .d (.tuple xs) => pure (.imm (.tuple (cutD xs lo hi)))
  | .d (.list xs) => pure (.new (.lst (cutD xs lo hi)))
  | .o (.lst xs) => pure (.new (.lst (cutD xs lo hi)))
  | _ => M.err
def revOp (o : RV) : M RV := do
  let a ← coM o
  match a with
  | .d (.list xs) => pure (.new (.lst xs.reverse))
  | .o (.lst xs) => pure (.new (.lst xs.reverse))
  | _ => M.err
noncomputable def setOp (o i v : RV) : M Unit := do
  let a ← coM o
  let b ← coM i
  match o, a with
  | .ptr k, .o (.lst xs) => do
    let j ← lift b.int
    let n ← lift (L2.ixN xs.length j)
    let d ← frzM v
    let S ← getS
    chk (S[k]? = some (.own (.lst xs)))
    putS (S.set k (.own (.lst (xs.set n d))))
  | .ptr k, .o (.dic kvs) => do
    chk (keyPuts kvs b.dat = true ∧ kvs.length < sizeL)
    let d ← frzM v
    let S ← getS
    chk (S[k]? = some (.own (.dic kvs)))
    putS (S.set k (.own (.dic (dput kvs b.dat d))))
  | _, _ => M.err
def appOp (o v : RV) : M Unit := do
  let d ← frzM v
  let a ← coM o
  match o, a with
  | .ptr k, .o (.lst xs) => do
    chk (xs.length < sizeL)
    let S ← getS
    putS (S.set k (.own (.lst (xs ++ [d]))))
  | _, _ => M.err
def extOp (o v : RV) : M Unit := do
  let b ← coM v
  let a ← coM o
  match o, a, b with
  | .ptr k, .o (.lst xs), .o (.lst ys) => do
    chk (xs.length + ys.length ≤ sizeL)
    let S ← getS
    putS (S.set k (.own (.lst (xs ++ ys))))
  | _, _, _ => M.err
def chks (r : RV) : List Nat :=
  match r with
  | .ptr k => [k]
  | _ => []
mutual
noncomputable def evE (Γ : Gam) : ME → Env → M RV
  | .bad, _ => M.err
  | .var i, env => match env[i]? with
    | some (some (.d x)) => pure (.imm x)
    | some (some (.p k)) => pure (.ptr k)
    | _ => M.err
  | .cst d, _ => pure (.imm d)
  | .glob x, _ => match Γ x with
    | some (.con d) => pure (.imm d)
    | _ => M.err
  | .tup es, env => do
    let rs ← evEs Γ es env
    let ds ← frzs rs
    pure (.imm (.tuple ds))
  | .lst es, env => do
    let rs ← evEs Γ es env
    let ds ← frzs rs
    pure (.new (.lst ds))
  | .dic0, _ => pure (.new (.dic []))
  | .dic1 k v, env => do
    let a ← evE Γ k env
    let c ← coM a
    chk (keyPuts [] c.dat = true)
    let b ← evE Γ v env
    let d ← frzM b
    pure (.new (.dic [(c.dat, d)]))
  | .bin op a b, env => do
    let x ← evE Γ a env
    let y ← evE Γ b env
    binOp op x y
  | .neg a, env => do
    let x ← evE Γ a env
    let c ← coM x
    let i ← lift c.int
    pure (.imm (.int (-i)))
  | .nt a, env => do
    let x ← evE Γ a env
    let c ← coM x
    let b ← lift c.bool
    pure (.imm (.bool (!b)))
  | .an a b, env => do
    let x ← evE Γ a env
    let c ← coM x
    let p ← lift c.bool
    if p then evE Γ b env else pure (.imm (.bool false))
  | .orr a b, env => do
    let x ← evE Γ a env
    let c ← coM x
    let p ← lift c.bool
    if p then pure (.imm (.bool true)) else evE Γ b env
  | .cmp op a b, env => do
    let x ← evE Γ a env
    let y ← evE Γ b env
    cmpOp op x y
  | .chain op op' a b c, env => do
    let x ← evE Γ a env
    let y ← evE Γ b env
    let z ← cmpOp op x y
    let cz ← coM z
    let p ← lift cz.bool
    if p then do
      let w ← evE Γ c env
      cmpOp op' y w
    else pure (.imm (.bool false))
  | .isN a neg, env => do
    let x ← evE Γ a env
    let c ← coM x
    pure (.imm (.bool (c.isNone != neg)))
  | .isB a b neg, env => do
    let x ← evE Γ a env
    let c ← coM x
    let p ← lift c.bool
    pure (.imm (.bool ((p == b) != neg)))
  | .ife c a b, env => do
    let p ← evT Γ c env
    if p then evE Γ a env else evE Γ b env
  | .sub a i, env => do
    let x ← evE Γ a env
    let y ← evE Γ i env
    subOp x y
  | .slc a lo hi, env => do
    let x ← evE Γ a env
    let l ← evO Γ lo env
    let h ← evO Γ hi env
    slcOp x l h
  | .rev a, env => do
    let x ← evE Γ a env
    revOp x
  | .call f es, env => do
    let rs ← evEs Γ es env
    match Γ f with
    | some (.fn φ) => callM φ rs
    | _ => M.err
  | .bi f es, env => do
    let rs ← evEs Γ es env
    biOp f rs
  | .sortk f a, env => M.err
  | .isi a t, env => do
    let x ← evE Γ a env
    let c ← coM x
    chk (c.noDict = true)
    pure (.imm (.bool (isTy c t)))
  | .isi2 a t u, env => do
    let x ← evE Γ a env
    let c ← coM x
    chk (c.noDict = true)
    pure (.imm (.bool (isTy c t || isTy c u)))
  | .met m o es, env => do
    let x ← evE Γ o env
    let c ← coM x
    let rs ← evEs Γ es env
    let c' ← coM x
    chk (c.kind = c'.kind)
    meOp m x rs
  | .lc elt tg it own ifs, env => do
    let p ← evI Γ it env
    let S0 ← getS
    let ds ← lcL (fun x => do
      let e ← lift (asgG tg x (wipeE env own))
      let q ← evTo Γ ifs e
      if q then do
        let r ← evE Γ elt e
        let d ← frzM r
        pure (some d)
      else pure none) p.2 S0 p.1
    pure (.new (.lst ds))
noncomputable def evEs (Γ : Gam) : List ME → Env → M (List RV)
  | [], _ => pure []
  | e :: es, env => do
    let r ← evE Γ e env
    let rs ← evEs Γ es env
    pure (r :: rs)
noncomputable def evT (Γ : Gam) : ME → Env → M Bool
  | .nt a, env => do
    let p ← evT Γ a env
    pure (!p)
  | .an a b, env => do
    let p ← evT Γ a env
    if p then evT Γ b env else pure false
  | .orr a b, env => do
    let p ← evT Γ a env
    if p then pure true else evT Γ b env
  | e, env => do
    let x ← evE Γ e env
    let c ← coM x
    lift c.bool
noncomputable def evTo (Γ : Gam) : Option ME → Env → M Bool
  | none, _ => pure true
  | some e, env => evT Γ e env
noncomputable def evO (Γ : Gam) : Option ME → Env → M (Option Int)
  | none, _ => pure none
  | some e, env => do
    let x ← evE Γ e env
    let c ← coM x
    let i ← lift c.int
    pure (some i)
noncomputable def evI (Γ : Gam) : MI → Env → M (List D × List Nat)
  | .rng1 a, env => do
    let x ← evE Γ a env
    let c ← coM x
    let i ← lift c.int
    chk (-1000000 ≤ i ∧ i ≤ 1000000)
    pure (rngD 0 i, [])
  | .rng2 a b, env => do
    let x ← evE Γ a env
    let y ← evE Γ b env
    let c ← coM x
    let i ← lift c.int
    let c' ← coM y
    let j ← lift c'.int
    chk (-1000000 ≤ i ∧ i ≤ 1000000 ∧ -1000000 ≤ j ∧ j ≤ 1000000)
    pure (rngD i j, [])
  | .seq a, env => do
    let x ← evE Γ a env
    let c ← coM x
    let xs ← lift c.items
    pure (xs, chks x)
  | .enum a, env => do
    let x ← evE Γ a env
    let c ← coM x
    let xs ← lift c.items
    pure (xs.zipIdx.map fun p => pairD (.int (p.2 : Nat)) p.1, chks x)
  | .zip a b, env => do
    let x ← evE Γ a env
    let y ← evE Γ b env
    let c ← coM x
    let xs ← lift c.items
    let c' ← coM y
    let ys ← lift c'.items
    pure (zipD xs ys, chks x ++ chks y)
  | .vals a, env => do
    let x ← evE Γ a env
    let c ← coM x
    let kvs ← lift c.keyed
    pure (kvs.map (·.2), chks x)
end
end Th
end
section
set_option Elab.async false
set_option linter.all false
set_option maxRecDepth 100000
set_option maxHeartbeats 4000000
namespace Th
open PySem
open Classical
def gotD : RV → Option D
  | .imm d => some d
  | _ => none
mutual
noncomputable def evS (Γ : Gam) : MS → Env → M (Fl × Env)
  | .asg g e, env => do
    let r ← evE Γ e env
    let env' ← assignG g r env
    pure (.nx, env')
  | .par is es, env => do
    let rs ← evEs Γ es env
    let env' ← putSls is rs env
    pure (.nx, env')
  | .aset o i e, env => do
    let v ← evE Γ e env
    let a ← evE Γ o env
    let b ← evE Γ i env
    setOp a b v
    pure (.nx, env)
  | .aug op i e, env => match env[i]? with
    | some (some (.d (.int x))) => do
      let v ← evE Γ e env
      let c ← coM v
      let y ← lift c.int
      chk (op ≠ .pow)
      let z ← intOp op x y
      let env' ← putSl i z env
      pure (.nx, env')
    | _ => M.err
  | .augs op o i e, env => do
    let a ← evE Γ o env
    let b ← evE Γ i env
    let ca ← coM a
    let xs ← lift ca.lits
    let cb ← coM b
    let j ← lift cb.int
    let g ← lift (L2.atI xs j)
    let x ← lift (Co.d g).int
    let v ← evE Γ e env
    let c ← coM v
    let y ← lift c.int
    chk (op ≠ .pow)
    let z ← intOp op x y
    setOp a b z
    pure (.nx, env)
  | .pst o i x a b, env => do
    let va ← evE Γ a env
    let vb ← evE Γ b env
    let db ← lift (gotD vb)
    let vo ← evE Γ o env
    let vi ← evE Γ i env
    setOp vo vi va
    let env' ← putSl x (.imm db) env
    pure (.nx, env')
  | .expr e, env => do
    let _ ← evE Γ e env
    pure (.nx, env)
  | .app o e, env => do
    let a ← evE Γ o env
    let c ← coM a
    let v ← evE Γ e env
    let c' ← coM a
    chk (c.kind = 0 ∧ c'.kind = 0)
    appOp a v
    pure (.nx, env)
  | .ext o e, env => do
    let a ← evE Γ o env
    let c ← coM a
    let v ← evE Γ e env
    let c' ← coM a
    chk (c.kind = 0 ∧ c'.kind = 0)
    extOp a v
    pure (.nx, env)
  | .ret e, env => do
    let r ← evE Γ e env
    pure (.ret r, env)
  | .retN, env => pure (.ret (.imm .none), env)
  | .ifs c a b, env => do
    let p ← evT Γ c env
    if p then evSs Γ a env else evSs Γ b env
  | .whl c b, env => whl (fun e => evT Γ c e) (fun e => evSs Γ b e) env
  | .forr g it b, env => do
    let p ← evI Γ it env
    let S0 ← getS
    forL (fun x e => do
      let e' ← lift (asgG g x e)
      evSs Γ b e') p.2 S0 p.1 env
  | .brk, env => pure (.bk, env)
  | .cnt, env => pure (.ct, env)
  | .pass, env => pure (.nx, env)
  | .raise, _ => M.err
noncomputable def evSs (Γ : Gam) : List MS → Env → M (Fl × Env)
  | [], env => pure (.nx, env)
  | s :: ss, env => do
    let p ← evS Γ s env
    match p.1 with
    | .nx => evSs Γ ss p.2
    | .bk => pure (.bk, p.2)
    | .ct => pure (.ct, p.2)
    | .ret r => pure (.ret r, p.2)
end
def initE : List Arg → Nat → Env
  | [], _ => []
  | .imm d :: as, k => some (.d d) :: initE as k
  | .mut _ :: as, k => some (.p k) :: initE as (k + 1)
def initS : List Arg → Store
  | [] => []
  | .imm _ :: as => initS as
  | .mut o :: as => .own o :: initS as
def finR (m : Nat) (r : RV) (S : Store) : R RV :=
  match r with
  | .imm d => .ok (.imm d) (S.take m)
  | .new o => .ok (.new o) (S.take m)
  | .ptr k => match S[k]? with
    | some (.own o) => if k < m then .ok (.imm o.toD) ((S.set k (.frz o.toD)).take m) else .ok (.new o) (S.take m)
    | some (.frz d) => .ok (.imm d) (S.take m)
    | none => .err
noncomputable def den (Γ : Gam) (np n : Nat) (body : List MS) : Fn := fun as =>
  if as.length = np ∧ np ≤ n then
    match evSs Γ body (initE as 0 ++ List.replicate (n - np) none) (initS as) with
    | .ok p S => match p.1 with
      | .ret r => finR (initS as).length r S
      | .nx => .ok (.imm .none) (S.take (initS as).length)
      | _ => .err
    | .exc c d S => .exc c d (S.take (initS as).length)
    | .err => .err
  else .err
end Th
end
section
set_option Elab.async false
set_option linter.all false
set_option maxRecDepth 100000
set_option maxHeartbeats 4000000
namespace Th
open PySem PySem.Spec PyProof.Rows L2
def WE (X : Cx) (e : Expr) (σ : L2.St) (H : Hp) (Q : VK) : Prop := ∀ (pins : List (Addr × Obj)) (s : Shared), Inv X pins σ H s → wpAny (model X.prog X.w) X.A (eval e X.env) (EP X pins σ Q) X.xe s
def WT (X : Cx) (e : Expr) (σ : L2.St) (H : Hp) (Q : Bool → Hp → Prop) : Prop := ∀ (pins : List (Addr × Obj)) (s : Shared), Inv X pins σ H s → wpAny (model X.prog X.w) X.A (isTrue e X.env (eval e X.env)) (TP X pins σ Q) X.xe s
def WPw (X : Cx) (e : Expr) (σ : L2.St) (H : Hp) (Q : Bool → Hp → Prop) : Prop := ∀ (whole : Sem Value) (pins : List (Addr × Obj)) (s : Shared), Inv X pins σ H s → wpAny (model X.prog X.w) X.A (isTrue e X.env whole) (TP X pins σ Q) X.xe s
def WA (X : Cx) (es : List Expr) (σ : L2.St) (H : Hp) (Q : List V → Hp → Prop) : Prop := ∀ (pos : Pos) (pins : List (Addr × Obj)) (s : Shared), Inv X pins σ H s → wpAny (model X.prog X.w) X.A (spliced (backTo pos (starEach es X.env))) (AP X pins σ Q) X.xe s
def WO (X : Cx) (f : Value → Value → Sem Value) (x y : V) (H : Hp) (Q : VK) : Prop :=
  ∀ (pins : List (Addr × Obj)) (s : Shared) (σ : L2.St) (v u : Value), Inv X pins σ H s → RelV x v → RelV y u → wpAny (model X.prog X.w) X.A (f v u) (EP X pins σ Q) X.xe s
def WC (X : Cx) (f : Value) (xs : List V) (H : Hp) (Q : VK) : Prop :=
  ∀ (pins : List (Addr × Obj)) (s : Shared) (σ : L2.St) (us : List Value), Inv X pins σ H s → Vals xs us → wpAny (model X.prog X.w) X.A (call f us) (EP X pins σ Q) X.xe s
def WM (X : Cx) (id : String) (x : V) (xs : List V) (H : Hp) (Q : VK) : Prop :=
  ∀ (pins : List (Addr × Obj)) (s : Shared) (σ : L2.St) (v : Value) (us : List Value), Inv X pins σ H s → RelV x v → Vals xs us → wpAny (model X.prog X.w) X.A (call (.builtin id) (v :: us)) (EP X pins σ Q) X.xe s
section
variable {X : Cx} {e : Expr} {es : List Expr} {σ : L2.St} {H : Hp}
theorem pe_w : PE X e (WE X e) := ⟨fun pins s σ H Q I h => h pins s I⟩
theorem pt_w : PT X e (WT X e) := ⟨fun pins s σ H Q I h => h pins s I⟩
theorem pw_w : PW X e (WPw X e) := ⟨fun wh pins s σ H Q I h => h wh pins s I⟩
theorem pa_w : PA X es (WA X es) := ⟨fun pos pins s σ H Q I h => h pos pins s I⟩
theorem op_w {f : Value → Value → Sem Value} : OpR X f (WO X f) := fun pins s σ H x y v u Q I rx ry h => h pins s σ v u I rx ry
theorem cr_w {f : Value} : CallR X f (WC X f) := fun pins s σ H xs us Q I r h => h pins s σ us I r
theorem mr_w {id : String} : MtR X id (WM X id) := fun pins s σ H x xs v us Q I rx r h => h pins s σ v us I rx r
theorem we_of {t : TE} (h : PE X e t) {Q : VK} (ht : t σ H Q) : WE X e σ H Q := fun pins s I => h.run pins s σ H Q I ht
theorem wt_of {t : TT} (h : PT X e t) {Q : Bool → Hp → Prop} (ht : t σ H Q) : WT X e σ H Q := fun pins s I => h.run pins s σ H Q I ht
theorem ww_of {t : TT} (h : PW X e t) {Q : Bool → Hp → Prop} (ht : t σ H Q) : WPw X e σ H Q := fun wh pins s I => h.run wh pins s σ H Q I ht
theorem wa_of {t : TA} (h : PA X es t) {Q : List V → Hp → Prop} (ht : t σ H Q) : WA X es σ H Q := fun pos pins s I => h.run pos pins s σ H Q I ht
theorem wo_of {f : Value → Value → Sem Value} {r : R2} (h : OpR X f r) {x y : V} {Q : VK} (ht : r x y H Q) : WO X f x y H Q := fun pins s σ v u I rx ry => h pins s σ H x y v u Q I rx ry ht
theorem wc_of {f : Value} {r : List V → Hp → VK → Prop} (h : CallR X f r) {xs : List V} {Q : VK} (ht : r xs H Q) : WC X f xs H Q := fun pins s σ us I q => h pins s σ H xs us Q I q ht
theorem wm_of {id : String} {r : V → List V → Hp → VK → Prop} (h : MtR X id r) {x : V} {xs : List V} {Q : VK} (ht : r x xs H Q) : WM X id x xs H Q := fun pins s σ v us I rx q => h pins s σ H x xs v us Q I rx q ht
end
def Post (K : Kit) (A : List Addr) (F H : Hp) (S' : Store) (r : RV) (Q : VK) : Prop :=
  ∀ v H' F', Stp A F H F' H' → StR K F' H' A S' → VR K F' H' A r v → (∀ o a, r = .new o → v = .ref a → H a = none) → Q v H'
theorem Post.after {K : Kit} {A : List Addr} {F H F1 H1 : Hp} {S' : Store} {r : RV} {Q : VK} (st : Stp A F H F1 H1) (h : Post K A F H S' r Q) : Post K A F1 H1 S' r Q :=
  fun v H2 F2 st2 sr vr nw => h v H2 F2 (st.trans st2) sr vr fun o a e1 e2 => by
    subst e1 e2
    cases vr with
    | new _ hA _ =>
      have n := nw o a rfl rfl
      cases q : H a with
      | none => rfl
      | some u =>
        have := st.fr a (by rw [q]; simp) hA
        rw [n, q] at this; cases this
theorem Post.imm {K : Kit} {A : List Addr} {F H : Hp} {S : Store} {d : D} {v : V} {Q : VK} (h : Post K A F H S (.imm d) Q) (sr : StR K F H A S) (r : Rp K F v d) : Q v H :=
  h v H F (Stp.refl A F H) sr (.imm r) fun o a e => by cases e
structure SoundE (Γ : Gam) (X : Cx) (e : Expr) (m : ME) : Prop where
  run : ∀ {σ : L2.St} {H F : Hp} {A : List Addr} {env : Env} {S S' : Store} {r : RV} {Q : VK}, evE Γ m env S = .ok r S' → EnvR (kit X) F A env σ → StR (kit X) F H A S → Post (kit X) A F H S' r Q → WE X e σ H Q
structure SoundT (Γ : Gam) (X : Cx) (e : Expr) (m : ME) : Prop where
  run : ∀ {σ : L2.St} {H F : Hp} {A : List Addr} {env : Env} {S S' : Store} {b : Bool} {Q : Bool → Hp → Prop}, evT Γ m env S = .ok b S' → EnvR (kit X) F A env σ → StR (kit X) F H A S →
    (∀ H' F', Stp A F H F' H' → StR (kit X) F' H' A S' → Q b H') → WT X e σ H Q
structure SoundPw (Γ : Gam) (X : Cx) (e : Expr) (m : ME) : Prop where
  run : ∀ {σ : L2.St} {H F : Hp} {A : List Addr} {env : Env} {S S' : Store} {b : Bool} {Q : Bool → Hp → Prop}, evT Γ m env S = .ok b S' → EnvR (kit X) F A env σ → StR (kit X) F H A S →
    (∀ H' F', Stp A F H F' H' → StR (kit X) F' H' A S' → Q b H') → WPw X e σ H Q
inductive VRs (K : Kit) (F H : Hp) (A : List Addr) : List RV → List V → Prop
  | nil : VRs K F H A [] []
  | cons {r : RV} {v : V} {rs : List RV} {vs : List V} : VR K F H A r v → VRs K F H A rs vs → VRs K F H A (r :: rs) (v :: vs)
theorem VRs.step {K : Kit} {F H F' H' : Hp} {A : List Addr} (x : Stp A F H F' H') : ∀ {rs : List RV} {vs : List V}, VRs K F H A rs vs → VRs K F' H' A rs vs
  | _, _, .nil => .nil
  | _, _, .cons h1 h2 => .cons (h1.step x) (VRs.step x h2)
inductive News (H : Hp) : List RV → List V → Prop
  | nil : News H [] []
  | cons {r : RV} {v : V} {rs : List RV} {vs : List V} : (∀ o a, r = .new o → v = .ref a → H a = none ∧ ∀ (j : Nat) (o' : Ob), rs[j]? = some (RV.new o') → vs[j]? = some (.ref a) → False) → News H rs vs → News H (r :: rs) (v :: vs)
structure SoundEs (Γ : Gam) (X : Cx) (es : List Expr) (ms : List ME) : Prop where
  run : ∀ {σ : L2.St} {H F : Hp} {A : List Addr} {env : Env} {S S' : Store} {rs : List RV} {Q : List V → Hp → Prop}, evEs Γ ms env S = .ok rs S' → EnvR (kit X) F A env σ → StR (kit X) F H A S →
    (∀ vs H' F', Stp A F H F' H' → StR (kit X) F' H' A S' → VRs (kit X) F' H' A rs vs → News H rs vs → Q vs H') → WA X es σ H Q
inductive CoR (K : Kit) (F H : Hp) : Co → V → Prop
  | d {x : D} {v : V} : Rp K F v x → CoR K F H (.d x) v
  | o {ob : Ob} {a : Addr} : ObR K F H a ob → CoR K F H (.o ob) (.ref a)
theorem coM_inv {r : RV} {c : Co} {S S' : Store} (h : coM r S = .ok c S') : cont r S = some c ∧ S = S' := by
  unfold coM at h
  split at h
  · rename_i c' hc
    cases h; exact ⟨hc, rfl⟩
  · cases h
theorem VR.co {K : Kit} {F H : Hp} {A : List Addr} {S : Store} {r : RV} {v : V} {c : Co} (vr : VR K F H A r v) (sr : StR K F H A S) (hc : cont r S = some c) : CoR K F H c v := by
  cases vr with
  | imm h =>
    have hc : some _ = some c := hc
    cases hc; exact .d h
  | new _ _ h =>
    have hc : some _ = some c := hc
    cases hc; exact .o h
  | @ptr k a h =>
    unfold cont at hc
    simp only at hc
    split at hc
    · rename_i o e
      cases hc
      cases sr.ent k a _ h e with
      | own _ q => exact .o q
    · rename_i x e
      cases hc
      cases sr.ent k a _ h e with
      | frz _ q => exact .d q
    · cases hc
section
variable {K : Kit} {F H : Hp} {c : Co} {v : V}
theorem CoR.items (r : CoR K F H c v) (l : Le F H) {ds : List D} (h : c.items = some ds) : ∃ a vs, v = .ref a ∧ RpAll K F vs ds ∧ (SqL K.K H a vs ∨ SqT K.K H a vs) := by
  cases r with
  | d r =>
    cases r with
    | lst h1 h2 => cases h; exact ⟨_, _, rfl, h2, .inl (l.sl h1)⟩
    | tup h1 h3 h2 => cases h; exact ⟨_, _, rfl, h2, .inr (.inl (.inr ⟨_, l _ _ h1⟩))⟩
    | _ => cases h
  | o r =>
    cases r with
    | lst h1 h2 => cases h; exact ⟨_, _, rfl, h2, .inl (.inl (.inl h1))⟩
    | _ => cases h
theorem CoR.lits (r : CoR K F H c v) (l : Le F H) {ds : List D} (h : c.lits = some ds) : ∃ a vs, v = .ref a ∧ RpAll K F vs ds ∧ SqL K.K H a vs := by
  cases r with
  | d r =>
    cases r with
    | lst h1 h2 => cases h; exact ⟨_, _, rfl, h2, l.sl h1⟩
    | _ => cases h
  | o r =>
    cases r with
    | lst h1 h2 => cases h; exact ⟨_, _, rfl, h2, .inl (.inl h1)⟩
    | _ => cases h
theorem CoR.keyed (r : CoR K F H c v) (l : Le F H) {kvs : List (D × D)} (h : c.keyed = some kvs) : ∃ a, v = .ref a ∧ ((∃ l, H a = some (.dK l) ∧ RpK K F l kvs) ∨ ∃ l, H a = some (.ext (DTE K a l)) ∧ DTok a l ∧ RpT K F l kvs) := by
  cases r with
  | d r =>
    cases r with
    | dK h1 h2 =>
      unfold Co.keyed at h
      simp only at h
      split at h
      · cases h
      · cases h; exact ⟨_, rfl, .inl ⟨_, l _ _ h1, h2⟩⟩
    | dT h1 h3 h2 =>
      unfold Co.keyed at h
      simp only at h
      split at h
      · cases h
      · cases h; exact ⟨_, rfl, .inr ⟨_, l _ _ h1, h3, h2⟩⟩
    | kt _ => simp [Co.keyed, kt, isKt] at h
    | _ => cases h
  | o r =>
    cases r with
    | dK h1 h2 => cases h; exact ⟨_, rfl, .inl ⟨_, h1, h2⟩⟩
    | dT h1 h3 h2 => cases h; exact ⟨_, rfl, .inr ⟨_, h1, h3, h2⟩⟩
    | _ => cases h
theorem CoR.int (r : CoR K F H c v) {i : Int} (h : c.int = some i) : v = .int i := by
  cases r with
  | d r =>
    cases r with
    | int j => cases h; rfl
    | _ => cases h
  | o r => cases h
theorem CoR.bool (r : CoR K F H c v) {i : Bool} (h : c.bool = some i) : v = .bl i := by
  cases r with
  | d r =>
    cases r with
    | bl j => cases h; rfl
    | _ => cases h
  | o r => cases h
mutual
theorem Rp.dp (l : Le F H) : ∀ {d : D} {v : V}, Rp K F v d → d.canLay0 = true → Dp K.K H v d
  | _, _, .non, _ => .non
  | _, _, .bl b, _ => .bl b
  | _, _, .int i, _ => .int i
  | _, _, .str x, _ => .str x
  | _, _, .lst h1 h2, h => .lst (l.sl h1) (RpAll.dp l h2 (by simpa [PyData.canLay0] using h))
  | _, _, .tup h1 h3 h2, h => .tup (.inl (.inr ⟨_, l _ _ h1⟩)) (RpAll.dp l h2 (by simpa [PyData.canLay0] using h))
  | _, _, .kt _, h => by simp [kt, PyData.canLay0] at h
  | _, _, .dK _ _, h => by simp [PyData.canLay0] at h
  | _, _, .dT _ _ _, h => by simp [PyData.canLay0] at h
theorem RpAll.dp (l : Le F H) : ∀ {ds : List D} {vs : List V}, RpAll K F vs ds → PyData.canLayAll0 ds = true → DpAll K.K H vs ds
  | _, _, .nil, _ => .nil
  | _, _, .cons h1 h2, h => by
    rw [PyData.canLayAll0, Bool.and_eq_true] at h
    exact .cons (Rp.dp l h1 h.1) (RpAll.dp l h2 h.2)
end
theorem CoR.dp (r : CoR K F H c v) (l : Le F H) (h : SeqAt.shaped c.dat = true) : Dp K.K H v c.dat := by
  have hl : c.dat.canLay0 = true := by
    unfold SeqAt.shaped at h
    rw [Bool.and_eq_true] at h
    exact h.1
  cases r with
  | d r => exact r.dp l hl
  | o r =>
    cases r with
    | lst h1 h2 => exact .lst (.inl (.inl h1)) (h2.dp l (by simpa [PyData.canLay0, Co.dat, Ob.toD] using hl))
    | dK _ _ => simp [PyData.canLay0, Co.dat, Ob.toD] at hl
    | dT _ _ _ => simp [PyData.canLay0, Co.dat, Ob.toD] at hl
end
end Th
end
section
set_option Elab.async false
set_option linter.all false
set_option maxRecDepth 100000
set_option maxHeartbeats 4000000
namespace Th
open PySem PySem.Spec PyProof.Rows L2
section
variable {X : Cx} {H F : Hp} {A : List Addr} {S S' : Store} {r : RV} {Q : VK}
theorem bit63 {i : Int} (h : i.natAbs < 2 ^ 63) : -(2 ^ 64) < i ∧ i < 2 ^ 64 := by omega
theorem cmul_of {i j : Int} (h : mulOk i j) : CMul i j ∨ CMulW i j := by
  rcases h with (h | h) | ⟨h1, h2⟩
  · exact .inl (.inl (bit63 h))
  · exact .inl (.inr (bit63 h))
  · exact .inr (wide_mul (a := 8000) (b := 8000) h1 h2 (by decide) (by decide) (by decide))
theorem ret_inv {a b : RV} (h : (pure a : M RV) S = .ok b S') : a = b ∧ S = S' := pure_inv h
theorem int_ok (op : Bop) {f : Value → Value → Sem Value} {i j : Int} (sr : StR (kit X) F H A S) (h : intOp op i j S = .ok r S') (hQ : Post (kit X) A F H S' r Q)
    (f0 : ∀ g : Int → Int → Int, (op = .add ∧ g = fun i j => i + j) ∨ (op = .sub ∧ g = fun i j => i - j) ∨ (op = .band ∧ g = Builtin.bitAnd) → OpR X f (rI0 fun i j => .int (g i j)))
    (f1 : op = .mul → OpR X f (rI CMul fun i j => .int (i * j)))
    (f1' : op = .mul → OpR X f (rI CMulW fun i j => .int (i * j)))
    (f2 : op = .fdiv → OpR X f (rI CDivW fun i j => .int (i / j)))
    (f3 : op = .mod → OpR X f (rI (fun _ j => 0 < j) fun i j => .int (i % j)))
    (f4 : op = .pow → OpR X f (rI CPow fun i j => .int (i ^ j.toNat)))
    (f5 : op = .shl → OpR X f (rI CPow fun i j => .int (i * 2 ^ j.toNat)))
    (f6 : op = .shr → OpR X f (rI (fun _ j => 0 ≤ j) fun i j => .int (i / 2 ^ j.toNat))) : WO X f (.int i) (.int j) H Q := by
  cases op with
  | add =>
    obtain ⟨rfl, rfl⟩ := ret_inv h
    exact wo_of (f0 _ (.inl ⟨rfl, rfl⟩)) ⟨i, j, rfl, rfl, hQ.imm sr (.int _)⟩
  | sub =>
    obtain ⟨rfl, rfl⟩ := ret_inv h
    exact wo_of (f0 _ (.inr (.inl ⟨rfl, rfl⟩))) ⟨i, j, rfl, rfl, hQ.imm sr (.int _)⟩
  | band =>
    obtain ⟨rfl, rfl⟩ := ret_inv h
    exact wo_of (f0 _ (.inr (.inr ⟨rfl, rfl⟩))) ⟨i, j, rfl, rfl, hQ.imm sr (.int _)⟩
  | mul =>
    obtain ⟨_, _, h1, h⟩ := bind_inv h
    obtain ⟨hm, rfl⟩ := chk_inv h1
    obtain ⟨rfl, rfl⟩ := ret_inv h
    rcases cmul_of hm with hc | hc
    · exact wo_of (f1 rfl) ⟨i, j, rfl, rfl, hc, hQ.imm sr (.int _)⟩
    · exact wo_of (f1' rfl) ⟨i, j, rfl, rfl, hc, hQ.imm sr (.int _)⟩
  | fdiv =>
    obtain ⟨_, _, h1, h⟩ := bind_inv h
    obtain ⟨hm, rfl⟩ := chk_inv h1
    obtain ⟨rfl, rfl⟩ := ret_inv h
    exact wo_of (f2 rfl) ⟨i, j, rfl, rfl, wide_div (b := 8000) hm.1 hm.2 (by decide) (by decide), hQ.imm sr (.int _)⟩
  | mod =>
    obtain ⟨_, _, h1, h⟩ := bind_inv h
    obtain ⟨hm, rfl⟩ := chk_inv h1
    obtain ⟨rfl, rfl⟩ := ret_inv h
    exact wo_of (f3 rfl) ⟨i, j, rfl, rfl, hm, hQ.imm sr (.int _)⟩
  | pow =>
    obtain ⟨_, _, h1, h⟩ := bind_inv h
    obtain ⟨hm, rfl⟩ := chk_inv h1
    obtain ⟨rfl, rfl⟩ := ret_inv h
    exact wo_of (f4 rfl) ⟨i, j, rfl, rfl, ⟨hm.1, by omega, by omega⟩, hQ.imm sr (.int _)⟩
  | shl =>
    obtain ⟨_, _, h1, h⟩ := bind_inv h
    obtain ⟨hm, rfl⟩ := chk_inv h1
    obtain ⟨rfl, rfl⟩ := ret_inv h
    exact wo_of (f5 rfl) ⟨i, j, rfl, rfl, ⟨hm.1, by omega, by omega⟩, hQ.imm sr (.int _)⟩
  | shr =>
    obtain ⟨_, _, h1, h⟩ := bind_inv h
    obtain ⟨hm, rfl⟩ := chk_inv h1
    obtain ⟨rfl, rfl⟩ := ret_inv h
    exact wo_of (f6 rfl) ⟨i, j, rfl, rfl, hm, hQ.imm sr (.int _)⟩
def bopOf : Bop → Operator
  | .add => .Add | .sub => .Sub | .mul => .Mult | .fdiv => .FloorDiv | .mod => .Mod | .pow => .Pow | .shl => .LShift | .shr => .RShift | .band => .BitAnd
theorem int_bin (op : Bop) {i j : Int} (sr : StR (kit X) F H A S) (h : intOp op i j S = .ok r S') (hQ : Post (kit X) A F H S' r Q) : WO X (binaryOp (bopOf op)) (.int i) (.int j) H Q := by
  refine int_ok op sr h hQ (fun g hg => ?_) ?_ ?_ ?_ ?_ ?_ ?_ ?_
  · rcases hg with ⟨rfl, rfl⟩ | ⟨rfl, rfl⟩ | ⟨rfl, rfl⟩
    · exact op_add
    · exact op_sub
    · exact op_and
  · rintro rfl; exact op_mul
  · rintro rfl; exact op_mulW
  · rintro rfl; exact op_fdivW
  · rintro rfl; exact op_mod
  · rintro rfl; exact op_pow
  · rintro rfl; exact op_shl
  · rintro rfl; exact op_shr
theorem sizeL_eq : sizeL = sizeLine := by rw [sizeLine_eq]; rfl
def NewT (H : Hp) (vs : List V) (Q : VK) : Prop := ∀ (p : Addr) (o : Obj), H p = none → o.dict = none → Q (.ref p) (upd H p (.frz o (.tup vs)))
theorem Post.tup {ds : List D} {vs : List V} (hQ : Post (kit X) A F H S (.imm (.tuple ds)) Q) (sr : StR (kit X) F H A S) (r : RpAll (kit X) F vs ds) : NewT H vs Q := by
  intro p o n hd
  obtain ⟨s2, st⟩ := sr.data (o := .frz o (.tup vs)) n
  exact hQ _ _ _ st s2 (.imm (.tup upd_same hd (r.mono st.le))) fun o a e => by cases e
theorem newT_laid {pins : List (Addr × Obj)} {σ : L2.St} {s : Shared} {vs : List V} {its : List Value} {t' : Nat} (I : Inv X pins σ H s) (r : Vals vs its) (hz : vs.length ≤ sizeLine) (q : NewT H vs Q) :
    EP X pins σ Q (.ref s.heap.objs.size) { s with heap := s.heap.push { cls := .type "tuple", data := .seq its.toArray }, toks := t' } := by
  refine ⟨.ref s.heap.objs.size, _, I.laid (t' := t') (o := .frz { cls := .type "tuple", data := .seq its.toArray } (.tup vs)) (fun b ob z => Heap.get?_push_of_some _ z) (Nat.le_refl _) ?_, rfl, q _ _ (I.hok.fresh (Nat.le_refl _)) rfl⟩
  exact ⟨Heap.get?_push_size _ rfl, hz, its, r, _, Heap.get?_push_size _ rfl, rfl, _, rfl⟩
theorem pe_tupN {es : List Expr} {t : TA} {k : Nat} {pos : Pos} (h : PA X es t) : PE X (.Tuple es k pos) (fun σ H Q => t σ H fun xs H1 => xs.length ≤ sizeLine ∧ NewT H1 xs Q) := by
  refine ⟨fun pins s σ H Q I hq => ?_⟩
  exact wpAny_Tuple_spliced (thn (h.run pos pins s σ H _ I hq) fun us s1 ⟨xs, H1, I1, r, z, q⟩ => ⟨by rw [← r.length]; exact z, newT_laid (t' := s1.toks) I1 r z q⟩)
theorem Post.lst {ds : List D} {vs : List V} {p : Addr} (hQ : Post (kit X) A F H S (.new (.lst ds)) Q) (sr : StR (kit X) F H A S) (r : RpAll (kit X) F vs ds) (n : H p = none) : Q (.ref p) (upd H p (.lst vs)) := by
  obtain ⟨s2, st⟩ := sr.fresh_obj (o := .lst vs) n
  exact hQ _ _ _ st s2 (.new (sr.free n) (sr.fresh n) (.lst upd_same r)) fun o a e e2 => by cases e2; exact n
theorem Post.dic0 {p : Addr} (hQ : Post (kit X) A F H S (.new (.dic [])) Q) (sr : StR (kit X) F H A S) (n : H p = none) : Q (.ref p) (upd H p (.dK [])) := by
  obtain ⟨s2, st⟩ := sr.fresh_obj (o := .dK []) n
  exact hQ _ _ _ st s2 (.new (sr.free n) (sr.fresh n) (.dK upd_same .nil)) fun o a e e2 => by cases e2; exact n
theorem co_tuple {K : Kit} {xs : List D} {v : V} (r : CoR K F H (.d (.tuple xs)) v) (l : Le F H) : ∃ a vs, v = .ref a ∧ RpAll K F vs xs ∧ SqT K.K H a vs ∧ ∃ o, F a = some (.frz o (.tup vs)) ∧ o.dict = none := by
  cases r with
  | d r =>
    cases r with
    | tup h1 h3 h2 => exact ⟨_, _, rfl, h2, .inl (.inr ⟨_, l _ _ h1⟩), _, h1, h3⟩
theorem co_olist {K : Kit} {xs : List D} {v : V} (r : CoR K F H (.o (.lst xs)) v) : ∃ a vs, v = .ref a ∧ RpAll K F vs xs ∧ H a = some (.lst vs) := by
  cases r with
  | o r =>
    cases r with
    | lst h1 h2 => exact ⟨_, _, rfl, h2, h1⟩
theorem co_dint {K : Kit} {i : Int} {v : V} (r : CoR K F H (.d (.int i)) v) : v = .int i := r.int rfl
theorem cat_wo {a b : Addr} {xs ys : List V} (ha : SqT X.K H a xs) (hb : SqT X.K H b ys) (hz : xs.length + ys.length ≤ sizeLine) (q0 : xs = [] → Q (.ref b) H) (q1 : xs ≠ [] → ys = [] → Q (.ref a) H) (q2 : NewT H (xs ++ ys) Q) :
    WO X (binaryOp .Add) (.ref a) (.ref b) H Q := by
  intro pins s σ v u I rx ry
  by_cases hx : xs = [] ∨ ys = []
  · refine op_catA pins s σ H _ _ v u Q I rx ry ⟨a, b, xs, ys, rfl, rfl, ha, hb, hz, q0, q1, fun e e2 => ?_⟩
    exact (hx.elim e e2).elim
  · cases rx
    cases ry
    obtain ⟨i1, r1, p1, _⟩ := I.tuple ha
    obtain ⟨i2, r2, p2, _⟩ := I.tuple hb
    refine HT.cat_tup p1 p2 (fun z => hx (.inl (r1.nil_iff.mp z))) (fun z => (hx (.inr (r2.nil_iff.mp z))).elim) (fun z => ?_) (by rw [← r1.length, ← r2.length]; exact hz)
    exact newT_laid (t' := s.toks) I (r1.append r2) (by rw [List.length_append]; exact hz) q2
theorem tuple_mul1 (l : Addr) (items : Array Value) (n : Nat) (dd : Option Addr) (sl : Array (Option Value)) (x : Int) (u : Tok) (c0 : (decide (x < -(2 ^ 63)) || decide (x ≥ 2 ^ 63)) = false) (c1 : (items.isEmpty || x == 1) = true) :
    Meets (Builtin.«tuple.__mul__» ⟨[.ref l, .int x u], []⟩) (fun _ R s => s.heap.get? l = some { cls := .type "tuple", dict := dd, data := .seq items n, slots := sl } ∧
      R (.ok (.ret (Value.ref l))) s) :=
  .of_wp fun prog w A R s h => by
    obtain ⟨hp, g, d, tk, os⟩ := s
    obtain ⟨hl, h⟩ := h
    have f1 := AutoSeq1.idx_int
    wp_walk using wpAny_loadPart' hl
    repeat (first
      | (refine wpAny_ite_false (decide_eq_false (by rw [c0]; exact Bool.false_ne_true)) ?_; wp_walk using wpAny_loadPart' hl)
      | (refine wpAny_ite_true (decide_eq_true c1) ?_; wp_walk using wpAny_loadPart' hl))
    exact ⟨_, rfl, h⟩
theorem tuple_mul0 (l : Addr) (items : Array Value) (n : Nat) (dd : Option Addr) (sl : Array (Option Value)) (x : Int) (u : Tok) (c0 : (decide (x < -(2 ^ 63)) || decide (x ≥ 2 ^ 63)) = false) (c1 : (items.isEmpty || x == 1) = false) (c2 : (decide (x ≤ 0) || items.isEmpty) = true) :
    Meets (Builtin.«tuple.__mul__» ⟨[.ref l, .int x u], []⟩) (fun _ R s => s.heap.get? l = some { cls := .type "tuple", dict := dd, data := .seq items n, slots := sl } ∧
      R (.ok (.ret (Value.ref s.heap.objs.size))) { s with heap := s.heap.push { cls := Value.type "tuple", data := Data.seq #[] }, toks := s.toks }) :=
  .of_wp fun prog w A R s h => by
    obtain ⟨hp, g, d, tk, os⟩ := s
    obtain ⟨hl, h⟩ := h
    have f1 := AutoSeq1.idx_int
    wp_walk using wpAny_loadPart' hl
    repeat (first
      | (refine wpAny_ite_false (decide_eq_false (by rw [c0]; exact Bool.false_ne_true)) ?_; wp_walk using wpAny_loadPart' hl)
      | (refine wpAny_ite_false (decide_eq_false (by rw [c1]; exact Bool.false_ne_true)) ?_; wp_walk using wpAny_loadPart' hl)
      | (refine wpAny_ite_true (decide_eq_true c2) ?_; wp_walk using wpAny_loadPart' hl))
    exact ⟨_, rfl, h⟩
theorem tup_rep {xs : List D} {vs : List V} {p : Addr} {j : Int} (sr : StR (kit X) F H A S) (hQ : Post (kit X) A F H S (.imm (.tuple (List.replicate j.toNat xs).flatten)) Q) (rp : RpAll (kit X) F vs xs) (tp : SqT X.K H p vs) (tpF : ∃ o, F p = some (.frz o (.tup vs)) ∧ o.dict = none)
    (h1 : j ≤ 1000) (h2 : -1000 ≤ j) (hz : xs.length ≤ 1000) : WO X (binaryOp .Mult) (.ref p) (.int j) H Q := by
  have same : (List.replicate j.toNat xs).flatten = xs → Q (.ref p) H := fun e => by
    rw [e] at hQ
    obtain ⟨o, q1, q2⟩ := tpF
    exact hQ.imm sr (.tup q1 q2 rp)
  have newQ : NewT H (List.replicate j.toNat vs).flatten Q := hQ.tup sr (rp.rep _)
  intro pins s σ v u I rx ry
  cases rx
  obtain ⟨t, rfl⟩ := ry
  obtain ⟨its, r, ⟨⟨cls, dd, data, sl⟩, ho, hc, n, hd⟩, hs⟩ := I.tuple tp
  simp only at hc hd
  subst hc hd
  have hle : its.length = xs.length := by rw [← rp.length]; exact r.length.symm
  have hsz0 : its.toArray.size = xs.length := by rw [List.size_toArray, hle]
  have c0 : (decide (j < -(2 ^ 63)) || decide (j ≥ 2 ^ 63)) = false := by
    rw [decide_eq_false (by omega), decide_eq_false (by omega)] <;> rfl
  have flen : (List.replicate j.toNat its).flatten.length ≤ sizeLine := by
    rw [PyProof.Rows.lm_len_rep_flat, hle, sizeLine_eq]
    have a1 : j.toNat * xs.length ≤ 1000 * 1000 := Nat.mul_le_mul (by omega) hz
    omega
  have vlen : (List.replicate j.toNat vs).flatten.length ≤ sizeLine := by
    rw [PyProof.Rows.lm_len_rep_flat, rp.length, sizeLine_eq]
    have a1 : j.toNat * xs.length ≤ 1000 * 1000 := Nat.mul_le_mul (by omega) hz
    omega
  by_cases hb : (its.toArray.isEmpty || j == 1) = true
  · refine wpAny_binaryOp_repeat_ref (T := "tuple") (U := "int") (by decide) ⟨_, ho, rfl⟩ (fun s' => typeIs_int s' j t) noFill_tuple_mul PySem.F.fills_int_mul PySem.F.slot_int_rmul repeat_tuple PySem.F.slot_int_index.lookup
      (call_meets PySem.F.slot_int_rmul (typeIs_int s j t) PySem.F.entry_int_rmul (PySem.F.args_int_rmul_2 _ _) (int_rmul_tuple j t p its.toArray n dd sl)
        ⟨ho, rfl, ⟨_, ho, rfl⟩, call_meets PySem.F.slot_tuple_mul ⟨_, ho, rfl⟩ PySem.F.entry_tuple_mul (PySem.F.args_tuple_mul_2 _ _) (tuple_mul1 p its.toArray n dd sl j t c0 hb) ⟨ho, ?_⟩⟩)
    refine ⟨.ref p, H, I, rfl, same ?_⟩
    rw [Bool.or_eq_true] at hb
    rcases hb with hb | hb
    · have e : xs = [] := by
        have : its = [] := by
          cases its with
          | nil => rfl
          | cons a b => cases hb
        rw [this] at hle
        exact List.eq_nil_of_length_eq_zero hle.symm
      subst e
      induction j.toNat with
      | zero => rfl
      | succ m ih => rw [List.replicate_succ, List.flatten_cons, ih]; rfl
    · have e : j = 1 := by simpa using hb
      subst e
      simp
  · have c1 : (its.toArray.isEmpty || j == 1) = false := by simpa using hb
    have hne : its ≠ [] := fun e => hb (by rw [e]; rfl)
    by_cases hb2 : (decide (j ≤ 0) || its.toArray.isEmpty) = true
    · refine wpAny_binaryOp_repeat_ref (T := "tuple") (U := "int") (by decide) ⟨_, ho, rfl⟩ (fun s' => typeIs_int s' j t) noFill_tuple_mul PySem.F.fills_int_mul PySem.F.slot_int_rmul repeat_tuple PySem.F.slot_int_index.lookup
        (call_meets PySem.F.slot_int_rmul (typeIs_int s j t) PySem.F.entry_int_rmul (PySem.F.args_int_rmul_2 _ _) (int_rmul_tuple j t p its.toArray n dd sl)
          ⟨ho, rfl, ⟨_, ho, rfl⟩, call_meets PySem.F.slot_tuple_mul ⟨_, ho, rfl⟩ PySem.F.entry_tuple_mul (PySem.F.args_tuple_mul_2 _ _) (tuple_mul0 p its.toArray n dd sl j t c0 c1 hb2) ⟨ho, ?_⟩⟩)
      have hj0 : j ≤ 0 := by
        rw [Bool.or_eq_true] at hb2
        rcases hb2 with h | h
        · exact of_decide_eq_true h
        · cases its with
          | nil => exact absurd rfl hne
          | cons a b => cases h
      have e0 : j.toNat = 0 := by omega
      rw [e0] at newQ
      exact newT_laid (its := []) (t' := s.toks) I .nil (by rw [sizeLine_eq]; decide) newQ
    · have c2 : (decide (j ≤ 0) || its.toArray.isEmpty) = false := by simpa using hb2
      have hj : 1 < j := by
        have h3 := (Bool.or_eq_false_iff.mp c2).1
        have h4 := (Bool.or_eq_false_iff.mp c1).2
        have h5 : ¬ j ≤ 0 := of_decide_eq_false h3
        have h6 : j ≠ 1 := by simpa using h4
        omega
      have hm : ((its.toArray.size : Nat) : Int) * j ≤ 1000000 := by
        rw [hsz0]
        have a1 : ((xs.length : Nat) : Int) * j ≤ 1000 * j := Int.mul_le_mul_of_nonneg_right (by omega) (by omega)
        omega
      have c4 : Builtin.Tuple.tupleTooMany (((its.toArray.size : Nat) : Int) * j) = false := by
        unfold Builtin.Tuple.tupleTooMany
        rw [sizeLine_eq]
        exact decide_eq_false (by omega)
      refine wpAny_binaryOp_repeat_ref (T := "tuple") (U := "int") (by decide) ⟨_, ho, rfl⟩ (fun s' => typeIs_int s' j t) noFill_tuple_mul PySem.F.fills_int_mul PySem.F.slot_int_rmul repeat_tuple PySem.F.slot_int_index.lookup
        (call_meets PySem.F.slot_int_rmul (typeIs_int s j t) PySem.F.entry_int_rmul (PySem.F.args_int_rmul_2 _ _) (int_rmul_tuple j t p its.toArray n dd sl)
          ⟨ho, rfl, ⟨_, ho, rfl⟩, call_meets PySem.F.slot_tuple_mul ⟨_, ho, rfl⟩ PySem.F.entry_tuple_mul (PySem.F.args_tuple_mul_2 _ _) (tuple_mulW p its.toArray n dd sl j t c0 c1 c2 (by omega) c4 (by rw [size_rep, List.size_toArray]; exact flen)) ⟨ho, ?_⟩⟩)
      rw [size_rep]
      exact newT_laid (t' := s.toks) I (r.rep j.toNat) vlen newQ
theorem bin_ok (op : Bop) {x y : RV} {v u : V} (sr : StR (kit X) F H A S) (h : binOp op x y S = .ok r S') (vx : VR (kit X) F H A x v) (vy : VR (kit X) F H A y u) (hQ : Post (kit X) A F H S' r Q) : WO X (binaryOp (bopOf op)) v u H Q := by
  obtain ⟨a, T1, e1, k1⟩ := bind_inv h
  obtain ⟨ha, rfl⟩ := coM_inv e1
  obtain ⟨b, T2, e2, k2⟩ := bind_inv k1
  obtain ⟨hb, rfl⟩ := coM_inv e2
  have ca := vx.co sr ha
  have cb := vy.co sr hb
  clear h k1 e1 e2 ha hb vx vy
  split at k2
  · rw [co_dint ca, co_dint cb]
    exact int_bin op sr k2 hQ
  · rename_i xs ys
    by_cases ho : op = .add
    · rw [if_pos ho] at k2
      subst ho
      obtain ⟨_, _, e3, k3⟩ := bind_inv k2
      obtain ⟨hz, rfl⟩ := chk_inv e3
      obtain ⟨rfl, rfl⟩ := ret_inv k3
      obtain ⟨p, vs, rfl, rp, tp, tpF⟩ := co_tuple ca sr.sub
      obtain ⟨q, us, rfl, rq, tq, tqF⟩ := co_tuple cb sr.sub
      refine cat_wo tp tq (by rw [rp.length, rq.length, ← sizeL_eq]; exact hz) (fun e => ?_) (fun e e2 => ?_) (hQ.tup sr (rp.append rq))
      · have e3 : xs = [] := List.eq_nil_of_length_eq_zero (by rw [← rp.length, e]; rfl)
        subst e3
        obtain ⟨o, q1, q2⟩ := tqF
        exact hQ.imm sr (.tup q1 q2 rq)
      · have e3 : ys = [] := List.eq_nil_of_length_eq_zero (by rw [← rq.length, e2]; rfl)
        subst e3
        rw [List.append_nil] at hQ
        obtain ⟨o, q1, q2⟩ := tpF
        exact hQ.imm sr (.tup q1 q2 rp)
    · rw [if_neg ho] at k2; cases k2
  · rename_i xs ys
    by_cases ho : op = .add
    · rw [if_pos ho] at k2
      subst ho
      obtain ⟨_, _, e3, k3⟩ := bind_inv k2
      obtain ⟨hz, rfl⟩ := chk_inv e3
      obtain ⟨rfl, rfl⟩ := ret_inv k3
      obtain ⟨p, vs, rfl, rp, tp⟩ := co_olist ca
      obtain ⟨q, us, rfl, rq, tq⟩ := co_olist cb
      exact wo_of (op_cat (X := X)) ⟨p, q, vs, us, rfl, rfl, tp, tq, by rw [rp.length, rq.length, ← sizeL_eq]; exact hz, fun z hz => hQ.lst sr (rp.append rq) hz⟩
    · rw [if_neg ho] at k2; cases k2
  · rename_i xs j
    by_cases ho : op = .mul
    · rw [if_pos ho] at k2
      subst ho
      obtain ⟨_, _, e3, k3⟩ := bind_inv k2
      obtain ⟨⟨hj1, hj2, hz⟩, rfl⟩ := chk_inv e3
      obtain ⟨rfl, rfl⟩ := ret_inv k3
      obtain ⟨p, vs, rfl, rp, tp, tpF⟩ := co_tuple ca sr.sub
      rw [co_dint cb]
      exact tup_rep sr hQ rp tp tpF hj1 hj2 hz
    · rw [if_neg ho] at k2; cases k2
  · rename_i xs j
    by_cases ho : op = .mul
    · rw [if_pos ho] at k2
      subst ho
      obtain ⟨_, _, e3, k3⟩ := bind_inv k2
      obtain ⟨⟨hj1, hj2, hz⟩, rfl⟩ := chk_inv e3
      obtain ⟨rfl, rfl⟩ := ret_inv k3
      obtain ⟨p, vs, rfl, rp, tp⟩ := co_olist ca
      rw [co_dint cb]
      refine wo_of (op_rep (X := X)) ⟨p, j, vs, rfl, rfl, tp, by omega, by omega, ?_, fun z hz => hQ.lst sr (rp.rep _) hz⟩
      rw [rp.length, sizeLine_eq]
      have : xs.length * j.toNat ≤ 1000 * 1000 := Nat.mul_le_mul hz (by omega)
      omega
    · rw [if_neg ho] at k2; cases k2
  · cases k2
def copOf : Cop → CmpOp
  | .eq => .Eq | .ne => .NotEq | .lt => .Lt | .le => .LtE | .gt => .Gt | .ge => .GtE | .inn => .In | .notin => .NotIn
theorem Rp.flat {K : Kit} {v : V} {d : D} (r : Rp K F v d) (h : flatD d = true) : flatV v = true := by
  cases r <;> first | rfl | (simp [flatD, Th.kt] at h)
theorem CoR.flat {K : Kit} {c : Co} {v : V} (r : CoR K F H c v) (h : flatD c.dat = true) : flatV v = true ∧ Rp K F v c.dat := by
  cases r with
  | d r => exact ⟨r.flat h, r⟩
  | o r => cases r <;> simp [flatD, Co.dat, Ob.toD] at h
theorem eqV_eqv {K : Kit} {v u : V} {d e : D} (r : Rp K F v d) (q : Rp K F u e) (h : flatD d = true) (h' : flatD e = true) : eqV v u = PyData.eqv d e := by
  cases r <;> (try (simp [flatD, kt] at h)) <;> cases q <;> (try (simp [flatD, kt] at h')) <;> simp [eqV, PyData.eqv]
theorem inV_any {K : Kit} {v : V} {d : D} (r : Rp K F v d) (h : flatD d = true) : ∀ {us : List V} {es : List D}, RpAll K F us es → es.all flatD = true → us.all flatV = true ∧ inV v us = es.any fun y => PyData.eqv y d
  | _, _, .nil, _ => ⟨rfl, rfl⟩
  | _, _, .cons h1 h2, ha => by
    rw [List.all_cons, Bool.and_eq_true] at ha
    obtain ⟨h3, h4⟩ := inV_any r h h2 ha.2
    refine ⟨by rw [List.all_cons, h1.flat ha.1, h3]; rfl, ?_⟩
    unfold inV at h4 ⊢
    rw [List.any_cons, List.any_cons, h4, eqV_eqv h1 r ha.1 h]
theorem keyK {K : Kit} {v : V} {d : D} {i : Int} (r : Rp K F v d) (h : asKey d = some (.inl i)) : d = .int i ∧ v = kV (.inl i) := by
  cases r with
  | int j =>
    have h : some (Sum.inl j) = some (Sum.inl i) := h
    cases h; exact ⟨rfl, rfl⟩
  | tup _ _ _ =>
    unfold asKey at h
    obtain ⟨_, _, e⟩ := Option.map_eq_some_iff.mp h
    cases e
  | _ => cases h
theorem eqv_int (i j : Int) : PyData.eqv (.int i) (.int j) = decide (i = j) := by
  rw [PyData.eqv]; exact Bool.beq_eq_decide_eq i j
theorem eqvAll_ints : ∀ xs ys : List Int, PyData.eqvAll (xs.map .int) (ys.map .int) = decide (xs = ys)
  | [], [] => by simp [PyData.eqvAll]
  | [], _ :: _ => by simp [PyData.eqvAll]
  | _ :: _, [] => by simp [PyData.eqvAll]
  | x :: xs, y :: ys => by
    rw [List.map_cons, List.map_cons, PyData.eqvAll, eqv_int, eqvAll_ints xs ys]
    simp
theorem eqv_ints (xs ys : List Int) : PyData.eqv (.tuple (xs.map .int)) (.tuple (ys.map .int)) = decide (xs = ys) := by
  rw [PyData.eqv, eqvAll_ints]
def eqvN_IT (i : Int) (xs : List D) : PyData.eqv (.int i) (.tuple xs) = false := by rw [PyData.eqv]
def eqvN_TI (i : Int) (xs : List D) : PyData.eqv (.tuple xs) (.int i) = false := by rw [PyData.eqv]
theorem dget_cons (p : D × D) (r : List (D × D)) (k : D) : dget (p :: r) k = if PyData.eqv p.1 k = true then some p.2 else dget r k := by
  unfold dget
  rw [List.find?_cons]
  cases PyData.eqv p.1 k <;> rfl
theorem RpK.get {K : Kit} {i : Int} : ∀ {l : List (Key × V)} {kvs : List (D × D)}, RpK K F l kvs → (dget kvs (.int i) = none ∧ valV l (Sum.inl i) = none) ∨ ∃ d v, dget kvs (.int i) = some d ∧ valV l (Sum.inl i) = some v ∧ Rp K F v d
  | _, _, .nil => .inl ⟨rfl, rfl⟩
  | _, _, @RpK.cons _ _ j v l d kvs h1 h2 => by
    rw [dget_cons]
    simp only [eqv_int]
    by_cases e : j = i
    · subst e
      rw [decide_eq_true rfl, if_pos rfl]
      exact .inr ⟨d, v, rfl, valV_pos rfl, h1⟩
    · rw [decide_eq_false e, if_neg (by decide), valV_neg (fun z => e (Sum.inl.inj z))]
      exact RpK.get h2
theorem RpK.getT {K : Kit} {xs : List D} : ∀ {l : List (Key × V)} {kvs : List (D × D)}, RpK K F l kvs → dget kvs (.tuple xs) = none
  | _, _, .nil => rfl
  | _, _, .cons h1 h2 => by
    rw [dget_cons]
    simp only [eqvN_IT]
    rw [if_neg (by decide)]
    exact RpK.getT h2
theorem map_inl_inj {a b : List Int} (h : (a.map Sum.inl : List Key) = b.map Sum.inl) : a = b :=
  (List.map_inj_right (fun x y e => Sum.inl.inj e)).mp h
theorem RpT.get {K : Kit} {ks : List Int} : ∀ {l : List (List Key × Addr × Value)} {kvs : List (D × D)}, RpT K F l kvs →
    (dget kvs (.tuple (ks.map .int)) = none ∧ atKey l (ks.map Sum.inl) = none) ∨ ∃ d v b u, dget kvs (.tuple (ks.map .int)) = some d ∧ atKey l (ks.map Sum.inl) = some (b, u) ∧ RelV v u ∧ Rp K F v d
  | _, _, .nil => .inl ⟨rfl, rfl⟩
  | _, _, @RpT.cons _ _ js b o u v l d kvs q1 q2 q3 h1 h2 => by
    rw [dget_cons]
    simp only [eqv_ints]
    by_cases e : js = ks
    · subst e
      rw [decide_eq_true rfl, if_pos rfl]
      exact .inr ⟨d, v, b, u, rfl, by simp [atKey], q3, h1⟩
    · rw [decide_eq_false e, if_neg (by decide)]
      have e' : ¬ (js.map Sum.inl : List Key) = ks.map Sum.inl := fun z => e (map_inl_inj z)
      have e2 : atKey (((js.map Sum.inl : List Key), b, u) :: l) (ks.map Sum.inl) = atKey l (ks.map Sum.inl) := by simp [atKey, List.find?_cons, e']
      rw [e2]
      exact RpT.get h2
theorem key_frz {pins : List (Addr × Obj)} {σ : L2.St} {s : Shared} {b : Addr} {o : Obj} {ks : List Int} (I : Inv X pins σ H s) (e : H b = some (.frz o (.tup (ks.map V.int)))) : (tupleKind (mixKind X.prog X.w)).is s.heap (ks.map Sum.inl : List Key) b := by
  obtain ⟨_, _, its, r, o', h1, h2, n, h3⟩ := (show ObjOk X.prog X.w H s.heap b (.frz o (.tup (ks.map V.int))) from I.hok b _ e)
  refine ⟨o', its.toArray, n, h1, h2, h3, ?_⟩
  have r' : Vals ((ks.map Sum.inl : List Key).map kV) its := by
    rw [List.map_map]; exact r
  simpa using items_are r'
theorem RpT.allKeys {pins : List (Addr × Obj)} {σ : L2.St} {s : Shared} (I : Inv X pins σ H s) (l : Le F H) : ∀ {xs : List (List Key × Addr × Value)} {kvs : List (D × D)}, RpT (kit X) F xs kvs → ∀ x ∈ xs, (tupleKind (mixKind X.prog X.w)).is s.heap x.1 x.2.1
  | _, _, .nil, _, hx => nomatch hx
  | _, _, .cons q1 q2 q3 _ h, x, hx => by
    rcases List.mem_cons.mp hx with rfl | hx
    · exact key_frz I (l _ _ q1)
    · exact RpT.allKeys I l h x hx
theorem dt_frz {pins : List (Addr × Obj)} {σ : L2.St} {s : Shared} {a : Addr} {xs : List (List Key × Addr × Value)} {kvs : List (D × D)} (I : Inv X pins σ H s) (l : Le F H) (e : H a = some (.ext (DTE (kit X) a xs))) (ok : DTok a xs) (r : RpT (kit X) F xs kvs) :
    s.heap.DictOfH (tupleKind (mixKind X.prog X.w)) a xs := by
  obtain ⟨⟨o, es, ep, h1, h2, h3, h4⟩, _, _⟩ := (show ObjOk X.prog X.w H s.heap a (.ext (DTE (kit X) a xs)) from I.hok a _ e)
  refine ⟨o, es, ep, h1, h2, h3, h4, ?_, ok.nd⟩
  exact r.allKeys I l
structure DL (X : Cx) (H : Hp) (a : Addr) (y : V) (o : Option V) : Prop where
  ty : ∀ {pins : List (Addr × Obj)} {σ : L2.St} {s : Shared}, Inv X pins σ H s → s.TypeIs (.ref a) "dict"
  get : ∀ {pins : List (Addr × Obj)} {σ : L2.St} {s : Shared} {u : Value} {v : V} {A : Around} {E : Value → Shared → Prop} {Q : Value → Shared → Prop}, A.units + 1 < cLine → Inv X pins σ H s → RelV y u → o = some v → (∀ w' s', Inv X pins σ H s' → RelV v w' → Q w' s') → wpAny (model X.prog X.w) A (getItem (.ref a) u) Q E s
  isin : ∀ {pins : List (Addr × Obj)} {σ : L2.St} {s : Shared} {u : Value} {A : Around} {E : Value → Shared → Prop} {Q : Value → Shared → Prop}, A.units + 1 < cLine → Inv X pins σ H s → RelV y u → (∀ s', Inv X pins σ H s' → Q (.bool o.isSome) s') → wpAny (model X.prog X.w) A (compareOp .In u (.ref a)) Q E s
  notin : ∀ {pins : List (Addr × Obj)} {σ : L2.St} {s : Shared} {u : Value} {A : Around} {E : Value → Shared → Prop} {Q : Value → Shared → Prop}, A.units + 1 < cLine → Inv X pins σ H s → RelV y u → (∀ s', Inv X pins σ H s' → Q (.bool (!o.isSome)) s') → wpAny (model X.prog X.w) A (compareOp .NotIn u (.ref a)) Q E s
  getd : ∀ {pins : List (Addr × Obj)} {σ : L2.St} {s : Shared} {u r : Value} {d : V} {A : Around} {E : Value → Shared → Prop} {Q : Value → Shared → Prop}, A.units + 1 < cLine → Inv X pins σ H s → RelV y u → RelV d r → (∀ w' s', Inv X pins σ H s' → RelV (o.getD d) w' → Q w' s') → wpAny (model X.prog X.w) A (call (.builtin "dict.get") [.ref a, u, r]) Q E s
theorem DL.of {a : Addr} {y : V} {o : Option V} (g : DGet H a y o) : DL X H a y o :=
  ⟨fun I => dict_typeIs I g, fun hu I ry e h => d_getItem hu I (e ▸ g) ry h, fun hu I ry h => d_in hu I g ry h, fun hu I ry h => d_notIn hu I g ry h, fun hu I ry rd h => d_get2 hu I g ry rd h⟩
theorem DL.ofT {a b : Addr} {ob : Obj} {ks : List Int} {xs : List (List Key × Addr × Value)} {kvs : List (D × D)} {o : Option V} (l : Le F H) (e : H a = some (.ext (DTE (kit X) a xs))) (ok : DTok a xs) (r : RpT (kit X) F xs kvs)
    (eb : H b = some (.frz ob (.tup (ks.map V.int)))) (ho : (atKey xs (ks.map Sum.inl) = none ∧ o = none) ∨ ∃ c u v, atKey xs (ks.map Sum.inl) = some (c, u) ∧ o = some v ∧ RelV v u) : DL X H a (.ref b) o := by
  refine ⟨fun I => (dt_frz I l e ok r).typeIs, fun hu I ry e' h => ?_, fun hu I ry h => ?_, fun hu I ry h => ?_, fun hu I ry rd h => ?_⟩
  · cases ry
    rcases ho with ⟨_, q⟩ | ⟨c, u, v, q1, q2, q3⟩
    · rw [q] at e'; cases e'
    · rw [q2] at e'; cases e'
      exact wpAny_getItem_heap (tupleKind_room_in1 hu) (key_frz I eb) (dt_frz I l e ok r) q1 (h u _ (I.tok _) q3)
  · cases ry
    have q : (atKey xs (ks.map Sum.inl : List Key)).isSome = o.isSome := by
      rcases ho with ⟨q1, q2⟩ | ⟨c, u, v, q1, q2, _⟩ <;> rw [q1, q2] <;> rfl
    refine wpAny_in_heap (tupleKind_room_in1 hu) (key_frz I eb) ok.sm (dt_frz I l e ok r) ?_
    rw [q]; exact h _ (I.tok _)
  · cases ry
    have q : (atKey xs (ks.map Sum.inl : List Key)).isSome = o.isSome := by
      rcases ho with ⟨q1, q2⟩ | ⟨c, u, v, q1, q2, _⟩ <;> rw [q1, q2] <;> rfl
    refine wpAny_notIn_heap (tupleKind_room_in1 hu) (key_frz I eb) ok.sm (dt_frz I l e ok r) ?_
    rw [q]; exact h _ (I.tok _)
  · cases ry
    refine call_meetsIn PySem.F.slot_dict_get (dt_frz I l e ok r).typeIs PySem.F.entry_dict_get (PySem.F.args_dict_get_3 _ _ _) (meetsH_dict_get_default (tupleKind (mixKind X.prog X.w)) a b ok.sm _) ⟨tupleKind_room_in1 hu, _, xs, key_frz I eb, dt_frz I l e ok r, h _ _ (I.tok _) ?_⟩
    rcases ho with ⟨q1, q2⟩ | ⟨c, u, v, q1, q2, q3⟩
    · rw [q1, q2]; exact rd
    · rw [q1, q2]; exact q3
theorem fits_inl {kvs : List (D × D)} {d : D} {i : Int} (h : keyFits kvs d = true) (e : asKey d = some (.inl i)) : kvs = [] ∨ ∃ j x r, kvs = (.int j, x) :: r := by
  unfold keyFits at h
  rw [e] at h
  split at h
  · exact .inl rfl
  · exact .inr ⟨_, _, _, rfl⟩
  · rename_i q; cases q
  · cases h
theorem fits_inr {kvs : List (D × D)} {d : D} {ks : List Int} (h : keyFits kvs d = true) (e : asKey d = some (.inr ks)) : ∃ j x r, kvs = (.tuple j, x) :: r := by
  unfold keyFits at h
  rw [e] at h
  split at h
  · rename_i q; cases q
  · rename_i q; cases q
  · exact ⟨_, _, _, rfl⟩
  · cases h
theorem fits_some {kvs : List (D × D)} {d : D} (h : keyFits kvs d = true) : ∃ k, asKey d = some k := by
  unfold keyFits at h
  split at h
  · exact ⟨_, by assumption⟩
  · exact ⟨_, by assumption⟩
  · exact ⟨_, by assumption⟩
  · cases h
theorem keyed_get {c : Co} {v u : V} {d : D} {kvs : List (D × D)} (rc : CoR (kit X) F H c v) (l : Le F H) (hk : c.keyed = some kvs) (ru : Rp (kit X) F u d) (ho : keyFits kvs d = true) :
    ∃ a o, v = .ref a ∧ DL X H a u o ∧ ((dget kvs d = none ∧ o = none) ∨ ∃ e w, dget kvs d = some e ∧ o = some w ∧ Rp (kit X) F w e) := by
  obtain ⟨a, rfl, h⟩ := rc.keyed l hk
  obtain ⟨k, hk⟩ := fits_some ho
  rcases k with i | ks
  · obtain ⟨rfl, rfl⟩ := keyK ru hk
    rcases h with ⟨lk, hr, h⟩ | ⟨lt, hr, hn, h⟩
    · rcases h.get (i := i) with ⟨h1, h2⟩ | ⟨e, w, h1, h2, h3⟩
      · exact ⟨a, _, rfl, .of (.inl ⟨lk, .inl i, .inl hr, rfl, rfl⟩), .inl ⟨h1, h2⟩⟩
      · exact ⟨a, _, rfl, .of (.inl ⟨lk, .inl i, .inl hr, rfl, rfl⟩), .inr ⟨e, w, h1, h2, h3⟩⟩
    · rcases fits_inl ho hk with rfl | ⟨j, x, r, rfl⟩
      · cases h; exact absurd rfl hn.ne
      · cases h
  · cases ru with
    | @tup b ob vs ds h1 h3 h2 =>
      have e0 : (asInts ds).map Sum.inr = some (Sum.inr ks) := hk
      obtain ⟨ns, e1, e2⟩ := Option.map_eq_some_iff.mp e0
      cases e2
      obtain ⟨rfl, rfl⟩ := h2.ints e1
      obtain ⟨j, x, r, rfl⟩ := fits_inr ho hk
      rcases h with ⟨lk, hr, h⟩ | ⟨lt, hr, hn, h⟩
      · cases h
      · rcases h.get (ks := ks) with ⟨q1, q2⟩ | ⟨e, w, c, z, q1, q2, q3, q4⟩
        · exact ⟨a, none, rfl, .ofT l hr hn h (l _ _ h1) (.inl ⟨q2, rfl⟩), .inl ⟨q1, rfl⟩⟩
        · exact ⟨a, some w, rfl, .ofT l hr hn h (l _ _ h1) (.inr ⟨c, z, w, q2, rfl, q3⟩), .inr ⟨e, w, q1, rfl, q4⟩⟩
    | _ => cases hk
theorem CoR.keyv {K : Kit} {c : Co} {v : V} (r : CoR K F H c v) {kvs : List (D × D)} (h : keyFits kvs c.dat = true) : Rp K F v c.dat := by
  obtain ⟨k, hk⟩ := fits_some h
  cases r with
  | d r => exact r
  | o r => cases r <;> cases hk
theorem imm_bool {b : Bool} (hQ : Post (kit X) A F H S (.imm (.bool b)) Q) (sr : StR (kit X) F H A S) : Q (.bl b) H := hQ.imm sr (.bl b)
theorem cmp_ok (op : Cop) {x y : RV} {v u : V} (hu : X.A.units + 64 < cLine) (sr : StR (kit X) F H A S) (h : cmpOp op x y S = .ok r S') (vx : VR (kit X) F H A x v) (vy : VR (kit X) F H A y u) (hQ : Post (kit X) A F H S' r Q) :
    WO X (compareOp (copOf op)) v u H Q := by
  obtain ⟨a, T1, e1, k1⟩ := bind_inv h
  obtain ⟨ha, rfl⟩ := coM_inv e1
  obtain ⟨b, T2, e2, k2⟩ := bind_inv k1
  obtain ⟨hb, rfl⟩ := coM_inv e2
  have ca := vx.co sr ha
  have cb := vy.co sr hb
  clear h k1 e1 e2 ha hb vx vy
  cases op with
  | eq =>
    obtain ⟨_, _, e3, k3⟩ := bind_inv k2
    obtain ⟨⟨h1, h2⟩, rfl⟩ := chk_inv e3
    obtain ⟨rfl, rfl⟩ := ret_inv k3
    exact wo_of (op_eqD hu) ⟨_, _, ca.dp sr.sub h1, cb.dp sr.sub h2, h1, h2, imm_bool hQ sr⟩
  | ne =>
    obtain ⟨_, _, e3, k3⟩ := bind_inv k2
    obtain ⟨⟨h1, h2⟩, rfl⟩ := chk_inv e3
    obtain ⟨rfl, rfl⟩ := ret_inv k3
    exact wo_of (op_neD hu) ⟨_, _, ca.dp sr.sub h1, cb.dp sr.sub h2, h1, h2, imm_bool hQ sr⟩
  | lt =>
    obtain ⟨i, _, e3, k3⟩ := bind_inv k2
    obtain ⟨h1, rfl⟩ := lift_inv e3
    obtain ⟨j, _, e4, k4⟩ := bind_inv k3
    obtain ⟨h2, rfl⟩ := lift_inv e4
    obtain ⟨rfl, rfl⟩ := ret_inv k4
    rw [ca.int h1, cb.int h2]
    exact wo_of (op_lt (X := X)) ⟨i, j, rfl, rfl, imm_bool hQ sr⟩
  | le =>
    obtain ⟨i, _, e3, k3⟩ := bind_inv k2
    obtain ⟨h1, rfl⟩ := lift_inv e3
    obtain ⟨j, _, e4, k4⟩ := bind_inv k3
    obtain ⟨h2, rfl⟩ := lift_inv e4
    obtain ⟨rfl, rfl⟩ := ret_inv k4
    rw [ca.int h1, cb.int h2]
    exact wo_of (op_le (X := X)) ⟨i, j, rfl, rfl, imm_bool hQ sr⟩
  | gt =>
    obtain ⟨i, _, e3, k3⟩ := bind_inv k2
    obtain ⟨h1, rfl⟩ := lift_inv e3
    obtain ⟨j, _, e4, k4⟩ := bind_inv k3
    obtain ⟨h2, rfl⟩ := lift_inv e4
    obtain ⟨rfl, rfl⟩ := ret_inv k4
    rw [ca.int h1, cb.int h2]
    exact wo_of (op_gt (X := X)) ⟨i, j, rfl, rfl, imm_bool hQ sr⟩
  | ge =>
    obtain ⟨i, _, e3, k3⟩ := bind_inv k2
    obtain ⟨h1, rfl⟩ := lift_inv e3
    obtain ⟨j, _, e4, k4⟩ := bind_inv k3
    obtain ⟨h2, rfl⟩ := lift_inv e4
    obtain ⟨rfl, rfl⟩ := ret_inv k4
    rw [ca.int h1, cb.int h2]
    exact wo_of (op_ge (X := X)) ⟨i, j, rfl, rfl, imm_bool hQ sr⟩
  | inn =>
    cases hi : b.items with
    | some xs =>
      simp only [hi] at k2
      obtain ⟨_, _, e3, k3⟩ := bind_inv k2
      obtain ⟨⟨h1, h2⟩, rfl⟩ := chk_inv e3
      obtain ⟨rfl, rfl⟩ := ret_inv k3
      obtain ⟨p, vs, rfl, rp, sq⟩ := cb.items sr.sub hi
      obtain ⟨f1, f2⟩ := ca.flat h1
      obtain ⟨g1, g2⟩ := inV_any f2 h1 rp h2
      refine wo_of (op_in_seq (X := X)) ⟨p, vs, rfl, sq, f1, g1, ?_⟩
      simp only [Bool.false_eq_true, if_false]
      rw [g2]
      exact imm_bool hQ sr
    | none =>
     cases hk : b.keyed with
     | none => simp only [hi, hk] at k2; cases k2
     | some kvs =>
      simp only [hi, hk] at k2
      obtain ⟨_, _, e3, k3⟩ := bind_inv k2
      obtain ⟨h1, rfl⟩ := chk_inv e3
      obtain ⟨rfl, rfl⟩ := ret_inv k3
      obtain ⟨p, o, rfl, g, ho⟩ := keyed_get cb sr.sub hk (ca.keyv h1) h1
      have eo : (dget kvs a.dat).isSome = o.isSome := by
        rcases ho with ⟨q1, rfl⟩ | ⟨e, w, q1, rfl, _⟩ <;> rw [q1] <;> rfl
      rw [eo] at hQ
      intro pins s σ v' u' I rx ry
      cases ry
      exact g.isin (by omega) I rx fun s3 I3 => ⟨.bl o.isSome, H, I3, rfl, imm_bool hQ sr⟩
  | notin =>
    cases hi : b.items with
    | some xs =>
      simp only [hi] at k2
      obtain ⟨_, _, e3, k3⟩ := bind_inv k2
      obtain ⟨⟨h1, h2⟩, rfl⟩ := chk_inv e3
      obtain ⟨rfl, rfl⟩ := ret_inv k3
      obtain ⟨p, vs, rfl, rp, sq⟩ := cb.items sr.sub hi
      obtain ⟨f1, f2⟩ := ca.flat h1
      obtain ⟨g1, g2⟩ := inV_any f2 h1 rp h2
      refine wo_of (op_notIn_seq (X := X)) ⟨p, vs, rfl, sq, f1, g1, ?_⟩
      simp only [if_true]
      rw [g2]
      exact imm_bool hQ sr
    | none =>
     cases hk : b.keyed with
     | none => simp only [hi, hk] at k2; cases k2
     | some kvs =>
      simp only [hi, hk] at k2
      obtain ⟨_, _, e3, k3⟩ := bind_inv k2
      obtain ⟨h1, rfl⟩ := chk_inv e3
      obtain ⟨rfl, rfl⟩ := ret_inv k3
      obtain ⟨p, o, rfl, g, ho⟩ := keyed_get cb sr.sub hk (ca.keyv h1) h1
      have eo : (dget kvs a.dat).isSome = o.isSome := by
        rcases ho with ⟨q1, rfl⟩ | ⟨e, w, q1, rfl, _⟩ <;> rw [q1] <;> rfl
      rw [eo] at hQ
      intro pins s σ v' u' I rx ry
      cases ry
      exact g.notin (by omega) I rx fun s3 I3 => ⟨.bl (!o.isSome), H, I3, rfl, imm_bool hQ sr⟩
end
end Th
end
section
set_option Elab.async false
set_option linter.all false
set_option maxRecDepth 100000
set_option maxHeartbeats 4000000
namespace Th
open PySem PySem.Spec PyProof.Rows L2
def WIx (X : Cx) (x y : V) (H : Hp) (Q : VK) : Prop :=
  ∀ (value slice : Expr) (pins : List (Addr × Obj)) (s : Shared) (σ : L2.St) (v u : Value), Inv X pins σ H s → RelV x v → RelV y u →
    subscripted slice false v u = operate [v, u] (getItem v u) → wpAny (model X.prog X.w) X.A (subscriptTail value slice v u) (EP X pins σ Q) X.xe s
theorem ix_w {X : Cx} : IxR X (fun x y H Q => WIx X x y H Q) := fun value slice pins s σ H x y v u Q I rx ry h hs => h value slice pins s σ v u I rx ry hs
theorem wix_of {X : Cx} {r : R2} (h : IxR X r) {x y : V} {H : Hp} {Q : VK} (ht : r x y H Q) : WIx X x y H Q := fun value slice pins s σ v u I rx ry hs => h value slice pins s σ H x y v u Q I rx ry ht hs
section
variable {X : Cx} {H F : Hp} {A : List Addr} {S S' : Store} {r : RV} {Q : VK}
theorem ix_dict (hu : X.A.units + 1 < cLine) : IxR X (fun x y H Q => ∃ a v, x = .ref a ∧ DL X H a y (some v) ∧ Q v H) := by
  intro value slice pins s σ H x y v u Q I rx ry h hs
  obtain ⟨a, z, rfl, g, q⟩ := h
  cases rx
  have hT := g.ty I
  have hl := PySem.F.slot_dict_getitem.lookup
  unfold subscriptTail
  refine wpAny_bind ?_
  rw [getitemInPython_of_ne hT.not_modules]
  refine wpAny_bind (wpAny_specialOf hT hl ?_)
  have h2 := g.get (A := X.A) (E := X.xe) (Q := EP X pins σ Q) hu I ry rfl fun w' s3 I3 rw' => ⟨z, H, I3, rw', q⟩
  have fin : wpAny (model X.prog X.w) X.A (subscripted slice false (.ref a) u) (fun r s₃ => wpAny (model X.prog X.w) X.A (letTemporaryGo value (.ref a) r >>= fun _ => pure r) (EP X pins σ Q) X.xe s₃) X.xe s := by
    rw [hs]
    exact wpAny_operating (wpAny_mono h2 (fun r s₃ h₃ => wpAny_bind (wpAny_letTemporaryGo (wpAny_pure h₃))) fun _ _ x => x)
  first
    | exact wpAny_pure (wpAny_bind fin)
    | exact wpAny_bind (wpAny_pure (wpAny_bind fin))
    | exact wpAny_bind fin
theorem atI_map {vs : List V} {ds : List D} {i : Int} {d : D} (r : RpAll (kit X) F vs ds) (h : atI ds i = some d) : ∃ v, atI vs i = some v ∧ Rp (kit X) F v d := by
  unfold atI at h ⊢
  rw [r.length]
  cases e : ixN ds.length i with
  | none => rw [e] at h; cases h
  | some j =>
    rw [e] at h
    exact r.get h
theorem co_kt {K : Kit} {c : Co} {v : V} {xs : List D} (r : CoR K F H c v) (h : c.kitems = some xs) : ∃ (a : Addr) (ns : List Int), v = .ref a ∧ KT K a (ns.map V.int) ∧ xs = ns.map .int := by
  cases r with
  | d r =>
    cases r with
    | kt hk =>
      unfold kt Co.kitems at h
      cases h
      exact ⟨_, _, rfl, hk, rfl⟩
    | dK h1 h2 =>
      cases h2 with
      | nil => cases h
      | cons _ _ => cases h
    | dT h1 h3 h2 =>
      cases h2 with
      | nil => cases h
      | cons _ _ _ _ _ => cases h
    | _ => cases h
  | o r => cases h
theorem sub_ok {x y : RV} {v u : V} (hu : X.A.units + 64 < cLine) (sr : StR (kit X) F H A S) (h : subOp x y S = .ok r S') (vx : VR (kit X) F H A x v) (vy : VR (kit X) F H A y u) (hQ : Post (kit X) A F H S' r Q) : WIx X v u H Q := by
  obtain ⟨a, T1, e1, k1⟩ := bind_inv h
  obtain ⟨ha, rfl⟩ := coM_inv e1
  obtain ⟨b, T2, e2, k2⟩ := bind_inv k1
  obtain ⟨hb, rfl⟩ := coM_inv e2
  have ca := vx.co sr ha
  have cb := vy.co sr hb
  clear h k1 e1 e2 ha hb vx vy
  cases hk : a.kitems with
  | some xs =>
    simp only [hk, Option.or] at k2
    obtain ⟨i, _, e3, k3⟩ := bind_inv k2
    obtain ⟨h1, rfl⟩ := lift_inv e3
    obtain ⟨d, _, e4, k4⟩ := bind_inv k3
    obtain ⟨h2, rfl⟩ := lift_inv e4
    obtain ⟨rfl, rfl⟩ := ret_inv k4
    obtain ⟨p, ns, rfl, kp, rfl⟩ := co_kt ca hk
    obtain ⟨w, e5, rw'⟩ := atI_map (X := X) (F := F) (RpAll.of_ints ns) h2
    rw [cb.int h1]
    exact wix_of (ix_tup (X := X)) ⟨p, _, i, w, rfl, rfl, .inr kp, e5, hQ.imm sr rw'⟩
  | none =>
    cases hi : a.items with
    | some xs =>
      simp only [hk, hi, Option.or] at k2
      obtain ⟨i, _, e3, k3⟩ := bind_inv k2
      obtain ⟨h1, rfl⟩ := lift_inv e3
      obtain ⟨d, _, e4, k4⟩ := bind_inv k3
      obtain ⟨h2, rfl⟩ := lift_inv e4
      obtain ⟨rfl, rfl⟩ := ret_inv k4
      obtain ⟨p, vs, rfl, rp, sq⟩ := ca.items sr.sub hi
      obtain ⟨w, e5, rw'⟩ := atI_map rp h2
      rw [cb.int h1]
      rcases sq with sq | sq
      · exact wix_of (ix_list (X := X)) ⟨p, _, i, w, rfl, rfl, sq, e5, hQ.imm sr rw'⟩
      · exact wix_of (ix_tup (X := X)) ⟨p, _, i, w, rfl, rfl, sq, e5, hQ.imm sr rw'⟩
    | none =>
      cases hy : a.keyed with
      | none => simp only [hk, hi, hy, Option.or] at k2; cases k2
      | some kvs =>
        simp only [hk, hi, hy, Option.or] at k2
        obtain ⟨_, _, e3, k3⟩ := bind_inv k2
        obtain ⟨h1, rfl⟩ := chk_inv e3
        obtain ⟨d, _, e4, k4⟩ := bind_inv k3
        obtain ⟨h2, rfl⟩ := lift_inv e4
        obtain ⟨rfl, rfl⟩ := ret_inv k4
        obtain ⟨p, o, rfl, g, ho⟩ := keyed_get ca sr.sub hy (cb.keyv h1) h1
        rcases ho with ⟨q1, _⟩ | ⟨e, w, q1, rfl, q3⟩
        · rw [q1] at h2; cases h2
        · rw [q1] at h2; cases h2
          exact wix_of (ix_dict (by omega)) ⟨p, w, rfl, g, hQ.imm sr q3⟩
theorem cut_map {vs : List V} {ds : List D} {lo hi : Option Int} (r : RpAll (kit X) F vs ds) : RpAll (kit X) F (cutV vs lo hi) (cutD ds lo hi) := by
  unfold cutV cutD
  rw [r.length]
  exact (r.drop _).take _
theorem cut_whole {α : Type} {ds : List α} {lo hi : Option Int} (h : HT.sIx ds.length 0 lo = 0 ∧ HT.sIx ds.length ds.length hi = ds.length) :
    (ds.drop (HT.sIx ds.length 0 lo)).take (HT.sIx ds.length ds.length hi - HT.sIx ds.length 0 lo) = ds := by
  rw [h.1, h.2, List.drop_zero, Nat.sub_zero, List.take_length]
def WSl (X : Cx) (x : V) (lo hi : Option Int) (H : Hp) (Q : VK) : Prop :=
  ∀ (pins : List (Addr × Obj)) (s : Shared) (σ : L2.St) (v vl vu : Value) (sl : Addr), Inv X pins σ H s → RelV x v → s.heap.IsSliceOf sl vl vu .none → IsPart vl lo → IsPart vu hi →
    ∃ T id, typeLookup (.type T) "__getitem__" = pure (some (.builtin id)) ∧ s.TypeIs v T ∧ wpAny (model X.prog X.w) X.A (getItem v (.ref sl)) (EP X pins σ Q) X.xe s
theorem sl_w : SlR X (fun x lo hi H Q => WSl X x lo hi H Q) := fun pins s σ H x v vl vu lo hi sl Q I rx hs pl pu h => h pins s σ v vl vu sl I rx hs pl pu
theorem wsl_of {rr : V → Option Int → Option Int → Hp → VK → Prop} (h : SlR X rr) {x : V} {lo hi : Option Int} (ht : rr x lo hi H Q) : WSl X x lo hi H Q := fun pins s σ v vl vu sl I rx hs pl pu => h pins s σ H x v vl vu lo hi sl Q I rx hs pl pu ht
theorem sl_tupN {a : Addr} {xs : List V} {lo hi : Option Int} (ha : SqT X.K H a xs) (q1 : HT.sIx xs.length 0 lo = 0 ∧ HT.sIx xs.length xs.length hi = xs.length → Q (.ref a) H) (q2 : NewT H (cutV xs lo hi) Q) : WSl X (.ref a) lo hi H Q := by
  intro pins s σ v vl vu sl I rx hs pl pu
  by_cases hw : HT.sIx xs.length 0 lo = 0 ∧ HT.sIx xs.length xs.length hi = xs.length
  · exact sl_tupA pins s σ H _ v vl vu lo hi sl Q I rx hs pl pu ⟨a, xs, rfl, ha, q1, fun n => absurd hw n⟩
  · cases rx
    obtain ⟨its, r, ht, hz⟩ := I.tuple ha
    have hlen : its.toArray.size = xs.length := by rw [List.size_toArray]; exact r.length.symm
    refine ⟨"tuple", _, PyProof.Rows.slot_tuple_getitem.lookup, ht.typeIs, ?_⟩
    refine HT.getItem_tuple_cut ht hs pl pu (by rw [hlen]; exact hw) ?_ (by rw [hlen]; exact hz)
    rw [hlen]
    exact newT_laid (t' := s.toks) I ((r.drop (HT.sIx xs.length 0 lo)).take _) (Nat.le_trans (cutV_length xs lo hi) hz) q2
theorem slc_ok {x : RV} {v : V} {lo hi : Option Int} (sr : StR (kit X) F H A S) (h : slcOp x lo hi S = .ok r S') (vx : VR (kit X) F H A x v) (hQ : Post (kit X) A F H S' r Q) : WSl X v lo hi H Q := by
  obtain ⟨a, T1, e1, k1⟩ := bind_inv h
  obtain ⟨ha, rfl⟩ := coM_inv e1
  have ca := vx.co sr ha
  clear h e1 ha vx
  split at k1
  · rename_i xs
    obtain ⟨rfl, rfl⟩ := ret_inv k1
    obtain ⟨p, vs, rfl, rp, tp, tpF⟩ := co_tuple ca sr.sub
    refine sl_tupN tp (fun e => ?_) (hQ.tup sr (cut_map rp))
    rw [rp.length] at e
    have q : cutD xs lo hi = xs := cut_whole e
    rw [q] at hQ
    obtain ⟨o, q1, q2⟩ := tpF
    exact hQ.imm sr (.tup q1 q2 rp)
  · rename_i xs
    obtain ⟨rfl, rfl⟩ := ret_inv k1
    obtain ⟨p, vs, rfl, rp, sq⟩ := ca.lits sr.sub rfl
    exact wsl_of (sl_list (X := X)) ⟨p, vs, rfl, sq, fun z hz => hQ.lst sr (cut_map rp) hz⟩
  · rename_i xs
    obtain ⟨rfl, rfl⟩ := ret_inv k1
    obtain ⟨p, vs, rfl, rp, sq⟩ := ca.lits sr.sub rfl
    exact wsl_of (sl_list (X := X)) ⟨p, vs, rfl, sq, fun z hz => hQ.lst sr (cut_map rp) hz⟩
  · cases k1
theorem RpAll.flatAll {K : Kit} : ∀ {us : List V} {es : List D}, RpAll K F us es → es.all flatD = true → us.all flatV = true
  | _, _, .nil, _ => rfl
  | _, _, .cons h1 h2, ha => by
    rw [List.all_cons, Bool.and_eq_true] at ha
    rw [List.all_cons, h1.flat ha.1, RpAll.flatAll h2 ha.2]; rfl
theorem minI_spec : ∀ {ns : List Int}, ns ≠ [] → minI ns ∈ ns ∧ ∀ y, y ∈ ns → minI ns ≤ y := by
  have key : ∀ (xs : List Int) (a : Int), (xs.foldl (fun a b => if b < a then b else a) a ∈ a :: xs) ∧ ∀ y, y ∈ a :: xs → xs.foldl (fun a b => if b < a then b else a) a ≤ y := by
    intro xs
    induction xs with
    | nil => intro a; refine ⟨List.mem_cons_self, fun y hy => ?_⟩; simp at hy; rw [hy]; exact Int.le_refl _
    | cons x xs ih =>
      intro a
      rw [List.foldl_cons]
      obtain ⟨h1, h2⟩ := ih (if x < a then x else a)
      have hm : (if x < a then x else a) ≤ a ∧ (if x < a then x else a) ≤ x := by split <;> omega
      refine ⟨?_, fun y hy => ?_⟩
      · rcases List.mem_cons.mp h1 with e | h
        · rw [e]; split <;> simp
        · exact List.mem_cons_of_mem _ (List.mem_cons_of_mem _ h)
      · have h3 := h2 (if x < a then x else a) List.mem_cons_self
        rcases List.mem_cons.mp hy with rfl | hy
        · omega
        · rcases List.mem_cons.mp hy with rfl | hy
          · omega
          · exact h2 y (List.mem_cons_of_mem _ hy)
  intro ns h
  cases ns with
  | nil => exact absurd rfl h
  | cons x xs => exact key xs x
theorem maxI_spec : ∀ {ns : List Int}, ns ≠ [] → maxI ns ∈ ns ∧ ∀ y, y ∈ ns → y ≤ maxI ns := by
  have key : ∀ (xs : List Int) (a : Int), (xs.foldl (fun a b => if b > a then b else a) a ∈ a :: xs) ∧ ∀ y, y ∈ a :: xs → y ≤ xs.foldl (fun a b => if b > a then b else a) a := by
    intro xs
    induction xs with
    | nil => intro a; refine ⟨List.mem_cons_self, fun y hy => ?_⟩; simp at hy; rw [hy]; exact Int.le_refl _
    | cons x xs ih =>
      intro a
      rw [List.foldl_cons]
      obtain ⟨h1, h2⟩ := ih (if x > a then x else a)
      have hm : a ≤ (if x > a then x else a) ∧ x ≤ (if x > a then x else a) := by split <;> omega
      refine ⟨?_, fun y hy => ?_⟩
      · rcases List.mem_cons.mp h1 with e | h
        · rw [e]; split <;> simp
        · exact List.mem_cons_of_mem _ (List.mem_cons_of_mem _ h)
      · have h3 := h2 (if x > a then x else a) List.mem_cons_self
        rcases List.mem_cons.mp hy with rfl | hy
        · omega
        · rcases List.mem_cons.mp hy with rfl | hy
          · omega
          · exact h2 y (List.mem_cons_of_mem _ hy)
  intro ns h
  cases ns with
  | nil => exact absurd rfl h
  | cons x xs => exact key xs x
theorem each_of {K : Kit} : ∀ {ps : List (V × D)} {us : List Value}, Vals (ps.map Prod.fst) us → PySem.W.EachIs (fun u (p : V × D) => RelV p.1 u) us ps
  | [], _, h => by
    rw [List.map_nil] at h
    cases h; exact .nil
  | p :: ps, _, h => by
    rw [List.map_cons] at h
    cases h with
    | cons h1 h2 => exact .cons h1 (each_of (K := K) h2)
theorem vals_of_each : ∀ {ps : List (V × D)} {us : List Value}, PySem.W.EachIs (fun u (p : V × D) => RelV p.1 u) us ps → Vals (ps.map Prod.fst) us
  | [], _, .nil => .nil
  | _ :: _, _, .cons h1 h2 => .cons h1 (vals_of_each h2)
theorem RpAll.pairs {K : Kit} : ∀ {vs : List V} {ds : List D}, RpAll K F vs ds → ∃ ps : List (V × D), ps.map Prod.fst = vs ∧ ps.map Prod.snd = ds ∧ ∀ p ∈ ps, Rp K F p.1 p.2
  | _, _, .nil => ⟨[], rfl, rfl, fun _ h => nomatch h⟩
  | _, _, @RpAll.cons _ _ v vs d ds h1 h2 => by
    obtain ⟨ps, e1, e2, h⟩ := RpAll.pairs h2
    refine ⟨(v, d) :: ps, by rw [List.map_cons, e1], by rw [List.map_cons, e2], fun p hp => ?_⟩
    rcases List.mem_cons.mp hp with rfl | hp
    · exact h1
    · exact h p hp
theorem RpAll.of_pairs {K : Kit} : ∀ {ps : List (V × D)}, (∀ p ∈ ps, Rp K F p.1 p.2) → RpAll K F (ps.map Prod.fst) (ps.map Prod.snd)
  | [], _ => .nil
  | p :: ps, h => .cons (h p List.mem_cons_self) (RpAll.of_pairs fun q hq => h q (List.mem_cons_of_mem _ hq))
theorem alike_lay : ∀ {d e : D}, PySem.W.alike d e = true → SeqAt.shaped d = true ∨ True := fun _ => .inr trivial
mutual
theorem alike_noDict : ∀ {d : D}, PySem.W.alike d d = true → ∀ {K : Kit} {F H : Hp} {v : V}, Le F H → Rp K F v d → Dp K.K H v d
  | _, _, _, _, _, _, _, .non => .non
  | _, _, _, _, _, _, _, .bl b => .bl b
  | _, _, _, _, _, _, _, .int i => .int i
  | _, _, _, _, _, _, _, .str x => .str x
  | _, h, _, _, _, _, l, .lst h1 h2 => .lst (l.sl h1) (alikes_noDict (by simpa [PySem.W.alike] using h) l h2)
  | _, h, _, _, _, _, l, .tup h1 h3 h2 => .tup (.inl (.inr ⟨_, l _ _ h1⟩)) (alikes_noDict (by simpa [PySem.W.alike] using h) l h2)
  | _, h, _, _, _, _, _, .kt _ => by simp [Th.kt, PySem.W.alike] at h
  | _, h, _, _, _, _, _, .dK _ _ => by simp [PySem.W.alike] at h
  | _, h, _, _, _, _, _, .dT _ _ _ => by simp [PySem.W.alike] at h
theorem alikes_noDict : ∀ {ds : List D}, PySem.W.alikeAll ds ds = true → ∀ {K : Kit} {F H : Hp} {vs : List V}, Le F H → RpAll K F vs ds → DpAll K.K H vs ds
  | _, _, _, _, _, _, _, .nil => .nil
  | _, h, _, _, _, _, l, .cons h1 h2 => by
    have q := PySem.W.alike_all_cons h
    exact .cons (alike_noDict q.1 l h1) (alikes_noDict q.2 l h2)
end
theorem sort_ok {vs : List V} {ds : List D} {a : Addr} (hu : X.A.units + 64 < cLine) (sr : StR (kit X) F H A S) (rp : RpAll (kit X) F vs ds) (sq : SqL X.K H a vs) (ho : sortOk ds) (hQ : Post (kit X) A F H S (.new (.lst (sortD ds))) Q) : WC X (.builtin "sorted") [.ref a] H Q := by
  obtain ⟨ps, rfl, rfl, hp⟩ := rp.pairs
  intro pins s σ us I r
  rw [Vals.ref1 r]
  obtain ⟨its, rv, hl, hz⟩ := I.list sq
  obtain ⟨h1, h2, h3⟩ := ho
  have hz' : ps.length ≤ sizeLine := by simpa using hz
  have reads : PySem.W.EachIs (fun v (b : V × D) => ∃ as, Reads s.heap v b.2 as) its ps := by
    have key : ∀ (l : List (V × D)) (us : List Value), (∀ p ∈ l, p ∈ ps) → Vals (l.map Prod.fst) us → PySem.W.EachIs (fun v (b : V × D) => ∃ as, Reads s.heap v b.2 as) us l := by
      intro l
      induction l with
      | nil => intro us _ q; rw [List.map_nil] at q; cases q; exact .nil
      | cons p l ih =>
        intro us hm q
        rw [List.map_cons] at q
        cases q with
        | cons q1 q2 =>
          have m := hm p List.mem_cons_self
          have al : PySem.W.alike p.2 p.2 = true := h1 _ (List.mem_map_of_mem m) _ (List.mem_map_of_mem m)
          exact .cons (Dp.reads I _ _ _ (alike_noDict al sr.sub (hp p m)) q1) (ih _ (fun z hz => hm z (List.mem_cons_of_mem _ hz)) q2)
    exact key ps its (fun _ h => h) rv
  refine PySem.W.sorted_data (bs := ps) (enc := Prod.snd) (R := fun u p => RelV p.1 u) hl.isList (each_of (K := (kit X)) rv) reads h1 h2 hz' (fun b hb => ?_) fun out ho he => ?_
  · have := h3 _ (List.mem_map_of_mem hb)
    omega
  · obtain ⟨c, hc⟩ := sortedAll_at s.heap its out.toArray
    have rv' := vals_of_each he
    have n : H (s.heap.objs.size + 1) = none := I.hok.fresh (Nat.le_succ _)
    have lenE : (ps.mergeSort (PySem.W.dataLe false Prod.snd)).length = ps.length := List.length_mergeSort _
    have e2 : (ps.mergeSort (PySem.W.dataLe false Prod.snd)).map Prod.snd = sortD (ps.map Prod.snd) := by
      unfold sortD
      exact List.map_mergeSort fun a _ b _ => rfl
    have rq : RpAll (kit X) F ((ps.mergeSort (PySem.W.dataLe false Prod.snd)).map Prod.fst) (sortD (ps.map Prod.snd)) := by
      rw [← e2]
      exact RpAll.of_pairs fun p hp' => hp p (List.mem_mergeSort.mp hp')
    exact ⟨.ref (s.heap.objs.size + 1), _, I.laid (t' := s.toks) (o := .lst ((ps.mergeSort (PySem.W.dataLe false Prod.snd)).map Prod.fst)) (fun b ob q => sortedAll_old q) (Nat.le_succ _)
      ⟨by rw [List.length_map, lenE]; exact hz', out, c, rv', hc⟩, rfl, hQ.lst sr rq n⟩
def bval : Bi → Value
  | .len => .builtin "len" | .abs => .builtin "abs" | .int => .type "int" | .max2 => .builtin "max" | .min2 => .builtin "min" | .max1 => .builtin "max" | .min1 => .builtin "min"
  | .sum => .builtin "sum" | .any => .builtin "any" | .all => .builtin "all" | .tuple => .type "tuple" | .list => .type "list" | .sorted => .builtin "sorted"
  | _ => .none
theorem RpK.keys {K : Kit} : ∀ {l : List (Key × V)} {kvs : List (D × D)}, RpK K F l kvs → RpAll K F (l.map fun kv => kV kv.1) (kvs.map (·.1))
  | _, _, .nil => .nil
  | _, _, .cons h1 h2 => .cons (.int _) (RpK.keys h2)
theorem RpK.length {K : Kit} : ∀ {l : List (Key × V)} {kvs : List (D × D)}, RpK K F l kvs → l.length = kvs.length
  | _, _, .nil => rfl
  | _, _, .cons h1 h2 => by rw [List.length_cons, List.length_cons, RpK.length h2]
theorem dp_ints {K : Kit} : ∀ l : List Int, DpAll K.K H (l.map V.int) (l.map PyData.int)
  | [] => .nil
  | x :: l => .cons (.int x) (dp_ints l)
theorem alikeAll_ints (l : List Int) : PySem.W.AlikeAll (l.map PyData.int) := by
  refine ⟨fun x hx y hy => ?_, fun x hx => ?_⟩
  · obtain ⟨i, _, rfl⟩ := List.mem_map.mp hx
    obtain ⟨j, _, rfl⟩ := List.mem_map.mp hy
    simp [PySem.W.alike]
  · obtain ⟨i, _, rfl⟩ := List.mem_map.mp hx
    simp
theorem minI_fold (n : Int) : ∀ ns : List Int, ns.foldl min n = ns.foldl (fun a b => if b < a then b else a) n := by
  intro ns
  induction ns generalizing n with
  | nil => rfl
  | cons x ns ih =>
    rw [List.foldl_cons, List.foldl_cons]
    have e : min n x = if x < n then x else n := by split <;> omega
    rw [e]; exact ih _
theorem maxI_fold (n : Int) : ∀ ns : List Int, ns.foldl max n = ns.foldl (fun a b => if b > a then b else a) n := by
  intro ns
  induction ns generalizing n with
  | nil => rfl
  | cons x ns ih =>
    rw [List.foldl_cons, List.foldl_cons]
    have e : max n x = if x > n then x else n := by split <;> omega
    rw [e]; exact ih _
theorem min_tup_ok (hc : X.calm = true) {ns : List Int} {a : Addr} (hu : X.A.units + 64 < cLine) (sq : SqT X.K H a (ns.map V.int)) (hn : ns ≠ []) (q : Q (.int (minI ns)) H) : WC X (.builtin "min") [.ref a] H Q := by
  intro pins s σ us I r
  rw [Vals.ref1 r]
  obtain ⟨its, rv, ht, hz⟩ := I.tuple sq
  cases ns with
  | nil => exact absurd rfl hn
  | cons n ns =>
    obtain ⟨as, hr⟩ := Dp.readsAll I _ _ _ (dp_ints (K := kit X) (n :: ns)) rv
    refine PySem.W.min_tuple_data (x := .int n) (xs := ns.map .int) (I.ok.hd hc) ht (by simpa using hr) (alikeAll_ints (n :: ns)) ?_ fun i v h' tk bs hv rd hk => ?_
    · have := PySem.W.depth_ints (n :: ns)
      rw [List.map_cons] at this
      rw [this]; omega
    · rw [PySem.W.minD_ints, minI_fold] at rd
      cases rd with
      | int _ t => exact ⟨.int _, H, I.kept hk, ⟨t, rfl⟩, q⟩
theorem max_tup_ok (hc : X.calm = true) {ns : List Int} {a : Addr} (hu : X.A.units + 64 < cLine) (sq : SqT X.K H a (ns.map V.int)) (hn : ns ≠ []) (q : Q (.int (maxI ns)) H) : WC X (.builtin "max") [.ref a] H Q := by
  intro pins s σ us I r
  rw [Vals.ref1 r]
  obtain ⟨its, rv, ht, hz⟩ := I.tuple sq
  cases ns with
  | nil => exact absurd rfl hn
  | cons n ns =>
    obtain ⟨as, hr⟩ := Dp.readsAll I _ _ _ (dp_ints (K := kit X) (n :: ns)) rv
    refine PySem.W.max_tuple_data (x := .int n) (xs := ns.map .int) (I.ok.hd hc) ht (by simpa using hr) (alikeAll_ints (n :: ns)) ?_ fun i v h' tk bs hv rd hk => ?_
    · have := PySem.W.depth_ints (n :: ns)
      rw [List.map_cons] at this
      rw [this]; omega
    · rw [PySem.W.maxD_ints, maxI_fold] at rd
      cases rd with
      | int _ t => exact ⟨.int _, H, I.kept hk, ⟨t, rfl⟩, q⟩
theorem sum_tup_ok (hc : X.calm = true) {ns : List Int} {a : Addr} (sq : SqT X.K H a (ns.map V.int)) (q : Q (.int ns.sum) H) : WC X (.builtin "sum") [.ref a] H Q := by
  intro pins s σ us I r
  rw [Vals.ref1 r]
  obtain ⟨its, rv, ht, hz⟩ := I.tuple sq
  have hi := rv.ints
  obtain ⟨xs, hx⟩ := hi.allInts.items
  have hn : numsOf its.toArray.toList = ns := by rw [show its.toArray.toList = its from rfl, hi.numsOf]
  have ht' : s.heap.IsTuple a its.toArray := ht
  rw [hx] at ht' hn
  rw [nums_intItems] at hn
  refine PySem.W.ktm_sumG (I.ok.hd hc) ht' fun h' tk t' hk => ?_
  rw [preSum_eq, List.take_of_length_le (by simp), hn]
  exact ⟨.int _, H, I.kept hk, ⟨t', rfl⟩, q⟩
theorem vals1 {r : V → Prop} {vs : List V} {K : Kit} {A' : List Addr} {x : RV} (h : VRs K F H A' [x] vs) : ∃ v, vs = [v] ∧ VR K F H A' x v := by
  cases h with
  | cons h1 h2 => cases h2; exact ⟨_, rfl, h1⟩
theorem vals2 {vs : List V} {K : Kit} {A' : List Addr} {x y : RV} (h : VRs K F H A' [x, y] vs) : ∃ v u, vs = [v, u] ∧ VR K F H A' x v ∧ VR K F H A' y u := by
  cases h with
  | cons h1 h2 =>
    cases h2 with
    | cons h3 h4 => cases h4; exact ⟨_, _, rfl, h1, h3⟩
theorem noT {K : Kit} {a : Addr} {l : List (List Key × Addr × Value)} {kvs : List (D × D)} {i : Int} (h : keyFits kvs (.int i) = true) (hn : DTok a l) (rt : RpT K F l kvs) : False := by
  rcases fits_inl h (i := i) rfl with rfl | ⟨j, x, r, rfl⟩
  · cases rt; exact hn.ne rfl
  · cases rt
theorem tuple_wc {a : Addr} {xs : List V} (ha : SqL X.K H a xs) (q : NewT H xs Q) : WC X (.type "tuple") [.ref a] H Q := by
  intro pins s σ us I r
  rw [Vals.ref1 r]
  obtain ⟨its, r', pl, hz⟩ := I.list ha
  refine call_tuple_list pl.isList (fun h' kp => ?_) (by rw [List.size_toArray, ← r'.length]; exact hz)
  have I1 : Inv X pins σ H { s with heap := h' } := I.kept (t' := s.toks) kp
  exact newT_laid (t' := s.toks) I1 r' hz q
theorem bi_ok (f : Bi) {rs : List RV} {vs : List V} (hc : X.calm = true) (hu : X.A.units + 64 < cLine) (sr : StR (kit X) F H A S) (h : biOp f rs S = .ok r S') (vr : VRs (kit X) F H A rs vs) (hQ : Post (kit X) A F H S' r Q)
    (hf : bval f ≠ .none) : WC X (bval f) vs H Q := by
  unfold biOp at h
  split at h
  · -- len
    obtain ⟨v, rfl, vx⟩ := vals1 (r := fun _ => True) vr
    obtain ⟨c, T1, e1, k1⟩ := bind_inv h
    obtain ⟨ha, rfl⟩ := coM_inv e1
    have ca := vx.co sr ha
    cases hi : c.items with
    | some xs =>
      simp only [hi] at k1
      obtain ⟨rfl, rfl⟩ := ret_inv k1
      obtain ⟨p, us, rfl, rp, sq⟩ := ca.items sr.sub hi
      exact wc_of (call_len_seq (X := X)) ⟨p, us, rfl, sq, by rw [rp.length]; exact hQ.imm sr (.int _)⟩
    | none =>
      cases hk : c.keyed with
      | none => simp only [hi, hk] at k1; cases k1
      | some kvs =>
        simp only [hi, hk] at k1
        obtain ⟨_, _, e2, k2⟩ := bind_inv k1
        obtain ⟨hf0, rfl⟩ := chk_inv e2
        obtain ⟨rfl, rfl⟩ := ret_inv k2
        obtain ⟨p, rfl, ⟨l, hr, rk⟩ | ⟨l, hr, hn, rt⟩⟩ := ca.keyed sr.sub hk
        · intro pins s σ us I q
          rw [Vals.ref1 q]
          exact d_len I (.inl hr) fun t s' I' => ⟨.int _, H, I', ⟨t, rfl⟩, by rw [rk.length]; exact hQ.imm sr (.int _)⟩
        · exact (noT hf0 hn rt).elim
  · -- abs
    obtain ⟨v, rfl, vx⟩ := vals1 (r := fun _ => True) vr
    obtain ⟨c, T1, e1, k1⟩ := bind_inv h
    obtain ⟨ha, rfl⟩ := coM_inv e1
    obtain ⟨i, T2, e2, k2⟩ := bind_inv k1
    obtain ⟨hi, rfl⟩ := lift_inv e2
    obtain ⟨rfl, rfl⟩ := ret_inv k2
    rw [(vx.co sr ha).int hi]
    exact wc_of (call_abs (X := X)) ⟨i, rfl, hQ.imm sr (.int _)⟩
  · -- int
    obtain ⟨v, rfl, vx⟩ := vals1 (r := fun _ => True) vr
    obtain ⟨c, T1, e1, k1⟩ := bind_inv h
    obtain ⟨ha, rfl⟩ := coM_inv e1
    obtain ⟨i, T2, e2, k2⟩ := bind_inv k1
    obtain ⟨hi, rfl⟩ := lift_inv e2
    obtain ⟨rfl, rfl⟩ := ret_inv k2
    rw [(vx.co sr ha).int hi]
    exact wc_of (call_int1 (X := X)) (.inl ⟨i, rfl, hQ.imm sr (.int _)⟩)
  · -- max2
    obtain ⟨v, u, rfl, vx, vy⟩ := vals2 vr
    obtain ⟨c, T1, e1, k1⟩ := bind_inv h
    obtain ⟨ha, rfl⟩ := coM_inv e1
    obtain ⟨i, T2, e2, k2⟩ := bind_inv k1
    obtain ⟨hi, rfl⟩ := lift_inv e2
    obtain ⟨c', T3, e3, k3⟩ := bind_inv k2
    obtain ⟨hb, rfl⟩ := coM_inv e3
    obtain ⟨j, T4, e4, k4⟩ := bind_inv k3
    obtain ⟨hj, rfl⟩ := lift_inv e4
    obtain ⟨rfl, rfl⟩ := ret_inv k4
    rw [(vx.co sr ha).int hi, (vy.co sr hb).int hj]
    exact wc_of (call_max2 (X := X) hc) ⟨i, j, rfl, hQ.imm sr (.int _)⟩
  · -- min2
    obtain ⟨v, u, rfl, vx, vy⟩ := vals2 vr
    obtain ⟨c, T1, e1, k1⟩ := bind_inv h
    obtain ⟨ha, rfl⟩ := coM_inv e1
    obtain ⟨i, T2, e2, k2⟩ := bind_inv k1
    obtain ⟨hi, rfl⟩ := lift_inv e2
    obtain ⟨c', T3, e3, k3⟩ := bind_inv k2
    obtain ⟨hb, rfl⟩ := coM_inv e3
    obtain ⟨j, T4, e4, k4⟩ := bind_inv k3
    obtain ⟨hj, rfl⟩ := lift_inv e4
    obtain ⟨rfl, rfl⟩ := ret_inv k4
    rw [(vx.co sr ha).int hi, (vy.co sr hb).int hj]
    exact wc_of (call_min2 (X := X) hc) ⟨i, j, rfl, hQ.imm sr (.int _)⟩
  · -- max1
    obtain ⟨v, rfl, vx⟩ := vals1 (r := fun _ => True) vr
    obtain ⟨c, T1, e1, k1⟩ := bind_inv h
    obtain ⟨ha, rfl⟩ := coM_inv e1
    obtain ⟨xs, T2, e2, k2⟩ := bind_inv k1
    obtain ⟨hi, rfl⟩ := lift_inv e2
    obtain ⟨ns, T3, e3, k3⟩ := bind_inv k2
    obtain ⟨hj, rfl⟩ := lift_inv e3
    obtain ⟨_, T4, e4, k4⟩ := bind_inv k3
    obtain ⟨hn, rfl⟩ := chk_inv e4
    obtain ⟨rfl, rfl⟩ := ret_inv k4
    obtain ⟨p, us, rfl, rp, sq⟩ := (vx.co sr ha).items sr.sub hi
    obtain ⟨rfl, rfl⟩ := rp.ints hj
    rcases sq with sq | sq
    · refine wc_of (cr_max (X := X) hc) ⟨p, ns, rfl, sq, List.length_pos_iff.mpr hn, fun m h1 h2 => ?_⟩
      obtain ⟨g1, g2⟩ := maxI_spec hn
      have e : m = maxI ns := Int.le_antisymm (g2 m h1) (h2 _ g1)
      rw [e]; exact hQ.imm sr (.int _)
    · exact max_tup_ok hc hu sq hn (hQ.imm sr (.int _))
  · -- min1
    obtain ⟨v, rfl, vx⟩ := vals1 (r := fun _ => True) vr
    obtain ⟨c, T1, e1, k1⟩ := bind_inv h
    obtain ⟨ha, rfl⟩ := coM_inv e1
    obtain ⟨xs, T2, e2, k2⟩ := bind_inv k1
    obtain ⟨hi, rfl⟩ := lift_inv e2
    obtain ⟨ns, T3, e3, k3⟩ := bind_inv k2
    obtain ⟨hj, rfl⟩ := lift_inv e3
    obtain ⟨_, T4, e4, k4⟩ := bind_inv k3
    obtain ⟨hn, rfl⟩ := chk_inv e4
    obtain ⟨rfl, rfl⟩ := ret_inv k4
    obtain ⟨p, us, rfl, rp, sq⟩ := (vx.co sr ha).items sr.sub hi
    obtain ⟨rfl, rfl⟩ := rp.ints hj
    rcases sq with sq | sq
    · refine wc_of (cr_min (X := X) hc) ⟨p, ns, rfl, sq, List.length_pos_iff.mpr hn, fun m h1 h2 => ?_⟩
      obtain ⟨g1, g2⟩ := minI_spec hn
      have e : m = minI ns := Int.le_antisymm (h2 _ g1) (g2 m h1)
      rw [e]; exact hQ.imm sr (.int _)
    · exact min_tup_ok hc hu sq hn (hQ.imm sr (.int _))
  · -- sum
    obtain ⟨v, rfl, vx⟩ := vals1 (r := fun _ => True) vr
    obtain ⟨c, T1, e1, k1⟩ := bind_inv h
    obtain ⟨ha, rfl⟩ := coM_inv e1
    obtain ⟨xs, T2, e2, k2⟩ := bind_inv k1
    obtain ⟨hi, rfl⟩ := lift_inv e2
    obtain ⟨ns, T3, e3, k3⟩ := bind_inv k2
    obtain ⟨hj, rfl⟩ := lift_inv e3
    obtain ⟨rfl, rfl⟩ := ret_inv k3
    obtain ⟨p, us, rfl, rp, sq⟩ := (vx.co sr ha).items sr.sub hi
    obtain ⟨rfl, rfl⟩ := rp.ints hj
    rcases sq with sq | sq
    · exact wc_of (cr_sum (X := X) hc) ⟨p, ns, rfl, sq, hQ.imm sr (.int _)⟩
    · exact sum_tup_ok hc sq (hQ.imm sr (.int _))
  · -- any
    obtain ⟨v, rfl, vx⟩ := vals1 (r := fun _ => True) vr
    obtain ⟨c, T1, e1, k1⟩ := bind_inv h
    obtain ⟨ha, rfl⟩ := coM_inv e1
    obtain ⟨xs, T2, e2, k2⟩ := bind_inv k1
    obtain ⟨hi, rfl⟩ := lift_inv e2
    obtain ⟨ns, T3, e3, k3⟩ := bind_inv k2
    obtain ⟨hj, rfl⟩ := lift_inv e3
    obtain ⟨rfl, rfl⟩ := ret_inv k3
    obtain ⟨p, us, rfl, rp, sq⟩ := (vx.co sr ha).lits sr.sub hi
    obtain ⟨rfl, rfl⟩ := rp.bools hj
    exact wc_of (cr_any (X := X) hc) ⟨p, ns, rfl, sq, hQ.imm sr (.bl _)⟩
  · -- all
    obtain ⟨v, rfl, vx⟩ := vals1 (r := fun _ => True) vr
    obtain ⟨c, T1, e1, k1⟩ := bind_inv h
    obtain ⟨ha, rfl⟩ := coM_inv e1
    obtain ⟨xs, T2, e2, k2⟩ := bind_inv k1
    obtain ⟨hi, rfl⟩ := lift_inv e2
    obtain ⟨ns, T3, e3, k3⟩ := bind_inv k2
    obtain ⟨hj, rfl⟩ := lift_inv e3
    obtain ⟨rfl, rfl⟩ := ret_inv k3
    obtain ⟨p, us, rfl, rp, sq⟩ := (vx.co sr ha).lits sr.sub hi
    obtain ⟨rfl, rfl⟩ := rp.bools hj
    exact wc_of (cr_all (X := X) hc) ⟨p, ns, rfl, sq, hQ.imm sr (.bl _)⟩
  · -- tuple
    obtain ⟨v, rfl, vx⟩ := vals1 (r := fun _ => True) vr
    obtain ⟨c, T1, e1, k1⟩ := bind_inv h
    obtain ⟨ha, rfl⟩ := coM_inv e1
    obtain ⟨xs, T2, e2, k2⟩ := bind_inv k1
    obtain ⟨hi, rfl⟩ := lift_inv e2
    obtain ⟨rfl, rfl⟩ := ret_inv k2
    have ca := vx.co sr ha
    by_cases hl : c.lits = some xs
    · obtain ⟨p, us, rfl, rp, sq⟩ := ca.lits sr.sub hl
      exact tuple_wc sq (hQ.tup sr rp)
    · have hd : c = .d (.tuple xs) := by
        unfold Co.items at hi
        split at hi
        · cases hi; exact absurd rfl hl
        · cases hi; exact absurd rfl hl
        · cases hi; rfl
        · cases hi
      subst hd
      obtain ⟨p, us, rfl, rp, tp, tpF⟩ := co_tuple ca sr.sub
      obtain ⟨o, q1, q2⟩ := tpF
      exact wc_of (call_tuple_of (X := X)) ⟨p, us, rfl, .inr ⟨tp, hQ.imm sr (.tup q1 q2 rp)⟩⟩
  · -- list
    obtain ⟨v, rfl, vx⟩ := vals1 (r := fun _ => True) vr
    obtain ⟨c, T1, e1, k1⟩ := bind_inv h
    obtain ⟨ha, rfl⟩ := coM_inv e1
    have ca := vx.co sr ha
    cases hi : c.items with
    | some xs =>
      simp only [hi] at k1
      obtain ⟨rfl, rfl⟩ := ret_inv k1
      obtain ⟨p, us, rfl, rp, sq⟩ := ca.items sr.sub hi
      exact wc_of (call_list_of (X := X)) ⟨p, us, rfl, sq, fun z hz => hQ.lst sr rp hz⟩
    | none =>
      cases hk : c.keyed with
      | none => simp only [hi, hk] at k1; cases k1
      | some kvs =>
        simp only [hi, hk] at k1
        obtain ⟨_, _, e2, k2⟩ := bind_inv k1
        obtain ⟨hf0, rfl⟩ := chk_inv e2
        obtain ⟨rfl, rfl⟩ := ret_inv k2
        obtain ⟨p, rfl, ⟨l, hr, rk⟩ | ⟨l, hr, hn, rt⟩⟩ := ca.keyed sr.sub hk
        · exact wc_of (call_list_dK (X := X) hc) ⟨p, l, rfl, hr, fun z hz => hQ.lst sr rk.keys hz⟩
        · exact (noT hf0 hn rt).elim
  · -- sorted
    obtain ⟨v, rfl, vx⟩ := vals1 (r := fun _ => True) vr
    obtain ⟨c, T1, e1, k1⟩ := bind_inv h
    obtain ⟨ha, rfl⟩ := coM_inv e1
    obtain ⟨xs, T2, e2, k2⟩ := bind_inv k1
    obtain ⟨hi, rfl⟩ := lift_inv e2
    obtain ⟨_, T3, e3, k3⟩ := bind_inv k2
    obtain ⟨ho, rfl⟩ := chk_inv e3
    obtain ⟨rfl, rfl⟩ := ret_inv k3
    obtain ⟨p, us, rfl, rp, sq⟩ := (vx.co sr ha).lits sr.sub hi
    exact sort_ok hu sr rp sq ho hQ
  · exact absurd rfl hf
  · exact absurd rfl hf
  · exact absurd rfl hf
  · exact absurd rfl hf
  · exact absurd rfl hf
  · exact absurd rfl hf
  · exact absurd rfl hf
  · cases h
end
end Th
end
section
set_option Elab.async false
set_option linter.all false
set_option maxRecDepth 100000
set_option maxHeartbeats 4000000
namespace Th
open PySem PySem.Spec PyProof.Rows L2
section
variable {K : Kit} {A : List Addr} {F H F0 H0 : Hp} {S S' : Store}
theorem frz_ok {r : RV} {d : D} {v : V} (h : frzM r S = .ok d S') (sr : StR K F H A S) (vr : VR K F H A r v) (st : Stp A F0 H0 F H) (nw : ∀ o a, r = .new o → v = .ref a → H0 a = none) :
    ∃ F', StR K F' H A S' ∧ Stp A F0 H0 F' H ∧ Le F F' ∧ Rp K F' v d ∧ ∀ b, F b = none → F' b ≠ none → v = .ref b ∧ (b ∈ A ∨ ∃ o, r = .new o) := by
  unfold frzM at h
  cases vr with
  | imm q =>
    simp only at h
    cases h
    exact ⟨F, sr, st, Le.refl F, q, fun b e n => absurd e n⟩
  | @new o a h1 h2 h3 =>
    simp only at h
    cases h
    obtain ⟨u, hu⟩ : ∃ u, H a = some u := by
      cases e : H a with
      | none => exact absurd e h3.there
      | some u => exact ⟨u, rfl⟩
    obtain ⟨s2, rp, le⟩ := sr.seal_new h1 h2 h3 hu
    refine ⟨_, s2, ⟨st.le.trans le, st.fr, fun b f hb nb => ?_⟩, le, rp, fun b e n => ?_⟩
    · have ne : b ≠ a := by
        intro z; subst z; exact hb (nw o b rfl rfl)
      rw [upd_ne ne]; exact st.ff b f hb nb
    · by_cases q : b = a
      · subst q; exact ⟨rfl, .inr ⟨o, rfl⟩⟩
      · rw [upd_ne q] at n; exact absurd e n
  | @ptr k a hk =>
    simp only at h
    split at h
    · rename_i o e
      cases h
      obtain ⟨u, hu⟩ : ∃ u, H a = some u := by
        cases e' : H a with
        | none => exact absurd e' (sr.there (List.mem_of_getElem? hk))
        | some u => exact ⟨u, rfl⟩
      obtain ⟨s2, st2, rp⟩ := sr.freeze hk e hu
      refine ⟨_, s2, st.trans st2, st2.le, rp, fun b e n => ?_⟩
      by_cases q : b = a
      · subst q; exact ⟨rfl, .inl (List.mem_of_getElem? hk)⟩
      · rw [upd_ne q] at n; exact absurd e n
    · rename_i x e
      cases h
      cases sr.ent k a _ hk e with
      | frz _ q => exact ⟨F, sr, st, Le.refl F, q, fun b e n => absurd e n⟩
    · cases h
theorem VRs.length : ∀ {rs : List RV} {vs : List V}, VRs K F H A rs vs → rs.length = vs.length
  | _, _, .nil => rfl
  | _, _, .cons _ h => by rw [List.length_cons, List.length_cons, VRs.length h]
theorem VRs.get : ∀ {rs : List RV} {vs : List V} {j : Nat} {r : RV}, VRs K F H A rs vs → rs[j]? = some r → ∃ v, vs[j]? = some v ∧ VR K F H A r v
  | _, _, _, _, .nil, e => by simp at e
  | _, _, 0, _, .cons h _, e => by
    have e : some _ = some _ := e
    cases e; exact ⟨_, rfl, h⟩
  | _, _, j + 1, _, .cons _ h, e => by
    obtain ⟨v, h1, h2⟩ := VRs.get (j := j) h (by simpa using e)
    exact ⟨v, by simpa using h1, h2⟩
theorem VRs.grow {F' : Hp} (le : Le F F') : ∀ {rs : List RV} {vs : List V}, VRs K F H A rs vs → (∀ (j : Nat) (o : Ob) (a : Addr), rs[j]? = some (.new o) → vs[j]? = some (.ref a) → F' a = none) → VRs K F' H A rs vs
  | _, _, .nil, _ => .nil
  | _, _, .cons (r := r) (v := v) h1 h2, hn => by
    refine .cons ?_ (VRs.grow le h2 fun j o a e1 e2 => hn (j + 1) o a (by simpa using e1) (by simpa using e2))
    cases h1 with
    | imm q => exact .imm (q.mono le)
    | ptr q => exact .ptr q
    | new q1 q2 q3 => exact .new (hn 0 _ _ rfl rfl) q2 (q3.mono le rfl)
theorem frzs_ok : ∀ {rs : List RV} {ds : List D} {vs : List V} {S S' : Store} {F : Hp}, frzs rs S = .ok ds S' → StR K F H A S → VRs K F H A rs vs → Stp A F0 H0 F H → News H0 rs vs →
    ∃ F', StR K F' H A S' ∧ Stp A F0 H0 F' H ∧ Le F F' ∧ RpAll K F' vs ds
  | [], _, _, _, _, F, h, sr, .nil, st, _ => by
    obtain ⟨rfl, rfl⟩ := pure_inv h
    exact ⟨F, sr, st, Le.refl F, .nil⟩
  | r :: rs, _, _, _, _, F, h, sr, .cons (v := v) h1 h2, st, .cons n1 n2 => by
    obtain ⟨d, S1, e1, k1⟩ := bind_inv h
    obtain ⟨ds, S2, e2, k2⟩ := bind_inv k1
    obtain ⟨rfl, rfl⟩ := pure_inv k2
    obtain ⟨F1, s1, st1, le1, rp1, only⟩ := frz_ok e1 sr h1 st fun o a e e' => (n1 o a e e').1
    have g : VRs K F1 H A rs _ := h2.grow le1 fun j o a q1 q2 => by
      cases q : F1 a with
      | none => rfl
      | some u =>
        obtain ⟨w, w1, w2⟩ := h2.get q1
        rw [q2] at w1; cases w1
        cases w2 with
        | new z1 z2 z3 =>
          obtain ⟨ev, hm⟩ := only a z1 (by rw [q]; simp)
          rcases hm with hm | ⟨o', rfl⟩
          · exact absurd hm z2
          · exact ((n1 o' a rfl ev).2 j o q1 q2).elim
    obtain ⟨F2, s2, st2, le2, rp2⟩ := frzs_ok e2 s1 g st1 n2
    exact ⟨F2, s2, st2, le1.trans le2, .cons (rp1.mono le2) rp2⟩
theorem News.back {F1 H1 F2 H2 : Hp} (st : Stp A F H F1 H1) : ∀ {rs : List RV} {vs : List V}, VRs K F2 H2 A rs vs → News H1 rs vs → News H rs vs
  | _, _, .nil, .nil => .nil
  | _, _, .cons h1 h2, .cons n1 n2 => by
    refine .cons (fun o a e e' => ?_) (News.back st h2 n2)
    obtain ⟨q1, q2⟩ := n1 o a e e'
    refine ⟨?_, q2⟩
    subst e e'
    cases h1 with
    | new _ hA _ =>
      cases q : H a with
      | none => rfl
      | some u =>
        have := st.fr a (by rw [q]; simp) hA
        rw [q1, q] at this; cases this
theorem News.at_ : ∀ {rs : List RV} {vs : List V} {j : Nat} {o : Ob} {a : Addr}, News H rs vs → rs[j]? = some (.new o) → vs[j]? = some (.ref a) → H a = none
  | _, _, _, _, _, .nil, e, _ => by simp at e
  | _, _, 0, o, a, .cons n1 _, e, e' => by
    have e : some _ = some _ := e
    have e' : some _ = some _ := e'
    cases e; cases e'
    exact (n1 o a rfl rfl).1
  | _, _, j + 1, _, _, .cons _ n2, e, e' => News.at_ (j := j) n2 (by simpa using e) (by simpa using e')
inductive ArgR (K : Kit) (F H : Hp) : List Arg → List V → List Addr → Prop
  | nil : ArgR K F H [] [] []
  | imm {d : D} {v : V} {as : List Arg} {vs : List V} {B : List Addr} : Rp K F v d → ArgR K F H as vs B → ArgR K F H (.imm d :: as) (v :: vs) B
  | mut {o : Ob} {a : Addr} {as : List Arg} {vs : List V} {B : List Addr} : F a = none → ObR K F H a o → ArgR K F H as vs B → ArgR K F H (.mut o :: as) (.ref a :: vs) (a :: B)
def spF (K : Kit) (φ : Fn) : Sp := fun vs H Q _ => ∃ (as : List Arg) (F : Hp) (B : List Addr) (r : RV) (outs : Store), φ as = .ok r outs ∧ ArgR K F H as vs B ∧ B.Nodup ∧ Le F H ∧
  ∀ v H' F', Stp B F H F' H' → StR K F' H' B outs → VR K F' H' B r v → (∀ o a, r = .new o → v = .ref a → H a = none) → Q v H'
theorem args_ok (sr : StR K F H A S) : ∀ {rs : List RV} {vs : List V} {as : List Arg}, mkArgs S rs = some as → VRs K F H A rs vs → (ownPtrs S rs).Nodup → News H0 rs vs →
    ∃ B, ArgR K F H as vs B ∧ (∀ b ∈ B, (∃ k, k ∈ ownPtrs S rs ∧ A[k]? = some b) ∨ ∃ (j : Nat) (o : Ob), rs[j]? = some (.new o) ∧ vs[j]? = some (.ref b) ∧ b ∉ A) ∧ B.Nodup ∧
      ∀ (acc S2 : Store) (outs : Store) (F' H' : Hp), backArgs S rs outs acc = some S2 → acc.length = S.length → (∀ (j : Nat) (b : Addr) (e : Ent), B[j]? = some b → outs[j]? = some e → EntR K F' H' b e) → B.length = outs.length →
        (∀ (k : Nat) (b : Addr) (e : Ent), k ∉ ownPtrs S rs → A[k]? = some b → acc[k]? = some e → EntR K F' H' b e) →
        S2.length = S.length ∧ ∀ (k : Nat) (b : Addr) (e : Ent), A[k]? = some b → S2[k]? = some e → EntR K F' H' b e
  | [], _, _, h, .nil, _, _ => by
    have h : some [] = some _ := h
    cases h
    refine ⟨[], .nil, (fun b hb => nomatch hb), .nil, fun acc S2 outs F' H' hb hl ho hlen ha => ?_⟩
    cases outs with
    | nil =>
      have hb : some acc = some S2 := hb
      cases hb
      exact ⟨hl, fun k b e q1 q2 => ha k b e (by simp [ownPtrs]) q1 q2⟩
    | cons _ _ => simp at hlen
  | r :: rs, _, _, h, .cons (v := v) (vs := vs) h1 h2, hnd, .cons n1 n2 => by
    have h : (mkArg r S).bind (fun a => (mkArgs S rs).map (a :: ·)) = some _ := h
    obtain ⟨a, e1, h⟩ := Option.bind_eq_some_iff.mp h
    obtain ⟨as, e2, rfl⟩ := Option.map_eq_some_iff.mp h
    cases h1 with
    | imm q =>
      have e1 : some _ = some _ := e1
      cases e1
      obtain ⟨B, ar, hB, nd, hb⟩ := args_ok sr e2 h2 hnd n2
      refine ⟨B, .imm q ar, fun b hb => ?_, nd, fun acc S2 outs F' H' hk => hb acc S2 outs F' H' ?_⟩
      · rcases hB b hb with ⟨k, q1, q2⟩ | ⟨j, o, q1, q2, q3⟩
        · exact .inl ⟨k, q1, q2⟩
        · exact .inr ⟨j + 1, o, by simpa using q1, by simpa using q2, q3⟩
      · unfold backArgs at hk; exact hk
    | @new o a q1 q2 q3 =>
      have e1 : some _ = some _ := e1
      cases e1
      obtain ⟨B, ar, hB, nd, hb⟩ := args_ok sr e2 h2 hnd n2
      refine ⟨a :: B, .mut q1 q3 ar, fun b hb => ?_, List.nodup_cons.mpr ⟨fun hm => ?_, nd⟩, fun acc S2 outs F' H' hk hl ho hlen ha => ?_⟩
      · rcases List.mem_cons.mp hb with rfl | hb
        · exact .inr ⟨0, o, rfl, rfl, q2⟩
        · rcases hB b hb with ⟨k, q1, q2⟩ | ⟨j, o, q1, q2, q3⟩
          · exact .inl ⟨k, q1, q2⟩
          · exact .inr ⟨j + 1, o, by simpa using q1, by simpa using q2, q3⟩
      · rcases hB a hm with ⟨k, z1, z2⟩ | ⟨j, o', z1, z2, z3⟩
        · exact q2 (List.mem_of_getElem? z2)
        · exact (n1 o a rfl rfl).2 j o' z1 z2
      · cases outs with
        | nil => simp at hlen
        | cons e es =>
          unfold backArgs at hk
          exact hb acc S2 es F' H' hk hl (fun j b e' z1 z2 => ho (j + 1) b e' (by simpa using z1) (by simpa using z2)) (by simpa using hlen) ha
    | @ptr k a q =>
      unfold mkArg at e1
      simp only at e1
      split at e1
      · rename_i o e
        cases e1
        have hop : ownPtrs S (.ptr k :: rs) = k :: ownPtrs S rs := by
          conv => lhs; unfold ownPtrs
          simp only [e]
        rw [hop] at hnd
        obtain ⟨nk, hnd⟩ := List.nodup_cons.mp hnd
        obtain ⟨B, ar, hB, nd, hb⟩ := args_ok sr e2 h2 hnd n2
        cases sr.ent k a _ q e with
        | own z1 z2 =>
          refine ⟨a :: B, .mut z1 z2 ar, fun b hb => ?_, List.nodup_cons.mpr ⟨fun hm => ?_, nd⟩, fun acc S2 outs F' H' hk hl ho hlen ha => ?_⟩
          · rw [hop]
            rcases List.mem_cons.mp hb with rfl | hb
            · exact .inl ⟨k, List.mem_cons_self, q⟩
            · rcases hB b hb with ⟨k, q1, q2⟩ | ⟨j, o, q1, q2, q3⟩
              · exact .inl ⟨k, List.mem_cons_of_mem _ q1, q2⟩
              · exact .inr ⟨j + 1, o, by simpa using q1, by simpa using q2, q3⟩
          · rcases hB a hm with ⟨k', y1, y2⟩ | ⟨j, o', y1, y2, y3⟩
            · have : k' = k := by
                obtain ⟨l1, e1⟩ := List.getElem?_eq_some_iff.mp y2
                obtain ⟨l2, e2⟩ := List.getElem?_eq_some_iff.mp q
                exact (List.getElem_inj sr.nd).mp (e1.trans e2.symm)
              subst this
              exact nk y1
            · exact y3 (List.mem_of_getElem? q)
          · cases outs with
            | nil => simp at hlen
            | cons e' es =>
              unfold backArgs at hk
              simp only [e] at hk
              refine hb (acc.set k e') S2 es F' H' hk (by rw [List.length_set]; exact hl) (fun j b e'' z1 z2 => ho (j + 1) b e'' (by simpa using z1) (by simpa using z2)) (by simpa using hlen) fun k2 b e2 y1 y2 y3 => ?_
              by_cases hk2 : k2 = k
              · subst hk2
                rw [q] at y2; cases y2
                have hlt : k2 < acc.length := by
                  rw [hl, ← sr.len]; exact (List.getElem?_eq_some_iff.mp q).1
                rw [List.getElem?_set_self hlt] at y3
                cases y3
                exact ho 0 a e' rfl rfl
              · rw [List.getElem?_set_ne (Ne.symm hk2)] at y3
                refine ha k2 b e2 ?_ y2 y3
                rw [hop]
                intro hm
                rcases List.mem_cons.mp hm with z | z
                · exact hk2 z
                · exact y1 z
      · rename_i x e
        cases e1
        have hop : ownPtrs S (.ptr k :: rs) = ownPtrs S rs := by
          conv => lhs; unfold ownPtrs
          simp only [e]
        rw [hop] at hnd
        obtain ⟨B, ar, hB, nd, hb⟩ := args_ok sr e2 h2 hnd n2
        cases sr.ent k a _ q e with
        | frz z1 z2 =>
          refine ⟨B, .imm z2 ar, fun b hb => ?_, nd, fun acc S2 outs F' H' hk hl ho hlen ha => ?_⟩
          · rw [hop]
            rcases hB b hb with ⟨k, q1, q2⟩ | ⟨j, o, q1, q2, q3⟩
            · exact .inl ⟨k, q1, q2⟩
            · exact .inr ⟨j + 1, o, by simpa using q1, by simpa using q2, q3⟩
          · unfold backArgs at hk
            simp only [e] at hk
            exact hb acc S2 outs F' H' hk hl ho hlen fun k2 b e2 y1 y2 y3 => ha k2 b e2 (by rw [hop]; exact y1) y2 y3
      · cases e1
theorem call_ok {φ : Fn} {rs : List RV} {vs : List V} {r : RV} {Q : VK} {E : XK} (h : callM φ rs S = .ok r S') (sr : StR K F H A S) (vr : VRs K F H A rs vs) (st : Stp A F0 H0 F H) (nw : News H0 rs vs) (hQ : Post K A F0 H0 S' r Q) : spF K φ vs H Q E := by
  unfold callM at h
  split at h
  · cases h
  · rename_i as ha
    split at h
    · rename_i hnd
      split at h
      · rename_i r0 outs hφ
        split at h
        · rename_i S1 hb
          obtain ⟨B, ar, hB, nd, back⟩ := args_ok sr ha vr hnd nw
          have hr : r0 = r ∧ S1 = S' ∧ ∀ k, r0 ≠ .ptr k := by
            split at h
            · cases h
            · rename_i hne
              cases h
              exact ⟨rfl, rfl, fun k e => hne k e⟩
          obtain ⟨rfl, rfl, hp⟩ := hr
          have inB : ∀ b ∈ B, b ∈ A ∨ H0 b = none := fun b hb => by
            rcases hB b hb with ⟨k, _, z⟩ | ⟨j, o, z1, z2, z3⟩
            · exact .inl (List.mem_of_getElem? z)
            · exact .inr (nw.at_ z1 z2)
          refine ⟨as, F, B, r0, outs, hφ, ar, nd, sr.sub, fun v H' F' st2 sr2 vr2 nw2 => ?_⟩
          have stp : Stp A F0 H0 F' H' := by
            refine ⟨st.le.trans st2.le, fun b hb nb => ?_, fun b f hb nb => ?_⟩
            · have e1 := st.fr b hb nb
              rw [st2.fr b (by rw [e1]; exact hb) fun m => (inB b m).elim nb hb, e1]
            · exact st2.ff b (st.ff b f hb nb) (by rw [st.fr b hb nb]; exact hb) fun m => (inB b m).elim nb hb
          obtain ⟨hl, hent⟩ := back S S1 outs F' H' hb rfl sr2.ent sr2.len fun k b e y1 y2 y3 => by
            have m : b ∈ A := List.mem_of_getElem? y2
            have nB : b ∉ B := fun hm => by
              rcases hB b hm with ⟨k', z1, z2⟩ | ⟨j, o, z1, z2, z3⟩
              · have : k' = k := by
                  obtain ⟨l1, e1⟩ := List.getElem?_eq_some_iff.mp z2
                  obtain ⟨l2, e2⟩ := List.getElem?_eq_some_iff.mp y2
                  exact (List.getElem_inj sr.nd).mp (e1.trans e2.symm)
                subst this
                exact y1 z1
              · exact z3 m
            have hh := sr.there m
            cases sr.ent k b e y2 y3 with
            | own z1 z2 => exact .own (st2.ff b z1 hh nB) (z2.mono st2.le (st2.fr b hh nB))
            | frz z1 z2 =>
              refine .frz ?_ (z2.mono st2.le)
              intro z
              cases q : F b with
              | none => exact z1 q
              | some o => rw [st2.le b o q] at z; cases z
          have s3 : StR K F' H' A S1 := ⟨sr2.sub, sr.nd, by rw [hl]; exact sr.len, hent⟩
          refine hQ v H' F' stp s3 ?_ fun o a e1 e2 => ?_
          · cases vr2 with
            | imm q => exact .imm q
            | ptr _ => exact absurd rfl (hp _)
            | new q1 q2 q3 => exact .new q1 (fun m => sr.there m (nw2 _ _ rfl rfl)) q3
          · have hn := nw2 o a e1 e2
            have nA : a ∉ A := fun m => sr.there m hn
            cases q : H0 a with
            | none => rfl
            | some u =>
              have := st.fr a (by rw [q]; simp) nA
              rw [hn, q] at this; cases this
        · cases h
      · split at h <;> cases h
      · cases h
    · cases h
end
end Th
end
section
set_option Elab.async false
set_option linter.all false
set_option maxRecDepth 100000
set_option maxHeartbeats 4000000
namespace Th
open PySem PySem.Spec PyProof.Rows L2
def plainE : Expr → Bool
  | .Starred .. => false
  | .Slice .. => false
  | .Set .. => false
  | .NamedExpr .. => false
  | .GeneratorExp .. => false
  | .SetComp .. => false
  | .DictComp .. => false
  | _ => true
def isSuper : Expr → Bool
  | .Call (.Name id _) [] [] _ => id == ("super" : Str)
  | _ => false
theorem star_of {e : Expr} (h : plainE e = true) (es : List Expr) (env : PySem.Env) : starEach (e :: es) env = (false, eval e env) :: starEach es env := by
  cases e <;> first | rfl | (cases h)
theorem stars_of : ∀ {es : List Expr}, es.all plainE = true → ∀ (env : PySem.Env) (pos : Pos), (backTo pos (starEach es env)).any (·.1) = false
  | [], _, _, _ => rfl
  | e :: es, h, env, pos => by
    rw [List.all_cons, Bool.and_eq_true] at h
    rw [star_of h.1]
    show (false || (backTo pos (starEach es env)).any (·.1)) = false
    rw [stars_of h.2, Bool.false_or]
theorem mark_of {e : Expr} (h : plainE e = true) (op : CmpOp) : behindInMarks op e = false := by
  cases e <;> first | rfl | (cases h)
theorem ix_of {e : Expr} (h : plainE e = true) : PlainIx e := by
  intro o i
  cases e <;> first | rfl | (cases h)
theorem base_of {e : Expr} (h : isSuper e = false) (attr : Str) (env : PySem.Env) : attributeBase e attr env (eval e env) = eval e env := by
  unfold attributeBase
  split
  · rename_i id pos p
    have h : (id == ("super" : Str)) = false := h
    have h2 : (id != ("super" : Str)) = true := by rw [bne, h]; rfl
    simp only [h2, Bool.true_or, if_true]
  · rfl
def bnames : List Str := ["len", "abs", "int", "max", "min", "sum", "any", "all", "tuple", "list", "sorted", "set", "zip", "range", "enumerate", "isinstance", "bool", "str"]
def gN {α : Type} (n : Nat) (us ws : List α) : List α := if us.length = n then us ++ ws else []
theorem gN_at {α : Type} {n : Nat} {us ws : List α} (h : us.length = n) : gN n us ws = us ++ ws := if_pos h
def FnR (X : Cx) (ps : List Str) (x : Str) (φ : Fn) : Prop :=
  ∃ (f : Addr) (fd : FuncData) (k : Nat), X.mg x = some (.ref f) ∧ PySem.W.keepIn X.K (.ref f) = true ∧ FnOk X.prog X.w X.K X.mg X.base CX0 k f fd ps (spF (kit X) φ) ∧ Room k X.A ∧ Binds X.K fd ps [] ∧
    ∀ n, n < ps.length → KBinds X.K fd ps (ps.drop n) (gN n) (gN n)
abbrev Par := Str → List Str
structure Good (Γ : Gam) (par : Par) (X : Cx) : Prop where
  calm : X.calm = true
  nd : X.N.Nodup
  un : X.A.units + 100 < cLine
  blt : ∀ x ∈ bnames, X.mg x = none
  con : ∀ x d, Γ x = some (.con d) → ∃ v u, X.mg x = some u ∧ RelV v u ∧ ∀ F, Rp (kit X) F v d
  fn : ∀ x φ, Γ x = some (.fn φ) → FnR X (par x) x φ
section
variable {Γ : Gam} {par : Par} {X : Cx} {e a b c : Expr} {ma mb mc : ME} {es : List Expr} {ms : List ME} {pos : Pos}
theorem sd_var {i : Nat} {x : Str} (hN : X.N[i]? = some x) (hv : Vis X.env.scope x) (hd : (x == ("__debug__" : Str)) = false) (hcd : (x == ("__classdict__" : Str)) = false) : SoundE Γ X (.Name x pos) (.var i) := by
  refine ⟨fun {σ H F A env S S' r Q} h er sr hQ => ?_⟩
  unfold evE at h
  rcases hi : env[i]? with _ | _ | d | k
  · simp only [hi] at h; cases h
  · simp only [hi] at h; cases h
  · simp only [hi] at h
    obtain ⟨rfl, rfl⟩ := ret_inv h
    obtain ⟨v, hv', r⟩ := er.at_ i _ hi
    cases r with
    | d r => exact we_of (pe_var hN hv hd hcd) ⟨v, hv', hQ.imm sr r⟩
  · simp only [hi] at h
    obtain ⟨rfl, rfl⟩ := ret_inv h
    obtain ⟨v, hv', r⟩ := er.at_ i _ hi
    cases r with
    | p r => exact we_of (pe_var hN hv hd hcd) ⟨_, hv', hQ _ H F (Stp.refl A F H) sr (.ptr r) fun o a e => by cases e⟩
theorem sd_int {i : Int} {j : Nat} : SoundE Γ X (.Constant (.int i) j pos) (.cst (.int i)) := ⟨fun {σ H F A env S S' r Q} h er sr hQ => by
  unfold evE at h
  obtain ⟨rfl, rfl⟩ := ret_inv h
  exact we_of pe_int (hQ.imm sr (.int i))⟩
theorem sd_bl {i : Bool} {j : Nat} : SoundE Γ X (.Constant (.bool i) j pos) (.cst (.bool i)) := ⟨fun {σ H F A env S S' r Q} h er sr hQ => by
  unfold evE at h
  obtain ⟨rfl, rfl⟩ := ret_inv h
  exact we_of pe_bl (hQ.imm sr (.bl i))⟩
theorem sd_non {j : Nat} : SoundE Γ X (.Constant .none j pos) (.cst .none) := ⟨fun {σ H F A env S S' r Q} h er sr hQ => by
  unfold evE at h
  obtain ⟨rfl, rfl⟩ := ret_inv h
  exact we_of pe_non (hQ.imm sr .non)⟩
theorem sd_str {x : Str} {j : Nat} : SoundE Γ X (.Constant (.str x) j pos) (.cst (.str x)) := ⟨fun {σ H F A env S S' r Q} h er sr hQ => by
  unfold evE at h
  obtain ⟨rfl, rfl⟩ := ret_inv h
  exact we_of pe_str (hQ.imm sr (.str x))⟩
theorem sd_glob {x : Str} (G : Good Γ par X) (hg : Gl X x) (hd : (x == ("__debug__" : Str)) = false) : SoundE Γ X (.Name x pos) (.glob x) := ⟨fun {σ H F A env S S' r Q} h er sr hQ => by
  unfold evE at h
  rcases hx : Γ x with _ | φ | d
  · simp only [hx] at h; cases h
  · simp only [hx] at h; cases h
  · simp only [hx] at h
    obtain ⟨rfl, rfl⟩ := ret_inv h
    obtain ⟨v, u, h1, h2, h3⟩ := G.con x d hx
    exact we_of (pe_glob hg h1 h2 hd) (hQ.imm sr (h3 F))⟩
theorem sds_nil : SoundEs Γ X [] [] := ⟨fun {σ H F A env S S' rs Q} h er sr hQ => by
  unfold evEs at h
  obtain ⟨rfl, rfl⟩ := pure_inv h
  exact wa_of pa_nil (hQ [] H F (Stp.refl A F H) sr .nil .nil)⟩
theorem sds_cons (he : SoundE Γ X e ma) (hs : SoundEs Γ X es ms) (hp : plainE e = true) : SoundEs Γ X (e :: es) (ma :: ms) := ⟨fun {σ H F A env S S' rs Q} h er sr hQ => by
  unfold evEs at h
  obtain ⟨r, S1, e1, k1⟩ := bind_inv h
  obtain ⟨rs, S2, e2, k2⟩ := bind_inv k1
  obtain ⟨rfl, rfl⟩ := pure_inv k2
  refine wa_of (pa_cons pe_w pa_w (star_of hp _ _)) ?_
  refine he.run e1 er sr fun v H1 F1 st1 s1 v1 n1 => ?_
  refine hs.run e2 (er.mono st1.le) s1 fun vs H2 F2 st2 s2 vr2 nw2 => ?_
  refine hQ (v :: vs) H2 F2 (st1.trans st2) s2 (.cons (v1.step st2) vr2) (.cons (fun o a q1 q2 => ⟨n1 o a q1 q2, fun j o' z1 z2 => ?_⟩) (nw2.back st1 vr2))
  have hn := nw2.at_ z1 z2
  subst q1 q2
  cases v1 with
  | new _ _ ob => exact ob.there hn⟩
theorem evEs_len : ∀ {ms : List ME} {env : Env} {S S' : Store} {rs : List RV}, evEs Γ ms env S = .ok rs S' → rs.length = ms.length
  | [], _, _, _, _, h => by
    unfold evEs at h
    obtain ⟨rfl, rfl⟩ := pure_inv h; rfl
  | m :: ms, _, _, _, _, h => by
    unfold evEs at h
    obtain ⟨r, S1, e1, k1⟩ := bind_inv h
    obtain ⟨rs, S2, e2, k2⟩ := bind_inv k1
    obtain ⟨rfl, rfl⟩ := pure_inv k2
    rw [List.length_cons, List.length_cons, evEs_len e2]
theorem few_line {n : Nat} (h : n ≤ 1000) : n ≤ sizeLine := Nat.le_trans h (by decide)
theorem sd_tup {k : Nat} (hs : SoundEs Γ X es ms) (hl : ms.length ≤ 1000) : SoundE Γ X (.Tuple es k pos) (.tup ms) := ⟨fun {σ H F A env S S' r Q} h er sr hQ => by
  unfold evE at h
  obtain ⟨rs, S1, e1, k1⟩ := bind_inv h
  obtain ⟨ds, S2, e2, k2⟩ := bind_inv k1
  obtain ⟨rfl, rfl⟩ := ret_inv k2
  refine we_of (pe_tupN pa_w) ?_
  refine hs.run e1 er sr fun vs H1 F1 st1 s1 vr nw => ?_
  obtain ⟨F2, s2, st2, le2, rp⟩ := frzs_ok e2 s1 vr st1 nw
  exact ⟨few_line (by rw [← vr.length, evEs_len e1]; exact hl), (Post.after st2 hQ).tup s2 rp⟩⟩
theorem sd_lst (hs : SoundEs Γ X es ms) (hl : ms.length ≤ 1000) : SoundE Γ X (.List es pos) (.lst ms) := ⟨fun {σ H F A env S S' r Q} h er sr hQ => by
  unfold evE at h
  obtain ⟨rs, S1, e1, k1⟩ := bind_inv h
  obtain ⟨ds, S2, e2, k2⟩ := bind_inv k1
  obtain ⟨rfl, rfl⟩ := ret_inv k2
  refine we_of (pe_lst pa_w) ?_
  refine hs.run e1 er sr fun vs H1 F1 st1 s1 vr nw => ?_
  obtain ⟨F2, s2, st2, le2, rp⟩ := frzs_ok e2 s1 vr st1 nw
  refine ⟨few_line (by rw [← vr.length, evEs_len e1]; exact hl), fun p hp => ?_⟩
  exact (Post.after st2 hQ).lst s2 rp hp⟩
theorem sd_dic0 : SoundE Γ X (.Dict [] [] pos) .dic0 := ⟨fun {σ H F A env S S' r Q} h er sr hQ => by
  unfold evE at h
  obtain ⟨rfl, rfl⟩ := ret_inv h
  exact we_of pe_dnewK fun p hp => hQ.dic0 sr hp⟩
theorem sd_bin (op : Bop) (ha : SoundE Γ X a ma) (hb : SoundE Γ X b mb) : SoundE Γ X (.BinOp a (bopOf op) b pos) (.bin op ma mb) := ⟨fun {σ H F A env S S' r Q} h er sr hQ => by
  unfold evE at h
  obtain ⟨x, S1, e1, k1⟩ := bind_inv h
  obtain ⟨y, S2, e2, k2⟩ := bind_inv k1
  refine we_of (pe_op op_w pe_w pe_w) ?_
  refine ha.run e1 er sr fun v H1 F1 st1 s1 v1 n1 => ?_
  refine hb.run e2 (er.mono st1.le) s1 fun u H2 F2 st2 s2 v2 n2 => ?_
  exact bin_ok op s2 k2 (v1.step st2) v2 (Post.after (st1.trans st2) hQ)⟩
theorem sd_neg (ha : SoundE Γ X a ma) : SoundE Γ X (.UnaryOp .USub a pos) (.neg ma) := ⟨fun {σ H F A env S S' r Q} h er sr hQ => by
  unfold evE at h
  obtain ⟨x, S1, e1, k1⟩ := bind_inv h
  obtain ⟨c, S2, e2, k2⟩ := bind_inv k1
  obtain ⟨hc, rfl⟩ := coM_inv e2
  obtain ⟨i, S3, e3, k3⟩ := bind_inv k2
  obtain ⟨hi, rfl⟩ := lift_inv e3
  obtain ⟨rfl, rfl⟩ := ret_inv k3
  refine we_of (pe_un un_neg pe_w) ?_
  refine ha.run e1 er sr fun v H1 F1 st1 s1 v1 n1 => ?_
  rw [(v1.co s1 hc).int hi]
  exact ⟨i, rfl, (Post.after st1 hQ).imm s1 (.int _)⟩⟩
theorem sd_nt (ha : SoundE Γ X a ma) : SoundE Γ X (.UnaryOp .Not a pos) (.nt ma) := ⟨fun {σ H F A env S S' r Q} h er sr hQ => by
  unfold evE at h
  obtain ⟨x, S1, e1, k1⟩ := bind_inv h
  obtain ⟨c, S2, e2, k2⟩ := bind_inv k1
  obtain ⟨hc, rfl⟩ := coM_inv e2
  obtain ⟨i, S3, e3, k3⟩ := bind_inv k2
  obtain ⟨hi, rfl⟩ := lift_inv e3
  obtain ⟨rfl, rfl⟩ := ret_inv k3
  refine we_of (pe_not pe_w) ?_
  refine ha.run e1 er sr fun v H1 F1 st1 s1 v1 n1 => ?_
  rw [(v1.co s1 hc).bool hi]
  exact ⟨i, rfl, (Post.after st1 hQ).imm s1 (.bl _)⟩⟩
theorem sd_one {op : BoolOp} (ha : SoundE Γ X a ma) : SoundE Γ X (.BoolOp op [a] pos) ma := ⟨fun {σ H F A env S S' r Q} h er sr hQ => we_of (pe_one pe_w) (ha.run h er sr hQ)⟩
theorem sd_an (ha : SoundE Γ X a ma) (hb : SoundE Γ X (.BoolOp .And (b :: es) pos) mb) : SoundE Γ X (.BoolOp .And (a :: b :: es) pos) (.an ma mb) := ⟨fun {σ H F A env S S' r Q} h er sr hQ => by
  unfold evE at h
  obtain ⟨x, S1, e1, k1⟩ := bind_inv h
  obtain ⟨c, S2, e2, k2⟩ := bind_inv k1
  obtain ⟨hc, rfl⟩ := coM_inv e2
  obtain ⟨i, S3, e3, k3⟩ := bind_inv k2
  obtain ⟨hi, rfl⟩ := lift_inv e3
  refine we_of (pe_and pe_w pe_w) ?_
  refine ha.run e1 er sr fun v H1 F1 st1 s1 v1 n1 => ?_
  refine ⟨i, (v1.co s1 hc).bool hi, ?_⟩
  cases i with
  | true =>
    simp only [if_true] at k3 ⊢
    exact hb.run k3 (er.mono st1.le) s1 (Post.after st1 hQ)
  | false =>
    simp only [Bool.false_eq_true, if_false] at k3 ⊢
    obtain ⟨rfl, rfl⟩ := ret_inv k3
    exact (Post.after st1 hQ).imm s1 (.bl _)⟩
theorem sd_orr (ha : SoundE Γ X a ma) (hb : SoundE Γ X (.BoolOp .Or (b :: es) pos) mb) : SoundE Γ X (.BoolOp .Or (a :: b :: es) pos) (.orr ma mb) := ⟨fun {σ H F A env S S' r Q} h er sr hQ => by
  unfold evE at h
  obtain ⟨x, S1, e1, k1⟩ := bind_inv h
  obtain ⟨c, S2, e2, k2⟩ := bind_inv k1
  obtain ⟨hc, rfl⟩ := coM_inv e2
  obtain ⟨i, S3, e3, k3⟩ := bind_inv k2
  obtain ⟨hi, rfl⟩ := lift_inv e3
  refine we_of (pe_or pe_w pe_w) ?_
  refine ha.run e1 er sr fun v H1 F1 st1 s1 v1 n1 => ?_
  refine ⟨i, (v1.co s1 hc).bool hi, ?_⟩
  cases i with
  | true =>
    simp only [if_true] at k3 ⊢
    obtain ⟨rfl, rfl⟩ := ret_inv k3
    exact (Post.after st1 hQ).imm s1 (.bl _)
  | false =>
    simp only [Bool.false_eq_true, if_false] at k3 ⊢
    exact hb.run k3 (er.mono st1.le) s1 (Post.after st1 hQ)⟩
theorem sd_cmp (G : Good Γ par X) (op : Cop) (ha : SoundE Γ X a ma) (hb : SoundE Γ X b mb) (hp : plainE b = true) : SoundE Γ X (.Compare a [copOf op] [b] pos) (.cmp op ma mb) := ⟨fun {σ H F A env S S' r Q} h er sr hQ => by
  unfold evE at h
  obtain ⟨x, S1, e1, k1⟩ := bind_inv h
  obtain ⟨y, S2, e2, k2⟩ := bind_inv k1
  refine we_of (pe_cmpR op_w pe_w pe_w (mark_of hp _)) ?_
  refine ha.run e1 er sr fun v H1 F1 st1 s1 v1 n1 => ?_
  refine hb.run e2 (er.mono st1.le) s1 fun u H2 F2 st2 s2 v2 n2 => ?_
  exact cmp_ok op (by have := G.un; omega) s2 k2 (v1.step st2) v2 (Post.after (st1.trans st2) hQ)⟩
theorem st_cmp (G : Good Γ par X) (op : Cop) (ha : SoundE Γ X a ma) (hb : SoundE Γ X b mb) (hp : plainE b = true) : SoundT Γ X (.Compare a [copOf op] [b] pos) (.cmp op ma mb) := ⟨fun {σ H F A env S S' r Q} h er sr hQ => by
  unfold evT at h
  obtain ⟨z, S0, e0, k0⟩ := bind_inv h
  obtain ⟨cz, S0', e0', k0'⟩ := bind_inv k0
  obtain ⟨hz, rfl⟩ := coM_inv e0'
  obtain ⟨hb', rfl⟩ := lift_inv k0'
  unfold evE at e0
  obtain ⟨x, S1, e1, k1⟩ := bind_inv e0
  obtain ⟨y, S2, e2, k2⟩ := bind_inv k1
  refine wt_of (pt_cmpR op_w pe_w pe_w (mark_of hp _)) ?_
  refine ha.run e1 er sr fun v H1 F1 st1 s1 v1 n1 => ?_
  refine hb.run e2 (er.mono st1.le) s1 fun u H2 F2 st2 s2 v2 n2 => ?_
  refine cmp_ok op (by have := G.un; omega) s2 k2 (v1.step st2) v2 fun w H3 F3 st3 s3 v3 n3 => ?_
  exact ⟨_, (v3.co s3 hz).bool hb', hQ H3 F3 ((st1.trans st2).trans st3) s3⟩⟩
theorem last_of {op op' : CmpOp} {b c : Expr} (h : plainE b = true) (h' : plainE c = true) : lastMarks [op, op'] [b, c] = false := by
  show behindInMarks op' c = false
  exact mark_of h' _
theorem sd_chain (G : Good Γ par X) (op op' : Cop) (ha : SoundE Γ X a ma) (hb : SoundE Γ X b mb) (hc : SoundE Γ X c mc) (hp : plainE b = true) (hp' : plainE c = true) :
    SoundE Γ X (.Compare a [copOf op, copOf op'] [b, c] pos) (.chain op op' ma mb mc) := ⟨fun {σ H F A env S S' r Q} h er sr hQ => by
  unfold evE at h
  obtain ⟨x, S1, e1, k1⟩ := bind_inv h
  obtain ⟨y, S2, e2, k2⟩ := bind_inv k1
  obtain ⟨z, S3, e3, k3⟩ := bind_inv k2
  obtain ⟨cz, S4, e4, k4⟩ := bind_inv k3
  obtain ⟨hz, rfl⟩ := coM_inv e4
  obtain ⟨i, S5, e5, k5⟩ := bind_inv k4
  obtain ⟨hi, rfl⟩ := lift_inv e5
  refine we_of (pe_chain op_w op_w pe_w pe_w pe_w (last_of hp hp')) ?_
  refine ha.run e1 er sr fun v H1 F1 st1 s1 v1 n1 => ?_
  refine hb.run e2 (er.mono st1.le) s1 fun u H2 F2 st2 s2 v2 n2 => ?_
  refine cmp_ok op (by have := G.un; omega) s2 e3 (v1.step st2) v2 fun w H3 F3 st3 s3 v3 n3 => ?_
  refine ⟨i, (v3.co s3 hz).bool hi, ?_⟩
  have st13 := (st1.trans st2).trans st3
  cases i with
  | true =>
    simp only [if_true] at k5 ⊢
    obtain ⟨t, S6, e6, k6⟩ := bind_inv k5
    refine hc.run e6 (er.mono st13.le) s3 fun t' H4 F4 st4 s4 v4 n4 => ?_
    exact cmp_ok op' (by have := G.un; omega) s4 k6 (v2.step (st3.trans st4)) v4 (Post.after (st13.trans st4) hQ)
  | false =>
    simp only [Bool.false_eq_true, if_false] at k5 ⊢
    obtain ⟨rfl, rfl⟩ := ret_inv k5
    exact (Post.after st13 hQ).imm s3 (.bl _)⟩
end
end Th
end
section
set_option Elab.async false
set_option linter.all false
set_option maxRecDepth 100000
set_option maxHeartbeats 4000000
namespace Th
open PySem PySem.Spec PyProof.Rows L2
section
variable {Γ : Gam} {par : Par} {X : Cx} {e a b c : Expr} {ma mb mc : ME} {es : List Expr} {ms : List ME} {pos pos' : Pos}
theorem isNone_dec {K : Kit} {F H : Hp} {c : Co} {v : V} (r : CoR K F H c v) : decide (v = .non) = c.isNone := by
  cases r with
  | d r => cases r <;> simp [Th.kt, Co.isNone]
  | o r => simp [Co.isNone]
theorem opN (neg : Bool) : OpR X (compareOp (if neg then .IsNot else .Is)) (fun x y H Q => y = .non ∧ Q (.bl (decide (x = .non) != neg)) H) := by
  cases neg with
  | true =>
    intro pins s σ H x y v u Q I rx ry h
    have e : (decide (x = V.non) != true) = !decide (x = .non) := by cases decide (x = V.non) <;> rfl
    rw [e] at h
    exact op_notN pins s σ H x y v u Q I rx ry h
  | false =>
    intro pins s σ H x y v u Q I rx ry h
    have e : (decide (x = V.non) != false) = decide (x = .non) := by cases decide (x = V.non) <;> rfl
    rw [e] at h
    exact op_isN pins s σ H x y v u Q I rx ry h
theorem opB (neg : Bool) : OpR X (compareOp (if neg then .IsNot else .Is)) (fun x y H Q => ∃ a b : Bool, x = .bl a ∧ y = .bl b ∧ Q (.bl ((a == b) != neg)) H) := by
  cases neg with
  | true =>
    intro pins s σ H x y v u Q I rx ry h
    obtain ⟨a, b, h1, h2, h3⟩ := h
    refine op_notBl pins s σ H x y v u Q I rx ry ⟨a, b, h1, h2, ?_⟩
    have e : ((a == b) != true) = !decide (a = b) := by cases a <;> cases b <;> rfl
    rw [← e]; exact h3
  | false =>
    intro pins s σ H x y v u Q I rx ry h
    obtain ⟨a, b, h1, h2, h3⟩ := h
    refine op_isBl pins s σ H x y v u Q I rx ry ⟨a, b, h1, h2, ?_⟩
    have e : ((a == b) != false) = decide (a = b) := by cases a <;> cases b <;> rfl
    rw [← e]; exact h3
theorem isMark (neg : Bool) (b : Expr) (h : plainE b = true) : behindInMarks (if neg then CmpOp.IsNot else .Is) b = false := mark_of h _
theorem sd_isN (neg : Bool) {j : Nat} (ha : SoundE Γ X a ma) : SoundE Γ X (.Compare a [if neg then .IsNot else .Is] [.Constant .none j pos'] pos) (.isN ma neg) := ⟨fun {σ H F A env S S' r Q} h er sr hQ => by
  unfold evE at h
  obtain ⟨x, S1, e1, k1⟩ := bind_inv h
  obtain ⟨c, S2, e2, k2⟩ := bind_inv k1
  obtain ⟨hc, rfl⟩ := coM_inv e2
  obtain ⟨rfl, rfl⟩ := ret_inv k2
  refine we_of (pe_cmpR (opN neg) pe_w pe_non (isMark neg _ rfl)) ?_
  refine ha.run e1 er sr fun v H1 F1 st1 s1 v1 n1 => ⟨rfl, ?_⟩
  rw [isNone_dec (v1.co s1 hc)]
  exact (Post.after st1 hQ).imm s1 (.bl _)⟩
theorem st_isN (neg : Bool) {j : Nat} (ha : SoundE Γ X a ma) : SoundT Γ X (.Compare a [if neg then .IsNot else .Is] [.Constant .none j pos'] pos) (.isN ma neg) := ⟨fun {σ H F A env S S' r Q} h er sr hQ => by
  unfold evT at h
  obtain ⟨z, S0, e0, k0⟩ := bind_inv h
  obtain ⟨cz, S0', e0', k0'⟩ := bind_inv k0
  obtain ⟨hz, rfl⟩ := coM_inv e0'
  obtain ⟨hb', rfl⟩ := lift_inv k0'
  unfold evE at e0
  obtain ⟨x, S1, e1, k1⟩ := bind_inv e0
  obtain ⟨c, S2, e2, k2⟩ := bind_inv k1
  obtain ⟨hc, rfl⟩ := coM_inv e2
  obtain ⟨rfl, rfl⟩ := ret_inv k2
  cases hz
  cases hb'
  refine wt_of (pt_cmpR (opN neg) pe_w pe_non (isMark neg _ rfl)) ?_
  refine ha.run e1 er sr fun v H1 F1 st1 s1 v1 n1 => ⟨rfl, _, rfl, ?_⟩
  rw [isNone_dec (v1.co s1 hc)]
  exact hQ H1 F1 st1 s1⟩
theorem sd_isB (neg d : Bool) {j : Nat} (ha : SoundE Γ X a ma) : SoundE Γ X (.Compare a [if neg then .IsNot else .Is] [.Constant (.bool d) j pos'] pos) (.isB ma d neg) := ⟨fun {σ H F A env S S' r Q} h er sr hQ => by
  unfold evE at h
  obtain ⟨x, S1, e1, k1⟩ := bind_inv h
  obtain ⟨c, S2, e2, k2⟩ := bind_inv k1
  obtain ⟨hc, rfl⟩ := coM_inv e2
  obtain ⟨p, S3, e3, k3⟩ := bind_inv k2
  obtain ⟨hp, rfl⟩ := lift_inv e3
  obtain ⟨rfl, rfl⟩ := ret_inv k3
  refine we_of (pe_cmpR (opB neg) pe_w pe_bl (isMark neg _ rfl)) ?_
  refine ha.run e1 er sr fun v H1 F1 st1 s1 v1 n1 => ⟨p, d, (v1.co s1 hc).bool hp, rfl, ?_⟩
  exact (Post.after st1 hQ).imm s1 (.bl _)⟩
theorem st_isB (neg d : Bool) {j : Nat} (ha : SoundE Γ X a ma) : SoundT Γ X (.Compare a [if neg then .IsNot else .Is] [.Constant (.bool d) j pos'] pos) (.isB ma d neg) := ⟨fun {σ H F A env S S' r Q} h er sr hQ => by
  unfold evT at h
  obtain ⟨z, S0, e0, k0⟩ := bind_inv h
  obtain ⟨cz, S0', e0', k0'⟩ := bind_inv k0
  obtain ⟨hz, rfl⟩ := coM_inv e0'
  obtain ⟨hb', rfl⟩ := lift_inv k0'
  unfold evE at e0
  obtain ⟨x, S1, e1, k1⟩ := bind_inv e0
  obtain ⟨c, S2, e2, k2⟩ := bind_inv k1
  obtain ⟨hc, rfl⟩ := coM_inv e2
  obtain ⟨p, S3, e3, k3⟩ := bind_inv k2
  obtain ⟨hp, rfl⟩ := lift_inv e3
  obtain ⟨rfl, rfl⟩ := ret_inv k3
  cases hz
  cases hb'
  refine wt_of (pt_cmpR (opB neg) pe_w pe_bl (isMark neg _ rfl)) ?_
  exact ha.run e1 er sr fun v H1 F1 st1 s1 v1 n1 => ⟨p, d, (v1.co s1 hc).bool hp, rfl, _, rfl, hQ H1 F1 st1 s1⟩⟩
theorem sd_ife (hc : SoundT Γ X c mc) (ha : SoundE Γ X a ma) (hb : SoundE Γ X b mb) : SoundE Γ X (.IfExp c a b pos) (.ife mc ma mb) := ⟨fun {σ H F A env S S' r Q} h er sr hQ => by
  unfold evE at h
  obtain ⟨p, S1, e1, k1⟩ := bind_inv h
  refine we_of (pe_ifExp pt_w pe_w pe_w) ?_
  refine hc.run e1 er sr fun H1 F1 st1 s1 => ?_
  cases p with
  | true =>
    simp only [if_true] at k1 ⊢
    exact ha.run k1 (er.mono st1.le) s1 (Post.after st1 hQ)
  | false =>
    simp only [Bool.false_eq_true, if_false] at k1 ⊢
    exact hb.run k1 (er.mono st1.le) s1 (Post.after st1 hQ)⟩
theorem sd_sub (G : Good Γ par X) (ha : SoundE Γ X a ma) (hb : SoundE Γ X b mb) (hp : plainE b = true) : SoundE Γ X (.Subscript a b pos) (.sub ma mb) := ⟨fun {σ H F A env S S' r Q} h er sr hQ => by
  unfold evE at h
  obtain ⟨x, S1, e1, k1⟩ := bind_inv h
  obtain ⟨y, S2, e2, k2⟩ := bind_inv k1
  refine we_of (pe_ix ix_w pe_w pe_w (ix_of hp)) ?_
  refine ha.run e1 er sr fun v H1 F1 st1 s1 v1 n1 => ?_
  refine hb.run e2 (er.mono st1.le) s1 fun u H2 F2 st2 s2 v2 n2 => ?_
  exact sub_ok (by have := G.un; omega) s2 k2 (v1.step st2) v2 (Post.after (st1.trans st2) hQ)⟩
structure SoundO (Γ : Gam) (X : Cx) (e : Option Expr) (m : Option ME) : Prop where
  run : ∀ {σ : L2.St} {H F : Hp} {A : List Addr} {env : Env} {S S' : Store} {o : Option Int} {Q : Option Int → Hp → Prop}, evO Γ m env S = .ok o S' → EnvR (kit X) F A env σ → StR (kit X) F H A S →
    (∀ H' F', Stp A F H F' H' → StR (kit X) F' H' A S' → Q o H') → ∀ (pins : List (Addr × Obj)) (s : Shared), Inv X pins σ H s →
      wpAny (model X.prog X.w) X.A (evalPart e X.env) (fun u s' => ∃ o H', Inv X pins σ H' s' ∧ IsPart u o ∧ Q o H') X.xe s
def WOp (X : Cx) (e : Option Expr) (σ : L2.St) (H : Hp) (Q : Option Int → Hp → Prop) : Prop := ∀ (pins : List (Addr × Obj)) (s : Shared), Inv X pins σ H s →
  wpAny (model X.prog X.w) X.A (evalPart e X.env) (fun u s' => ∃ o H', Inv X pins σ H' s' ∧ IsPart u o ∧ Q o H') X.xe s
theorem po_w {e : Option Expr} : PO X e (WOp X e) := ⟨fun pins s σ H Q I h => h pins s I⟩
theorem so_none : SoundO Γ X none none := ⟨fun {σ H F A env S S' o Q} h er sr hQ pins s I => by
  unfold evO at h
  obtain ⟨rfl, rfl⟩ := pure_inv h
  exact po_none.run pins s σ H _ I (hQ H F (Stp.refl A F H) sr)⟩
theorem so_some (ha : SoundE Γ X a ma) : SoundO Γ X (some a) (some ma) := ⟨fun {σ H F A env S S' o Q} h er sr hQ pins s I => by
  unfold evO at h
  obtain ⟨x, S1, e1, k1⟩ := bind_inv h
  obtain ⟨c, S2, e2, k2⟩ := bind_inv k1
  obtain ⟨hc, rfl⟩ := coM_inv e2
  obtain ⟨i, S3, e3, k3⟩ := bind_inv k2
  obtain ⟨hi, rfl⟩ := lift_inv e3
  obtain ⟨rfl, rfl⟩ := pure_inv k3
  exact (po_some pe_w).run pins s σ H _ I (ha.run e1 er sr fun v H1 F1 st1 s1 v1 n1 => ⟨i, (v1.co s1 hc).int hi, hQ H1 F1 st1 s1⟩)⟩
theorem sd_slc {lo hi : Option Expr} {ml mh : Option ME} (ha : SoundE Γ X a ma) (hl : SoundO Γ X lo ml) (hh : SoundO Γ X hi mh) : SoundE Γ X (.Subscript a (.Slice lo hi none pos') pos) (.slc ma ml mh) := ⟨fun {σ H F A env S S' r Q} h er sr hQ => by
  unfold evE at h
  obtain ⟨x, S1, e1, k1⟩ := bind_inv h
  obtain ⟨l, S2, e2, k2⟩ := bind_inv k1
  obtain ⟨h', S3, e3, k3⟩ := bind_inv k2
  refine we_of (pe_slice sl_w pe_w po_w po_w) ?_
  refine ha.run e1 er sr fun v H1 F1 st1 s1 v1 n1 => ?_
  refine hl.run e2 (er.mono st1.le) s1 fun H2 F2 st2 s2 => ?_
  refine hh.run e3 (er.mono (st1.trans st2).le) s2 fun H3 F3 st3 s3 => ?_
  exact slc_ok s3 k3 (v1.step (st2.trans st3)) (Post.after ((st1.trans st2).trans st3) hQ)⟩
theorem sd_rev {k : Nat} {p1 p2 p3 : Pos} (ha : SoundE Γ X a ma) : SoundE Γ X (.Subscript a (.Slice none none (some (.UnaryOp .USub (.Constant (.int 1) k p1) p2)) p3) pos) (.rev ma) := ⟨fun {σ H F A env S S' r Q} h er sr hQ => by
  unfold evE at h
  obtain ⟨x, S1, e1, k1⟩ := bind_inv h
  obtain ⟨c, S2, e2, k2⟩ := bind_inv k1
  obtain ⟨hc, rfl⟩ := coM_inv e2
  refine we_of (pe_revL pe_w) ?_
  refine ha.run e1 er sr fun v H1 F1 st1 s1 v1 n1 => ?_
  have ca := v1.co s1 hc
  have hQ1 := Post.after st1 hQ
  clear e1 e2 k1 h hQ
  split at k2
  · obtain ⟨rfl, rfl⟩ := ret_inv k2
    obtain ⟨p, vs, rfl, rp, sq⟩ := ca.lits s1.sub rfl
    exact ⟨p, vs, rfl, sq, fun z hz => hQ1.lst s1 rp.reverse hz⟩
  · obtain ⟨rfl, rfl⟩ := ret_inv k2
    obtain ⟨p, vs, rfl, rp, sq⟩ := ca.lits s1.sub rfl
    exact ⟨p, vs, rfl, sq, fun z hz => hQ1.lst s1 rp.reverse hz⟩
  · cases k2⟩
theorem st_nt (ha : SoundT Γ X a ma) : SoundT Γ X (.UnaryOp .Not a pos) (.nt ma) := ⟨fun {σ H F A env S S' r Q} h er sr hQ => by
  unfold evT at h
  obtain ⟨p, S1, e1, k1⟩ := bind_inv h
  obtain ⟨rfl, rfl⟩ := pure_inv k1
  exact wt_of (pt_not pt_w) (ha.run e1 er sr fun H1 F1 st1 s1 => hQ H1 F1 st1 s1)⟩
theorem sw_one (op : BoolOp) (ha : SoundT Γ X a ma) : SoundPw Γ X (.BoolOp op [a] pos) ma := ⟨fun {σ H F A env S S' r Q} h er sr hQ => by
  cases op with
  | And => exact ww_of (pw_and1 pt_w) (ha.run h er sr hQ)
  | Or => exact ww_of (pw_or1 pt_w) (ha.run h er sr hQ)⟩
theorem sw_an (ha : SoundT Γ X a ma) (hb : SoundPw Γ X (.BoolOp .And (b :: es) pos) mb) : SoundPw Γ X (.BoolOp .And (a :: b :: es) pos) (.an ma mb) := ⟨fun {σ H F A env S S' r Q} h er sr hQ => by
  unfold evT at h
  obtain ⟨p, S1, e1, k1⟩ := bind_inv h
  refine ww_of (pw_and pt_w pw_w) ?_
  refine ha.run e1 er sr fun H1 F1 st1 s1 => ?_
  cases p with
  | true =>
    simp only [if_true] at k1 ⊢
    exact hb.run k1 (er.mono st1.le) s1 fun H2 F2 st2 s2 => hQ H2 F2 (st1.trans st2) s2
  | false =>
    simp only [Bool.false_eq_true, if_false] at k1 ⊢
    obtain ⟨rfl, rfl⟩ := pure_inv k1
    exact hQ H1 F1 st1 s1⟩
theorem sw_orr (ha : SoundT Γ X a ma) (hb : SoundPw Γ X (.BoolOp .Or (b :: es) pos) mb) : SoundPw Γ X (.BoolOp .Or (a :: b :: es) pos) (.orr ma mb) := ⟨fun {σ H F A env S S' r Q} h er sr hQ => by
  unfold evT at h
  obtain ⟨p, S1, e1, k1⟩ := bind_inv h
  refine ww_of (pw_or pt_w pw_w) ?_
  refine ha.run e1 er sr fun H1 F1 st1 s1 => ?_
  cases p with
  | true =>
    simp only [if_true] at k1 ⊢
    obtain ⟨rfl, rfl⟩ := pure_inv k1
    exact hQ H1 F1 st1 s1
  | false =>
    simp only [Bool.false_eq_true, if_false] at k1 ⊢
    exact hb.run k1 (er.mono st1.le) s1 fun H2 F2 st2 s2 => hQ H2 F2 (st1.trans st2) s2⟩
theorem st_of_w {m : ME} (h : SoundPw Γ X e m) : SoundT Γ X e m := ⟨fun {σ H F A env S S' r Q} h1 er sr hQ => h.run h1 er sr hQ _⟩
def valT : Expr → Bool
  | .UnaryOp .Not _ _ => false
  | .BoolOp .. => false
  | .IfExp .. => false
  | .Compare .. => false
  | _ => true
def valM : ME → Bool
  | .nt _ => false
  | .an _ _ => false
  | .orr _ _ => false
  | _ => true
theorem val_of {e : Expr} (h : valT e = true) (env : PySem.Env) (whole : Sem Value) : isTrue e env whole = (do let v ← whole; standAt e.pos; holding [v] (truthy v)) := by
  cases e with
  | UnaryOp op x p => cases op <;> first | rfl | (cases h)
  | BoolOp => cases h
  | IfExp => cases h
  | Compare => cases h
  | _ => rfl
theorem evT_val {m : ME} (h : valM m = true) {env : Env} : evT Γ m env = (do
    let x ← evE Γ m env
    let c ← coM x
    lift c.bool) := by
  cases m <;> first | (cases h; done) | (unfold evT; rfl) | (simp only [evT])
theorem st_val {m : ME} (hv : valT e = true) (hm : valM m = true) (he : SoundE Γ X e m) : SoundT Γ X e m := ⟨fun {σ H F A env S S' r Q} h er sr hQ => by
  rw [evT_val hm] at h
  obtain ⟨x, S1, e1, k1⟩ := bind_inv h
  obtain ⟨c, S2, e2, k2⟩ := bind_inv k1
  obtain ⟨hc, rfl⟩ := coM_inv e2
  obtain ⟨hb, rfl⟩ := lift_inv k2
  refine wt_of (pt_val pe_w (val_of hv _)) ?_
  exact he.run e1 er sr fun v H1 F1 st1 s1 v1 n1 => ⟨_, (v1.co s1 hc).bool hb, hQ H1 F1 st1 s1⟩⟩
end
end Th
end
section
set_option Elab.async false
set_option linter.all false
set_option maxRecDepth 100000
set_option maxHeartbeats 4000000
namespace Th
open PySem PySem.Spec PyProof.Rows L2
section
variable {Γ : Gam} {par : Par} {X : Cx} {e a b c : Expr} {ma mb mc : ME} {es : List Expr} {ms ms' : List ME} {pos pos' : Pos} {f : Str}
theorem sd_call (G : Good Γ par X) (hs : SoundEs Γ X es ms) (hml : es.length = ms.length) (hp : es.all plainE = true) (hg : Gl X f) (hdb : (f == ("__debug__" : Str)) = false) : SoundE Γ X (.Call (.Name f pos') es [] pos) (.call f ms) := ⟨fun {σ H F A env S S' r Q} h er sr hQ => by
  unfold evE at h
  obtain ⟨rs, S1, e1, k1⟩ := bind_inv h
  rcases hf : Γ f with _ | φ | d
  · simp only [hf] at k1; cases k1
  · simp only [hf] at k1
    obtain ⟨fa, fd, k, hm, hk, F0, hr, hb, _⟩ := G.fn f φ hf
    have rd : WA X es σ H (fun vs H1 => spF (kit X) φ (vs ++ []) H1 Q E0) := by
      refine hs.run e1 er sr fun vs H1 F1 st1 s1 vr nw => ?_
      rw [List.append_nil]
      exact call_ok k1 s1 vr st1 nw hQ
    cases es with
    | nil =>
      refine we_of (pe_call0 F0 hr hg hm hk hb .nil pass0 hdb) ?_
      have e0 : rs = [] ∧ S1 = S := by
        cases ms with
        | nil =>
          unfold evEs at e1
          obtain ⟨q1, q2⟩ := pure_inv e1
          exact ⟨q1.symm, q2.symm⟩
        | cons m ms => cases hml
      obtain ⟨rfl, rfl⟩ := e0
      exact call_ok (E := E0) k1 sr .nil (Stp.refl A F H) .nil hQ
    | cons e es =>
      rw [List.all_cons, Bool.and_eq_true] at hp
      exact we_of (pe_call F0 hr hg hm hk hb .nil pass0 pa_w hdb (star_of hp.1 _ _) (stars_of hp.2 _ _)) rd
  · simp only [hf] at k1; cases k1⟩
def WK (X : Cx) (kws : List Keyword) (σ : L2.St) (H : Hp) (Q : List V → Hp → Prop) : Prop := ∀ (pos : Pos) (pins : List (Addr × Obj)) (s : Shared), Inv X pins σ H s →
  wpAny (model X.prog X.w) X.A (evalAll ((backToKw pos (keywordEach kws X.env)).map (·.2))) (AP X pins σ Q) X.xe s
theorem pk_w {kws : List Keyword} : PK X kws (WK X kws) := ⟨fun pos pins s σ H Q I h => h pos pins s I⟩
theorem wk_of {kws : List Keyword} {t : TA} (h : PK X kws t) {σ : L2.St} {H : Hp} {Q : List V → Hp → Prop} (ht : t σ H Q) : WK X kws σ H Q := fun pos pins s I => h.run pos pins s σ H Q I ht
structure SoundKs (Γ : Gam) (X : Cx) (kws : List Keyword) (ms : List ME) : Prop where
  run : ∀ {σ : L2.St} {H F : Hp} {A : List Addr} {env : Env} {S S' : Store} {rs : List RV} {Q : List V → Hp → Prop}, evEs Γ ms env S = .ok rs S' → EnvR (kit X) F A env σ → StR (kit X) F H A S →
    (∀ vs H' F', Stp A F H F' H' → StR (kit X) F' H' A S' → VRs (kit X) F' H' A rs vs → News H rs vs → Q vs H') → WK X kws σ H Q
theorem sk_nil : SoundKs Γ X [] [] := ⟨fun {σ H F A env S S' rs Q} h er sr hQ => by
  unfold evEs at h
  obtain ⟨rfl, rfl⟩ := pure_inv h
  exact wk_of pk_nil (hQ [] H F (Stp.refl A F H) sr .nil .nil)⟩
theorem sk_cons {nm : Option Str} {kpos : Pos} {kws : List Keyword} (he : SoundE Γ X e ma) (hs : SoundKs Γ X kws ms) : SoundKs Γ X (⟨nm, e, kpos⟩ :: kws) (ma :: ms) := ⟨fun {σ H F A env S S' rs Q} h er sr hQ => by
  unfold evEs at h
  obtain ⟨r, S1, e1, k1⟩ := bind_inv h
  obtain ⟨rs, S2, e2, k2⟩ := bind_inv k1
  obtain ⟨rfl, rfl⟩ := pure_inv k2
  refine wk_of (pk_cons pe_w pk_w) ?_
  refine he.run e1 er sr fun v H1 F1 st1 s1 v1 n1 => ?_
  refine hs.run e2 (er.mono st1.le) s1 fun vs H2 F2 st2 s2 vr2 nw2 => ?_
  refine hQ (v :: vs) H2 F2 (st1.trans st2) s2 (.cons (v1.step st2) vr2) (.cons (fun o a q1 q2 => ⟨n1 o a q1 q2, fun j o' z1 z2 => ?_⟩) (nw2.back st1 vr2))
  have hn := nw2.at_ z1 z2
  subst q1 q2
  cases v1 with
  | new _ _ ob => exact ob.there hn⟩
theorem evEs_append {env : Env} : ∀ {ms ms' : List ME} {S S' : Store} {rs : List RV}, evEs Γ (ms ++ ms') env S = .ok rs S' → ∃ r1 r2 S1, evEs Γ ms env S = .ok r1 S1 ∧ evEs Γ ms' env S1 = .ok r2 S' ∧ rs = r1 ++ r2
  | [], _, S, S', rs, h => ⟨[], rs, S, by unfold evEs; rfl, h, rfl⟩
  | m :: ms, ms', S, S', rs, h => by
    rw [List.cons_append] at h
    unfold evEs at h
    obtain ⟨r, S1, e1, k1⟩ := bind_inv h
    obtain ⟨rs', S2, e2, k2⟩ := bind_inv k1
    obtain ⟨rfl, rfl⟩ := pure_inv k2
    obtain ⟨r1, r2, S3, q1, q2, rfl⟩ := evEs_append e2
    refine ⟨r :: r1, r2, S3, ?_, q2, rfl⟩
    unfold evEs
    rw [bind_ok e1, bind_ok q1]; rfl
theorem VRs.append {K : Kit} {F H : Hp} {A : List Addr} : ∀ {rs rs' : List RV} {vs vs' : List V}, VRs K F H A rs vs → VRs K F H A rs' vs' → VRs K F H A (rs ++ rs') (vs ++ vs')
  | _, _, _, _, .nil, h => h
  | _, _, _, _, .cons h1 h2, h => .cons h1 (VRs.append h2 h)
theorem News.append {K : Kit} {H H1 F1 : Hp} {A : List Addr} : ∀ {rs rs' : List RV} {vs vs' : List V}, News H rs vs → VRs K F1 H1 A rs vs → News H rs' vs' → News H1 rs' vs' → News H (rs ++ rs') (vs ++ vs')
  | _, _, _, _, .nil, .nil, h, _ => h
  | r :: rs, rs', v :: vs, vs', .cons n1 n2, .cons v1 v2, h, h' => by
    refine .cons (fun o a e1 e2 => ⟨(n1 o a e1 e2).1, fun j o' z1 z2 => ?_⟩) (News.append n2 v2 h h')
    have z1 : (rs ++ rs')[j]? = some (RV.new o') := z1
    have z2 : (vs ++ vs')[j]? = some (V.ref a) := z2
    by_cases hj : j < rs.length
    · rw [List.getElem?_append_left hj] at z1
      rw [List.getElem?_append_left (by rw [← v2.length]; exact hj)] at z2
      exact (n1 o a e1 e2).2 j o' z1 z2
    · rw [List.getElem?_append_right (by omega)] at z1
      rw [List.getElem?_append_right (by rw [← v2.length]; omega)] at z2
      rw [← v2.length] at z2
      have hn := h'.at_ z1 z2
      subst e1 e2
      cases v1 with
      | new _ _ ob => exact ob.there hn
def kwNames (kws : List Keyword) : List Str := kws.filterMap (·.arg)
theorem kw_some : ∀ {kws : List Keyword} (pos : Pos) (env : PySem.Env), (kws.all fun k => k.arg.isSome) = true → (backToKw pos (keywordEach kws env)).all (·.1.isSome) = true ∧ (backToKw pos (keywordEach kws env)).filterMap (·.1) = kwNames kws ∧
    (backToKw pos (keywordEach kws env)).any (·.1.isNone) = false
  | [], _, _, _ => ⟨rfl, rfl, rfl⟩
  | ⟨nm, v, p⟩ :: kws, pos, env, h => by
    rw [List.all_cons, Bool.and_eq_true] at h
    obtain ⟨h1, h2, h3⟩ := kw_some pos env h.2
    obtain ⟨x, hx⟩ := Option.isSome_iff_exists.mp h.1
    simp only at hx
    subst hx
    refine ⟨?_, ?_, ?_⟩
    · show (true && (backToKw pos (keywordEach kws env)).all (·.1.isSome)) = true
      rw [h1]; rfl
    · show x :: (backToKw pos (keywordEach kws env)).filterMap (·.1) = x :: kwNames kws
      rw [h2]
    · show (false || (backToKw pos (keywordEach kws env)).any (·.1.isNone)) = false
      rw [h3]; rfl
theorem evEs_length {env : Env} : ∀ {ms : List ME} {S S' : Store} {rs : List RV}, evEs Γ ms env S = .ok rs S' → rs.length = ms.length
  | [], S, S', rs, h => by
    unfold evEs at h
    obtain ⟨rfl, rfl⟩ := pure_inv h
    rfl
  | m :: ms, S, S', rs, h => by
    unfold evEs at h
    obtain ⟨r, S1, e1, k1⟩ := bind_inv h
    obtain ⟨rs', S2, e2, k2⟩ := bind_inv k1
    obtain ⟨rfl, rfl⟩ := pure_inv k2
    rw [List.length_cons, List.length_cons, evEs_length e2]
theorem sd_callK {kws : List Keyword} (G : Good Γ par X) (hs : SoundEs Γ X (e :: es) ms) (hml : (e :: es).length = ms.length) (hk : SoundKs Γ X kws ms') (hp : (e :: es).all plainE = true) (hkw : (kws.all fun k => k.arg.isSome) = true) (hn : kwNames kws = (par f).drop (e :: es).length)
    (hl : (e :: es).length < (par f).length) (hg : Gl X f) (hdb : (f == ("__debug__" : Str)) = false) : SoundE Γ X (.Call (.Name f pos') (e :: es) kws pos) (.call f (ms ++ ms')) := ⟨fun {σ H F A env S S' r Q} h er sr hQ => by
  unfold evE at h
  obtain ⟨rs, S1, e1, k1⟩ := bind_inv h
  rcases hf : Γ f with _ | φ | d
  · simp only [hf] at k1; cases k1
  · simp only [hf] at k1
    obtain ⟨fa, fd, k, hm, hk', F0, hr, hb, hkb⟩ := G.fn f φ hf
    obtain ⟨r1, r2, S2, q1, q2, rfl⟩ := evEs_append e1
    obtain ⟨g1, g2, g3⟩ := kw_some pos X.env hkw
    have kb := hkb _ hl
    rw [← hn] at kb
    have hp' := hp
    rw [List.all_cons, Bool.and_eq_true] at hp
    refine we_of (pe_callK F0 hr hg hm hk' kb pass0 pa_w pk_w g1 g2 hdb (star_of hp.1 _ _) (by rw [stars_of hp', g3]; rfl)) ?_
    refine hs.run q1 er sr fun vs H1 F1 st1 s1 vr1 nw1 => ?_
    refine hk.run q2 (er.mono st1.le) s1 fun us H2 F2 st2 s2 vr2 nw2 => ?_
    rw [gN_at (show vs.length = (e :: es).length by rw [← vr1.length, evEs_length q1, hml])]
    exact call_ok k1 s2 ((vr1.step st2).append vr2) (st1.trans st2) (nw1.append vr1 (nw2.back st1 vr2) nw2) hQ
  · simp only [hf] at k1; cases k1⟩
def bnm : Bi → Str
  | .len => "len" | .abs => "abs" | .int => "int" | .max2 => "max" | .max1 => "max" | .min2 => "min" | .min1 => "min" | .sum => "sum" | .any => "any" | .all => "all" | .tuple => "tuple" | .list => "list" | .sorted => "sorted"
  | _ => ""
theorem sd_bi (G : Good Γ par X) (f : Bi) (hf : bval f ≠ .none) (hs : SoundEs Γ X (e :: es) ms) (hp : (e :: es).all plainE = true) (hg : Gl X (bnm f)) : SoundE Γ X (.Call (.Name (bnm f) pos') (e :: es) [] pos) (.bi f ms) := ⟨fun {σ H F A env S S' r Q} h er sr hQ => by
  unfold evE at h
  obtain ⟨rs, S1, e1, k1⟩ := bind_inv h
  rw [List.all_cons, Bool.and_eq_true] at hp
  have rd : WA X (e :: es) σ H (fun vs H1 => WC X (bval f) vs H1 Q) := hs.run e1 er sr fun vs H1 F1 st1 s1 vr nw => bi_ok f G.calm (by have := G.un; omega) s1 k1 vr (Post.after st1 hQ) hf
  cases f with
  | len => exact we_of (pe_callB cr_w hg (G.blt _ (by decide)) (by decide +kernel) pa_w (by decide) (by decide) (star_of hp.1 _ _) (stars_of hp.2 _ _)) rd
  | abs => exact we_of (pe_callB cr_w hg (G.blt _ (by decide)) (by decide +kernel) pa_w (by decide) (by decide) (star_of hp.1 _ _) (stars_of hp.2 _ _)) rd
  | int => exact we_of (pe_callTy cr_w hg (G.blt _ (by decide)) (by decide +kernel) pa_w (by decide) (by decide) (star_of hp.1 _ _) (stars_of hp.2 _ _)) rd
  | max2 => exact we_of (pe_callB cr_w hg (G.blt _ (by decide)) (by decide +kernel) pa_w (by decide) (by decide) (star_of hp.1 _ _) (stars_of hp.2 _ _)) rd
  | min2 => exact we_of (pe_callB cr_w hg (G.blt _ (by decide)) (by decide +kernel) pa_w (by decide) (by decide) (star_of hp.1 _ _) (stars_of hp.2 _ _)) rd
  | max1 => exact we_of (pe_callB cr_w hg (G.blt _ (by decide)) (by decide +kernel) pa_w (by decide) (by decide) (star_of hp.1 _ _) (stars_of hp.2 _ _)) rd
  | min1 => exact we_of (pe_callB cr_w hg (G.blt _ (by decide)) (by decide +kernel) pa_w (by decide) (by decide) (star_of hp.1 _ _) (stars_of hp.2 _ _)) rd
  | sum => exact we_of (pe_callB cr_w hg (G.blt _ (by decide)) (by decide +kernel) pa_w (by decide) (by decide) (star_of hp.1 _ _) (stars_of hp.2 _ _)) rd
  | any => exact we_of (pe_callB cr_w hg (G.blt _ (by decide)) (by decide +kernel) pa_w (by decide) (by decide) (star_of hp.1 _ _) (stars_of hp.2 _ _)) rd
  | all => exact we_of (pe_callB cr_w hg (G.blt _ (by decide)) (by decide +kernel) pa_w (by decide) (by decide) (star_of hp.1 _ _) (stars_of hp.2 _ _)) rd
  | tuple => exact we_of (pe_callTy cr_w hg (G.blt _ (by decide)) (by decide +kernel) pa_w (by decide) (by decide) (star_of hp.1 _ _) (stars_of hp.2 _ _)) rd
  | list => exact we_of (pe_callTy cr_w hg (G.blt _ (by decide)) (by decide +kernel) pa_w (by decide) (by decide) (star_of hp.1 _ _) (stars_of hp.2 _ _)) rd
  | sorted => exact we_of (pe_callB cr_w hg (G.blt _ (by decide)) (by decide +kernel) pa_w (by decide) (by decide) (star_of hp.1 _ _) (stars_of hp.2 _ _)) rd
  | _ => exact absurd rfl hf⟩
def tyNm : Ty → String
  | .int => "int" | .bool => "bool" | .tuple => "tuple" | .str => "str" | .list => "list"
theorem rd_ty {K : PySem.W.Frag} {H : Hp} {a : Addr} {xs : List V} (h : SqL K H a xs) : TyX K H (.ref a) (.type "list") := by
  rcases h with (h | ⟨o, h⟩) | ⟨o, its, n, h, c, _⟩
  · exact .base (.lst h)
  · exact .base (.frz h)
  · exact .kList h c
theorem co_ty {F H : Hp} {c : Co} {v : V} (r : CoR (kit X) F H c v) (l : Le F H) (hd : c.noDict = true) : ∃ u : String, TyX X.K H v (.type u) ∧ ∀ t, kitB u (tyNm t) = some (isTy c t) := by
  cases r with
  | d r =>
    cases r with
    | non => exact ⟨"NoneType", .base .non, fun t => by cases t <;> first | (refine Eq.trans (b := some true) ?_ rfl; decide +kernel) | (refine Eq.trans (b := some false) ?_ rfl; decide +kernel)⟩
    | bl b => exact ⟨"bool", .base (.bl b), fun t => by cases t <;> first | (refine Eq.trans (b := some true) ?_ rfl; decide +kernel) | (refine Eq.trans (b := some false) ?_ rfl; decide +kernel)⟩
    | int i => exact ⟨"int", .base (.int i), fun t => by cases t <;> first | (refine Eq.trans (b := some true) ?_ rfl; decide +kernel) | (refine Eq.trans (b := some false) ?_ rfl; decide +kernel)⟩
    | str x => exact ⟨"str", .base (.str x), fun t => by cases t <;> first | (refine Eq.trans (b := some true) ?_ rfl; decide +kernel) | (refine Eq.trans (b := some false) ?_ rfl; decide +kernel)⟩
    | lst h _ => exact ⟨"list", rd_ty (l.sl h), fun t => by cases t <;> first | (refine Eq.trans (b := some true) ?_ rfl; decide +kernel) | (refine Eq.trans (b := some false) ?_ rfl; decide +kernel)⟩
    | tup h _ _ => exact ⟨"tuple", .fTuple (l _ _ h), fun t => by cases t <;> first | (refine Eq.trans (b := some true) ?_ rfl; decide +kernel) | (refine Eq.trans (b := some false) ?_ rfl; decide +kernel)⟩
    | kt _ => cases hd
    | dK _ _ => cases hd
    | dT _ _ _ => cases hd
  | o r =>
    cases r with
    | lst h _ => exact ⟨"list", .base (.lst h), fun t => by cases t <;> first | (refine Eq.trans (b := some true) ?_ rfl; decide +kernel) | (refine Eq.trans (b := some false) ?_ rfl; decide +kernel)⟩
    | dK _ _ => cases hd
    | dT _ _ _ => cases hd
theorem ty_boot (t : Ty) : bootBuiltins (Str.ofString (tyNm t)) = some (.type (tyNm t)) ∧ Str.ofString (tyNm t) ∈ bnames ∧ Str.ofString (tyNm t) ≠ "__name__" ∧ (Str.ofString (tyNm t) == ("__debug__" : Str)) = false := by
  cases t <;> exact ⟨by decide +kernel, by decide, by decide, by decide⟩
theorem pe_ty (G : Good Γ par X) (t : Ty) (hg : Gl X (Str.ofString (tyNm t))) : PE X (.Name (Str.ofString (tyNm t)) pos) (tC (.ty (tyNm t))) := by
  obtain ⟨h1, h2, h3, h4⟩ := ty_boot t
  exact pe_bltn hg (G.blt _ h2) h1 rfl h3 h4
theorem sd_isi (G : Good Γ par X) (t : Ty) {p2 : Pos} (ha : SoundE Γ X a ma) (hp : plainE a = true) (hg : Gl X "isinstance") (hg' : Gl X (Str.ofString (tyNm t))) : SoundE Γ X (.Call (.Name "isinstance" pos') [a, .Name (Str.ofString (tyNm t)) p2] [] pos) (.isi ma t) := ⟨fun {σ H F A env S S' r Q} h er sr hQ => by
  unfold evE at h
  obtain ⟨x, S1, e1, k1⟩ := bind_inv h
  obtain ⟨c, S2, e2, k2⟩ := bind_inv k1
  obtain ⟨hc, rfl⟩ := coM_inv e2
  obtain ⟨_, S3, e3, k3⟩ := bind_inv k2
  obtain ⟨hd, rfl⟩ := chk_inv e3
  obtain ⟨rfl, rfl⟩ := ret_inv k3
  refine we_of (pe_callB call_isi hg (G.blt _ (by decide)) (by decide +kernel) (pa_cons pe_w (pa_cons (pe_ty G t hg') pa_nil) (star_of hp _ _)) (by decide) (by decide) (star_of hp _ _) rfl) ?_
  refine ha.run e1 er sr fun v H1 F1 st1 s1 v1 n1 => ?_
  obtain ⟨u, tx, hk⟩ := co_ty (v1.co s1 hc) s1.sub hd
  exact ⟨v, .ty (tyNm t), .type u, .type (tyNm t), _, rfl, .ty _, tx, kit_ty (hk t), (Post.after st1 hQ).imm s1 (.bl _)⟩⟩
theorem sd_isi2 (G : Good Γ par X) (t t' : Ty) {k : Nat} {p2 p3 p4 : Pos} (ha : SoundE Γ X a ma) (hp : plainE a = true) (hg : Gl X "isinstance") (hg' : Gl X (Str.ofString (tyNm t))) (hg'' : Gl X (Str.ofString (tyNm t'))) :
    SoundE Γ X (.Call (.Name "isinstance" pos') [a, .Tuple [.Name (Str.ofString (tyNm t)) p2, .Name (Str.ofString (tyNm t')) p3] k p4] [] pos) (.isi2 ma t t') := ⟨fun {σ H F A env S S' r Q} h er sr hQ => by
  unfold evE at h
  obtain ⟨x, S1, e1, k1⟩ := bind_inv h
  obtain ⟨c, S2, e2, k2⟩ := bind_inv k1
  obtain ⟨hc, rfl⟩ := coM_inv e2
  obtain ⟨_, S3, e3, k3⟩ := bind_inv k2
  obtain ⟨hd, rfl⟩ := chk_inv e3
  obtain ⟨rfl, rfl⟩ := ret_inv k3
  refine we_of (pe_callB call_isiT hg (G.blt _ (by decide)) (by decide +kernel) (pa_cons pe_w (pa_cons (pe_tup (pa_cons (pe_ty G t hg') (pa_cons (pe_ty G t' hg'') pa_nil))) pa_nil) (star_of hp _ _)) (by decide) (by decide) (star_of hp _ _) rfl) ?_
  refine ha.run e1 er sr fun v H1 F1 st1 s1 v1 n1 => ?_
  refine ⟨by show 2 ≤ sizeLine; decide, fun tp htp => ?_⟩
  obtain ⟨s2, st2⟩ := s1.fresh_obj (o := .tup [.ty (tyNm t), .ty (tyNm t')]) htp
  have v2 := v1.step st2
  obtain ⟨u, tx, hk⟩ := co_ty (v2.co s2 hc) s2.sub hd
  refine ⟨v, tp, _, .type u, [.type (tyNm t), .type (tyNm t')], _, rfl, upd_same, .cons (.ty _) (.cons (.ty _) .nil), tx, kitAny_cons (kit_ty (hk t)) (fun e1 => kitAny_cons (kit_ty (hk t')) (fun e2 => ?_) fun e2 => ?_) fun e1 => ?_, (Post.after (st1.trans st2) hQ).imm s2 (.bl _)⟩
  · rw [e1, e2]; exact kitAny_nil
  · rw [e1, e2]; rfl
  · rw [e1]; rfl⟩
end
end Th
end
section
set_option Elab.async false
set_option linter.all false
set_option maxRecDepth 100000
set_option maxHeartbeats 4000000
namespace Th
open PySem PySem.Spec PyProof.Rows L2
theorem nin2 {a b c : Nat} (h : a ≠ b) (h' : a ≠ c) : a ∉ [b, c] := by
  simp only [List.mem_cons, List.not_mem_nil, or_false, not_or]; exact ⟨h, h'⟩
def SqB (K : PySem.W.Frag) (b : Bool) (H : Hp) (a : Addr) (xs : List V) : Prop := if b = true then SqT K H a xs else SqL K H a xs
def IsSB (b : Bool) (h : Heap) (a : Addr) (its : Array Value) : Prop := if b = true then h.IsTuple a its else h.IsList a its
def IsIB (b : Bool) (h : Heap) (it a : Addr) (i : Nat) : Prop := if b = true then h.IsTupleIter it a i else h.IsListIter it a i
def beO (b : Bool) (a : Addr) : Obj := if b = true then { cls := .type "tuple_iterator", data := .fields #[.ref a, .int 0 0] } else { cls := .type "list_iterator", data := .fields #[.ref a, .int 0 0] }
section
variable {X : Cx} {pins : List (Addr × Obj)} {σ : L2.St} {H : Hp} {s : Shared} {b : Bool} {a it : Addr} {xs ys : List V}
theorem sqb_inv (I : Inv X pins σ H s) (h : SqB X.K b H a xs) : ∃ its, Vals xs its ∧ IsSB b s.heap a its.toArray ∧ xs.length ≤ sizeLine := by
  cases b with
  | true =>
    obtain ⟨its, rv, p, hz⟩ := I.tuple (show SqT X.K H a xs from h)
    exact ⟨its, rv, p, hz⟩
  | false =>
    obtain ⟨its, rv, p, hz⟩ := I.list (show SqL X.K H a xs from h)
    exact ⟨its, rv, p.isList, hz⟩
theorem sqb_inj (I : Inv X pins σ H s) (h : SqB X.K b H a xs) (h' : SqB X.K b H a ys) : xs = ys := by
  cases b with
  | true => exact I.tuple_inj (show SqT X.K H a xs from h) h'
  | false => exact I.list_inj (show SqL X.K H a xs from h) h'
theorem isb_lt {its : Array Value} {h : Heap} (p : IsSB b h a its) : a < h.objs.size := by
  cases b with
  | true =>
    obtain ⟨o, q, _⟩ := (show h.IsTuple a its from p)
    exact Heap.lt_size q
  | false =>
    obtain ⟨o, q, _⟩ := (show h.IsList a its from p)
    exact Heap.lt_size q
theorem isb_obj {its : Array Value} {h : Heap} (p : IsSB b h a its) : ∃ o, h.get? a = some o ∧ (o.cls = .type "tuple" ∨ o.cls = .type "list") := by
  cases b with
  | true =>
    obtain ⟨o, q, c, _⟩ := (show h.IsTuple a its from p)
    exact ⟨o, q, .inl c⟩
  | false =>
    obtain ⟨o, q, c, _⟩ := (show h.IsList a its from p)
    exact ⟨o, q, .inr c⟩
theorem iib_obj {h : Heap} {i : Nat} (p : IsIB b h it a i) : ∃ o, h.get? it = some o ∧ (∀ v, o.data ≠ .cell v) ∧ o.cls ≠ .type "tuple" ∧ o.cls ≠ .type "list" := by
  cases b with
  | true =>
    obtain ⟨o, q, c, d⟩ := (show h.IsTupleIter it a i from p)
    exact ⟨o, q, fun v z => (by rw [d] at z; cases z), by rw [c]; decide, by rw [c]; decide⟩
  | false =>
    obtain ⟨o, q, c, d⟩ := (show h.IsListIter it a i from p)
    exact ⟨o, q, fun v z => (by rw [d] at z; cases z), by rw [c]; decide, by rw [c]; decide⟩
theorem iib_ne {its : Array Value} {h : Heap} {i : Nat} {it a a' : Addr} {b b' : Bool} (p : IsIB b h it a i) (q : IsSB b' h a' its) : a' ≠ it := by
  rintro rfl
  obtain ⟨o, h1, _, h2, h3⟩ := iib_obj p
  obtain ⟨o', h4, h5⟩ := isb_obj q
  rw [h1] at h4; cases h4
  rcases h5 with z | z
  · exact h2 z
  · exact h3 z
theorem IsIB.at {h h' : Heap} {i : Nat} (p : IsIB b h it a i) (k : ∀ o, h.get? it = some o → h'.get? it = some o) : IsIB b h' it a i := by
  cases b with
  | true => exact Heap.IsTupleIter.at (show h.IsTupleIter it a i from p) k
  | false => exact Heap.IsListIter.at (show h.IsListIter it a i from p) k
theorem drawsB {prog : Program} {w : World} {A : Around} (hh : A.handled = none) (b : Bool) (it a : Addr) (hne : a ≠ it) (its : Array Value) :
    Draws prog w A it [it, a] its.size (fun i v => its[i]? = some v) (fun i h => IsIB b h it a i ∧ IsSB b h a its) := by
  cases b with
  | true => exact Draws.tuple hh it a hne its
  | false => exact Draws.list hh it a hne its
theorem beginsB (b : Bool) (a : Addr) (its : Array Value) : Begins (.ref a) (beO b a) fun h => IsSB b h a its := by
  cases b with
  | true => exact begins_tuple a its
  | false => exact begins_list a its
theorem iib_new {h : Heap} (e : h.get? it = some (beO b a)) : IsIB b h it a 0 := by
  cases b with
  | true => exact ⟨_, e, rfl, rfl⟩
  | false => exact ⟨_, e, rfl, rfl⟩
end
def IteB (K : PySem.W.Frag) (b : Bool) (a : Addr) : It :=
  ⟨fun i H => ∃ (xs : List V) (x : V), SqB K b H a xs ∧ xs[i]? = some x, fun i H v H' => ∃ T x o, v = .ref T ∧ H T = none ∧ o.dict = none ∧ H' = upd H T (.frz o (.tup [.int (i : Nat), x])) ∧ ∀ xs, SqB K b H a xs → xs[i]? = some x, fun i H => ∃ xs : List V, SqB K b H a xs ∧ xs.length = i⟩
theorem turn_enumB {P : Program} {w : World} {K : PySem.W.Frag} {elts : List Expr} {kk : Nat} {tpos : Pos} (b : Bool) (a e it : Addr) (hea : e ≠ a) :
    Turn P w K (.Tuple elts kk tpos) (IteB K b a) [e, it] e (fun i h => (∃ old, IsEnum h e it ((i : Nat) : Int) old) ∧ IsIB b h it a i ∧ e ≠ it) where
  mem := by simp
  obj := fun i h st c hb => by
    obtain ⟨⟨old, he⟩, hi, _⟩ := st
    obtain ⟨o, ho, hd, _⟩ := iib_obj hi
    have e' : c = e ∨ c = it := by simpa using hb
    rcases e' with z | z
    · rw [z]; exact ⟨_, he, fun v q => nomatch q⟩
    · rw [z]; exact ⟨o, ho, hd⟩
  keep := fun i h h' st k => let ⟨⟨old, he⟩, hi, hne⟩ := st; ⟨⟨old, k e (by simp) _ he⟩, hi.at fun o q => k it (by simp) o q, hne⟩
  item := by
    intro X hP hw hK hc i pins s σ H E I hf st hg
    subst hP hw hK
    obtain ⟨⟨old, he⟩, hit, hne⟩ := st
    obtain ⟨xs, x, hq, hx⟩ := hg
    obtain ⟨its, rv, p, hz⟩ := sqb_inv I hq
    obtain ⟨u, hu, ru⟩ := rv.get hx
    have hel : e < s.heap.objs.size := Heap.lt_size he
    have hil : it < s.heap.objs.size := by obtain ⟨_, q, _⟩ := iib_obj hit; exact Heap.lt_size q
    have hlt : i < its.toArray.size := by
      rw [List.size_toArray, ← rv.length]
      exact (List.getElem?_eq_some_iff.mp hx).1
    refine wpAny_pyNext_enum_itemD (drawsB (A := X.A.in1) (show X.A.in1.handled = none from I.ok.hd hc) b it a (iib_ne hit p) its.toArray) he ⟨hit, p⟩ hlt hne (nin2 hne hea) fun u' h' tk hP ho hit' hT hsz hk => ?_
    have eu : u' = u := by
      have hP : its.toArray[i]? = some u' := hP
      rw [List.getElem?_toArray, hu] at hP
      exact (Option.some.inj hP).symm
    subst eu
    refine ⟨_, rfl, wpAny_letOwnedTupleGo_enum (s := { s with heap := h', toks := tk + 1 }) ho fun h'' he' sb => ?_⟩
    have hT2 : h''.get? s.heap.objs.size = some { cls := .type "tuple", data := .seq #[.int i tk, u'] } := (sb.2 _ (Nat.ne_of_gt hel)).trans hT
    have new : ObjOk X.prog X.w (upd H s.heap.objs.size (.frz { cls := .type "tuple", data := .seq #[.int i tk, u'] } (.tup [.int (i : Nat), x]))) h'' s.heap.objs.size (.frz { cls := .type "tuple", data := .seq #[.int i tk, u'] } (.tup [.int (i : Nat), x])) :=
      ⟨hT2, by show 2 ≤ sizeLine; decide, [.int i tk, u'], .cons ⟨_, rfl⟩ (.cons ru .nil), ⟨_, hT2, rfl, _, rfl⟩⟩
    have I1 : Inv X pins σ (upd H s.heap.objs.size (.frz { cls := .type "tuple", data := .seq #[.int i tk, u'] } (.tup [.int (i : Nat), x]))) { s with heap := h'', toks := tk + 1 } :=
      I.turnedNew (ch := [e, it]) (fun c ob hb q => (sb.2 c (fun z => hb (by simp [z]))).trans (hk c ob (fun z => hb (by simp [z])) (fun z => hb (by simp [z])) q)) hf (Nat.le_refl _) new
    refine ⟨.ref s.heap.objs.size, _, I1, rfl, ⟨_, x, _, rfl, I.hok.fresh (Nat.le_refl _), rfl, rfl, fun ys hy => by rw [sqb_inj I hy hq]; exact hx⟩, ⟨⟨u', ?_⟩, hit'.1.at fun o q => (sb.2 it (Ne.symm hne)).trans q, hne⟩, fun c hb => ?_⟩
    · have e1 : ((i + 1 : Nat) : Int) = (i : Int) + 1 := by omega
      rw [e1]; exact he'
    · have hb' : c < s.heap.objs.size := by
        have e' : c = e ∨ c = it := by simpa using hb
        rcases e' with z | z
        · rw [z]; exact hel
        · rw [z]; exact hil
      rw [upd_ne (Nat.ne_of_lt hb')]
      exact (hf c hb).1
  done := by
    intro X hP hw hK hc i pins s σ H E I hf st hg
    subst hP hw hK
    obtain ⟨⟨old, he⟩, hit, hne⟩ := st
    obtain ⟨xs, hq, hx⟩ := hg
    obtain ⟨its, rv, p, hz⟩ := sqb_inv I hq
    obtain ⟨f0, f1, f2, f3, f4, f5⟩ := hf it (by simp)
    have hst : i = its.toArray.size := by rw [List.size_toArray, ← rv.length, hx]
    subst hst
    exact wpAny_pyNext_enum_endD (drawsB (A := X.A.in1) (show X.A.in1.handled = none from I.ok.hd hc) b it a (iib_ne hit p) its.toArray) he ⟨hit, p⟩ fun h' eb => ⟨rfl, I.turned (t' := s.toks) (fun b o hb q => eb b o hb q) f0 f1 f3 f4 f5⟩
  self := fun A i s Q E st h => let ⟨⟨_, he⟩, _⟩ := st; wpAny_pyIter_enum he h
def ItzB (K : PySem.W.Frag) (k k' : Bool) (a b : Addr) : It :=
  ⟨fun i H => ∃ (xs ys : List V) (x y : V), SqB K k H a xs ∧ SqB K k' H b ys ∧ xs[i]? = some x ∧ ys[i]? = some y,
    fun i H v H' => ∃ T x y o, v = .ref T ∧ H T = none ∧ o.dict = none ∧ H' = upd H T (.frz o (.tup [x, y])) ∧ (∀ xs, SqB K k H a xs → xs[i]? = some x) ∧ ∀ ys, SqB K k' H b ys → ys[i]? = some y,
    fun i H => ∃ xs ys : List V, SqB K k H a xs ∧ SqB K k' H b ys ∧ i ≤ xs.length ∧ i ≤ ys.length ∧ (i = xs.length ∨ i = ys.length)⟩
theorem turn_zipB {P : Program} {w : World} {K : PySem.W.Frag} {elts : List Expr} {kk : Nat} {tpos : Pos} {a b z TI TO i1 i2 : Addr} (k k' : Bool) (S : ZipSep2 z TI TO i1 i2 [i1, a] [i2, b]) :
    Turn P w K (.Tuple elts kk tpos) (ItzB K k k' a b) [z, TI, TO, i1, i2] z (fun i h => IsZip h z TI TO .none ∧ IsTupOf2 h TI (.ref i1) (.ref i2) ∧ (∃ x y, IsTupOf2 h TO x y) ∧ IsIB k h i1 a i ∧ IsIB k' h i2 b i) where
  mem := by simp
  obj := fun i h st c hc => by
    obtain ⟨hz, hTI, ⟨x, y, hTO⟩, h1, h2⟩ := st
    obtain ⟨o1, e1, d1, _⟩ := iib_obj h1
    obtain ⟨o2, e2, d2, _⟩ := iib_obj h2
    have e' : c = z ∨ c = TI ∨ c = TO ∨ c = i1 ∨ c = i2 := by simpa using hc
    rcases e' with q | q | q | q | q
    · rw [q]; exact ⟨_, hz, fun v q => nomatch q⟩
    · rw [q]; exact ⟨_, hTI, fun v q => nomatch q⟩
    · rw [q]; exact ⟨_, hTO, fun v q => nomatch q⟩
    · rw [q]; exact ⟨o1, e1, d1⟩
    · rw [q]; exact ⟨o2, e2, d2⟩
  keep := fun i h h' st k => by
    obtain ⟨hz, hTI, ⟨x, y, hTO⟩, h1, h2⟩ := st
    exact ⟨k z (by simp) _ hz, k TI (by simp) _ hTI, ⟨x, y, k TO (by simp) _ hTO⟩, h1.at fun o q => k i1 (by simp) o q, h2.at fun o q => k i2 (by simp) o q⟩
  item := by
    intro X hP hw hK hc i pins s σ H E I hf st hg
    subst hP hw hK
    obtain ⟨hz, hTI, ⟨x0, y0, hTO⟩, h1, h2⟩ := st
    obtain ⟨xs, ys, x, y, hqx, hqy, hx, hy⟩ := hg
    obtain ⟨its, rv, p, _⟩ := sqb_inv I hqx
    obtain ⟨its2, rv2, p2, _⟩ := sqb_inv I hqy
    obtain ⟨u, hu, ru⟩ := rv.get hx
    obtain ⟨u2, hu2, ru2⟩ := rv2.get hy
    have hzl : z < s.heap.objs.size := Heap.lt_size hz
    have hlt : i < its.toArray.size := by
      rw [List.size_toArray, ← rv.length]
      exact (List.getElem?_eq_some_iff.mp hx).1
    have hlt2 : i < its2.toArray.size := by
      rw [List.size_toArray, ← rv2.length]
      exact (List.getElem?_eq_some_iff.mp hy).1
    refine wpAny_pyNext_zipD2_item S (drawsB (A := X.A.in1) (show X.A.in1.handled = none from I.ok.hd hc) k i1 a (iib_ne h1 p) its.toArray) (drawsB (A := X.A.in1) (show X.A.in1.handled = none from I.ok.hd hc) k' i2 b (iib_ne h2 p2) its2.toArray) hz hTI hTO ⟨h1, p⟩ ⟨h2, p2⟩ hlt hlt2
      fun w1 w2 h' tk hP1 hP2 z' TO' h1' h2' hT hsz hk => ?_
    have eu : w1 = u := by
      have hP : its.toArray[i]? = some w1 := hP1
      rw [List.getElem?_toArray, hu] at hP
      exact (Option.some.inj hP).symm
    have eu2 : w2 = u2 := by
      have hP : its2.toArray[i]? = some w2 := hP2
      rw [List.getElem?_toArray, hu2] at hP
      exact (Option.some.inj hP).symm
    subst eu eu2
    refine ⟨_, rfl, wpAny_letOwnedTupleGo_zip (s := { s with heap := h', toks := tk }) z' fun h'' z'' sb => ?_⟩
    have hT2 : h''.get? s.heap.objs.size = some { cls := .type "tuple", data := .seq #[w1, w2] } := (sb.2 _ (Nat.ne_of_gt hzl)).trans hT
    have new : ObjOk X.prog X.w (upd H s.heap.objs.size (.frz { cls := .type "tuple", data := .seq #[w1, w2] } (.tup [x, y]))) h'' s.heap.objs.size (.frz { cls := .type "tuple", data := .seq #[w1, w2] } (.tup [x, y])) :=
      ⟨hT2, by show 2 ≤ sizeLine; decide, [w1, w2], .cons ru (.cons ru2 .nil), ⟨_, hT2, rfl, _, rfl⟩⟩
    have I1 : Inv X pins σ (upd H s.heap.objs.size (.frz { cls := .type "tuple", data := .seq #[w1, w2] } (.tup [x, y]))) { s with heap := h'', toks := tk } :=
      I.turnedNew (ch := [z, TI, TO, i1, i2]) (fun c o hb q => (sb.2 c (fun q' => hb (by simp [q']))).trans (hk c o (fun q' => hb (by simp [q'])) (fun q' => hb (by simp [q'])) (fun q' => hb (by simp [q'])) (fun q' => hb (by simp [q'])) q)) hf (Nat.le_refl _) new
    refine ⟨.ref s.heap.objs.size, _, I1, rfl, ⟨_, x, y, _, rfl, I.hok.fresh (Nat.le_refl _), rfl, rfl, fun l hl => by rw [sqb_inj I hl hqx]; exact hx, fun l hl => by rw [sqb_inj I hl hqy]; exact hy⟩, ⟨z'', ?_, ⟨w1, w2, ?_⟩, ?_, ?_⟩, fun c hcm => ?_⟩
    · exact (sb.2 _ S.TIz).trans (hk _ _ S.TIz S.TITO S.TIi1 S.TIi2 hTI)
    · exact (sb.2 _ S.TOz).trans TO'
    · exact h1'.1.at fun o q => (sb.2 _ S.zi1.symm).trans q
    · exact h2'.1.at fun o q => (sb.2 _ S.zi2.symm).trans q
    · have hlt : c < s.heap.objs.size := by
        have e' : c = z ∨ c = TI ∨ c = TO ∨ c = i1 ∨ c = i2 := by simpa using hcm
        rcases e' with q | q | q | q | q
        · rw [q]; exact hzl
        · rw [q]; exact Heap.lt_size hTI
        · rw [q]; exact Heap.lt_size hTO
        · rw [q]; obtain ⟨_, e1, _⟩ := iib_obj h1; exact Heap.lt_size e1
        · rw [q]; obtain ⟨_, e2, _⟩ := iib_obj h2; exact Heap.lt_size e2
      rw [upd_ne (Nat.ne_of_lt hlt)]
      exact (hf c hcm).1
  done := by
    intro X hP hw hK hc i pins s σ H E I hf st hg
    subst hP hw hK
    obtain ⟨hz, hTI, ⟨x0, y0, hTO⟩, h1, h2⟩ := st
    obtain ⟨xs, ys, hqx, hqy, hle1, hle2, hend⟩ := hg
    obtain ⟨its, rv, p, _⟩ := sqb_inv I hqx
    obtain ⟨its2, rv2, p2, _⟩ := sqb_inv I hqy
    rw [rv.length] at hle1 hend
    rw [rv2.length] at hle2 hend
    exact wpAny_pyNext_zipD2_end S (drawsB (A := X.A.in1) (show X.A.in1.handled = none from I.ok.hd hc) k i1 a (iib_ne h1 p) its.toArray) (drawsB (A := X.A.in1) (show X.A.in1.handled = none from I.ok.hd hc) k' i2 b (iib_ne h2 p2) its2.toArray) hz hTI hTO ⟨h1, p⟩ ⟨h2, p2⟩ (by simpa using hle1) (by simpa using hle2) (by simpa using hend)
      fun h' tk hk => ⟨rfl, I.turnedL (t' := tk) (ch := [z, TI, TO, i1, i2]) (fun c o hb q =>
      hk c o (fun q' => hb (by simp [q'])) (fun q' => hb (by simp [q'])) (fun q' => hb (by simp [q'])) (fun q' => hb (by simp [q'])) q) hf⟩
  self := fun A i s Q E st h => wpAny_pyIter_zip st.1 h
def iEnumB (K : PySem.W.Frag) (ta : TA) : TI := fun σ H R => ta σ H fun vs H1 => ∃ b a xs, vs = [.ref a] ∧ SqB K b H1 a xs ∧ (xs.length ≤ sizeLine → R (IteB K b a) H1)
theorem enum_one {v : Value} {o : Obj} {G : Heap → Prop} (B : Begins v o G) :
    Meets (Builtin.«enumerate.__new__» ⟨[.type "enumerate", v], []⟩) (fun _ R s => G s.heap ∧
      R (.ok (.ret (.ref (s.heap.push o).objs.size))) { s with heap := (s.heap.push o).push { cls := .type "enumerate", data := .fields #[.none, .bool false, .ref s.heap.objs.size, rawInt 0, .none, .none] } }) :=
  .of_wp fun prog w A R s h => by
    obtain ⟨hp, g, d, tk, os⟩ := s; obtain ⟨h1, h⟩ := h
    have hsub := sub_enumerate
    have go : ∀ {A' : Around} {E : Value → Shared → Prop} {Q : Value → Shared → Prop}, Q (.ref hp.objs.size) ⟨hp.push o, g, d, tk, os⟩ → wpAny (model prog w) A' (pyIter v) Q E ⟨hp, g, d, tk, os⟩ :=
      fun q => B.iter prog w _ _ ⟨hp, g, d, tk, os⟩ _ h1 q
    wp_walk using go
    refine wpAny_stack_any fun st => wpAny_pure ?_
    split
    · rename_i c _ _ _ _ _
      cases (c == Value.type "enumerate")
      · wp_walk using go
        exact ⟨_, rfl, h⟩
      · wp_walk using go
        exact ⟨_, rfl, h⟩
    · wp_walk using go
      exact ⟨_, rfl, h⟩
theorem call_enumB {prog : Program} {w : World} {A : Around} {E : Value → Shared → Prop} {s : Shared} {b : Bool} {l : Addr} {its : Array Value} {Q : Value → Shared → Prop} (hL : IsSB b s.heap l its)
    (h : ∀ h', IsEnum h' (s.heap.objs.size + 1) s.heap.objs.size 0 .none → h'.get? s.heap.objs.size = some (beO b l) → h'.objs.size = s.heap.objs.size + 2 →
      (∀ b o, s.heap.get? b = some o → h'.get? b = some o) → Q (.ref (s.heap.objs.size + 1)) { s with heap := h' }) :
    wpAny (model prog w) A (call (.type "enumerate") [.ref l]) Q E s := by
  have B := beginsB b l its
  refine callType_new F.called_enumerate (by decide) (F.typeCall_enumerate_1 _) (F.newCall_enumerate_1 _) (fun obj => F.args_object_init_2 obj _) F.entry_enumerate_new
    (enum_one B) ⟨hL, ?_⟩
  have hz : (s.heap.push (beO b l)).objs.size = s.heap.objs.size + 1 := Heap.size_push ..
  show _ ∧ _
  rw [hz]
  have he : IsEnum ((s.heap.push (beO b l)).push { cls := .type "enumerate", data := .fields #[.none, .bool false, .ref s.heap.objs.size, rawInt 0, .none, .none] }) (s.heap.objs.size + 1) s.heap.objs.size 0 .none := by
    have := Heap.get?_push_size (s.heap.push (beO b l)) (o := { cls := .type "enumerate", data := .fields #[.none, .bool false, .ref s.heap.objs.size, rawInt 0, .none, .none] }) rfl
    rw [hz] at this; exact this
  exact ⟨⟨_, he, rfl⟩, h _ he (Heap.get?_push_of_some _ (Heap.get?_push_size _ B.free)) (by rw [Heap.size_push, hz]) fun c o x => Heap.get?_push_of_some _ (Heap.get?_push_of_some _ x)⟩
theorem pi_enumB {X : Cx} {e : Expr} {ta : TA} {p pos tpos : Pos} {elts : List Expr} {kk : Nat} (hg : Gl X "enumerate") (hm : X.mg "enumerate" = none) (ha : PA X [e] ta) (hs : starEach [e] X.env = [(false, eval e X.env)]) :
    PI X (.Tuple elts kk tpos) (.Call (.Name "enumerate" p) [e] [] pos) (iEnumB X.K ta) := by
  refine ⟨fun pins s σ H R I h => ?_⟩
  refine Call_ (ld_blt I hg hm boot_enumerate (PyProof.Rows.callWith_type1 (thn (ha.run pos pins s σ H _ I h) fun us s1 ⟨vs, H1, I1, r1, q1⟩ => ?_) hs rfl))
  obtain ⟨b, a, xs, ex, hq, q⟩ := q1
  subst ex
  cases r1 with
  | cons r rr =>
    cases rr
    cases r
    obtain ⟨its, rv, p', hz⟩ := sqb_inv I1 hq
    refine call_enumB p' fun h' he hit hsz hk => wpAny_pyIter_enum he ?_
    have I2 : Inv X pins σ H1 { s1 with heap := h' } := I1.kept (t' := s1.toks) hk
    have hal := isb_lt p'
    refine ⟨s1.heap.objs.size + 1, [s1.heap.objs.size + 1, s1.heap.objs.size], _, _, H1, rfl, I2, turn_enumB b a (s1.heap.objs.size + 1) s1.heap.objs.size (Nat.ne_of_gt (Nat.lt_succ_of_lt hal)), ⟨⟨.none, he⟩, iib_new hit, Nat.succ_ne_self _⟩, fun b hb => ?_, q hz⟩
    have e' : b = s1.heap.objs.size + 1 ∨ b = s1.heap.objs.size := by simpa using hb
    have hle : s1.heap.objs.size ≤ b := by
      rcases e' with z | z
      · rw [z]; exact Nat.le_add_right _ _
      · rw [z]; exact Nat.le_refl _
    exact I1.fpOk hle (I1.hok.fresh hle)
theorem zsep {n a b : Nat} (ha : a < n) (hb : b < n) : ZipSep2 (n + 4) (n + 2) (n + 3) n (n + 1) [n, a] [n + 1, b] where
  TIz := (show (n + 2 : Nat) ≠ n + 4 by omega)
  TOz := (show (n + 3 : Nat) ≠ n + 4 by omega)
  TITO := (show (n + 2 : Nat) ≠ n + 3 by omega)
  TIi1 := (show (n + 2 : Nat) ≠ n by omega)
  mem1 := List.mem_cons_self
  zf1 := nin2 (a := n + 4) (b := n) (c := a) (by omega) (by omega)
  Tf1 := nin2 (a := n + 3) (b := n) (c := a) (by omega) (by omega)
  TIi2 := (show (n + 2 : Nat) ≠ n + 1 by omega)
  mem2 := List.mem_cons_self
  zf2 := nin2 (a := n + 4) (b := n + 1) (c := b) (by omega) (by omega)
  Tf2 := nin2 (a := n + 3) (b := n + 1) (c := b) (by omega) (by omega)
  sep1_2 := nin2 (a := n) (b := n + 1) (c := b) (by omega) (by omega)
  sep2_1 := nin2 (a := n + 1) (b := n) (c := a) (by omega) (by omega)
def iZipB (K : PySem.W.Frag) (ta : TA) : TI := fun σ H R => ta σ H fun vs H1 => ∃ k k' a b xs ys, vs = [.ref a, .ref b] ∧ SqB K k H1 a xs ∧ SqB K k' H1 b ys ∧ (xs.length ≤ sizeLine → R (ItzB K k k' a b) H1)
theorem pi_zipB {X : Cx} {e e2 : Expr} {ta : TA} {p pos tpos : Pos} {elts : List Expr} {kk : Nat} (hg : Gl X "zip") (hm : X.mg "zip" = none) (ha : PA X [e, e2] ta)
    (hs : starEach [e, e2] X.env = (false, eval e X.env) :: starEach [e2] X.env) (hpl : (backTo pos (starEach [e2] X.env)).any (·.1) = false) :
    PI X (.Tuple elts kk tpos) (.Call (.Name "zip" p) [e, e2] [] pos) (iZipB X.K ta) := by
  refine ⟨fun pins s σ H R I h => ?_⟩
  refine Call_ (ld_blt I hg hm PyProof.Rows.boot_zip (PyProof.Rows.callWith_type1 (thn (ha.run pos pins s σ H _ I h) fun us s1 ⟨vs, H1, I1, r1, q1⟩ => ?_) hs hpl))
  obtain ⟨k, k', a, b, xs, ys, ex, hqx, hqy, q⟩ := q1
  subst ex
  cases r1 with
  | cons r rr =>
    cases rr with
    | cons r' rr =>
      cases rr
      cases r
      cases r'
      have fresh5 : ∀ c, c ∈ [s1.heap.objs.size + 4, s1.heap.objs.size + 2, s1.heap.objs.size + 3, s1.heap.objs.size, s1.heap.objs.size + 1] → FpOk X pins H1 c := fun c hcm => by
        have e' : c = s1.heap.objs.size + 4 ∨ c = s1.heap.objs.size + 2 ∨ c = s1.heap.objs.size + 3 ∨ c = s1.heap.objs.size ∨ c = s1.heap.objs.size + 1 := by simpa using hcm
        have hle : s1.heap.objs.size ≤ c := by
          rcases e' with z | z | z | z | z
          · rw [z]; exact Nat.le_add_right _ _
          · rw [z]; exact Nat.le_add_right _ _
          · rw [z]; exact Nat.le_add_right _ _
          · rw [z]; exact Nat.le_refl _
          · rw [z]; exact Nat.le_add_right _ _
        exact I1.fpOk hle (I1.hok.fresh hle)
      obtain ⟨its, rv, p1, hz⟩ := sqb_inv I1 hqx
      obtain ⟨its2, rv2, p2, _⟩ := sqb_inv I1 hqy
      have la := isb_lt p1
      have lb := isb_lt p2
      refine zip_begins2 (beginsB k a its.toArray) (beginsB k' b its2.toArray) p1 p2 fun h' hzz hTI hTO h1 h2 hsz hk => wpAny_pyIter_zip hzz ?_
      have I2 : Inv X pins σ H1 { s1 with heap := h' } := I1.kept (t' := s1.toks) hk
      exact ⟨s1.heap.objs.size + 4, [s1.heap.objs.size + 4, s1.heap.objs.size + 2, s1.heap.objs.size + 3, s1.heap.objs.size, s1.heap.objs.size + 1], _, _, H1, rfl, I2, turn_zipB k k' (zsep la lb), ⟨hzz, hTI, ⟨_, _, hTO⟩, iib_new h1, iib_new h2⟩, fresh5, q hz⟩
end Th
end
section
set_option Elab.async false
set_option linter.all false
set_option maxRecDepth 100000
set_option maxHeartbeats 4000000
namespace Th
open PySem PySem.Spec PyProof.Rows L2
structure Walks (K : Kit) (A : List Addr) (F H : Hp) (S : Store) (J : It) (ds : List D) (ks : List Nat) : Prop where
  len : ds.length ≤ sizeLine
  go : ∀ (i : Nat) (d : D) (F2 H2 : Hp) (A2 : List Addr) (S2 : Store), Stp A F H F2 H2 → StR K F2 H2 A2 S2 → A <+: A2 → (∀ k ∈ ks, S2[k]? = S[k]?) → ds[i]? = some d → J.go i H2 ∧ ∀ x H3, J.yld i H2 x H3 → ∃ F3, Stp A2 F2 H2 F3 H3 ∧ StR K F3 H3 A2 S2 ∧ Rp K F3 x d
  stop : ∀ (F2 H2 : Hp) (A2 : List Addr) (S2 : Store), Stp A F H F2 H2 → StR K F2 H2 A2 S2 → A <+: A2 → (∀ k ∈ ks, S2[k]? = S[k]?) → J.stop ds.length H2
def WI (X : Cx) (tg iter : Expr) (σ : L2.St) (H : Hp) (R : It → Hp → Prop) : Prop := ∀ (pins : List (Addr × Obj)) (s : Shared), Inv X pins σ H s →
  wpAny (model X.prog X.w) X.A (eval iter X.env) (fun v s1 => wpAny (model X.prog X.w) X.A (pyIter v) (PIE X pins σ tg R) X.xe s1) X.xe s
theorem pi_w {X : Cx} {tg iter : Expr} : PI X tg iter (WI X tg iter) := ⟨fun pins s σ H R I h => h pins s I⟩
theorem wi_of {X : Cx} {tg iter : Expr} {wi : TI} (h : PI X tg iter wi) {σ : L2.St} {H : Hp} {R : It → Hp → Prop} (hw : wi σ H R) : WI X tg iter σ H R := fun pins s I => h.run pins s σ H R I hw
structure SoundI (Γ : Gam) (X : Cx) (tg iter : Expr) (mi : MI) : Prop where
  run : ∀ {σ : L2.St} {H F : Hp} {A : List Addr} {env : Env} {S S' : Store} {ds : List D} {ks : List Nat} {R : It → Hp → Prop}, evI Γ mi env S = .ok (ds, ks) S' → EnvR (kit X) F A env σ → StR (kit X) F H A S →
    (∀ J H' F', Stp A F H F' H' → StR (kit X) F' H' A S' → Walks (kit X) A F' H' S' J ds ks → R J H') → WI X tg iter σ H R
def Co.isT : Co → Bool
  | .d (.tuple _) => true
  | _ => false
def ItB (K : PySem.W.Frag) (b : Bool) (a : Addr) : It := if b = true then Itt K a else Itl K a
section
variable {K : Kit} {F H F2 H2 : Hp} {A A2 : List Addr} {S S2 : Store} {c : Co} {v : V} {r : RV}
theorem CoR.itemsB (h : CoR K F H c v) (l : Le F H) {ds : List D} (hi : c.items = some ds) : ∃ a vs, v = .ref a ∧ RpAll K F vs ds ∧ SqB K.K c.isT H a vs := by
  cases h with
  | d r =>
    cases r with
    | lst h1 h2 => cases hi; exact ⟨_, _, rfl, h2, l.sl h1⟩
    | tup h1 h3 h2 => cases hi; exact ⟨_, _, rfl, h2, .inl (.inr ⟨_, l _ _ h1⟩)⟩
    | _ => cases hi
  | o r =>
    cases r with
    | lst h1 h2 => cases hi; exact ⟨_, _, rfl, h2, .inl (.inl h1)⟩
    | _ => cases hi
theorem pre_get {A A2 : List Addr} (p : A <+: A2) {k : Nat} {a : Addr} (h : A[k]? = some a) : A2[k]? = some a := by
  obtain ⟨B, rfl⟩ := p
  rw [List.getElem?_append_left (List.getElem?_eq_some_iff.mp h).1]; exact h
theorem later_co (vr : VR K F H A r v) (hc : cont r S = some c) (st : Stp A F H F2 H2) (sr2 : StR K F2 H2 A2 S2) (p : A <+: A2) (hk : ∀ k ∈ chks r, S2[k]? = S[k]?) : CoR K F2 H2 c v := by
  cases vr with
  | imm h => cases hc; exact .d (h.mono st.le)
  | new h1 h2 h3 => cases hc; exact .o (h3.mono st.le (st.fr _ h3.there h2))
  | @ptr k a h =>
    have e := hk k (List.mem_singleton.mpr rfl)
    have hc2 : cont (.ptr k) S2 = some c := by
      unfold cont at hc ⊢
      simp only at hc ⊢
      rw [e]; exact hc
    exact (VR.ptr (pre_get p h) : VR K F2 H2 A2 (.ptr k) (.ref a)).co sr2 hc2
theorem walks_seq {ds : List D} {a : Addr} (vr : VR K F H A r (.ref a)) (hc : cont r S = some c) (hi : c.items = some ds) (hz : ds.length ≤ sizeLine) : Walks K A F H S (ItB K.K c.isT a) ds (chks r) := by
  refine ⟨hz, fun i d F2 H2 A2 S2 st sr p hk e => ?_, fun F2 H2 A2 S2 st sr p hk => ?_⟩
  · obtain ⟨b, vs, ev, rp, sq⟩ := (later_co vr hc st sr p hk).itemsB sr.sub hi
    cases ev
    obtain ⟨x, e1, rx⟩ := rp.get e
    cases hb : c.isT with
    | true =>
      rw [hb] at sq
      refine ⟨⟨vs, x, sq, e1⟩, fun y H3 hy => ?_⟩
      obtain ⟨rfl, hy⟩ := hy
      have ey := hy vs sq
      rw [e1] at ey; cases ey
      exact ⟨F2, Stp.refl A2 F2 H3, sr, rx⟩
    | false =>
      rw [hb] at sq
      refine ⟨⟨vs, x, sq, e1⟩, fun y H3 hy => ?_⟩
      obtain ⟨rfl, hy⟩ := hy
      have ey := hy vs sq
      rw [e1] at ey; cases ey
      exact ⟨F2, Stp.refl A2 F2 H3, sr, rx⟩
  · obtain ⟨b, vs, ev, rp, sq⟩ := (later_co vr hc st sr p hk).itemsB sr.sub hi
    cases ev
    cases hb : c.isT with
    | true => rw [hb] at sq; exact ⟨vs, sq, by rw [rp.length]; exact Nat.le_refl _⟩
    | false => rw [hb] at sq; exact ⟨vs, sq, by rw [rp.length]; exact Nat.le_refl _⟩
theorem walks_enum {ds : List D} {a : Addr} (vr : VR K F H A r (.ref a)) (hc : cont r S = some c) (hi : c.items = some ds) (hz : ds.length ≤ sizeLine) : Walks K A F H S (IteB K.K c.isT a) (ds.zipIdx.map fun p => pairD (.int (p.2 : Nat)) p.1) (chks r) := by
  refine ⟨by simpa using hz, fun i d F2 H2 A2 S2 st sr p hk e => ?_, fun F2 H2 A2 S2 st sr p hk => ?_⟩
  · obtain ⟨b, vs, ev, rp, sq⟩ := (later_co vr hc st sr p hk).itemsB sr.sub hi
    cases ev
    rw [List.getElem?_map] at e
    obtain ⟨q, hq, rfl⟩ := Option.map_eq_some_iff.mp e
    rw [List.getElem?_zipIdx] at hq
    obtain ⟨d', hd', rfl⟩ := Option.map_eq_some_iff.mp hq
    obtain ⟨x, e1, rx⟩ := rp.get hd'
    refine ⟨⟨vs, x, sq, e1⟩, fun y H3 hy => ?_⟩
    obtain ⟨T, x', o, rfl, hT, ho, rfl, hy⟩ := hy
    have ey := hy vs sq
    rw [e1] at ey; cases ey
    obtain ⟨s3, st3⟩ := sr.data (o := .frz o (.tup [.int (i : Nat), x])) hT
    refine ⟨_, st3, s3, .tup upd_same ho (.cons ?_ (.cons (rx.mono st3.le) .nil))⟩
    rw [Nat.zero_add]
    exact .int _
  · obtain ⟨b, vs, ev, rp, sq⟩ := (later_co vr hc st sr p hk).itemsB sr.sub hi
    cases ev
    exact ⟨vs, sq, by rw [rp.length]; simp⟩
theorem zipD_get {xs ys : List D} {i : Nat} {d : D} (h : (zipD xs ys)[i]? = some d) : ∃ x y, xs[i]? = some x ∧ ys[i]? = some y ∧ d = pairD x y := by
  unfold zipD at h
  rw [List.getElem?_zipWith] at h
  cases hx : xs[i]? with
  | none => rw [hx] at h; cases h
  | some x =>
    cases hy : ys[i]? with
    | none => rw [hx, hy] at h; cases h
    | some y => rw [hx, hy] at h; cases h; exact ⟨x, y, rfl, rfl, rfl⟩
theorem walks_zip {r' : RV} {c' : Co} {xs ys : List D} {a b : Addr} (vr : VR K F H A r (.ref a)) (hc : cont r S = some c) (hi : c.items = some xs) (vr' : VR K F H A r' (.ref b)) (hc' : cont r' S = some c') (hi' : c'.items = some ys) (hz : xs.length ≤ sizeLine) :
    Walks K A F H S (ItzB K.K c.isT c'.isT a b) (zipD xs ys) (chks r ++ chks r') := by
  refine ⟨?_, fun i d F2 H2 A2 S2 st sr p hk e => ?_, fun F2 H2 A2 S2 st sr p hk => ?_⟩
  · unfold zipD; rw [List.length_zipWith]; exact Nat.le_trans (Nat.min_le_left _ _) hz
  · obtain ⟨_, vs, ev, rp, sq⟩ := (later_co vr hc st sr p fun k z => hk k (List.mem_append_left _ z)).itemsB sr.sub hi
    cases ev
    obtain ⟨_, vs', ev, rp', sq'⟩ := (later_co vr' hc' st sr p fun k z => hk k (List.mem_append_right _ z)).itemsB sr.sub hi'
    cases ev
    obtain ⟨d1, d2, h1, h2, rfl⟩ := zipD_get e
    obtain ⟨x, e1, rx⟩ := rp.get h1
    obtain ⟨y, e2, ry⟩ := rp'.get h2
    refine ⟨⟨vs, vs', x, y, sq, sq', e1, e2⟩, fun z H3 hy => ?_⟩
    obtain ⟨T, x', y', o, rfl, hT, ho, rfl, hx', hy'⟩ := hy
    have ex := hx' vs sq
    rw [e1] at ex; cases ex
    have ey := hy' vs' sq'
    rw [e2] at ey; cases ey
    obtain ⟨s3, st3⟩ := sr.data (o := .frz o (.tup [x, y])) hT
    exact ⟨_, st3, s3, .tup upd_same ho (.cons (rx.mono st3.le) (.cons (ry.mono st3.le) .nil))⟩
  · obtain ⟨_, vs, ev, rp, sq⟩ := (later_co vr hc st sr p fun k z => hk k (List.mem_append_left _ z)).itemsB sr.sub hi
    cases ev
    obtain ⟨_, vs', ev, rp', sq'⟩ := (later_co vr' hc' st sr p fun k z => hk k (List.mem_append_right _ z)).itemsB sr.sub hi'
    cases ev
    have l1 := rp.length
    have l2 := rp'.length
    have lz : (zipD xs ys).length = min xs.length ys.length := by unfold zipD; rw [List.length_zipWith]
    exact ⟨vs, vs', sq, sq', by omega, by omega, by omega⟩
theorem walks_rng {i j : Int} (hz : (j - i).toNat ≤ sizeLine) : Walks K A F H S (Itr i (j - i).toNat) (rngD i j) [] := by
  have hl : (rngD i j).length = (j - i).toNat := by unfold rngD; simp
  refine ⟨by rw [hl]; exact hz, fun n d F2 H2 A2 S2 st sr p hk e => ?_, fun F2 H2 A2 S2 st sr p hk => by rw [hl]; exact Nat.le_refl _⟩
  have hn : n < (j - i).toNat := by rw [← hl]; exact (List.getElem?_eq_some_iff.mp e).1
  refine ⟨hn, fun x H3 hy => ?_⟩
  obtain ⟨rfl, rfl⟩ := hy
  have ed : d = .int (i + (n : Nat)) := by
    unfold rngD at e
    rw [List.getElem?_map, List.getElem?_range hn] at e
    cases e; rfl
  rw [ed]
  exact ⟨F2, Stp.refl A2 F2 H3, sr, .int _⟩
end
section
variable {Γ : Gam} {par : Par} {X : Cx} {tg e e2 : Expr} {m m2 : ME} {pos pos' : Pos}
theorem evEs_one {env : Env} {S S1 : Store} {x : RV} (h : evE Γ m env S = .ok x S1) : evEs Γ [m] env S = .ok [x] S1 := by
  unfold evEs
  rw [bind_ok h]
  unfold evEs
  rfl
theorem evEs_two {env : Env} {S S1 S2 : Store} {x y : RV} (h : evE Γ m env S = .ok x S1) (h2 : evE Γ m2 env S1 = .ok y S2) : evEs Γ [m, m2] env S = .ok [x, y] S2 := by
  unfold evEs
  rw [bind_ok h, bind_ok (evEs_one h2)]
  rfl
def iSeqB (K : PySem.W.Frag) (te : TE) : TI := fun σ H R => te σ H fun v H1 => ∃ b a xs, v = .ref a ∧ SqB K b H1 a xs ∧ (xs.length ≤ sizeLine → R (ItB K b a) H1)
theorem pi_seqB {te : TE} (he : PE X e te) : PI X tg e (iSeqB X.K te) := by
  refine ⟨fun pins s σ H R I h => ?_⟩
  refine thn (he.run pins s σ H _ I h) fun v s1 ⟨x, H1, I1, r1, b, a, xs, ex, hq, q⟩ => ?_
  subst ex
  cases r1
  obtain ⟨its, rv, p, hz⟩ := sqb_inv I1 hq
  cases b with
  | true =>
    refine wpAny_pyIter_tuple (show s1.heap.IsTuple a its.toArray from p) ?_
    exact pi_one (tk := s1.toks) I1 _ (turn_tuple a _) ⟨_, Heap.get?_push_size _ rfl, rfl, rfl⟩ (q hz)
  | false =>
    refine wpAny_pyIter_list (show s1.heap.IsList a its.toArray from p) ?_
    exact pi_one (tk := s1.toks) I1 _ (turn_list a _) ⟨_, Heap.get?_push_size _ rfl, rfl, rfl⟩ (q hz)
theorem si_seq (he : SoundE Γ X e m) : SoundI Γ X tg e (.seq m) := ⟨fun {σ H F A env S S' ds ks R} h er sr hR => by
  unfold evI at h
  obtain ⟨x, S1, e1, k1⟩ := bind_inv h
  obtain ⟨c, _, e2, k2⟩ := bind_inv k1
  obtain ⟨hc, rfl⟩ := coM_inv e2
  obtain ⟨xs, _, e3, k3⟩ := bind_inv k2
  obtain ⟨hi, rfl⟩ := lift_inv e3
  obtain ⟨q1, rfl⟩ := pure_inv k3
  cases q1
  refine wi_of (pi_seqB pe_w) (he.run e1 er sr fun v H' F' st sr' vr nw => ?_)
  obtain ⟨a, vs, rfl, rp, sq⟩ := (vr.co sr' hc).itemsB sr'.sub hi
  exact ⟨_, a, vs, rfl, sq, fun hz => hR _ H' F' st sr' (walks_seq vr hc hi (by rw [← rp.length]; exact hz))⟩⟩
theorem si_enum {elts : List Expr} {kk : Nat} {tpos : Pos} (G : Good Γ par X) (he : SoundE Γ X e m) (hp : plainE e = true) (hg : Gl X "enumerate") : SoundI Γ X (.Tuple elts kk tpos) (.Call (.Name "enumerate" pos') [e] [] pos) (.enum m) := ⟨fun {σ H F A env S S' ds ks R} h er sr hR => by
  unfold evI at h
  obtain ⟨x, S1, e1, k1⟩ := bind_inv h
  obtain ⟨c, _, e2, k2⟩ := bind_inv k1
  obtain ⟨hc, rfl⟩ := coM_inv e2
  obtain ⟨xs, _, e3, k3⟩ := bind_inv k2
  obtain ⟨hi, rfl⟩ := lift_inv e3
  obtain ⟨q1, rfl⟩ := pure_inv k3
  cases q1
  refine wi_of (pi_enumB hg (G.blt _ (by decide)) pa_w (star_of hp _ _)) ((sds_cons he sds_nil hp).run (evEs_one e1) er sr fun vs H' F' st sr' vrs nw => ?_)
  cases vrs with
  | cons vr z =>
    cases z
    obtain ⟨a, vs, rfl, rp, sq⟩ := (vr.co sr' hc).itemsB sr'.sub hi
    exact ⟨_, a, vs, rfl, sq, fun hz => hR _ H' F' st sr' (walks_enum vr hc hi (by rw [← rp.length]; exact hz))⟩⟩
theorem si_zip {elts : List Expr} {kk : Nat} {tpos : Pos} (G : Good Γ par X) (he : SoundE Γ X e m) (he2 : SoundE Γ X e2 m2) (hp : plainE e = true) (hp2 : plainE e2 = true) (hg : Gl X "zip") : SoundI Γ X (.Tuple elts kk tpos) (.Call (.Name "zip" pos') [e, e2] [] pos) (.zip m m2) := ⟨fun {σ H F A env S S' ds ks R} h er sr hR => by
  unfold evI at h
  obtain ⟨x, S1, e1, k1⟩ := bind_inv h
  obtain ⟨y, S2, e2', k2⟩ := bind_inv k1
  obtain ⟨c, _, e3, k3⟩ := bind_inv k2
  obtain ⟨hc, rfl⟩ := coM_inv e3
  obtain ⟨xs, _, e4, k4⟩ := bind_inv k3
  obtain ⟨hi, rfl⟩ := lift_inv e4
  obtain ⟨c', _, e5, k5⟩ := bind_inv k4
  obtain ⟨hc', rfl⟩ := coM_inv e5
  obtain ⟨ys, _, e6, k6⟩ := bind_inv k5
  obtain ⟨hi', rfl⟩ := lift_inv e6
  obtain ⟨q1, rfl⟩ := pure_inv k6
  cases q1
  have hpl : (backTo pos (starEach [e2] X.env)).any (·.1) = false := stars_of (by rw [List.all_cons, hp2]; rfl) _ _
  refine wi_of (pi_zipB hg (G.blt _ (by decide)) pa_w (star_of hp _ _) hpl) ((sds_cons he (sds_cons he2 sds_nil hp2) hp).run (evEs_two e1 e2') er sr fun vs H' F' st sr' vrs nw => ?_)
  cases vrs with
  | cons vr z =>
    cases z with
    | cons vr' z =>
      cases z
      obtain ⟨a, vs, rfl, rp, sq⟩ := (vr.co sr' hc).itemsB sr'.sub hi
      obtain ⟨b, vs', rfl, rp', sq'⟩ := (vr'.co sr' hc').itemsB sr'.sub hi'
      exact ⟨_, _, a, b, vs, vs', rfl, sq, sq', fun hz => hR _ H' F' st sr' (walks_zip vr hc hi vr' hc' hi' (by rw [← rp.length]; exact hz))⟩⟩
theorem si_rng1 (G : Good Γ par X) (he : SoundE Γ X e m) (hp : plainE e = true) (hg : Gl X "range") : SoundI Γ X tg (.Call (.Name "range" pos') [e] [] pos) (.rng1 m) := ⟨fun {σ H F A env S S' ds ks R} h er sr hR => by
  unfold evI at h
  obtain ⟨x, S1, e1, k1⟩ := bind_inv h
  obtain ⟨c, _, e2, k2⟩ := bind_inv k1
  obtain ⟨hc, rfl⟩ := coM_inv e2
  obtain ⟨i, _, e3, k3⟩ := bind_inv k2
  obtain ⟨hi, rfl⟩ := lift_inv e3
  obtain ⟨_, _, e4, k4⟩ := bind_inv k3
  obtain ⟨hb, rfl⟩ := chk_inv e4
  obtain ⟨q1, rfl⟩ := pure_inv k4
  cases q1
  refine wi_of (pi_range1 hg (G.blt _ (by decide)) pa_w (star_of hp _ _)) ((sds_cons he sds_nil hp).run (evEs_one e1) er sr fun vs H' F' st sr' vrs nw => ?_)
  cases vrs with
  | cons vr z =>
    cases z
    have ev := (vr.co sr' hc).int hi
    subst ev
    have w := walks_rng (K := kit X) (A := A) (F := F') (H := H') (S := S1) (i := 0) (j := i) (by unfold sizeLine; omega)
    rw [Int.sub_zero] at w
    exact ⟨i, rfl, by omega, by omega, hR _ H' F' st sr' w⟩⟩
theorem si_rng2 (G : Good Γ par X) (he : SoundE Γ X e m) (he2 : SoundE Γ X e2 m2) (hp : plainE e = true) (hp2 : plainE e2 = true) (hg : Gl X "range") : SoundI Γ X tg (.Call (.Name "range" pos') [e, e2] [] pos) (.rng2 m m2) := ⟨fun {σ H F A env S S' ds ks R} h er sr hR => by
  unfold evI at h
  obtain ⟨x, S1, e1, k1⟩ := bind_inv h
  obtain ⟨y, S2, e2', k2⟩ := bind_inv k1
  obtain ⟨c, _, e3, k3⟩ := bind_inv k2
  obtain ⟨hc, rfl⟩ := coM_inv e3
  obtain ⟨i, _, e4, k4⟩ := bind_inv k3
  obtain ⟨hi, rfl⟩ := lift_inv e4
  obtain ⟨c', _, e5, k5⟩ := bind_inv k4
  obtain ⟨hc', rfl⟩ := coM_inv e5
  obtain ⟨j, _, e6, k6⟩ := bind_inv k5
  obtain ⟨hj, rfl⟩ := lift_inv e6
  obtain ⟨_, _, e7, k7⟩ := bind_inv k6
  obtain ⟨hb, rfl⟩ := chk_inv e7
  obtain ⟨q1, rfl⟩ := pure_inv k7
  cases q1
  refine wi_of (pi_range2 hg (G.blt _ (by decide)) pa_w (by rw [star_of hp, star_of hp2]; rfl) (by rw [star_of hp2]; rfl)) ((sds_cons he (sds_cons he2 sds_nil hp2) hp).run (evEs_two e1 e2') er sr fun vs H' F' st sr' vrs nw => ?_)
  cases vrs with
  | cons vr z =>
    cases z with
    | cons vr' z =>
      cases z
      have ev := (vr.co sr' hc).int hi
      subst ev
      have ev := (vr'.co sr' hc').int hj
      subst ev
      exact ⟨i, j, rfl, ⟨by omega, by omega, by omega, by omega⟩, hR _ H' F' st sr' (walks_rng (by unfold sizeLine; omega))⟩⟩
end
end Th
end
section
set_option Elab.async false
set_option linter.all false
set_option maxRecDepth 100000
set_option maxHeartbeats 4000000
namespace Th
open PySem PySem.Spec PyProof.Rows L2
def WG (X : Cx) (tg : Expr) (v : V) (σ : L2.St) (H : Hp) (Q : L2.St → Hp → Prop) : Prop := ∀ (pins : List (Addr × Obj)) (s : Shared) (u : Value), Inv X pins σ H s → RelV v u →
  wpAny (model X.prog X.w) X.A (assign tg X.env u) (fun _ s' => ∃ σ' H', Inv X pins σ' H' s' ∧ Q σ' H') X.xe s
def WGs (X : Cx) (ts : List Expr) (vs : List V) (σ : L2.St) (H : Hp) (Q : L2.St → Hp → Prop) : Prop := ∀ (pins : List (Addr × Obj)) (s : Shared) (us : List Value), Inv X pins σ H s → Vals vs us →
  wpAny (model X.prog X.w) X.A (assignInOrder ((assignEach ts X.env).map (·.2)) us) (fun _ s' => ∃ σ' H', Inv X pins σ' H' s' ∧ Q σ' H') X.xe s
theorem pg_w {X : Cx} {tg : Expr} : PG X tg (WG X tg) := ⟨fun pins s σ H v u Q I r h => h pins s u I r⟩
theorem pgs_w {X : Cx} {ts : List Expr} : PGs X ts (WGs X ts) := ⟨fun pins s σ H vs us Q I r h => h pins s us I r⟩
theorem wg_of {X : Cx} {tg : Expr} {t : TG} (h : PG X tg t) {v : V} {σ : L2.St} {H : Hp} {Q : L2.St → Hp → Prop} (ht : t v σ H Q) : WG X tg v σ H Q := fun pins s u I r => h.run pins s σ H v u Q I r ht
theorem wgs_of {X : Cx} {ts : List Expr} {t : TGs} (h : PGs X ts t) {vs : List V} {σ : L2.St} {H : Hp} {Q : L2.St → Hp → Prop} (ht : t vs σ H Q) : WGs X ts vs σ H Q := fun pins s us I r => h.run pins s σ H vs us Q I r ht
structure SoundG (X : Cx) (tg : Expr) (g : MG) : Prop where
  run : ∀ {σ : L2.St} {H F : Hp} {A : List Addr} {env env' : Env} {d : D} {v : V} {Q : L2.St → Hp → Prop}, asgG g d env = some env' → EnvR (kit X) F A env σ → Le F H → Rp (kit X) F v d →
    (∀ σ', EnvR (kit X) F A env' σ' → σ'.length = σ.length → (∀ j, j ∉ g.slots → σ'[j]? = σ[j]?) → Q σ' H) → WG X tg v σ H Q
structure SoundGs (X : Cx) (ts : List Expr) (gs : List MG) : Prop where
  run : ∀ {σ : L2.St} {H F : Hp} {A : List Addr} {env env' : Env} {ds : List D} {vs : List V} {Q : L2.St → Hp → Prop}, asgGs gs ds env = some env' → gs.length = ds.length → EnvR (kit X) F A env σ → Le F H → RpAll (kit X) F vs ds →
    (∀ σ', EnvR (kit X) F A env' σ' → σ'.length = σ.length → (∀ j, j ∉ MG.slotsAll gs → σ'[j]? = σ[j]?) → Q σ' H) → WGs X ts vs σ H Q
theorem EnvR.set {K : Kit} {F : Hp} {A : List Addr} {env : Env} {σ : L2.St} {i : Nat} {s : Sl} {v : V} (h : EnvR K F A env σ) (hs : SloR K F A s v) : EnvR K F A (env.set i (some s)) (σ.set i (some v)) := by
  refine ⟨by rw [List.length_set, List.length_set]; exact h.len, fun j s' e => ?_⟩
  by_cases hj : i = j
  · subst hj
    by_cases hl : i < env.length
    · rw [List.getElem?_set_self hl] at e
      cases e
      exact ⟨v, List.getElem?_set_self (by rw [h.len]; exact hl), hs⟩
    · rw [List.getElem?_eq_none (by rw [List.length_set]; omega)] at e; cases e
  · rw [List.getElem?_set_ne hj] at e ⊢
    exact h.at_ j s' e
section
variable {X : Cx} {pos : Pos}
theorem sg_name {i : Nat} {x : Str} (hN : X.N.Nodup) (hi : X.N[i]? = some x) (hx : Loc X.env.scope x) (hf : X.fn x = true ∨ X.env.scope.names.lookup x = some .local) : SoundG X (.Name x pos) (.name i) := ⟨fun {σ H F A env env' d v Q} h er l r hQ => by
  unfold asgG at h
  split at h
  · cases h
    exact wg_of (pg_name hN hi hx hf) (hQ _ (er.set (.d r)) (List.length_set ..) fun j hj => List.getElem?_set_ne fun e => hj (by subst e; simp [MG.slots]))
  · cases h⟩
theorem sgs_nil : SoundGs X [] [] := ⟨fun {σ H F A env env' ds vs Q} h hl er l r hQ => by
  cases ds with
  | cons d ds => cases hl
  | nil =>
    cases h
    cases r
    exact wgs_of pgs_nil ⟨rfl, hQ σ er rfl fun j _ => rfl⟩⟩
def plainG : Expr → Bool
  | .Name .. => true
  | .Tuple .. => true
  | .Subscript .. => true
  | _ => false
theorem asgn_of {e : Expr} (h : plainG e = true) (es : List Expr) (env : PySem.Env) : assignEach (e :: es) env = (false, assign e env) :: assignEach es env := by
  cases e <;> first | rfl | (cases h)
theorem asgn_all : ∀ {es : List Expr}, es.all plainG = true → ∀ env : PySem.Env, (assignEach es env).length = es.length ∧ (assignEach es env).findIdx? (·.1) = none
  | [], _, _ => ⟨rfl, rfl⟩
  | e :: es, h, env => by
    rw [List.all_cons, Bool.and_eq_true] at h
    obtain ⟨h1, h2⟩ := asgn_all h.2 env
    rw [asgn_of h.1]
    exact ⟨by rw [List.length_cons, List.length_cons, h1], by rw [List.findIdx?_cons, h2]; rfl⟩
theorem sgs_cons {e : Expr} {es : List Expr} {g : MG} {gs : List MG} (h1 : SoundG X e g) (h2 : SoundGs X es gs) (hp : plainG e = true) : SoundGs X (e :: es) (g :: gs) := ⟨fun {σ H F A env env' ds vs Q} h hl er l r hQ => by
  cases r with
  | nil => cases hl
  | cons r rs =>
    unfold asgGs at h
    obtain ⟨e1, q1, q2⟩ := Option.bind_eq_some_iff.mp h
    refine wgs_of (pgs_cons pg_w pgs_w (by rw [asgn_of hp]; rfl)) ⟨_, _, rfl, h1.run q1 er l r fun σ1 er1 l1 k1 => ?_⟩
    refine h2.run q2 (Nat.succ.inj hl) er1 l rs fun σ2 er2 l2 k2 => hQ σ2 er2 (l2.trans l1) fun j hj => ?_
    rw [MG.slotsAll, List.mem_append, not_or] at hj
    rw [k2 j hj.2, k1 j hj.1]⟩
theorem sg_tup {es : List Expr} {gs : List MG} {k : Nat} (hc : X.calm = true) (h : SoundGs X es gs) (hp : es.all plainG = true) (hl : es.length = gs.length) : SoundG X (.Tuple es k pos) (.tup gs) := ⟨fun {σ H F A env env' d v Q} h' er l r hQ => by
  unfold asgG at h'
  cases d with
  | tuple xs =>
    simp only at h'
    split at h'
    · rename_i hx
      cases r with
      | tup q1 q3 q2 =>
        obtain ⟨z1, z2⟩ := asgn_all hp X.env
        refine wg_of (pg_tup hc pgs_w z1 z2) ⟨_, _, rfl, .inl (.inr ⟨_, l _ _ q1⟩), by rw [q2.length, ← hx, hl], h.run h' hx er l q2 fun σ' e1 e2 e3 => hQ σ' e1 e2 e3⟩
    · cases h'
  | _ => cases h'⟩
end
def WTs (X : Cx) (ifs : List Expr) (σ : L2.St) (H : Hp) (Q : Bool → Hp → Prop) : Prop := ∀ (pins : List (Addr × Obj)) (s : Shared), Inv X pins σ H s →
  wpAny (model X.prog X.w) X.A (forIn ifs true fun c r => if r = true then do let ok ← isTrue c X.env (eval c X.env); pure (ForInStep.yield ok) else pure (ForInStep.yield r)) (TP X pins σ Q) X.xe s
theorem pts_w {X : Cx} {ifs : List Expr} : PTs X ifs (WTs X ifs) := ⟨fun pins s σ H Q I h => h pins s I⟩
theorem wts_of {X : Cx} {ifs : List Expr} {t : TT} (h : PTs X ifs t) {σ : L2.St} {H : Hp} {Q : Bool → Hp → Prop} (ht : t σ H Q) : WTs X ifs σ H Q := fun pins s I => h.run pins s σ H Q I ht
structure SoundTo (Γ : Gam) (X : Cx) (ifs : List Expr) (mt : Option ME) : Prop where
  run : ∀ {σ : L2.St} {H F : Hp} {A : List Addr} {env : Env} {S S' : Store} {b : Bool} {Q : Bool → Hp → Prop}, evTo Γ mt env S = .ok b S' → EnvR (kit X) F A env σ → StR (kit X) F H A S →
    (∀ H' F', Stp A F H F' H' → StR (kit X) F' H' A S' → Q b H') → WTs X ifs σ H Q
theorem sto_nil {Γ : Gam} {X : Cx} : SoundTo Γ X [] none := ⟨fun {σ H F A env S S' b Q} h er sr hQ => by
  unfold evTo at h
  obtain ⟨rfl, rfl⟩ := pure_inv h
  exact wts_of pts_nil (hQ H F (Stp.refl A F H) sr)⟩
theorem sto_one {Γ : Gam} {X : Cx} {c : Expr} {mc : ME} (hc : SoundT Γ X c mc) : SoundTo Γ X [c] (some mc) := ⟨fun {σ H F A env S S' b Q} h er sr hQ => by
  unfold evTo at h
  exact wts_of (pts_one pt_w) (hc.run h er sr hQ)⟩
section
variable {K : Kit} {F H : Hp} {A : List Addr} {S : Store}
theorem StR.other (h : StR K F H A S) {D : Addr} {u : HO} (hA : D ∉ A) (hF : F D = none) : StR K F (upd H D u) A S := by
  refine ⟨fun a o e => ?_, h.nd, h.len, fun k a e h1 h2 => ?_⟩
  · rw [upd_ne (fun z => by rw [z, hF] at e; cases e)]; exact h.sub a o e
  · have ne : a ≠ D := fun z => hA (z ▸ List.mem_of_getElem? h1)
    cases h.ent k a e h1 h2 with
    | own q r => exact .own q (r.mono (Le.refl F) (upd_ne ne))
    | frz q r => exact .frz q r
theorem Stp.other {F0 H0 : Hp} (h : Stp A F0 H0 F H) {D : Addr} {u : HO} (hD : H0 D = none) : Stp A F0 H0 F (upd H D u) :=
  ⟨h.le, fun b hb nb => by rw [upd_ne (fun z => hb (by rw [z]; exact hD))]; exact h.fr b hb nb, h.ff⟩
end
theorem wipe_get {σ : L2.St} : ∀ {vs : List Nat} {j : Nat}, (wipe σ vs)[j]? = if j ∈ vs then (σ[j]?).map (fun _ => none) else σ[j]?
  | [], j => by simp [wipe]
  | v :: vs, j => by
    unfold wipe
    by_cases hv : v = j
    · subst hv
      by_cases hl : v < σ.length
      · rw [List.getElem?_set_self (by rw [wipe_length]; exact hl), if_pos List.mem_cons_self, List.getElem?_eq_getElem hl]; rfl
      · rw [List.getElem?_eq_none (by rw [List.length_set, wipe_length]; omega), if_pos List.mem_cons_self, List.getElem?_eq_none (by omega)]; rfl
    · rw [List.getElem?_set_ne hv, wipe_get (vs := vs)]
      by_cases hm : j ∈ vs
      · rw [if_pos hm, if_pos (List.mem_cons_of_mem _ hm)]
      · rw [if_neg hm, if_neg (by rw [List.mem_cons, not_or]; exact ⟨fun e => hv e.symm, hm⟩)]
theorem wipe_same {σ σ2 : L2.St} {vs : List Nat} (h : ∀ j, j ∉ vs → σ2[j]? = (wipe σ vs)[j]?) (hl : σ2.length = σ.length) : wipe σ2 vs = wipe σ vs := by
  refine List.ext_getElem? fun j => ?_
  rw [wipe_get, wipe_get]
  by_cases hm : j ∈ vs
  · rw [if_pos hm, if_pos hm]
    by_cases hj : j < σ.length
    · rw [List.getElem?_eq_getElem hj, List.getElem?_eq_getElem (by rw [hl]; exact hj)]; rfl
    · rw [List.getElem?_eq_none (by omega), List.getElem?_eq_none (by omega)]
  · rw [if_neg hm, if_neg hm, h j hm, wipe_get, if_neg hm]
theorem EnvR.wipe {K : Kit} {F : Hp} {A : List Addr} {env : Env} {σ : L2.St} (h : EnvR K F A env σ) : ∀ vs : List Nat, EnvR K F A (wipeE env vs) (L2.wipe σ vs)
  | [] => h
  | v :: vs => by
    have ih := EnvR.wipe h vs
    refine ⟨by unfold L2.wipe wipeE; rw [List.length_set, List.length_set]; exact ih.len, fun j s' e => ?_⟩
    unfold wipeE at e
    unfold L2.wipe
    by_cases hj : v = j
    · subst hj
      by_cases hl : v < (wipeE env vs).length
      · rw [List.getElem?_set_self hl] at e; cases e
      · rw [List.getElem?_eq_none (by rw [List.length_set]; omega)] at e; cases e
    · rw [List.getElem?_set_ne hj] at e ⊢
      exact ih.at_ j s' e
theorem chkS_inv {ks : List Nat} {S0 S S' : Store} {u : Unit} (h : chkS ks S0 S = .ok u S') : (∀ k ∈ ks, S[k]? = S0[k]?) ∧ S = S' := by
  unfold chkS at h
  split at h
  · rename_i q; cases h; exact ⟨q, rfl⟩
  · cases h
section
variable {Γ : Gam} {par : Par} {X : Cx} {tg iter elt : Expr} {g : MG} {mi : MI} {me : ME} {mt : Option ME} {ifs : List Expr} {scope : Scope} {own : List (Str × Nat)} {pos : Pos}
def LcI (K : Kit) (A : List Addr) (F1 H1 : Hp) (f : D → M (Option D)) (ks : List Nat) (S0 : Store) (ds tot : List D) (S3 : Store) (p : Addr) (i : Nat) (H' : Hp) : Prop :=
  ∃ (F2 : Hp) (S2 : Store) (vs : List V) (acc rest : List D), Stp A F1 H1 F2 H' ∧ StR K F2 H' A S2 ∧ F2 p = none ∧ H' p = some (.lst vs) ∧ RpAll K F2 vs acc ∧ (∀ k ∈ ks, S2[k]? = S0[k]?) ∧
    lcL f ks S0 (ds.drop i) S2 = .ok rest S3 ∧ tot = acc ++ rest ∧ acc.length ≤ i
noncomputable def lcF (Γ : Gam) (env : Env) (own : List Nat) (g : MG) (mt : Option ME) (me : ME) : D → M (Option D) := fun x => do
  let e ← lift (asgG g x (wipeE env own))
  let q ← evTo Γ mt e
  if q then do
    let r ← evE Γ me e
    let d ← frzM r
    pure (some d)
  else pure none
theorem lc_ok (hi : SoundI Γ X tg iter mi)
    (hg : ∀ (s : Shared) (H : Hp) (C : Addr) (cl : List (Str × Addr)) (fp : List Addr), SoundG (X.blk s H scope (compEnvC scope cl C X.env) fp) tg g)
    (ht : ∀ (s : Shared) (H : Hp) (C : Addr) (cl : List (Str × Addr)) (fp : List Addr), SoundTo Γ (X.blk s H scope (compEnvC scope cl C X.env) fp) ifs mt)
    (he : ∀ (s : Shared) (H : Hp) (C : Addr) (cl : List (Str × Addr)) (fp : List Addr), SoundE Γ (X.blk s H scope (compEnvC scope cl C X.env) fp) elt me)
    (hsub : ∀ j ∈ g.slots, j ∈ own.map (·.2)) {σ : L2.St} {H F : Hp} {A : List Addr} {env : Env} {S S' : Store} {r : RV} {Q : VK} (h : evE Γ (.lc me g mi (own.map (·.2)) mt) env S = .ok r S') (er : EnvR (kit X) F A env σ) (sr : StR (kit X) F H A S) (hQ : Post (kit X) A F H S' r Q) :
    tLc (WI X tg iter) (fun x σ H K => ∀ (s : Shared) (H' : Hp) (C : Addr) (cl : List (Str × Addr)) (fp : List Addr), WG (X.blk s H' scope (compEnvC scope cl C X.env) fp) tg x σ H K)
      (fun σ H K => ∀ (s : Shared) (H' : Hp) (C : Addr) (cl : List (Str × Addr)) (fp : List Addr), WTs (X.blk s H' scope (compEnvC scope cl C X.env) fp) ifs σ H K)
      (fun σ H K => ∀ (s : Shared) (H' : Hp) (C : Addr) (cl : List (Str × Addr)) (fp : List Addr), WE (X.blk s H' scope (compEnvC scope cl C X.env) fp) elt σ H K) (own.map (·.2)) σ H Q := by
  unfold evE at h
  obtain ⟨⟨ds, ks⟩, S1, e1, k1⟩ := bind_inv h
  obtain ⟨S0, _, e2, k2⟩ := bind_inv k1
  obtain ⟨rfl, rfl⟩ := getS_inv e2
  obtain ⟨tot, S3, e3, k3⟩ := bind_inv k2
  obtain ⟨rfl, rfl⟩ := ret_inv k3
  have e3 : lcL (lcF Γ env (own.map (·.2)) g mt me) ks S1 ds S1 = .ok tot S3 := e3
  refine hi.run e1 er sr fun J H1 F1 st1 sr1 wk p hD => ?_
  have hDA : p ∉ A := sr1.fresh hD
  have hDF : F1 p = none := sr1.free hD
  refine ⟨fun i m H' => LcI (kit X) A F1 H1 (lcF Γ env (own.map (·.2)) g mt me) ks S1 ds tot S3 p i H' ∧ i ≤ ds.length ∧ m = ds.length - i,
    ⟨ds.length, ⟨F1, S1, [], [], tot, (Stp.refl A F1 H1).other hD, sr1.other hDA hDF, hDF, upd_same, .nil, fun _ _ => rfl, e3, rfl, Nat.le_refl _⟩, Nat.zero_le _, rfl⟩, ?_⟩
  rintro i m H' ⟨⟨F2, S2, vs, acc, rest, st2, sr2, fD, hv, rp, hk, hl, etot, ha⟩, hi', rfl⟩
  by_cases hlt : i < ds.length
  · have hd : ds[i]? = some ds[i] := List.getElem?_eq_getElem hlt
    rw [List.drop_eq_getElem_cons hlt] at hl
    unfold lcL at hl
    obtain ⟨y, S4, q1, hl⟩ := bind_inv hl
    obtain ⟨_, S5, q2, hl⟩ := bind_inv hl
    obtain ⟨hk4, rfl⟩ := chkS_inv q2
    obtain ⟨ys, S6, q3, hl⟩ := bind_inv hl
    obtain ⟨eys, rfl⟩ := pure_inv hl
    unfold lcF at q1
    obtain ⟨env', S7, z1, q1⟩ := bind_inv q1
    obtain ⟨hz1, rfl⟩ := lift_inv z1
    obtain ⟨b, S8, z2, q1⟩ := bind_inv q1
    obtain ⟨hgo, hyl⟩ := wk.go i ds[i] F2 H' A S2 st2 sr2 (List.prefix_refl A) hk hd
    refine .inr ⟨hgo, fun H'' => LcI (kit X) A F1 H1 (lcF Γ env (own.map (·.2)) g mt me) ks S1 ds tot S6 p (i + 1) H'', fun H'' n => ⟨ds.length - (i + 1), by omega, n, hlt, rfl⟩, fun x H3 hx => ?_⟩
    obtain ⟨F3, st3, sr3, rx⟩ := hyl x H3 hx
    have hp' : H' p ≠ none := by rw [hv]; simp
    have hv3 : H3 p = some (.lst vs) := by rw [st3.fr p hp' hDA]; exact hv
    have fD3 : F3 p = none := st3.ff p fD hp' hDA
    have er3 : EnvR (kit X) F3 A env σ := er.mono (st1.le.trans (st2.le.trans st3.le))
    intro s0 H0 C cl fp
    refine (hg s0 H0 C cl fp).run hz1 (er3.wipe (own.map (·.2))) sr3.sub rx fun σ' er' len' hj' => ?_
    refine ⟨wipe_same (fun j hj => hj' j fun z => hj (hsub j z)) (by rw [len', wipe_length]), fun s0 H0 C cl fp => ?_⟩
    refine (ht s0 H0 C cl fp).run z2 er' sr3 fun H4 F4 st4 sr4 => ?_
    have hp3 : H3 p ≠ none := by rw [hv3]; simp
    have hv4 : H4 p = some (.lst vs) := by rw [st4.fr p hp3 hDA]; exact hv3
    have fD4 : F4 p = none := st4.ff p fD3 hp3 hDA
    cases b with
    | false =>
      simp only [Bool.false_eq_true, if_false] at q1 ⊢
      obtain ⟨rfl, rfl⟩ := pure_inv q1
      subst eys
      exact ⟨F4, _, vs, acc, _, st2.trans (st3.trans st4), sr4, fD4, hv4, rp.mono (st3.le.trans st4.le), hk4, q3, etot, Nat.le_succ_of_le ha⟩
    | true =>
      simp only [if_true] at q1 ⊢
      obtain ⟨r5, S9, z3, q1⟩ := bind_inv q1
      obtain ⟨d, S10, z4, q1⟩ := bind_inv q1
      obtain ⟨rfl, rfl⟩ := pure_inv q1
      subst eys
      intro s0 H0 C cl fp
      refine (he s0 H0 C cl fp).run z3 (er'.mono st4.le) sr4 fun v5 H5 F5 st5 sr5 vr5 nw5 => ?_
      have hp4 : H4 p ≠ none := by rw [hv4]; simp
      have hv5 : H5 p = some (.lst vs) := by rw [st5.fr p hp4 hDA]; exact hv4
      have fD5 : F5 p = none := st5.ff p fD4 hp4 hDA
      obtain ⟨F6, sr6, st6, le6, rp6, new6⟩ := frz_ok z4 sr5 vr5 st5 nw5
      have fD6 : F6 p = none := by
        cases q : F6 p with
        | none => rfl
        | some o =>
          obtain ⟨ev, h6⟩ := new6 p fD5 (by rw [q]; simp)
          rcases h6 with h6 | ⟨o', h6⟩
          · exact absurd h6 hDA
          · exact absurd (nw5 o' p h6 ev) hp4
      have lz : vs.length < sizeLine := by
        rw [rp.length]
        exact Nat.lt_of_le_of_lt ha (Nat.lt_of_lt_of_le hlt wk.len)
      have st7 := st2.trans (st3.trans (st4.trans st6))
      refine ⟨vs, hv5, lz, F6, _, vs ++ [v5], acc ++ [d], ys, st7.other hD, sr6.other hDA fD6, fD6, upd_same, (rp.mono (st3.le.trans (st4.le.trans st6.le))).append (.cons rp6 .nil), hk4, q3, ?_, ?_⟩
      · rw [etot, List.append_assoc]; rfl
      · rw [List.length_append]; exact Nat.succ_le_succ ha
  · have ei : i = ds.length := by omega
    subst ei
    rw [List.drop_length] at hl
    unfold lcL at hl
    obtain ⟨rfl, rfl⟩ := pure_inv hl
    rw [List.append_nil] at etot
    subst etot
    refine .inl ⟨wk.stop F2 H' A _ st2 sr2 (List.prefix_refl A) hk, hQ _ H' F2 (st1.trans st2) sr2 (.new fD hDA (.lst hv rp)) fun o a e1 e2 => ?_⟩
    cases e2
    cases q : H p with
    | none => rfl
    | some u =>
      have := st1.fr p (by rw [q]; simp) hDA
      rw [hD, q] at this; cases this
theorem sd_lc (hc : X.calm = true) (hN : X.N.Nodup) (ok : blkC X.N X.env.scope scope own = true) (hi : SoundI Γ X tg iter mi)
    (hg : ∀ (s : Shared) (H : Hp) (C : Addr) (cl : List (Str × Addr)) (fp : List Addr), SoundG (X.blk s H scope (compEnvC scope cl C X.env) fp) tg g)
    (ht : ∀ (s : Shared) (H : Hp) (C : Addr) (cl : List (Str × Addr)) (fp : List Addr), SoundTo Γ (X.blk s H scope (compEnvC scope cl C X.env) fp) ifs mt)
    (he : ∀ (s : Shared) (H : Hp) (C : Addr) (cl : List (Str × Addr)) (fp : List Addr), SoundE Γ (X.blk s H scope (compEnvC scope cl C X.env) fp) elt me)
    (hsub : ∀ j ∈ g.slots, j ∈ own.map (·.2)) (hs : ∀ x, foldedSetIterable iter X.env x = pure x) : SoundE Γ X (.ListComp elt [⟨tg, iter, ifs, 0⟩] scope pos) (.lc me g mi (own.map (·.2)) mt) :=
  ⟨fun {σ H F A env S S' r Q} h er sr hQ => we_of (pe_lc hc hN pi_w (blkOk_by ok) (fun s H C cl fp => ⟨fun pins s' σ H v u Q I r h => h _ _ _ _ _ pins s' u I r⟩) (fun s H C cl fp => ⟨fun pins s' σ H Q I h => h _ _ _ _ _ pins s' I⟩) (fun s H C cl fp => ⟨fun pins s' σ H Q I h => h _ _ _ _ _ pins s' I⟩) hs) (lc_ok hi hg ht he hsub h er sr hQ)⟩
end
end Th
end
section
set_option Elab.async false
set_option linter.all false
set_option maxRecDepth 100000
set_option maxHeartbeats 4000000
namespace Th
open PySem PySem.Spec PyProof.Rows L2
structure Ext (A A2 : List Addr) (H : Hp) : Prop where
  pre : A <+: A2
  new : ∀ a ∈ A2, a ∈ A ∨ H a = none
theorem Ext.refl (A : List Addr) (H : Hp) : Ext A A H := ⟨List.prefix_refl A, fun _ h => .inl h⟩
theorem Stp.transA {A A1 : List Addr} {F H F1 H1 F2 H2 : Hp} (x : Stp A F H F1 H1) (e : Ext A A1 H) (y : Stp A1 F1 H1 F2 H2) : Stp A F H F2 H2 := by
  have n1 : ∀ b, H b ≠ none → b ∉ A → b ∉ A1 := fun b hb nb z => (e.new b z).elim nb hb
  exact ⟨x.le.trans y.le, fun b hb nb => by rw [y.fr b (by rw [x.fr b hb nb]; exact hb) (n1 b hb nb), x.fr b hb nb],
    fun b f hb nb => y.ff b (x.ff b f hb nb) (by rw [x.fr b hb nb]; exact hb) (n1 b hb nb)⟩
theorem Stp.back {A : List Addr} {F H F1 H1 : Hp} (x : Stp A F H F1 H1) {b : Addr} (hb : H1 b = none) (nb : b ∉ A) : H b = none := by
  cases q : H b with
  | none => rfl
  | some u =>
    have := x.fr b (by rw [q]; simp) nb
    rw [hb, q] at this; cases this
theorem Ext.trans {A A1 A2 : List Addr} {F H F1 H1 : Hp} (x : Stp A F H F1 H1) (e : Ext A A1 H) (e2 : Ext A1 A2 H1) : Ext A A2 H := by
  refine ⟨e.pre.trans e2.pre, fun a ha => ?_⟩
  rcases e2.new a ha with z | z
  · exact e.new a z
  · by_cases m : a ∈ A
    · exact .inl m
    · exact .inr (x.back z m)
def PostS (K : Kit) (A : List Addr) (F H : Hp) (S' : Store) (p : Fl × Env) (D : Ends) : Prop :=
  ∀ σ' H' F' A', Stp A F H F' H' → StR K F' H' A' S' → Ext A A' H → EnvR K F' A' p.2 σ' → match p.1 with
    | .nx => D.nx σ' H'
    | .bk => D.bk σ' H'
    | .ct => D.ct σ' H'
    | .ret r => ∀ v, VR K F' H' A' r v → (∀ o a, r = .new o → v = .ref a → H a = none) → D.rt v H'
theorem PostS.after {K : Kit} {A A1 : List Addr} {F H F1 H1 : Hp} {S' : Store} {p : Fl × Env} {D : Ends} (st : Stp A F H F1 H1) (e : Ext A A1 H) (h : PostS K A F H S' p D) : PostS K A1 F1 H1 S' p D := by
  intro σ' H' F' A' st2 sr e2 er
  have q := h σ' H' F' A' (st.transA e st2) sr (e.trans st e2) er
  revert q
  obtain ⟨fl, env⟩ := p
  cases fl with
  | nx => exact id
  | bk => exact id
  | ct => exact id
  | ret r =>
    intro q v vr nw
    refine q v vr fun o a e1 e3 => ?_
    subst e1 e3
    cases vr with
    | new _ hA _ => exact st.back (nw o a rfl rfl) fun z => hA (e2.pre.subset (e.pre.subset z))
def WS (X : Cx) (st : Stmt) (D : Ends) (σ : L2.St) (H : Hp) : Prop := ∀ (pins : List (Addr × Obj)) (s : Shared), Inv X pins σ H s → wpAny (model X.prog X.w) X.A (exec st X.env) (SP X pins D) X.xe s
def WSs (X : Cx) (st : List Stmt) (D : Ends) (σ : L2.St) (H : Hp) : Prop := ∀ (pins : List (Addr × Obj)) (s : Shared), Inv X pins σ H s → wpAny (model X.prog X.w) X.A (execs st X.env) (SP X pins D) X.xe s
theorem ps_w {X : Cx} {st : Stmt} : PS X st (WS X st) := ⟨fun pins s σ H D I h => h pins s I⟩
theorem pss_w {X : Cx} {st : List Stmt} : PSs X st (WSs X st) := ⟨fun pins s σ H D I h => h pins s I⟩
theorem ws_of {X : Cx} {st : Stmt} {t : TS} (h : PS X st t) {D : Ends} {σ : L2.St} {H : Hp} (ht : t D σ H) : WS X st D σ H := fun pins s I => h.run pins s σ H D I ht
theorem wss_of {X : Cx} {st : List Stmt} {t : TS} (h : PSs X st t) {D : Ends} {σ : L2.St} {H : Hp} (ht : t D σ H) : WSs X st D σ H := fun pins s I => h.run pins s σ H D I ht
structure SoundS (Γ : Gam) (X : Cx) (st : Stmt) (m : MS) : Prop where
  run : ∀ {σ : L2.St} {H F : Hp} {A : List Addr} {env : Env} {S S' : Store} {p : Fl × Env} {D : Ends}, evS Γ m env S = .ok p S' → EnvR (kit X) F A env σ → StR (kit X) F H A S → PostS (kit X) A F H S' p D → WS X st D σ H
structure SoundSs (Γ : Gam) (X : Cx) (st : List Stmt) (ms : List MS) : Prop where
  run : ∀ {σ : L2.St} {H F : Hp} {A : List Addr} {env : Env} {S S' : Store} {p : Fl × Env} {D : Ends}, evSs Γ ms env S = .ok p S' → EnvR (kit X) F A env σ → StR (kit X) F H A S → PostS (kit X) A F H S' p D → WSs X st D σ H
theorem EnvR.pre {K : Kit} {F : Hp} {A A2 : List Addr} {env : Env} {σ : L2.St} (h : EnvR K F A env σ) (p : A <+: A2) : EnvR K F A2 env σ :=
  ⟨h.len, fun i s e => let ⟨v, h1, h2⟩ := h.at_ i s e; ⟨v, h1, by
    cases h2 with
    | d h => exact .d h
    | p h => exact .p (pre_get p h)⟩⟩
section
variable {Γ : Gam} {par : Par} {X : Cx} {st : Stmt} {sts : List Stmt} {m : MS} {ms : List MS} {pos : Pos}
theorem PostS.nx {K : Kit} {A : List Addr} {F H : Hp} {S' : Store} {env : Env} {D : Ends} {σ : L2.St} {H' F' : Hp} (h : PostS K A F H S' (.nx, env) D) (s : Stp A F H F' H') (sr : StR K F' H' A S') (er : EnvR K F A env σ) : D.nx σ H' :=
  h σ H' F' A s sr (.refl A H) (er.mono s.le)
theorem sss_nil : SoundSs Γ X [] [] := ⟨fun {σ H F A env S S' p D} h er sr hQ => by
  unfold evSs at h
  obtain ⟨rfl, rfl⟩ := pure_inv h
  exact wss_of pss_nil (hQ.nx (.refl A F H) sr er)⟩
theorem sss_cons (h1 : SoundS Γ X st m) (h2 : SoundSs Γ X sts ms) : SoundSs Γ X (st :: sts) (m :: ms) := ⟨fun {σ H F A env S S' p D} h er sr hQ => by
  unfold evSs at h
  obtain ⟨q, S1, e1, k1⟩ := bind_inv h
  refine wss_of (pss_cons ps_w pss_w) (h1.run e1 er sr ?_)
  intro σ1 H1 F1 A1 st1 sr1 ex1 er1
  obtain ⟨fl, env1⟩ := q
  cases fl with
  | nx => exact h2.run k1 er1 sr1 (hQ.after st1 ex1)
  | bk =>
    obtain ⟨rfl, rfl⟩ := pure_inv k1
    exact hQ σ1 H1 F1 A1 st1 sr1 ex1 er1
  | ct =>
    obtain ⟨rfl, rfl⟩ := pure_inv k1
    exact hQ σ1 H1 F1 A1 st1 sr1 ex1 er1
  | ret r =>
    obtain ⟨rfl, rfl⟩ := pure_inv k1
    exact hQ σ1 H1 F1 A1 st1 sr1 ex1 er1⟩
theorem ss_pass : SoundS Γ X (.Pass pos) .pass := ⟨fun {σ H F A env S S' p D} h er sr hQ => by
  unfold evS at h
  obtain ⟨rfl, rfl⟩ := pure_inv h
  exact ws_of ps_pass (hQ.nx (.refl A F H) sr er)⟩
theorem ss_brk : SoundS Γ X (.Break pos) .brk := ⟨fun {σ H F A env S S' p D} h er sr hQ => by
  unfold evS at h
  obtain ⟨rfl, rfl⟩ := pure_inv h
  exact ws_of ps_break (hQ σ H F A (.refl A F H) sr (.refl A H) er)⟩
theorem ss_cnt : SoundS Γ X (.Continue pos) .cnt := ⟨fun {σ H F A env S S' p D} h er sr hQ => by
  unfold evS at h
  obtain ⟨rfl, rfl⟩ := pure_inv h
  exact ws_of ps_continue (hQ σ H F A (.refl A F H) sr (.refl A H) er)⟩
theorem ss_raise : SoundS Γ X st .raise := ⟨fun {σ H F A env S S' p D} h er sr hQ => by
  unfold evS at h
  cases h⟩
theorem ss_retN : SoundS Γ X (.Return none pos) .retN := ⟨fun {σ H F A env S S' p D} h er sr hQ => by
  unfold evS at h
  obtain ⟨rfl, rfl⟩ := pure_inv h
  exact ws_of ps_retN (hQ σ H F A (.refl A F H) sr (.refl A H) er .non (.imm .non) fun o a e => by cases e)⟩
theorem ss_ret {e : Expr} {me : ME} (he : SoundE Γ X e me) : SoundS Γ X (.Return (some e) pos) (.ret me) := ⟨fun {σ H F A env S S' p D} h er sr hQ => by
  unfold evS at h
  obtain ⟨r, S1, e1, k1⟩ := bind_inv h
  obtain ⟨rfl, rfl⟩ := pure_inv k1
  exact ws_of (ps_ret pe_w) (he.run e1 er sr fun v H1 F1 st1 sr1 vr nw => hQ σ H1 F1 A st1 sr1 (.refl A H) (er.mono st1.le) v vr nw)⟩
theorem ss_expr {e : Expr} {me : ME} (he : SoundE Γ X e me) (hs : swapsWith e none pos.line X.env = pure false) : SoundS Γ X (.Expr e pos) (.expr me) := ⟨fun {σ H F A env S S' p D} h er sr hQ => by
  unfold evS at h
  obtain ⟨r, S1, e1, k1⟩ := bind_inv h
  obtain ⟨rfl, rfl⟩ := pure_inv k1
  exact ws_of (ps_expr pe_w hs) (he.run e1 er sr fun v H1 F1 st1 sr1 vr nw => hQ.nx st1 sr1 er)⟩
theorem ss_if {c : Expr} {mc : ME} {a b : List Stmt} {ma mb : List MS} (hc : SoundT Γ X c mc) (ha : SoundSs Γ X a ma) (hb : SoundSs Γ X b mb) : SoundS Γ X (.If c a b pos) (.ifs mc ma mb) := ⟨fun {σ H F A env S S' p D} h er sr hQ => by
  unfold evS at h
  obtain ⟨t, S1, e1, k1⟩ := bind_inv h
  refine ws_of (ps_if pt_w pss_w pss_w) (hc.run e1 er sr fun H1 F1 st1 sr1 => ?_)
  cases t with
  | true => exact ha.run k1 (er.mono st1.le) sr1 (hQ.after st1 (.refl A H))
  | false => exact hb.run k1 (er.mono st1.le) sr1 (hQ.after st1 (.refl A H))⟩
theorem StR.push {K : Kit} {F H : Hp} {A : List Addr} {S : Store} (h : StR K F H A S) {a : Addr} {o : Ob} (hf : F a = none) (hA : a ∉ A) (ob : ObR K F H a o) : StR K F H (A ++ [a]) (S ++ [.own o]) := by
  refine ⟨h.sub, ?_, by rw [List.length_append, List.length_append, h.len]; rfl, fun k b e h1 h2 => ?_⟩
  · rw [List.nodup_append]
    exact ⟨h.nd, by simp, fun x hx y hy z => by
      have hy : y = a := by simpa using hy
      subst hy z; exact hA hx⟩
  · by_cases hk : k < A.length
    · rw [List.getElem?_append_left hk] at h1
      rw [List.getElem?_append_left (by rw [← h.len]; exact hk)] at h2
      exact h.ent k b e h1 h2
    · rw [List.getElem?_append_right (by omega)] at h1
      rw [List.getElem?_append_right (by rw [← h.len]; omega), ← h.len] at h2
      cases hj : k - A.length with
      | zero =>
        rw [hj] at h1 h2
        cases h1; cases h2
        exact .own hf ob
      | succ n => rw [hj] at h1; simp at h1
theorem putSl_ok {K : Kit} {F H H0 : Hp} {A A0 : List Addr} {S S' : Store} {i : Nat} {r : RV} {v : V} {env env' : Env} {σ : L2.St} (h : putSl i r env S = .ok env' S') (er : EnvR K F A env σ) (sr : StR K F H A S) (vr : VR K F H A r v)
    (nw : ∀ o a, r = .new o → v = .ref a → H0 a = none) (ex : Ext A0 A H0) : ∃ A', StR K F H A' S' ∧ Ext A0 A' H0 ∧ EnvR K F A' env' (σ.set i (some v)) ∧ A <+: A' ∧ (∀ a ∈ A', a ∈ A ∨ ∃ o, r = .new o ∧ v = .ref a) := by
  unfold putSl at h
  split at h
  · cases vr with
    | imm q =>
      simp only at h
      cases h
      exact ⟨A, sr, ex, er.set (.d q), List.prefix_refl A, fun a h => .inl h⟩
    | ptr q =>
      simp only at h
      cases h
      exact ⟨A, sr, ex, er.set (.p q), List.prefix_refl A, fun a h => .inl h⟩
    | @new o a q1 q2 q3 =>
      simp only at h
      cases h
      refine ⟨A ++ [a], sr.push q1 q2 q3, ⟨ex.pre.trans (List.prefix_append _ _), fun b hb => ?_⟩, (er.pre (List.prefix_append _ _)).set (.p ?_), List.prefix_append _ _, fun b hb => ?_⟩
      · rcases List.mem_append.mp hb with z | z
        · exact ex.new b z
        · have z : b = a := by simpa using z
          subst z; exact .inr (nw o b rfl rfl)
      · rw [← sr.len, List.getElem?_append_right (Nat.le_refl _), Nat.sub_self]; rfl
      · rcases List.mem_append.mp hb with z | z
        · exact .inl z
        · have z : b = a := by simpa using z
          subst z; exact .inr ⟨o, rfl, rfl⟩
  · cases h
theorem ss_name {i : Nat} {x : Str} {e : Expr} {me : ME} {p2 : Pos} (hN : X.N.Nodup) (hi : X.N[i]? = some x) (hx : Loc X.env.scope x) (hf : X.fn x = true ∨ X.env.scope.names.lookup x = some .local) (he : SoundE Γ X e me) (hs : swapsWith e (some (.Name x p2)) pos.line X.env = pure false) :
    SoundS Γ X (.Assign [.Name x p2] e pos) (.asg (.name i) me) := ⟨fun {σ H F A env S S' p D} h er sr hQ => by
  unfold evS at h
  obtain ⟨r, S1, e1, k1⟩ := bind_inv h
  obtain ⟨env', S2, e2, k2⟩ := bind_inv k1
  obtain ⟨rfl, rfl⟩ := pure_inv k2
  refine ws_of (ps_set hN hi hx pe_w hs hf) (he.run e1 er sr fun v H1 F1 st1 sr1 vr nw => ?_)
  obtain ⟨A', sr2, ex, er2, _⟩ := putSl_ok (show putSl i r env S1 = .ok env' S2 from e2) (er.mono st1.le) sr1 vr nw (.refl A H)
  exact hQ _ H1 F1 A' ⟨st1.le, st1.fr, st1.ff⟩ sr2 ex er2⟩
theorem ss_lc {i : Nat} {x : Str} {p2 : Pos} {elt tg iter : Expr} {ifs : List Expr} {scope : Scope} {own : List (Str × Nat)} {lpos : Pos} {g : MG} {mi : MI} {me : ME} {mt : Option ME} (hc : X.calm = true) (hN : X.N.Nodup) (hy : X.N[i]? = some x) (hyl : X.env.scope.names.lookup x = some .local)
    (hsw : swapsWith (.ListComp elt [⟨tg, iter, ifs, 0⟩] scope lpos) (some (.Name x p2)) pos.line X.env = pure true) (ok : blkC X.N X.env.scope scope own = true) (hi : SoundI Γ X tg iter mi)
    (hg : ∀ (s : Shared) (H : Hp) (C : Addr) (cl : List (Str × Addr)) (fp : List Addr), SoundG (X.blk s H scope (compEnvC scope cl C X.env) fp) tg g)
    (ht : ∀ (s : Shared) (H : Hp) (C : Addr) (cl : List (Str × Addr)) (fp : List Addr), SoundTo Γ (X.blk s H scope (compEnvC scope cl C X.env) fp) ifs mt)
    (he : ∀ (s : Shared) (H : Hp) (C : Addr) (cl : List (Str × Addr)) (fp : List Addr), SoundE Γ (X.blk s H scope (compEnvC scope cl C X.env) fp) elt me)
    (hsub : ∀ j ∈ g.slots, j ∈ own.map (·.2)) (hs : ∀ x, foldedSetIterable iter X.env x = pure x) : SoundS Γ X (.Assign [.Name x p2] (.ListComp elt [⟨tg, iter, ifs, 0⟩] scope lpos) pos) (.asg (.name i) (.lc me g mi (own.map (·.2)) mt)) := ⟨fun {σ H F A env S S' p D} h er sr hQ => by
  unfold evS at h
  obtain ⟨r, S1, e1, k1⟩ := bind_inv h
  obtain ⟨env', S2, e2, k2⟩ := bind_inv k1
  obtain ⟨rfl, rfl⟩ := pure_inv k2
  refine ws_of (ps_setLc hc hN hy hyl hsw pi_w (blkOk_by ok) (fun s H C cl fp => ⟨fun pins s' σ H v u Q I r h => h _ _ _ _ _ pins s' u I r⟩) (fun s H C cl fp => ⟨fun pins s' σ H Q I h => h _ _ _ _ _ pins s' I⟩) (fun s H C cl fp => ⟨fun pins s' σ H Q I h => h _ _ _ _ _ pins s' I⟩) hs)
    (lc_ok hi hg ht he hsub e1 er sr fun v H1 F1 st1 sr1 vr nw => ?_)
  obtain ⟨A', sr2, ex, er2, _⟩ := putSl_ok (show putSl i r env S1 = .ok env' S2 from e2) (er.mono st1.le) sr1 vr nw (.refl A H)
  exact hQ _ H1 F1 A' ⟨st1.le, st1.fr, st1.ff⟩ sr2 ex er2⟩
theorem ss_tup {tg e : Expr} {gs : List MG} {me : ME} (hg : SoundG X tg (.tup gs)) (he : SoundE Γ X e me) (hp : plainG tg = true) (hs : swapsWithSole [tg] e pos.line X.env = pure false) (hw : swappedStores [tg] e X.env = pure none) :
    SoundS Γ X (.Assign [tg] e pos) (.asg (.tup gs) me) := ⟨fun {σ H F A env S S' p D} h er sr hQ => by
  unfold evS at h
  obtain ⟨r, S1, e1, k1⟩ := bind_inv h
  obtain ⟨env', S2, e2, k2⟩ := bind_inv k1
  obtain ⟨rfl, rfl⟩ := pure_inv k2
  refine ws_of (ps_asg pe_w pg_w hs hw (by rw [asgn_of hp]; rfl)) (he.run e1 er sr fun v H1 F1 st1 sr1 vr nw => ?_)
  unfold assignG at e2
  cases r with
  | imm d =>
    obtain ⟨h2, rfl⟩ := lift_inv e2
    cases vr with
    | imm rv => exact hg.run h2 (er.mono st1.le) sr1.sub rv fun σ' er' _ _ => hQ σ' H1 F1 A st1 sr1 (.refl A H) er'
  | ptr k => cases e2
  | new o => cases e2⟩
end
end Th
end
section
set_option Elab.async false
set_option linter.all false
set_option maxRecDepth 100000
set_option maxHeartbeats 4000000
namespace Th
open PySem PySem.Spec PyProof.Rows L2
section
variable {Γ : Gam} {par : Par} {X : Cx} {pos : Pos}
def ForI (K : Kit) (A : List Addr) (F1 H1 : Hp) (f : D → Env → M (Fl × Env)) (ks : List Nat) (S0 : Store) (ds : List D) (p : Fl × Env) (S3 : Store) (i : Nat) (σ : L2.St) (H' : Hp) : Prop :=
  ∃ (F2 : Hp) (A2 : List Addr) (S2 : Store) (env2 : Env), Stp A F1 H1 F2 H' ∧ StR K F2 H' A2 S2 ∧ Ext A A2 H1 ∧ EnvR K F2 A2 env2 σ ∧ (∀ k ∈ ks, S2[k]? = S0[k]?) ∧ forL f ks S0 (ds.drop i) env2 S2 = .ok p S3
theorem ss_for {tg iter : Expr} {g : MG} {mi : MI} {b : List Stmt} {mb : List MS} (hp : PassesOwn (model X.prog X.w) X.A X.env X.xe) (hc : X.calm = true) (hi : SoundI Γ X tg iter mi) (hg : SoundG X tg g) (hb : SoundSs Γ X b mb)
    (hs : ∀ x, foldedSetIterable iter X.env x = pure x) : SoundS Γ X (.For tg iter b [] pos) (.forr g mi mb) := ⟨fun {σ H F A env S S' p D} h er sr hQ => by
  unfold evS at h
  obtain ⟨⟨ds, ks⟩, S1, e1, k1⟩ := bind_inv h
  obtain ⟨S0, _, e2, k2⟩ := bind_inv k1
  obtain ⟨rfl, rfl⟩ := getS_inv e2
  generalize hf : (fun x e => (do
      let e' ← lift (asgG g x e)
      evSs Γ mb e' : M (Fl × Env))) = f at k2
  refine ws_of (ps_for hp hc pi_w pg_w pss_w hs) (hi.run e1 er sr fun J H1 F1 st1 sr1 wk => ?_)
  have hQ1 : PostS (kit X) A F1 H1 S' p D := hQ.after st1 (.refl A H)
  refine ⟨fun i m σ' H' => ForI (kit X) A F1 H1 f ks S1 ds p S' i σ' H' ∧ i ≤ ds.length ∧ m = ds.length - i, ⟨ds.length, ⟨F1, A, S1, env, .refl A F1 H1, sr1, .refl A H1, er.mono st1.le, fun _ _ => rfl, k2⟩, Nat.zero_le _, rfl⟩, ?_⟩
  rintro i m σ' H' ⟨⟨F2, A2, S2, env2, st2, sr2, ex2, er2, hk, hl⟩, hi', rfl⟩
  by_cases hlt : i < ds.length
  · have hd : ds[i]? = some ds[i] := List.getElem?_eq_getElem hlt
    rw [List.drop_eq_getElem_cons hlt] at hl
    unfold forL at hl
    obtain ⟨q, S3, q1, hl⟩ := bind_inv hl
    rw [← hf] at q1
    obtain ⟨env3, _, z1, q1⟩ := bind_inv q1
    obtain ⟨hz1, rfl⟩ := lift_inv z1
    obtain ⟨hgo, hyl⟩ := wk.go i ds[i] F2 H' A2 S2 st2 sr2 ex2.pre hk hd
    refine .inr ⟨hgo, fun σ'' H'' => ForI (kit X) A F1 H1 f ks S1 ds p S' (i + 1) σ'' H'', fun σ'' H'' n => ⟨ds.length - (i + 1), by omega, n, hlt, rfl⟩, fun x H3 hx => ?_⟩
    obtain ⟨F3, st3, sr3, rx⟩ := hyl x H3 hx
    have st13 := st2.transA ex2 st3
    refine hg.run hz1 (er2.mono st3.le) sr3.sub rx fun σ3 er3 _ _ => ?_
    refine hb.run q1 er3 sr3 ?_
    intro σ4 H4 F4 A4 st4 sr4 ex4 er4
    have ex3 : Ext A2 A4 H' := .trans st3 (.refl A2 H') ex4
    have st14 := st2.transA ex2 (st3.trans st4)
    have ex14 : Ext A A4 H1 := ex2.trans st2 ex3
    obtain ⟨fl, env4⟩ := q
    cases fl with
    | nx =>
      simp only at hl
      obtain ⟨_, S5, q2, hl⟩ := bind_inv hl
      obtain ⟨hk4, rfl⟩ := chkS_inv q2
      exact ⟨F4, A4, _, env4, st14, sr4, ex14, er4, hk4, hl⟩
    | ct =>
      simp only at hl
      obtain ⟨_, S5, q2, hl⟩ := bind_inv hl
      obtain ⟨hk4, rfl⟩ := chkS_inv q2
      exact ⟨F4, A4, _, env4, st14, sr4, ex14, er4, hk4, hl⟩
    | bk =>
      simp only at hl
      obtain ⟨rfl, rfl⟩ := pure_inv hl
      exact hQ1 σ4 H4 F4 A4 st14 sr4 ex14 er4
    | ret r =>
      simp only at hl
      obtain ⟨rfl, rfl⟩ := pure_inv hl
      intro v vr nw
      exact hQ1 σ4 H4 F4 A4 st14 sr4 ex14 er4 v vr fun o a e1 e2 => by
        have n3 := nw o a e1 e2
        subst e1 e2
        cases vr with
        | new _ hA _ =>
          have n2 : H' a = none := st3.back n3 fun z => hA (ex4.pre.subset z)
          exact st2.back n2 fun z => hA (ex14.pre.subset z)
  · have ei : i = ds.length := by omega
    subst ei
    rw [List.drop_length] at hl
    unfold forL at hl
    obtain ⟨rfl, rfl⟩ := pure_inv hl
    exact .inl ⟨wk.stop F2 H' A2 _ st2 sr2 ex2.pre hk, hQ1 σ' H' F2 A2 st2 sr2 ex2 er2⟩⟩
theorem ss_whl {c : Expr} {mc : ME} {b : List Stmt} {mb : List MS} (hp : PassesOwn (model X.prog X.w) X.A X.env X.xe) (hc : SoundT Γ X c mc) (hb : SoundSs Γ X b mb) : SoundS Γ X (.While c b [] pos) (.whl mc mb) := ⟨fun {σ H F A env S S' p D} h er sr hQ => by
  unfold evS at h
  obtain ⟨n, hn⟩ := whl_inv h
  refine ws_of (ps_while hp pt_w pss_w) ⟨fun m σ' H' => ∃ (F2 : Hp) (A2 : List Addr) (S2 : Store) (env2 : Env), Stp A F H F2 H' ∧ StR (kit X) F2 H' A2 S2 ∧ Ext A A2 H ∧ EnvR (kit X) F2 A2 env2 σ' ∧ whlN (fun e => evT Γ mc e) (fun e => evSs Γ mb e) m env2 S2 = some (.ok p S'),
    ⟨n, F, A, S, env, .refl A F H, sr, .refl A H, er, hn⟩, ?_⟩
  rintro m σ' H' ⟨F2, A2, S2, env2, st2, sr2, ex2, er2, hw⟩
  cases m with
  | zero => cases hw
  | succ m =>
    unfold whlN at hw
    cases ht : evT Γ mc env2 S2 with
    | exc x d S3 => simp only [ht] at hw; cases hw
    | err => simp only [ht] at hw; cases hw
    | ok t S3 =>
      refine hc.run ht er2 sr2 fun H3 F3 st3 sr3 => ?_
      have st13 := st2.transA ex2 st3
      cases t with
      | false =>
        simp only [ht] at hw
        cases hw
        rw [if_neg Bool.false_ne_true]
        exact hQ σ' H3 F3 A2 st13 sr3 ex2 (er2.mono st3.le)
      | true =>
        simp only [ht] at hw
        rw [if_pos rfl]
        refine ⟨fun σ'' H'' => ∃ (F2 : Hp) (A2 : List Addr) (S2 : Store) (env2 : Env), Stp A F H F2 H'' ∧ StR (kit X) F2 H'' A2 S2 ∧ Ext A A2 H ∧ EnvR (kit X) F2 A2 env2 σ'' ∧ whlN (fun e => evT Γ mc e) (fun e => evSs Γ mb e) m env2 S2 = some (.ok p S'),
          fun σ'' H'' z => ⟨m, Nat.lt_succ_self m, z⟩, ?_⟩
        cases hb' : evSs Γ mb env2 S3 with
        | exc x d S4 => simp only [hb'] at hw; cases hw
        | err => simp only [hb'] at hw; cases hw
        | ok q S4 =>
          refine hb.run hb' (er2.mono st3.le) sr3 ?_
          intro σ4 H4 F4 A4 st4 sr4 ex4 er4
          have ex3 : Ext A2 A4 H' := .trans st3 (.refl A2 H') ex4
          have st14 := st2.transA ex2 (st3.trans st4)
          have ex14 : Ext A A4 H := ex2.trans st2 ex3
          obtain ⟨fl, env4⟩ := q
          cases fl with
          | nx => simp only [hb'] at hw; exact ⟨F4, A4, S4, env4, st14, sr4, ex14, er4, hw⟩
          | ct => simp only [hb'] at hw; exact ⟨F4, A4, S4, env4, st14, sr4, ex14, er4, hw⟩
          | bk =>
            simp only [hb'] at hw
            cases hw
            exact hQ σ4 H4 F4 A4 st14 sr4 ex14 er4
          | ret r =>
            simp only [hb'] at hw
            cases hw
            intro v vr nw
            exact hQ σ4 H4 F4 A4 st14 sr4 ex14 er4 v vr fun o a e1 e2 => by
              have n3 := nw o a e1 e2
              subst e1 e2
              cases vr with
              | new _ hA _ =>
                have n2 : H' a = none := st3.back n3 fun z => hA (ex4.pre.subset z)
                exact st2.back n2 fun z => hA (ex14.pre.subset z)⟩
end
end Th
end
section
set_option Elab.async false
set_option linter.all false
set_option maxRecDepth 100000
set_option maxHeartbeats 4000000
namespace Th
open PySem PySem.Spec PyProof.Rows L2
def WSt (X : Cx) (o i v : V) (H : Hp) (Q : Hp → Prop) : Prop := ∀ (pins : List (Addr × Obj)) (s : Shared) (σ : L2.St) (ov iv u : Value), Inv X pins σ H s → RelV o ov → RelV i iv → RelV v u →
  wpAny (model X.prog X.w) X.A (setItem ov iv u) (fun _ s' => ∃ H', Inv X pins σ H' s' ∧ Q H') X.xe s
theorem pset_w {X : Cx} : PSet X (WSt X) := fun pins s σ H o i v ov iv u Q I ro ri rv h => h pins s σ ov iv u I ro ri rv
theorem wst_of {X : Cx} {t : TSet} (h : PSet X t) {o i v : V} {H : Hp} {Q : Hp → Prop} (ht : t o i v H Q) : WSt X o i v H Q := fun pins s σ ov iv u I ro ri rv => h pins s σ H o i v ov iv u Q I ro ri rv ht
section
variable {F : Hp}
theorem dput_cons {p : D × D} {kvs : List (D × D)} {k v : D} : dput (p :: kvs) k v = if PyData.eqv p.1 k = true then (p.1, v) :: (kvs.map fun q => if PyData.eqv q.1 k then (q.1, v) else q) else p :: dput kvs k v := by
  unfold dput
  rw [dget_cons]
  by_cases h : PyData.eqv p.1 k = true
  · rw [if_pos h, if_pos h]
    simp [h]
  · rw [if_neg h, if_neg h]
    by_cases h2 : (dget kvs k).isSome = true
    · rw [if_pos h2, if_pos h2, List.map_cons, if_neg h]
    · rw [if_neg h2, if_neg h2, List.cons_append]
theorem RpK.map_put {K : Kit} {i : Int} {v : V} {d : D} (hd : Rp K F v d) : ∀ {l : List (Key × V)} {kvs : List (D × D)}, RpK K F l kvs → RpK K F (l.map fun kv => if kv.1 = Sum.inl i then (kv.1, v) else kv) (kvs.map fun q => if PyData.eqv q.1 (.int i) then (q.1, d) else q)
  | _, _, .nil => .nil
  | _, _, @RpK.cons _ _ j w l e kvs h1 h2 => by
    rw [List.map_cons, List.map_cons]
    simp only [eqv_int]
    by_cases h : j = i
    · subst h
      rw [if_pos rfl, decide_eq_true rfl, if_pos rfl]
      exact .cons hd (RpK.map_put hd h2)
    · rw [if_neg (fun z => h (Sum.inl.inj z)), decide_eq_false h, if_neg (by decide)]
      exact .cons h1 (RpK.map_put hd h2)
theorem RpK.append {K : Kit} : ∀ {l l' : List (Key × V)} {kvs kvs' : List (D × D)}, RpK K F l kvs → RpK K F l' kvs' → RpK K F (l ++ l') (kvs ++ kvs')
  | _, _, _, _, .nil, h => h
  | _, _, _, _, .cons h1 h2, h => .cons h1 (RpK.append h2 h)
theorem RpK.put {K : Kit} {i : Int} {v : V} {d : D} (hd : Rp K F v d) {l : List (Key × V)} {kvs : List (D × D)} (h : RpK K F l kvs) : RpK K F (putK l (Sum.inl i) v) (dput kvs (.int i) d) := by
  unfold putK dput
  rw [valV_any]
  rcases h.get (i := i) with ⟨h1, h2⟩ | ⟨e, w, h1, h2, h3⟩
  · rw [h1, h2, if_neg (by decide), if_neg (by decide)]
    exact h.append (.cons hd .nil)
  · rw [h1, h2, if_pos Option.isSome_some, if_pos Option.isSome_some]
    exact h.map_put hd
theorem RpT.map_put {K : Kit} {ks : List Int} {v : V} {u : Value} {d : D} (hd : Rp K F v d) (hu : RelV v u) : ∀ {l : List (List Key × Addr × Value)} {kvs : List (D × D)}, RpT K F l kvs → RpT K F (l.map (putAt (ks.map Sum.inl) u)) (kvs.map fun q => if PyData.eqv q.1 (.tuple (ks.map .int)) then (q.1, d) else q)
  | _, _, .nil => .nil
  | _, _, @RpT.cons _ _ js b o u' v' l e kvs q1 q2 q3 h1 h2 => by
    rw [List.map_cons, List.map_cons]
    simp only [eqv_ints]
    by_cases h : js = ks
    · subst h
      rw [decide_eq_true rfl, if_pos rfl]
      have e : putAt (js.map Sum.inl : List Key) u ((js.map Sum.inl : List Key), b, u') = ((js.map Sum.inl : List Key), b, u) := by unfold putAt; rw [if_pos rfl]
      rw [e]
      exact .cons q1 q2 hu hd (RpT.map_put hd hu h2)
    · rw [decide_eq_false h, if_neg (by decide)]
      have e : putAt (ks.map Sum.inl : List Key) u ((js.map Sum.inl : List Key), b, u') = ((js.map Sum.inl : List Key), b, u') := by unfold putAt; rw [if_neg (fun z => h (map_inl_inj z))]
      rw [e]
      exact .cons q1 q2 q3 h1 (RpT.map_put hd hu h2)
theorem RpT.append {K : Kit} : ∀ {l l' : List (List Key × Addr × Value)} {kvs kvs' : List (D × D)}, RpT K F l kvs → RpT K F l' kvs' → RpT K F (l ++ l') (kvs ++ kvs')
  | _, _, _, _, .nil, h => h
  | _, _, _, _, .cons q1 q2 q3 h1 h2, h => .cons q1 q2 q3 h1 (RpT.append h2 h)
theorem RpT.put {K : Kit} {ks : List Int} {b : Addr} {o : Obj} {v : V} {u : Value} {d : D} (hb : F b = some (.frz o (.tup (ks.map V.int)))) (ho : o.dict = none) (hd : Rp K F v d) (hu : RelV v u) {l : List (List Key × Addr × Value)} {kvs : List (D × D)} (h : RpT K F l kvs) :
    RpT K F (storedH l (ks.map Sum.inl) b u) (dput kvs (.tuple (ks.map .int)) d) := by
  unfold storedH dput
  rcases h.get (ks := ks) with ⟨h1, h2⟩ | ⟨e, w, b', u', h1, h2, h3, h4⟩
  · rw [h1, h2, if_neg (by decide), if_neg (by decide)]
    exact h.append (.cons hb ho hu hd .nil)
  · rw [h1, h2, if_pos Option.isSome_some, if_pos Option.isSome_some]
    exact h.map_put hd hu
theorem RpT.length {K : Kit} : ∀ {l : List (List Key × Addr × Value)} {kvs : List (D × D)}, RpT K F l kvs → l.length = kvs.length
  | _, _, .nil => rfl
  | _, _, .cons _ _ _ _ h => by rw [List.length_cons, List.length_cons, RpT.length h]
end
theorem length_stored {l : List (List Key × Addr × Value)} {k : List Key} {b : Addr} {u : Value} : (storedH l k b u).length ≤ l.length + 1 := by
  unfold storedH
  split
  · rw [List.length_map]; omega
  · rw [List.length_append]; exact Nat.le_refl _
theorem stored_ne {l : List (List Key × Addr × Value)} {k : List Key} {b : Addr} {u : Value} : storedH l k b u ≠ [] := by
  unfold storedH
  split
  · rename_i h
    cases l with
    | nil => cases h
    | cons x l => simp
  · simp
section
variable {X : Cx} {H F F0 H0 : Hp} {A : List Addr} {S S' : Store}
theorem setT_ok {p b : Addr} {o : Obj} {ks : List Int} {l : List (List Key × Addr × Value)} {v : V} {Q : Hp → Prop} (hu : X.A.units + 64 < cLine) (mu : Mut (H p)) (hd : ∀ {pins : List (Addr × Obj)} {σ : L2.St} {s : Shared}, Inv X pins σ H s → (p == sysModules) = false ∧ s.heap.DictOfH (tupleKind (mixKind X.prog X.w)) p l)
    (eb : H b = some (.frz o (.tup (ks.map V.int)))) (hl : l.length < sizeLine) (q : ∀ u, RelV v u → DTok p (storedH l (ks.map Sum.inl) b u) → Q (upd H p (.ext (DTE (kit X) p (storedH l (ks.map Sum.inl) b u))))) : WSt X (.ref p) (.ref b) v H Q := by
  intro pins s σ ov iv u I ro ri rv
  cases ro
  cases ri
  obtain ⟨sm, dd⟩ := hd I
  refine wpAny_setItem_heap (hsz := Nat.le_of_lt hl) (tupleKind_room_in1 (by omega)) (key_frz I eb) dd fun h' dd' hs => ?_
  obtain ⟨ob, es, ep, hq, h2, h3, h4, h5, h6⟩ := dd'
  have new : ObjOk X.prog X.w (upd H p (.ext (DTE (kit X) p (storedH l (ks.map Sum.inl) b u)))) h' p (.ext (DTE (kit X) p (storedH l (ks.map Sum.inl) b u))) := by
    refine ⟨⟨ob, es, ep, hq, h2, h3, h4⟩, ⟨ob, hq⟩, fun h1 h2 z k => ?_⟩
    obtain ⟨o', es', ep', z1, z2⟩ := z
    exact ⟨o', es', ep', k _ z1, z2⟩
  exact ⟨_, d_write I mu hs ⟨ob, hq⟩ new, q u rv ⟨stored_ne, sm, h6, Nat.le_trans length_stored hl⟩⟩
theorem set_ok {x y z : RV} {vo vi vv : V} {Q : Hp → Prop} (hu : X.A.units + 64 < cLine) (sr : StR (kit X) F H A S) (h : setOp x y z S = .ok () S') (vx : VR (kit X) F H A x vo) (vy : VR (kit X) F H A y vi) (vz : VR (kit X) F H A z vv) (st : Stp A F0 H0 F H) (nw : ∀ o a, z = .new o → vv = .ref a → H0 a = none)
    (hQ : ∀ H' F', Stp A F0 H0 F' H' → Le F F' → StR (kit X) F' H' A S' → Q H') : WSt X vo vi vv H Q := by
  unfold setOp at h
  obtain ⟨a, _, e1, k1⟩ := bind_inv h
  obtain ⟨ha, rfl⟩ := coM_inv e1
  obtain ⟨b, _, e2, k2⟩ := bind_inv k1
  obtain ⟨hb, rfl⟩ := coM_inv e2
  have cb := vy.co sr hb
  cases vx with
  | imm r => cases k2
  | new _ _ _ => cases k2
  | @ptr k p hk =>
    cases a with
    | d x => cases k2
    | o ob =>
      cases ob with
      | lst xs =>
        simp only at k2
        obtain ⟨i, _, e3, k3⟩ := bind_inv k2
        obtain ⟨hi, rfl⟩ := lift_inv e3
        obtain ⟨n, _, e4, k4⟩ := bind_inv k3
        obtain ⟨hn, rfl⟩ := lift_inv e4
        obtain ⟨d, S1, e5, k5⟩ := bind_inv k4
        obtain ⟨S2, _, e6, k6⟩ := bind_inv k5
        obtain ⟨rfl, rfl⟩ := getS_inv e6
        obtain ⟨_, _, e7, k7⟩ := bind_inv k6
        obtain ⟨hc, rfl⟩ := chk_inv e7
        have eS := putS_inv k7
        subst eS
        obtain ⟨F1, sr1, st1, le1, rd, new1⟩ := frz_ok e5 sr vz st nw
        have en := sr1.ent k p _ hk hc
        cases en with
        | own hf ob =>
          cases ob with
          | lst hl rp =>
            have ev := cb.int hi
            subst ev
            have w := sr1.write hk hf (.lst upd_same (rp.set n rd))
            exact wst_of set_list ⟨p, _, i, n, rfl, rfl, hl, by rw [rp.length]; exact hn, hQ _ F1 (st1.trans w.2) le1 w.1⟩
      | dic kvs =>
        simp only at k2
        obtain ⟨_, _, e3, k3⟩ := bind_inv k2
        obtain ⟨⟨hp, hlen⟩, rfl⟩ := chk_inv e3
        obtain ⟨d, S1, e5, k5⟩ := bind_inv k3
        obtain ⟨S2, _, e6, k6⟩ := bind_inv k5
        obtain ⟨rfl, rfl⟩ := getS_inv e6
        obtain ⟨_, _, e7, k7⟩ := bind_inv k6
        obtain ⟨hc, rfl⟩ := chk_inv e7
        have eS := putS_inv k7
        subst eS
        obtain ⟨F1, sr1, st1, le1, rd, new1⟩ := frz_ok e5 sr vz st nw
        have en := sr1.ent k p _ hk hc
        have hlen : kvs.length < sizeLine := hlen
        cases en with
        | own hf ob =>
          have kb : Rp (kit X) F1 vi b.dat := by
            cases cb with
            | d r => exact r.mono le1
            | o r =>
              cases r with
              | lst _ _ => unfold keyPuts at hp; simp [Co.dat, Ob.toD, asKey] at hp
              | dK _ _ => unfold keyPuts at hp; simp [Co.dat, Ob.toD, asKey] at hp
              | dT _ _ _ => unfold keyPuts at hp; simp [Co.dat, Ob.toD, asKey] at hp
          obtain ⟨kk, hkk⟩ : ∃ kk, asKey b.dat = some kk := by
            unfold keyPuts at hp
            cases q : asKey b.dat with
            | none => rw [q] at hp; simp at hp
            | some kk => exact ⟨kk, rfl⟩
          rcases kk with i | ks
          · obtain ⟨e1, e2⟩ := keyK kb hkk
            rw [e1] at hQ hp
            subst e2
            cases ob with
            | @dK l _ hl rp =>
              have w := sr1.write hk hf (o' := .dic (dput kvs (.int i) d)) (u := .dK (putK l (Sum.inl i) vv)) (.dK upd_same (rp.put rd))
              intro pins s σ ov iv u I ro ri rv
              cases ro
              exact d_setItem (by omega) I (.k hl (by rw [rp.length]; exact hlen)) ri rv fun s' I' => ⟨_, I', hQ _ F1 (st1.trans w.2) le1 w.1⟩
            | dT hl ok rp =>
              cases rp with
              | nil => exact absurd rfl ok.ne
              | cons _ _ _ _ _ => simp [keyPuts, asKey] at hp
          · obtain ⟨ds, ed, b0, o0, ev, q1, q2, q3⟩ : ∃ ds, b.dat = .tuple ds ∧ ∃ b0 o0, vi = .ref b0 ∧ F1 b0 = some (.frz o0 (.tup (ks.map V.int))) ∧ o0.dict = none ∧ ds = ks.map .int := by
              generalize b.dat = bd at kb hkk
              cases kb with
              | tup h1 h3 h2 =>
                unfold asKey at hkk
                obtain ⟨ns, z1, z2⟩ := Option.map_eq_some_iff.mp hkk
                cases z2
                obtain ⟨rfl, rfl⟩ := h2.ints z1
                exact ⟨_, rfl, _, _, rfl, h1, h3, rfl⟩
              | _ => cases hkk
            subst q3 ev
            rw [ed] at hQ hp
            have mu : Mut (H p) := by
              cases ob with
              | dK hl _ => rw [hl]; exact True.intro
              | dT hl _ _ => rw [hl]; exact True.intro
            cases ob with
            | @dK l _ hl rp =>
              cases rp with
              | nil =>
                refine setT_ok (l := []) hu mu (fun I => ?_) (sr1.sub _ _ q1) (Nat.zero_lt_succ _) fun u ru ok => ?_
                · obtain ⟨z, sm, vs, rel, o', es, ep, z1, z2, z3, _, z5, _⟩ := dk_of I.hok hl
                  cases rel
                  refine ⟨sm, o', es, ep, z1, z2, z3, ?_, fun x hx => (nomatch hx), List.nodup_nil⟩
                  have e0 : es.toList = [] := by
                    cases q : es.toList with
                    | nil => rfl
                    | cons a b => rw [q] at z5; cases z5
                  rw [e0]; rfl
                · have w := sr1.write hk hf (o' := .dic (dput [] (.tuple (ks.map .int)) d)) (u := .ext (DTE (kit X) p (storedH [] (ks.map Sum.inl) b0 u))) (.dT upd_same ok (RpT.nil.put q1 q2 rd ru))
                  exact hQ _ F1 (st1.trans w.2) le1 w.1
              | cons _ _ => simp [keyPuts, asKey, asInts] at hp
            | @dT l _ hl ok rp =>
              refine setT_ok (l := l) hu mu (fun I => ⟨ok.sm, dt_frz I sr1.sub hl ok rp⟩) (sr1.sub _ _ q1) (by rw [rp.length]; exact hlen) fun u ru ok' => ?_
              have w := sr1.write hk hf (o' := .dic (dput kvs (.tuple (ks.map .int)) d)) (u := .ext (DTE (kit X) p (storedH l (ks.map Sum.inl) b0 u))) (.dT upd_same ok' (rp.put q1 q2 rd ru))
              exact hQ _ F1 (st1.trans w.2) le1 w.1
end
end Th
end
section
set_option Elab.async false
set_option linter.all false
set_option maxRecDepth 100000
set_option maxHeartbeats 4000000
namespace Th
open PySem PySem.Spec PyProof.Rows L2
def TyO (X : Cx) (T : String) (v : V) (H : Hp) : Prop := ∀ (pins : List (Addr × Obj)) (σ : L2.St) (s : Shared) (u : Value), Inv X pins σ H s → RelV v u → s.TypeIs u T ∧ ∀ a, u = .ref a → ∃ ob, s.heap.get? a = some ob ∧ ob.dict = none
structure Mth (T id : String) (name : Str) : Prop where
  pa : PlainAttrs T
  slot : Slot T name id
  ty : typeOf (.builtin id) = pure (.type "method_descriptor")
section
variable {X : Cx} {o e : Expr} {es : List Expr} {to : TE} {t : TA} {name : Str} {apos cpos : Pos}
def tMet (X : Cx) (name : Str) (to : TE) (t : TA) : TE := fun σ H Q => to σ H fun x H1 => ∃ T id, Mth T id name ∧ TyO X T x H1 ∧ t σ H1 fun xs H2 => WM X id x xs H2 Q
theorem pe_met0 (ho : PE X o to) (hbase : attributeBase o name X.env (eval o X.env) = eval o X.env) (hline : (apos.endLine == cpos.line) = true) : PE X (.Call (.Attribute o name apos) [] [] cpos) (fun σ H Q => to σ H fun x H1 => ∃ T id, Mth T id name ∧ TyO X T x H1 ∧ WM X id x [] H1 Q) := by
  refine ⟨fun pins s σ H Q I h => ?_⟩
  refine wpAny_Call_method0_late hbase hline (thn (ho.run pins s σ H _ I h) fun v s1 ⟨x, H1, I1, r1, T, id, m, ty, q⟩ => ?_)
  obtain ⟨h1, h2⟩ := ty pins σ s1 v I1 r1
  exact ⟨T, id, m.pa, m.slot, m.ty, h1, h2, Calls.callWith_builtin rfl (PySem.evalArgs_none (q pins s1 σ v [] I1 r1 .nil))⟩
theorem few_of : ∀ {es : List Expr}, es.all plainE = true → ∀ (env : PySem.Env) (pos : Pos), (backTo pos (starEach es env)).all (fun x => !x.1) = true
  | [], _, _, _ => rfl
  | e :: es, h, env, pos => by
    rw [List.all_cons, Bool.and_eq_true] at h
    rw [star_of h.1]
    show (true && (backTo pos (starEach es env)).all (fun x => !x.1)) = true
    rw [few_of h.2, Bool.true_and]
theorem pe_met (ho : PE X o to) (ha : PA X (e :: es) t) (hbase : attributeBase o name X.env (eval o X.env) = eval o X.env) (hp : (e :: es).all plainE = true) (hn : (e :: es).length < 30) (hline : (apos.endLine == cpos.line) = true) :
    PE X (.Call (.Attribute o name apos) (e :: es) [] cpos) (tMet X name to t) := by
  have hp' := hp
  rw [List.all_cons, Bool.and_eq_true] at hp'
  have hs := star_of hp'.1 es X.env
  have hplain := stars_of hp'.2 X.env cpos
  refine ⟨fun pins s σ H Q I h => ?_⟩
  refine wpAny_Call_method_late hbase (by rw [few_of hp]; show decide ((e :: es).length + 0 + 0 < 30) = true; exact decide_eq_true hn) hline rfl (thn (ho.run pins s σ H _ I h) fun v s1 ⟨x, H1, I1, r1, T, id, m, ty, q1⟩ => ?_)
  obtain ⟨h1, h2⟩ := ty pins σ s1 v I1 r1
  refine ⟨T, id, m.pa, m.slot, m.ty, h1, h2, ?_⟩
  have hA := ha.run cpos pins s1 σ H1 _ I1 q1
  rw [hs] at hA ⊢
  refine Calls.callWith_builtin (by show (false || (backTo cpos (starEach es X.env)).any (·.1)) = false; rw [hplain] <;> rfl) (Calls.evalArgs_plain ?_)
  exact thn hA fun us s2 ⟨vs, H2, I2, r2, q2⟩ => q2 pins s2 σ v us I2 r1 r2
end
def kindT : Nat → String
  | 0 => "list"
  | 1 => "tuple"
  | 2 => "dict"
  | _ => ""
section
variable {X : Cx} {H F F0 H0 : Hp} {A : List Addr} {S S' : Store} {c : Co} {v : V} {r : RV} {Q : VK}
theorem kind_dict {kvs : List (D × D)} (h : (Co.d (.dict kvs)).kind ≠ 3) : (Co.d (.dict kvs)).kind = 2 := by
  unfold Co.kind at h ⊢
  simp only at h ⊢
  split
  · rename_i z; rw [if_pos z] at h; exact absurd rfl h
  · rfl
theorem CoR.tyo (h : CoR (kit X) F H c v) (l : Le F H) (hk : c.kind ≠ 3) : TyO X (kindT c.kind) v H := by
  intro pins σ s u I ru
  have hdk : ∀ {a : Addr} {l' : List (Key × V)}, H a = some (.dK l') → RelV (.ref a) u → s.TypeIs u "dict" ∧ ∀ b, u = .ref b → ∃ ob, s.heap.get? b = some ob ∧ ob.dict = none := fun {a l'} h1 ru => by
    cases ru
    obtain ⟨_, _, vs, _, o, es, ep, z1, z2, z3, _⟩ := dk_of I.hok h1
    exact ⟨⟨o, z1, z2.1⟩, fun b e => by cases e; exact ⟨o, z1, z2.2.1⟩⟩
  have hdt : ∀ {a : Addr} {l' : List (List Key × Addr × Value)}, H a = some (.ext (DTE (kit X) a l')) → RelV (.ref a) u → s.TypeIs u "dict" ∧ ∀ b, u = .ref b → ∃ ob, s.heap.get? b = some ob ∧ ob.dict = none := fun {a l'} h1 ru => by
    cases ru
    obtain ⟨⟨o, es, ep, z1, z2, _⟩, _, _⟩ := (show ObjOk X.prog X.w H s.heap a (.ext (DTE (kit X) a l')) from I.hok a _ h1)
    exact ⟨⟨o, z1, z2.1⟩, fun b e => by cases e; exact ⟨o, z1, z2.2.1⟩⟩
  cases h with
  | d h =>
    cases h with
    | @lst a _ _ h1 _ => exact tyV_is I ru (show tyV X.K "list" (.ref a) H from .inl ⟨rfl, _, l.sl h1⟩)
    | tup h1 h3 _ =>
      cases ru
      obtain ⟨z1, _, its, _, o', z2, z3, n, z4⟩ := I.hok _ _ (l _ _ h1)
      rw [z1] at z2; cases z2
      exact ⟨⟨_, z1, z3⟩, fun b e => by cases e; exact ⟨_, z1, h3⟩⟩
    | dK h1 h2 =>
      rw [kind_dict hk]; exact hdk (l _ _ h1) ru
    | dT h1 _ _ =>
      rw [kind_dict hk]; exact hdt (l _ _ h1) ru
    | kt _ => exact absurd rfl hk
    | _ => exact absurd rfl hk
  | o h =>
    cases h with
    | @lst xs _ h1 _ => exact tyV_is I ru (show tyV X.K "list" (.ref _) H from .inl ⟨rfl, xs, .inl (.inl h1)⟩)
    | dK h1 _ => exact hdk h1 ru
    | dT h1 _ _ => exact hdt h1 ru
theorem mr_wm {id : String} {r : V → List V → Hp → VK → Prop} (h : MtR X id r) {x : V} {xs : List V} (ht : r x xs H Q) : WM X id x xs H Q := wm_of h ht
theorem mm_wm {id : String} {r : V → List V → Hp → VK → Prop} (h : MtM X id r) {x : V} {xs : List V} (ht : r x xs H Q) : WM X id x xs H Q := wm_of h ht
theorem app_wm {x z : RV} {vx vz : V} (sr : StR (kit X) F H A S) (h : appOp x z S = .ok () S') (vrx : VR (kit X) F H A x vx) (vrz : VR (kit X) F H A z vz) (st : Stp A F0 H0 F H) (nw : ∀ o a, z = .new o → vz = .ref a → H0 a = none)
    (hQ : ∀ v H' F', Stp A F0 H0 F' H' → StR (kit X) F' H' A S' → Q v H') : WM X "list.append" vx [vz] H Q := by
  unfold appOp at h
  obtain ⟨d, S1, e1, k1⟩ := bind_inv h
  obtain ⟨c, _, e2, k2⟩ := bind_inv k1
  obtain ⟨hc, rfl⟩ := coM_inv e2
  obtain ⟨F1, sr1, st1, le1, rd, new1⟩ := frz_ok e1 sr vrz st nw
  cases vrx with
  | imm _ => cases k2
  | new _ _ _ => cases k2
  | @ptr k p hk =>
    cases c with
    | d _ => cases k2
    | o ob =>
      cases ob with
      | dic _ => cases k2
      | lst xs =>
        simp only at k2
        obtain ⟨_, _, e3, k3⟩ := bind_inv k2
        obtain ⟨hz, rfl⟩ := chk_inv e3
        obtain ⟨S2, _, e4, k4⟩ := bind_inv k3
        obtain ⟨rfl, rfl⟩ := getS_inv e4
        have eS := putS_inv k4
        subst eS
        have hS : S1[k]? = some (.own (.lst xs)) := by
          unfold cont at hc
          simp only at hc
          split at hc
          · rename_i o q; cases hc; exact q
          · cases hc
          · cases hc
        cases sr1.ent k p _ hk hS with
        | own hf ob =>
          cases ob with
          | @lst vs _ hl rp =>
            have w := sr1.write hk hf (u := .lst (vs ++ [vz])) (.lst upd_same (rp.append (.cons rd .nil)))
            exact mm_wm mt_append ⟨p, vs, vz, rfl, rfl, hl, by rw [rp.length]; exact hz, hQ _ _ F1 (st1.trans w.2) w.1⟩
theorem ext_wm {x z : RV} {vx vz : V} (sr : StR (kit X) F H A S) (h : extOp x z S = .ok () S') (vrx : VR (kit X) F H A x vx) (vrz : VR (kit X) F H A z vz) (st : Stp A F0 H0 F H)
    (hQ : ∀ v H' F', Stp A F0 H0 F' H' → StR (kit X) F' H' A S' → Q v H') : WM X "list.extend" vx [vz] H Q := by
  unfold extOp at h
  obtain ⟨b, _, e1, k1⟩ := bind_inv h
  obtain ⟨hb, rfl⟩ := coM_inv e1
  obtain ⟨c, _, e2, k2⟩ := bind_inv k1
  obtain ⟨hc, rfl⟩ := coM_inv e2
  have cb := vrz.co sr hb
  cases vrx with
  | imm _ => cases k2
  | new _ _ _ => cases k2
  | @ptr k p hk =>
    cases c with
    | d _ => cases k2
    | o ob =>
      cases ob with
      | dic _ => cases k2
      | lst xs =>
        cases cb with
        | d _ => cases k2
        | o ob2 =>
          cases ob2 with
          | dK _ _ => cases k2
          | dT _ _ _ => cases k2
          | @lst us ys hl2 rp2 =>
            simp only at k2
            obtain ⟨_, _, e3, k3⟩ := bind_inv k2
            obtain ⟨hz, rfl⟩ := chk_inv e3
            obtain ⟨S2, _, e4, k4⟩ := bind_inv k3
            obtain ⟨rfl, rfl⟩ := getS_inv e4
            have eS := putS_inv k4
            subst eS
            have hS : S[k]? = some (.own (.lst xs)) := by
              unfold cont at hc
              simp only at hc
              split at hc
              · rename_i o q; cases hc; exact q
              · cases hc
              · cases hc
            cases sr.ent k p _ hk hS with
            | own hf ob =>
              cases ob with
              | @lst vs _ hl rp =>
                have w := sr.write hk hf (u := .lst (vs ++ us)) (.lst upd_same (rp.append rp2))
                exact mm_wm mt_extend ⟨p, _, vs, us, rfl, rfl, hl, hl2, by rw [rp.length, rp2.length]; exact hz, hQ _ _ F (st.trans w.2) w.1⟩
end
end Th
end
section
set_option Elab.async false
set_option linter.all false
set_option maxRecDepth 100000
set_option maxHeartbeats 4000000
namespace Th
open PySem PySem.Spec PyProof.Rows L2
def mnm : Me → Str
  | .index => "index" | .count => "count" | .get2 => "get" | .pop => "pop" | .popAt => "pop"
def mid : Me → Nat → String
  | .index, 0 => "list.index" | .index, _ => "tuple.index" | .count, 0 => "list.count" | .count, _ => "tuple.count" | .get2, _ => "dict.get" | .pop, _ => "list.pop" | .popAt, _ => "list.pop"
def mfit : Me → Nat → Bool
  | .index, 0 => true | .index, 1 => true | .count, 0 => true | .count, 1 => true | .get2, 2 => true | .pop, 0 => true | .popAt, 0 => true | _, _ => false
theorem mth_of {m : Me} {k : Nat} (h : mfit m k = true) : Mth (kindT k) (mid m k) (mnm m) ∧ k ≠ 3 := by
  unfold mfit at h
  split at h <;> first | (cases h; done) | skip
  · exact ⟨⟨PySem.F.plainAttrs_list, PySem.F.slot_list_index, PySem.F.type_list_index⟩, by decide⟩
  · exact ⟨⟨PySem.F.plainAttrs_tuple, PySem.F.slot_tuple_index, PySem.F.type_tuple_index⟩, by decide⟩
  · exact ⟨⟨PySem.F.plainAttrs_list, PySem.F.slot_list_count, PySem.F.type_list_count⟩, by decide⟩
  · exact ⟨⟨PySem.F.plainAttrs_tuple, PySem.F.slot_tuple_count, PySem.F.type_tuple_count⟩, by decide⟩
  · exact ⟨⟨PySem.F.plainAttrs_dict, PySem.F.slot_dict_get, PySem.F.type_dict_get⟩, by decide⟩
  · exact ⟨⟨PySem.F.plainAttrs_list, PySem.F.slot_list_pop, PySem.F.type_list_pop⟩, by decide⟩
  · exact ⟨⟨PySem.F.plainAttrs_list, PySem.F.slot_list_pop, PySem.F.type_list_pop⟩, by decide⟩
section
variable {X : Cx} {H F F0 H0 : Hp} {A : List Addr} {S S' : Store} {c : Co} {v : V} {r : RV} {Q : VK}
theorem kind_items {xs : List D} (h : c.items = some xs) : (c.kind = 0 ∨ c.kind = 1) ∧ c.isT = (c.kind == 1) := by
  unfold Co.items at h
  split at h <;> first | (cases h; done) | skip
  · exact ⟨.inl rfl, rfl⟩
  · exact ⟨.inl rfl, rfl⟩
  · exact ⟨.inr rfl, rfl⟩
theorem idx_find {ds : List D} {d : D} {j : Nat} (h : idxD ds d = some j) : ∃ z, ds[j]? = some z ∧ PyData.eqv z d = true ∧ ∀ (m : Nat) (z' : D), m < j → ds[m]? = some z' → PyData.eqv z' d = false := by
  obtain ⟨hl, h1, h2⟩ := List.findIdx?_eq_some_iff_getElem.mp h
  refine ⟨ds[j], List.getElem?_eq_getElem hl, h1, fun m z' hm e => ?_⟩
  have h3 := h2 m hm
  rw [List.getElem?_eq_getElem (Nat.lt_trans hm hl)] at e
  cases e
  simpa using h3
theorem tup_index {a : Addr} {ys : List V} {y : V} {j : Nat} {z : V} (hs : SqT X.K H a ys) (fy : flatV y = true) (fys : ys.all flatV = true) (hz : ys[j]? = some z) (hzj : eqV z y = true) (hno : ∀ (m : Nat) (z' : V), m < j → ys[m]? = some z' → eqV z' y = false) (q : Q (.int (j : Nat)) H) :
    WM X "tuple.index" (.ref a) [y] H Q := by
  intro pins s σ v us I rx rxs
  cases rx
  obtain ⟨uy, rfl, ry⟩ := rxs.one
  obtain ⟨its, rv, ⟨⟨cls, dd, data, sl⟩, ho, hc, n, hd⟩, hlen⟩ := I.tuple hs
  simp only at hc hd
  subst hc hd
  obtain ⟨u, hu, ru⟩ := rv.get hz
  obtain ⟨hjl, hje⟩ := List.getElem?_eq_some_iff.mp hu
  have hvl := rv.length
  have hj : j < its.toArray.size := by simpa using hjl
  refine call_meets PySem.F.slot_tuple_index ⟨_, ho, rfl⟩ PySem.F.entry_tuple_index (PySem.F.args_tuple_index_2 _ _)
    (TI.tuple_indexAt a its.toArray n dd sl uy (eqU y) j hj ?_ ?_) ⟨ho, fun u' hu' => mem_eqAt ry fy rv fys u' (by simpa using hu'), ?_⟩
  · have e1 : its.toArray[j] = u := by simpa using hje
    rw [e1, eqU_of ru (flat_at fys hz)]
    exact hzj
  · intro m hm hmj
    have hml : m < its.length := by simpa using hm
    have hmy : m < ys.length := by omega
    have hy' : ys[m]? = some ys[m] := List.getElem?_eq_getElem hmy
    obtain ⟨u2, hu2, ru2⟩ := rv.get hy'
    obtain ⟨_, hme⟩ := List.getElem?_eq_some_iff.mp hu2
    have e1 : its.toArray[m] = u2 := by simpa using hme
    rw [e1, eqU_of ru2 (flat_at fys hy')]
    exact hno m _ hmj hy'
  · exact ⟨.int (j : Nat), H, I.tok _, ⟨_, rfl⟩, q⟩
theorem tup_count {a : Addr} {ns : List Int} {k : Int} (hs : SqT X.K H a (ns.map V.int)) (q : Q (.int (ns.count k : Nat)) H) : WM X "tuple.count" (.ref a) [.int k] H Q := by
  intro pins s σ v us I rx rxs
  cases rx
  obtain ⟨u, rfl, ru⟩ := rxs.one
  obtain ⟨t, rfl⟩ := ru
  obtain ⟨its, rv, ⟨⟨cls, dd, data, sl⟩, ho, hc, n, hd⟩, hlen⟩ := I.tuple hs
  simp only at hc hd
  subst hc hd
  have hi := ints_of_vals rv
  refine call_meets PySem.F.slot_tuple_count ⟨_, ho, rfl⟩ PySem.F.entry_tuple_count (PySem.F.args_tuple_count_2 _ _)
    (SeqAt.tuple_countAt a its.toArray n dd sl (.int k t) (eqk k)) ⟨ho, fun y hy => (eqk_gives hi y (by simpa using hy)).at _ _, ?_⟩
  have ec : its.toArray.toList.countP (eqk k) = ns.count k := eqk_count hi
  refine ⟨.int (ns.count k : Nat), H, I.tok _, ⟨s.toks, ?_⟩, q⟩
  show Value.int ((its.toArray.toList.countP (eqk k) : Nat) : Int) s.toks = Value.int ((ns.count k : Nat) : Int) s.toks
  rw [ec]
theorem own_of {k : Nat} {ob : Ob} (hc : cont (.ptr k) S = some (.o ob)) : S[k]? = some (.own ob) := by
  unfold cont at hc
  simp only at hc
  split at hc
  · rename_i o q; cases hc; exact q
  · cases hc
  · cases hc
end
section
variable {X : Cx} {H F F0 H0 : Hp} {A : List Addr} {S S' : Store} {c : Co} {v : V} {o r : RV} {Q : VK}
theorem VRs.one {rs : RV} {vs : List V} (h : VRs (kit X) F H A [rs] vs) : ∃ u, vs = [u] ∧ VR (kit X) F H A rs u := by
  cases h with
  | cons h1 h2 => cases h2; exact ⟨_, rfl, h1⟩
theorem VRs.two {r1 r2 : RV} {vs : List V} (h : VRs (kit X) F H A [r1, r2] vs) : ∃ u w, vs = [u, w] ∧ VR (kit X) F H A r1 u ∧ VR (kit X) F H A r2 w := by
  cases h with
  | cons h1 h2 =>
    cases h2 with
    | cons h2 h3 => cases h3; exact ⟨_, _, rfl, h1, h2⟩
theorem me_ok (m : Me) {rs : List RV} {vs : List V} (hu : X.A.units + 64 < cLine) (sr : StR (kit X) F H A S) (h : meOp m o rs S = .ok r S') (hc : cont o S = some c) (vo : VR (kit X) F H A o v) (vr : VRs (kit X) F H A rs vs) (st : Stp A F0 H0 F H) (nw : News H0 rs vs)
    (hQ : Post (kit X) A F0 H0 S' r Q) : mfit m c.kind = true ∧ WM X (mid m c.kind) v vs H Q := by
  have co := vo.co sr hc
  have hQ' := Post.after st hQ
  have hcm : coM o S = .ok c S := by unfold coM; rw [hc]
  unfold meOp at h
  split at h
  · -- index
    rename_i r1
    rw [bind_ok hcm] at h
    obtain ⟨xs, _, e1, k1⟩ := bind_inv h
    obtain ⟨hi, rfl⟩ := lift_inv e1
    obtain ⟨x, _, e2, k2⟩ := bind_inv k1
    obtain ⟨hx, rfl⟩ := coM_inv e2
    obtain ⟨_, _, e3, k3⟩ := bind_inv k2
    obtain ⟨⟨f1, f2⟩, rfl⟩ := chk_inv e3
    obtain ⟨j, _, e4, k4⟩ := bind_inv k3
    obtain ⟨hj, rfl⟩ := lift_inv e4
    obtain ⟨rfl, rfl⟩ := ret_inv k4
    obtain ⟨u, rfl, vu⟩ := vr.one
    have cx := vu.co sr hx
    obtain ⟨g1, g2⟩ := cx.flat f1
    obtain ⟨z, i1, i2, i3⟩ := idx_find hj
    obtain ⟨hk, hT⟩ := kind_items hi
    obtain ⟨a, ws, rfl, rp, sq⟩ := co.itemsB sr.sub hi
    obtain ⟨l1, l2⟩ := inV_any g2 f1 rp f2
    have fd : ∀ {i : Nat} {z : D}, xs[i]? = some z → flatD z = true := fun e => List.all_eq_true.mp f2 _ (List.mem_of_getElem? e)
    obtain ⟨w, e1', rw'⟩ := rp.get i1
    have n1 : eqV w u = true := by rw [eqV_eqv rw' g2 (fd i1) f1]; exact i2
    have n2 : ∀ (m : Nat) (z' : V), m < j → ws[m]? = some z' → eqV z' u = false := fun m z' hm e => by
      obtain ⟨d', e2, r2⟩ := rp.get' e
      rw [eqV_eqv r2 g2 (fd e2) f1]; exact i3 m d' hm e2
    have q : Q (.int (j : Nat)) H := hQ'.imm sr (.int _)
    rcases hk with hk | hk
    · rw [hk] at hT ⊢
      rw [hT] at sq
      exact ⟨rfl, mr_wm (mt_index (X := X)) ⟨a, ws, u, j, w, rfl, rfl, sq, g1, l1, e1', n1, n2, q⟩⟩
    · rw [hk] at hT ⊢
      rw [hT] at sq
      exact ⟨rfl, tup_index sq g1 l1 e1' n1 n2 q⟩
  · -- count
    rename_i r1
    rw [bind_ok hcm] at h
    obtain ⟨xs, _, e1, k1⟩ := bind_inv h
    obtain ⟨hi, rfl⟩ := lift_inv e1
    obtain ⟨ns, _, e2, k2⟩ := bind_inv k1
    obtain ⟨hns, rfl⟩ := lift_inv e2
    obtain ⟨x, _, e3, k3⟩ := bind_inv k2
    obtain ⟨hx, rfl⟩ := coM_inv e3
    obtain ⟨n, _, e4, k4⟩ := bind_inv k3
    obtain ⟨hn, rfl⟩ := lift_inv e4
    obtain ⟨rfl, rfl⟩ := ret_inv k4
    obtain ⟨u, rfl, vu⟩ := vr.one
    have ev := (vu.co sr hx).int hn
    subst ev
    obtain ⟨hk, hT⟩ := kind_items hi
    obtain ⟨a, ws, rfl, rp, sq⟩ := co.itemsB sr.sub hi
    obtain ⟨rfl, rfl⟩ := rp.ints hns
    have q : Q (.int (ns.count n : Nat)) H := hQ'.imm sr (.int _)
    rcases hk with hk | hk
    · rw [hk] at hT ⊢
      rw [hT] at sq
      exact ⟨rfl, mr_wm (mt_lcount (X := X)) ⟨a, ns, n, rfl, rfl, sq, q⟩⟩
    · rw [hk] at hT ⊢
      rw [hT] at sq
      exact ⟨rfl, tup_count sq q⟩
  · -- get
    rename_i r1 r2
    rw [bind_ok hcm] at h
    obtain ⟨kvs, _, e1, k1⟩ := bind_inv h
    obtain ⟨hi, rfl⟩ := lift_inv e1
    obtain ⟨x, _, e2, k2⟩ := bind_inv k1
    obtain ⟨hx, rfl⟩ := coM_inv e2
    obtain ⟨_, _, e3, k3⟩ := bind_inv k2
    obtain ⟨f1, rfl⟩ := chk_inv e3
    obtain ⟨d, S2, e4, k4⟩ := bind_inv k3
    obtain ⟨rfl, rfl⟩ := ret_inv k4
    obtain ⟨u, w, rfl, vu, vw⟩ := vr.two
    have cx := vu.co sr hx
    obtain ⟨a, oo, rfl, g, ho⟩ := keyed_get co sr.sub hi (cx.keyv f1) f1
    have hk : c.kind = 2 := by
      unfold Co.keyed at hi
      split at hi
      · rfl
      · rename_i kvs'
        split at hi
        · cases hi
        · rename_i z
          unfold Co.kind
          simp only
          rw [if_neg z]
      · cases hi
    cases nw with
    | cons n1 n2 =>
      cases n2 with
      | cons n2 n3 =>
        obtain ⟨F1, sr1, st1, le1, rd, new1⟩ := frz_ok e4 sr vw st fun o a z1 z2 => (n2 o a z1 z2).1
        rw [hk]
        refine ⟨rfl, fun pins s σ v' us I rx rxs => ?_⟩
        cases rx
        obtain ⟨ua, ub, rfl, ra, rb⟩ := rxs.two
        refine g.getd (by omega) I ra rb fun w' s' I' rw' => ⟨_, H, I', rw', ?_⟩
        rcases ho with ⟨q1, rfl⟩ | ⟨e, z, q1, rfl, q3⟩
        · rw [q1] at hQ
          exact hQ _ H F1 st1 sr1 (.imm rd) fun o a e => by cases e
        · rw [q1] at hQ
          exact hQ _ H F1 st1 sr1 (.imm (q3.mono le1)) fun o a e => by cases e
  · -- pop
    rw [bind_ok hcm] at h
    split at h
    · rename_i k xs
      obtain ⟨d, _, e1, k1⟩ := bind_inv h
      obtain ⟨hd, rfl⟩ := lift_inv e1
      obtain ⟨S2, _, e4, k4⟩ := bind_inv k1
      obtain ⟨rfl, rfl⟩ := getS_inv e4
      obtain ⟨_, S3, e5, k5⟩ := bind_inv k4
      have eS := putS_inv e5
      subst eS
      obtain ⟨rfl, rfl⟩ := ret_inv k5
      cases vr
      cases vo with
      | @ptr _ p hk =>
        cases sr.ent k p _ hk (own_of hc) with
        | own hf ob =>
          cases ob with
          | @lst ws _ hl rp =>
            have w := sr.write hk hf (u := .lst ws.dropLast) (.lst upd_same rp.last)
            have e1 : xs[xs.length - 1]? = some d := by rw [List.getLast?_eq_getElem?] at hd; exact hd
            obtain ⟨y, e2, ry⟩ := rp.get e1
            refine ⟨rfl, mm_wm mt_pop ⟨p, ws, y, rfl, rfl, hl, by rw [rp.length]; exact e2, ?_⟩⟩
            exact hQ _ _ F (st.trans w.2) w.1 (.imm ry) fun o a e => by cases e
    · cases h
  · -- pop(i)
    rename_i r1
    rw [bind_ok hcm] at h
    obtain ⟨x, _, e2, k2⟩ := bind_inv h
    obtain ⟨hx, rfl⟩ := coM_inv e2
    obtain ⟨i, _, e3, k3⟩ := bind_inv k2
    obtain ⟨hi, rfl⟩ := lift_inv e3
    split at k3
    · rename_i k xs
      obtain ⟨_, _, e0, k0⟩ := bind_inv k3
      obtain ⟨⟨h0, h1⟩, rfl⟩ := chk_inv e0
      obtain ⟨d, _, e1, k1⟩ := bind_inv k0
      obtain ⟨hd, rfl⟩ := lift_inv e1
      obtain ⟨S2, _, e4, k4⟩ := bind_inv k1
      obtain ⟨rfl, rfl⟩ := getS_inv e4
      obtain ⟨_, S3, e5, k5⟩ := bind_inv k4
      have eS := putS_inv e5
      subst eS
      obtain ⟨rfl, rfl⟩ := ret_inv k5
      obtain ⟨u, rfl, vu⟩ := vr.one
      have ev := (vu.co sr hx).int hi
      subst ev
      have hsz : sizeL = 16777216 := rfl
      cases vo with
      | @ptr _ p hk =>
        cases sr.ent k p _ hk (own_of hc) with
        | own hf ob =>
          cases ob with
          | @lst ws _ hl rp =>
            have w := sr.write hk hf (u := .lst (ws.eraseIdx i.toNat)) (.lst upd_same (rp.erase _))
            obtain ⟨y, e2, ry⟩ := rp.get hd
            have hlt : i.toNat < ws.length := (List.getElem?_eq_some_iff.mp e2).1
            refine ⟨rfl, mm_wm mt_popAt ⟨p, ws, i, i.toNat, y, rfl, rfl, hl, by omega, by omega, seqIndex_of h0 (by omega), e2, ?_⟩⟩
            exact hQ _ _ F (st.trans w.2) w.1 (.imm ry) fun o a e => by cases e
    · cases k3
  · cases h
theorem keyed_kind {kvs : List (D × D)} (hi : c.keyed = some kvs) : c.kind = 2 := by
  unfold Co.keyed at hi
  split at hi
  · rfl
  · rename_i kvs'
    split at hi
    · cases hi
    · rename_i z
      unfold Co.kind
      simp only
      rw [if_neg z]
  · cases hi
theorem me_fit (m : Me) {rs : List RV} (h : meOp m o rs S = .ok r S') (hc : cont o S = some c) : mfit m c.kind = true := by
  have hcm : coM o S = .ok c S := by unfold coM; rw [hc]
  unfold meOp at h
  split at h
  · rw [bind_ok hcm] at h
    obtain ⟨xs, _, e1, k1⟩ := bind_inv h
    obtain ⟨hi, rfl⟩ := lift_inv e1
    rcases (kind_items hi).1 with hk | hk <;> rw [hk] <;> rfl
  · rw [bind_ok hcm] at h
    obtain ⟨xs, _, e1, k1⟩ := bind_inv h
    obtain ⟨hi, rfl⟩ := lift_inv e1
    rcases (kind_items hi).1 with hk | hk <;> rw [hk] <;> rfl
  · rw [bind_ok hcm] at h
    obtain ⟨kvs, _, e1, k1⟩ := bind_inv h
    obtain ⟨hi, rfl⟩ := lift_inv e1
    rw [keyed_kind hi]; rfl
  · rw [bind_ok hcm] at h
    split at h
    · rfl
    · cases h
  · rw [bind_ok hcm] at h
    obtain ⟨x, _, e2, k2⟩ := bind_inv h
    obtain ⟨hx, rfl⟩ := coM_inv e2
    obtain ⟨i, _, e3, k3⟩ := bind_inv k2
    obtain ⟨hi, rfl⟩ := lift_inv e3
    split at k3
    · rfl
    · cases k3
  · cases h
theorem sd_met {Γ : Gam} {par : Par} (m : Me) {e1 : Expr} {es : List Expr} {ma : ME} {ms : List ME} {apos cpos : Pos} (G : Good Γ par X) (ho : SoundE Γ X e1 ma) (hs : SoundEs Γ X es ms) (hl : es.length = ms.length) (hp : es.all plainE = true) (hn : es.length < 30) (hsup : isSuper e1 = false)
    (hline : (apos.endLine == cpos.line) = true) : SoundE Γ X (.Call (.Attribute e1 (mnm m) apos) es [] cpos) (.met m ma ms) := ⟨fun {σ H F A env S S' r Q} h er sr hQ => by
  have hu : X.A.units + 64 < cLine := by have := G.un; omega
  unfold evE at h
  obtain ⟨x, S1, e1, k1⟩ := bind_inv h
  obtain ⟨c, _, e2, k2⟩ := bind_inv k1
  obtain ⟨hc, rfl⟩ := coM_inv e2
  obtain ⟨rs, S2, e3, k3⟩ := bind_inv k2
  obtain ⟨c', _, e4, k4⟩ := bind_inv k3
  obtain ⟨hc', rfl⟩ := coM_inv e4
  obtain ⟨_, _, e5, k5⟩ := bind_inv k4
  obtain ⟨hk, rfl⟩ := chk_inv e5
  cases es with
  | nil =>
    cases ms with
    | cons _ _ => cases hl
    | nil =>
      unfold evEs at e3
      obtain ⟨rfl, rfl⟩ := pure_inv e3
      refine we_of (pe_met0 pe_w (base_of hsup _ _) hline) (ho.run e1 er sr fun v H1 F1 st1 sr1 v1 n1 => ?_)
      obtain ⟨z1, z2⟩ := me_ok m hu sr1 k5 hc' v1 .nil st1 .nil hQ
      obtain ⟨z3, z4⟩ := mth_of z1
      exact ⟨_, _, z3, by rw [← hk]; exact (v1.co sr1 hc).tyo sr1.sub (by rw [hk]; exact z4), z2⟩
  | cons e2 es =>
    refine we_of (pe_met pe_w pa_w (base_of hsup _ _) hp hn hline) (ho.run e1 er sr fun v H1 F1 st1 sr1 v1 n1 => ?_)
    have key : ∀ {vs : List V} {H2 F2 : Hp}, Stp A F1 H1 F2 H2 → StR (kit X) F2 H2 A S2 → VRs (kit X) F2 H2 A rs vs → News H1 rs vs → mfit m c'.kind = true ∧ WM X (mid m c'.kind) v vs H2 Q := fun st2 sr2 vr2 nw2 =>
      me_ok m hu sr2 k5 hc' (v1.step st2) vr2 (st1.trans st2) (nw2.back st1 vr2) hQ
    by_cases hm : mfit m c'.kind = true
    · obtain ⟨z3, z4⟩ := mth_of hm
      refine ⟨_, _, z3, by rw [← hk]; exact (v1.co sr1 hc).tyo sr1.sub (by rw [hk]; exact z4), ?_⟩
      exact hs.run e3 (er.mono st1.le) sr1 fun vs H2 F2 st2 sr2 vr2 nw2 => (key st2 sr2 vr2 nw2).2
    · exact absurd (me_fit m k5 hc') hm⟩
end
end Th
end
section
set_option Elab.async false
set_option linter.all false
set_option maxRecDepth 100000
set_option maxHeartbeats 4000000
namespace Th
open PySem PySem.Spec PyProof.Rows L2
def setsL : L2.St → List Nat → List V → L2.St
  | σ, i :: is, v :: vs => setsL (σ.set i (some v)) is vs
  | σ, _, _ => σ
theorem putSls_ok {K : Kit} {F H H0 : Hp} {A0 : List Addr} : ∀ {is : List Nat} {rs : List RV} {vs : List V} {A : List Addr} {S S' : Store} {env env' : Env} {σ : L2.St}, putSls is rs env S = .ok env' S' → EnvR K F A env σ → StR K F H A S → VRs K F H A rs vs → News H0 rs vs → Ext A0 A H0 →
    ∃ A', StR K F H A' S' ∧ Ext A0 A' H0 ∧ EnvR K F A' env' (setsL σ is vs)
  | [], [], _, A, S, S', env, env', σ, h, er, sr, .nil, _, ex => by
    unfold putSls at h
    obtain ⟨rfl, rfl⟩ := pure_inv h
    exact ⟨A, sr, ex, er⟩
  | i :: is, r :: rs, _, A, S, S', env, env', σ, h, er, sr, .cons (v := v) (vs := vs) h1 h2, .cons n1 n2, ex => by
    unfold putSls at h
    obtain ⟨e1, S1, q1, q2⟩ := bind_inv h
    obtain ⟨A1, sr1, ex1, er1, pre, mem⟩ := putSl_ok q1 er sr h1 (fun o a z1 z2 => (n1 o a z1 z2).1) ex
    have h2' : VRs K F H A1 rs vs := by
      have key : ∀ {rs : List RV} {vs : List V}, VRs K F H A rs vs → (∀ (j : Nat) (o o' : Ob) (a : Addr), r = .new o → v = .ref a → rs[j]? = some (.new o') → vs[j]? = some (.ref a) → False) → VRs K F H A1 rs vs := by
        intro rs vs h
        induction h with
        | nil => intro _; exact .nil
        | cons g1 g2 ih =>
          intro hd
          refine .cons ?_ (ih fun j o o' a z1 z2 z3 z4 => hd (j + 1) o o' a z1 z2 (by simpa using z3) (by simpa using z4))
          cases g1 with
          | imm q => exact .imm q
          | ptr q => exact .ptr (pre_get pre q)
          | @new o' a q1 q2 q3 =>
            refine .new q1 (fun z => ?_) q3
            rcases mem a z with z | ⟨o, z1, z2⟩
            · exact q2 z
            · exact hd 0 o o' a z1 z2 rfl rfl
      exact key h2 fun j o o' a z1 z2 z3 z4 => (n1 o a z1 z2).2 j o' z3 z4
    have fin := putSls_ok q2 er1 sr1 h2' n2 ex1
    exact fin
  | [], _ :: _, _, _, _, _, _, _, _, h, _, _, _, _, _ => by unfold putSls at h; cases h
  | _ :: _, [], _, _, _, _, _, _, _, h, _, _, _, _, _ => by unfold putSls at h; cases h
inductive NmOk (X : Cx) : List Expr → List Nat → Prop
  | nil : NmOk X [] []
  | cons {x : Str} {p : Pos} {i : Nat} {es : List Expr} {is : List Nat} : X.N[i]? = some x → Loc X.env.scope x → (X.fn x = true ∨ X.env.scope.names.lookup x = some .local) → NmOk X es is → NmOk X (.Name x p :: es) (i :: is)
section
variable {X : Cx}
theorem nm_plain : ∀ {es : List Expr} {is : List Nat}, NmOk X es is → es.all plainG = true ∧ es.length = is.length
  | _, _, .nil => ⟨rfl, rfl⟩
  | _, _, .cons _ _ _ h => ⟨by rw [List.all_cons, (nm_plain h).1]; rfl, by rw [List.length_cons, List.length_cons, (nm_plain h).2]⟩
theorem wgs_names (hN : X.N.Nodup) : ∀ {es : List Expr} {is : List Nat} {vs : List V} {σ : L2.St} {H : Hp} {Q : L2.St → Hp → Prop}, NmOk X es is → vs.length = is.length → Q (setsL σ is vs) H → WGs X es vs σ H Q
  | _, _, [], σ, H, Q, .nil, _, q => wgs_of pgs_nil ⟨rfl, q⟩
  | _, _, v :: vs, σ, H, Q, .cons h1 h2 h3 h, hl, q => wgs_of (pgs_cons (pg_name hN h1 h2 h3) pgs_w (by rw [asgn_of rfl]; rfl)) ⟨v, vs, rfl, wgs_names hN h (Nat.succ.inj hl) q⟩
  | _, _, [], _, _, _, .cons _ _ _ _, hl, _ => by cases hl
  | _, _, _ :: _, _, _, _, .nil, hl, _ => by cases hl
variable {Γ : Gam} {par : Par} {pos : Pos}
theorem ps_parT {ts es : List Expr} {k k2 : Nat} {pt pt2 : Pos} {ta : TA} {tg : TGs} (hc : X.calm = true) (ha : PA X es ta) (hg : PGs X ts tg) (hp : ts.all plainG = true) (hw : swappedStores [.Tuple ts k pt] (.Tuple es k2 pt2) X.env = pure none) (hl : es.length = ts.length) (h30 : es.length ≤ 1000) :
    PS X (.Assign [.Tuple ts k pt] (.Tuple es k2 pt2) pos) (fun D σ H => ta σ H fun vs H1 => vs.length = ts.length ∧ tg vs σ H1 D.nx) := by
  refine ⟨fun pins s σ H D I h => ?_⟩
  obtain ⟨z1, z2⟩ := asgn_all hp X.env
  refine wpAny_Assign_stores (wpAny_Tuple_spliced (thn (ha.run _ pins s σ H _ I h) fun us s1 ⟨vs, H1, I1, r1, hv, q1⟩ => ?_)) rfl hw
  have hus : us.length = ts.length := by rw [← r1.length]; exact hv
  refine ⟨by rw [hus, ← hl]; exact Nat.le_trans h30 (by decide), ?_⟩
  have I2 : Inv X pins σ H1 { s1 with heap := s1.heap.push { cls := .type "tuple", data := .seq us.toArray } } := I1.kept (t' := s1.toks) fun b o e => Heap.get?_push_of_some _ e
  show wpAny (model X.prog X.w) X.A (assign (.Tuple ts k pt) X.env (.ref s1.heap.objs.size)) _ _ _
  refine assign_Tuple_tuple (I1.ok.hd hc) (IsTup.new s1.heap us.toArray) (by rw [z1, List.size_toArray, hus]) z2 fun h' hx => ?_
  have I3 := I2.kept (h' := h') (t' := s1.toks) fun b o e => hx b o (Nat.ne_of_lt (Heap.lt_size e)) e
  exact thn (hg.run pins _ σ H1 vs _ _ I3 r1 q1) fun _ s2 q => q
theorem ss_parT {ts es : List Expr} {is : List Nat} {ms : List ME} {k k2 : Nat} {pt pt2 : Pos} (hc : X.calm = true) (hN : X.N.Nodup) (hs : SoundEs Γ X es ms) (hn : NmOk X ts is) (hw : swappedStores [.Tuple ts k pt] (.Tuple es k2 pt2) X.env = pure none) (hl : es.length = ts.length) (hm : ms.length = es.length) (h30 : es.length ≤ 1000) :
    SoundS Γ X (.Assign [.Tuple ts k pt] (.Tuple es k2 pt2) pos) (.par is ms) := ⟨fun {σ H F A env S S' p D} h er sr hQ => by
  obtain ⟨hp, hl2⟩ := nm_plain hn
  unfold evS at h
  obtain ⟨rs, S1, e1, k1⟩ := bind_inv h
  obtain ⟨env', S2, e2, k2⟩ := bind_inv k1
  obtain ⟨rfl, rfl⟩ := pure_inv k2
  refine ws_of (ps_parT hc pa_w pgs_w hp hw hl h30) (hs.run e1 er sr fun vs H1 F1 st1 sr1 vr nw => ?_)
  obtain ⟨A', sr2, ex, er2⟩ := putSls_ok e2 (er.mono st1.le) sr1 vr nw (.refl A H)
  have hv : vs.length = is.length := by
    have q : ∀ {is : List Nat} {rs : List RV} {env env' : Env} {S S' : Store}, putSls is rs env S = .ok env' S' → rs.length = is.length := by
      intro is
      induction is with
      | nil =>
        intro rs env env' S S' h
        cases rs with
        | nil => rfl
        | cons _ _ => unfold putSls at h; cases h
      | cons i is ih =>
        intro rs env env' S S' h
        cases rs with
        | nil => unfold putSls at h; cases h
        | cons r rs =>
          unfold putSls at h
          obtain ⟨_, _, _, q2⟩ := bind_inv h
          rw [List.length_cons, List.length_cons, ih q2]
    rw [← vr.length]; exact q e2
  exact ⟨by rw [hv, hl2], wgs_names hN hn hv (hQ _ H1 F1 A' st1 sr2 ex er2)⟩⟩
theorem ss_par2 {x y : Str} {i j : Nat} {a b : Expr} {ms : List ME} {k k2 : Nat} {px py pt pt2 : Pos} (hc : X.calm = true) (hN : X.N.Nodup) (hs : SoundEs Γ X [a, b] ms) (hi : X.N[i]? = some x) (hj : X.N[j]? = some y) (hij : i ≠ j) (hx : X.env.scope.names.lookup x = some .local) (hy : X.env.scope.names.lookup y = some .local)
    (hw : swappedStores [.Tuple [.Name x px, .Name y py] k pt] (.Tuple [a, b] k2 pt2) X.env = pure (some [x, y])) : SoundS Γ X (.Assign [.Tuple [.Name x px, .Name y py] k pt] (.Tuple [a, b] k2 pt2) pos) (.par [i, j] ms) := ⟨fun {σ H F A env S S' p D} h er sr hQ => by
  unfold evS at h
  obtain ⟨rs, S1, e1, k1⟩ := bind_inv h
  obtain ⟨env', S2, e2, k2⟩ := bind_inv k1
  obtain ⟨rfl, rfl⟩ := pure_inv k2
  refine ws_of (ps_par hc hN hi hj hij hx hy pa_w hw) (hs.run e1 er sr fun vs H1 F1 st1 sr1 vr nw => ?_)
  obtain ⟨A', sr2, ex, er2⟩ := putSls_ok e2 (er.mono st1.le) sr1 vr nw (.refl A H)
  cases vr with
  | nil => unfold putSls at e2; cases e2
  | cons v1 vr =>
    cases vr with
    | nil =>
      unfold putSls at e2
      obtain ⟨_, _, _, q2⟩ := bind_inv e2
      unfold putSls at q2; cases q2
    | cons v2 vr =>
      cases vr with
      | nil => exact ⟨_, _, rfl, hQ _ H1 F1 A' st1 sr2 ex er2⟩
      | cons _ _ =>
        unfold putSls at e2
        obtain ⟨_, _, _, q2⟩ := bind_inv e2
        unfold putSls at q2
        obtain ⟨_, _, _, q3⟩ := bind_inv q2
        unfold putSls at q3; cases q3⟩
theorem ss_par3 {x y z : Str} {i j l : Nat} {a b c : Expr} {ms : List ME} {k k2 : Nat} {px py pz pt pt2 : Pos} (hc : X.calm = true) (hN : X.N.Nodup) (hs : SoundEs Γ X [a, b, c] ms) (hi : X.N[i]? = some x) (hj : X.N[j]? = some y) (hl : X.N[l]? = some z) (hij : i ≠ j) (hil : i ≠ l) (hjl : j ≠ l)
    (hx : X.env.scope.names.lookup x = some .local) (hy : X.env.scope.names.lookup y = some .local) (hz : X.env.scope.names.lookup z = some .local)
    (hw : swappedStores [.Tuple [.Name x px, .Name y py, .Name z pz] k pt] (.Tuple [a, b, c] k2 pt2) X.env = pure (some [x, y, z])) : SoundS Γ X (.Assign [.Tuple [.Name x px, .Name y py, .Name z pz] k pt] (.Tuple [a, b, c] k2 pt2) pos) (.par [i, j, l] ms) := ⟨fun {σ H F A env S S' p D} h er sr hQ => by
  unfold evS at h
  obtain ⟨rs, S1, e1, k1⟩ := bind_inv h
  obtain ⟨env', S2, e2, k2⟩ := bind_inv k1
  obtain ⟨rfl, rfl⟩ := pure_inv k2
  refine ws_of (ps_par3 hc hN hi hj hl hij hil hjl hx hy hz pa_w hw) (hs.run e1 er sr fun vs H1 F1 st1 sr1 vr nw => ?_)
  obtain ⟨A', sr2, ex, er2⟩ := putSls_ok e2 (er.mono st1.le) sr1 vr nw (.refl A H)
  cases vr with
  | nil => unfold putSls at e2; cases e2
  | cons v1 vr =>
    cases vr with
    | nil =>
      unfold putSls at e2
      obtain ⟨_, _, _, q2⟩ := bind_inv e2
      unfold putSls at q2; cases q2
    | cons v2 vr =>
      cases vr with
      | nil =>
        unfold putSls at e2
        obtain ⟨_, _, _, q2⟩ := bind_inv e2
        unfold putSls at q2
        obtain ⟨_, _, _, q3⟩ := bind_inv q2
        unfold putSls at q3; cases q3
      | cons v3 vr =>
        cases vr with
        | nil => exact ⟨_, _, _, rfl, hQ _ H1 F1 A' st1 sr2 ex er2⟩
        | cons _ _ =>
          unfold putSls at e2
          obtain ⟨_, _, _, q2⟩ := bind_inv e2
          unfold putSls at q2
          obtain ⟨_, _, _, q3⟩ := bind_inv q2
          unfold putSls at q3
          obtain ⟨_, _, _, q4⟩ := bind_inv q3
          unfold putSls at q4; cases q4⟩
theorem ss_aset {o i e : Expr} {mo mi me : ME} {p2 : Pos} (G : Good Γ par X) (ho : SoundE Γ X o mo) (hi : SoundE Γ X i mi) (he : SoundE Γ X e me) (hs : swapsWith e (some (.Subscript o i p2)) pos.line X.env = pure false) : SoundS Γ X (.Assign [.Subscript o i p2] e pos) (.aset mo mi me) := ⟨fun {σ H F A env S S' p D} h er sr hQ => by
  unfold evS at h
  obtain ⟨v, S1, e1, k1⟩ := bind_inv h
  obtain ⟨a, S2, e2, k2⟩ := bind_inv k1
  obtain ⟨b, S3, e3, k3⟩ := bind_inv k2
  obtain ⟨_, S4, e4, k4⟩ := bind_inv k3
  obtain ⟨rfl, rfl⟩ := pure_inv k4
  intro pins s I
  refine wpAny_Assign_Subscript ?_ hs
  refine thn (he.run e1 er sr (Q := fun v1 H1 => WE X o σ H1 fun v2 H2 => WE X i σ H2 fun v3 H3 => WSt X v2 v3 v1 H3 fun H4 => D.nx σ H4) (fun v1 H1 F1 st1 sr1 vr1 nw1 => ?_) pins s I) fun u1 s1 ⟨x1, H1, I1, r1, q1⟩ => ?_
  · refine ho.run e2 (er.mono st1.le) sr1 fun v2 H2 F2 st2 sr2 vr2 nw2 => ?_
    refine hi.run e3 (er.mono (st1.le.trans st2.le)) sr2 fun v3 H3 F3 st3 sr3 vr3 nw3 => ?_
    exact set_ok (by have := G.un; omega) sr3 e4 (vr2.step st3) vr3 ((vr1.step st2).step st3) (st1.trans (st2.trans st3)) nw1 fun H4 F4 st4 le4 sr4 => hQ.nx st4 sr4 er
  · refine thn (q1 pins s1 I1) fun u2 s2 ⟨x2, H2, I2, r2, q2⟩ => ?_
    refine thn (q2 pins s2 I2) fun u3 s3 ⟨x3, H3, I3, r3, q3⟩ => ?_
    exact thn (q3 pins s3 σ u2 u3 u1 I3 r2 r3 r1) fun _ s4 ⟨H4, I4, q4⟩ => ⟨σ, H4, I4, q4⟩⟩
end
end Th
end
section
set_option Elab.async false
set_option linter.all false
set_option maxRecDepth 100000
set_option maxHeartbeats 4000000
namespace Th
open PySem PySem.Spec PyProof.Rows L2
section
variable {Γ : Gam} {par : Par} {X : Cx} {pos : Pos}
theorem iop_mulW2 : OpR X (inplaceOp .Mult) (rI CMulW fun i j => .int (i * j)) := opI fun _ _ _ _ _ _ _ hc q => imul_int q hc.ok
theorem int_iop (op : Bop) (hp : op ≠ .pow) {i j : Int} {H F : Hp} {A : List Addr} {S S' : Store} {r : RV} {Q : VK} (sr : StR (kit X) F H A S) (h : intOp op i j S = .ok r S') (hQ : Post (kit X) A F H S' r Q) : WO X (inplaceOp (bopOf op)) (.int i) (.int j) H Q := by
  refine int_ok op sr h hQ (fun g hg => ?_) ?_ ?_ ?_ ?_ ?_ ?_ ?_
  · rcases hg with ⟨rfl, rfl⟩ | ⟨rfl, rfl⟩ | ⟨rfl, rfl⟩
    · exact iop_add
    · exact iop_sub
    · exact iop_and
  · rintro rfl; exact iop_mul
  · rintro rfl; exact iop_mulW2
  · rintro rfl; exact iop_fdivW
  · rintro rfl; exact iop_mod
  · rintro rfl; exact absurd rfl hp
  · rintro rfl; exact iop_shl
  · rintro rfl; exact iop_shr
theorem intOp_int (op : Bop) {i j : Int} {S S' : Store} {r : RV} (h : intOp op i j S = .ok r S') : S = S' ∧ ∃ z, r = .imm (.int z) := by
  cases op with
  | add => obtain ⟨rfl, rfl⟩ := ret_inv h; exact ⟨rfl, _, rfl⟩
  | sub => obtain ⟨rfl, rfl⟩ := ret_inv h; exact ⟨rfl, _, rfl⟩
  | band => obtain ⟨rfl, rfl⟩ := ret_inv h; exact ⟨rfl, _, rfl⟩
  | _ =>
    obtain ⟨_, _, h1, h⟩ := bind_inv h
    obtain ⟨hm, rfl⟩ := chk_inv h1
    obtain ⟨rfl, rfl⟩ := ret_inv h
    exact ⟨rfl, _, rfl⟩
theorem ss_aug {i : Nat} {x : Str} {e : Expr} {me : ME} {op : Bop} {p2 : Pos} (hN : X.N.Nodup) (hi : X.N[i]? = some x) (hx : Loc X.env.scope x) (hf : X.fn x = true ∨ X.env.scope.names.lookup x = some .local) (he : SoundE Γ X e me) : SoundS Γ X (.AugAssign (.Name x p2) (bopOf op) e pos) (.aug op i me) := ⟨fun {σ H F A env S S' p D} h er sr hQ => by
  unfold evS at h
  rcases hv : env[i]? with _ | _ | d | k
  · simp only [hv] at h; cases h
  · simp only [hv] at h; cases h
  · cases d with
    | int n =>
      simp only [hv] at h
      obtain ⟨v, S1, e1, k1⟩ := bind_inv h
      obtain ⟨c, _, e2, k2⟩ := bind_inv k1
      obtain ⟨hc, rfl⟩ := coM_inv e2
      obtain ⟨y, _, e3, k3⟩ := bind_inv k2
      obtain ⟨hy, rfl⟩ := lift_inv e3
      obtain ⟨_, _, e4, k4⟩ := bind_inv k3
      obtain ⟨hop, rfl⟩ := chk_inv e4
      obtain ⟨z, S2, e5, k5⟩ := bind_inv k4
      obtain ⟨env', S3, e6, k6⟩ := bind_inv k5
      obtain ⟨rfl, rfl⟩ := pure_inv k6
      obtain ⟨rfl, w, rfl⟩ := intOp_int op e5
      obtain ⟨v0, h0, r0⟩ := er.at_ i _ hv
      cases r0 with
      | d r0 =>
        cases r0
        refine ws_of (ps_aug hN hi hx pe_w (fun pins s σ H x y v u Q I rx ry (q : WO X (inplaceOp (bopOf op)) x y H Q) => q pins s σ v u I rx ry) hf) ⟨_, h0, he.run e1 er sr fun v1 H1 F1 st1 sr1 vr1 nw1 => ?_⟩
        have ev := (vr1.co sr1 hc).int hy
        subst ev
        refine int_iop op hop sr1 e5 fun v2 H2 F2 st2 sr2 vr2 nw2 => ?_
        obtain ⟨A', sr3, ex, er2, _⟩ := putSl_ok e6 (er.mono (st1.le.trans st2.le)) sr2 vr2 (fun o a z1 z2 => by cases z1) (.refl A H)
        exact hQ _ H2 F2 A' (st1.trans st2) sr3 ex er2
    | _ => simp only [hv] at h; cases h
  · simp only [hv] at h; cases h⟩
theorem get_list {p : Addr} {xs : List V} {k : Int} {z : V} {H : Hp} {Q : VK} {pins : List (Addr × Obj)} {σ : L2.St} {s : Shared} {iv : Value} (I : Inv X pins σ H s) (hq : SqL X.K H p xs) (he : atI xs k = some z) (ri : RelV (.int k) iv) (q : Q z H) : wpAny (model X.prog X.w) X.A (getItem (.ref p) iv) (EP X pins σ Q) X.xe s := by
  obtain ⟨t, rfl⟩ := ri
  obtain ⟨its, r, pl, hz⟩ := I.list hq
  obtain ⟨j, h1, h2, h3, h4, h5⟩ := atI_get he
  obtain ⟨w, ew, rw'⟩ := r.get h2
  have hl := r.length
  have hn := line63
  have fin : EP X pins σ Q w s := ⟨z, H, I, rw', q⟩
  by_cases h0 : 0 ≤ k
  · have hj : k.toNat = j := by
      rw [seqIndex_of h0 h5] at h1
      exact Option.some.inj h1
    exact wpAny_getItem_list pl.isList h0 (by omega) (by rw [hj]; simpa using ew) fin
  · have hj : (k + (its.toArray.size : Int)).toNat = j := by
      rw [seqIndex_neg (by omega) h4] at h1
      rw [List.size_toArray, ← hl]
      exact Option.some.inj h1
    exact wpAny_getItem_list_neg pl.isList (by omega) (by rw [List.size_toArray] <;> omega) (by omega) (by rw [hj]; simpa using ew) fin
theorem CoR.litsP {K : Kit} {F H : Hp} {c : Co} {v : V} {ds : List D} (h : c.lits = some ds) : c.items = some ds := by
  unfold Co.lits at h
  split at h <;> first | (cases h; rfl) | cases h
theorem ss_augs {o i e : Expr} {mo mi me : ME} {op : Bop} {p2 : Pos} (G : Good Γ par X) (ho : SoundE Γ X o mo) (hi : SoundE Γ X i mi) (he : SoundE Γ X e me) (hpi : plainE i = true) : SoundS Γ X (.AugAssign (.Subscript o i p2) (bopOf op) e pos) (.augs op mo mi me) := ⟨fun {σ H F A env S S' p D} h er sr hQ => by
  unfold evS at h
  obtain ⟨a, S1, e1, k1⟩ := bind_inv h
  obtain ⟨b, S2, e2, k2⟩ := bind_inv k1
  obtain ⟨ca, _, e3, k3⟩ := bind_inv k2
  obtain ⟨hca, rfl⟩ := coM_inv e3
  obtain ⟨xs, _, e4, k4⟩ := bind_inv k3
  obtain ⟨hxs, rfl⟩ := lift_inv e4
  obtain ⟨cb, _, e5, k5⟩ := bind_inv k4
  obtain ⟨hcb, rfl⟩ := coM_inv e5
  obtain ⟨j, _, e6, k6⟩ := bind_inv k5
  obtain ⟨hj, rfl⟩ := lift_inv e6
  obtain ⟨g, _, e7, k7⟩ := bind_inv k6
  obtain ⟨hg, rfl⟩ := lift_inv e7
  obtain ⟨x, _, e8, k8⟩ := bind_inv k7
  obtain ⟨hx, rfl⟩ := lift_inv e8
  obtain ⟨v, S3, e9, k9⟩ := bind_inv k8
  obtain ⟨c, _, e10, k10⟩ := bind_inv k9
  obtain ⟨hc, rfl⟩ := coM_inv e10
  obtain ⟨y, _, e11, k11⟩ := bind_inv k10
  obtain ⟨hy, rfl⟩ := lift_inv e11
  obtain ⟨_, _, e12, k12⟩ := bind_inv k11
  obtain ⟨hop, rfl⟩ := chk_inv e12
  obtain ⟨z, S4, e13, k13⟩ := bind_inv k12
  obtain ⟨_, S5, e14, k14⟩ := bind_inv k13
  obtain ⟨rfl, rfl⟩ := pure_inv k14
  obtain ⟨rfl, w, rfl⟩ := intOp_int op e13
  have ha : ∀ ov iv new, augStore i ov iv new = (do holding [new, ov, iv] (setItem ov iv new); release [new, ov, iv] []; pure .next) := by
    intro ov iv new
    cases i <;> first | rfl | (cases hpi)
  refine ws_of (ps_augS pe_w pe_w (tget := fun o i H Q => ∃ (p : Addr) (ys : List V) (k : Int) (z : V), o = .ref p ∧ i = .int k ∧ SqL X.K H p ys ∧ atI ys k = some z ∧ Q z H) (fun pins s σ H o i ov iv Q I ro ri q => ?_) pe_w (fun pins s σ H x y v u Q I rx ry (q : WO X (inplaceOp (bopOf op)) x y H Q) => q pins s σ v u I rx ry) pset_w ha) ?_
  · obtain ⟨p, ys, k, z, rfl, rfl, sq, ez, q⟩ := q
    cases ro
    exact get_list I sq ez ri q
  · refine ho.run e1 er sr fun v1 H1 F1 st1 sr1 vr1 nw1 => ?_
    refine hi.run e2 (er.mono st1.le) sr1 fun v2 H2 F2 st2 sr2 vr2 nw2 => ?_
    have vr1' := vr1.step st2
    obtain ⟨p, us, rfl, rp, sq⟩ := (vr1'.co sr2 hca).lits sr2.sub hxs
    have ev := (vr2.co sr2 hcb).int hj
    subst ev
    obtain ⟨z, ez, rz⟩ := atI_map rp hg
    refine ⟨p, us, j, z, rfl, rfl, sq, ez, ?_⟩
    have ez2 : z = .int x := (CoR.d rz : CoR (kit X) F2 H2 (Co.d g) z).int hx
    subst ez2
    refine he.run e9 (er.mono (st1.le.trans st2.le)) sr2 fun v4 H4 F4 st4 sr4 vr4 nw4 => ?_
    have ev := (vr4.co sr4 hc).int hy
    subst ev
    refine int_iop op hop sr4 e13 fun v5 H5 F5 st5 sr5 vr5 nw5 => ?_
    exact set_ok (by have := G.un; omega) sr5 e14 ((vr1'.step st4).step st5) ((vr2.step st4).step st5) vr5 (st1.trans (st2.trans (st4.trans st5))) (fun o a z1 z2 => by cases z1) fun H6 F6 st6 le6 sr6 => hQ.nx st6 sr6 er⟩
theorem ss_pst {o i a b : Expr} {mo mi ma mb : ME} {x : Str} {n : Nat} {k k2 : Nat} {p1 p2 pt pt2 : Pos} (G : Good Γ par X) (hN : X.N.Nodup) (ho : SoundE Γ X o mo) (hi : SoundE Γ X i mi) (ha : SoundE Γ X a ma) (hb : SoundE Γ X b mb) (pa : plainE a = true) (pb : plainE b = true)
    (hn : X.N[n]? = some x) (hx : Loc X.env.scope x) (hf : X.fn x = true ∨ X.env.scope.names.lookup x = some .local) (hpi : plainE i = true) (hw : swappedStores [.Tuple [.Subscript o i p1, .Name x p2] k pt] (.Tuple [a, b] k2 pt2) X.env = pure none) :
    SoundS Γ X (.Assign [.Tuple [.Subscript o i p1, .Name x p2] k pt] (.Tuple [a, b] k2 pt2) pos) (.pst mo mi n ma mb) := ⟨fun {σ H F A env S S' p D} h er sr hQ => by
  unfold evS at h
  obtain ⟨va, S1, e1, k1⟩ := bind_inv h
  obtain ⟨vb, S2, e2, k2⟩ := bind_inv k1
  obtain ⟨db, _, e0, k0⟩ := bind_inv k2
  obtain ⟨hdb, rfl⟩ := lift_inv e0
  obtain ⟨vo, S3, e3, k3⟩ := bind_inv k0
  obtain ⟨vi, S4, e4, k4⟩ := bind_inv k3
  obtain ⟨_, S5, e5, k5⟩ := bind_inv k4
  obtain ⟨env', S6, e6, k6⟩ := bind_inv k5
  obtain ⟨rfl, rfl⟩ := pure_inv k6
  have hs : SoundEs Γ X [a, b] [ma, mb] := sds_cons ha (sds_cons hb sds_nil pb) pa
  refine ws_of (ps_parT G.calm pa_w (pgs_cons (pg_sub pe_w pe_w pset_w (fun v => by cases i <;> first | rfl | (cases hpi))) (pgs_cons (pg_name hN hn hx hf) pgs_nil (by rw [asgn_of rfl]; rfl)) (by rw [asgn_of rfl]; rfl)) rfl hw rfl (by show 2 ≤ 1000; decide)) (hs.run (evEs_two e1 e2) er sr fun vs H1 F1 st1 sr1 vr nw => ?_)
  obtain ⟨u, w, rfl, vu, vw⟩ := vr.two
  refine ⟨rfl, _, _, rfl, ?_⟩
  refine ho.run e3 (er.mono st1.le) sr1 fun v2 H2 F2 st2 sr2 vr2 nw2 => ?_
  refine hi.run e4 (er.mono (st1.le.trans st2.le)) sr2 fun v3 H3 F3 st3 sr3 vr3 nw3 => ?_
  cases nw with
  | cons n1 n2 =>
    cases n2 with
    | cons n2 n3 =>
      cases vw with
      | ptr _ => cases hdb
      | new _ _ _ => cases hdb
      | imm rw' =>
        cases hdb
        refine set_ok (by have := G.un; omega) sr3 e5 (vr2.step st3) vr3 ((vu.step st2).step st3) (st1.trans (st2.trans st3)) (fun o a z1 z2 => (n1 o a z1 z2).1) fun H4 F4 st4 le4 sr4 => ?_
        obtain ⟨A', sr5, ex, er2, _⟩ := putSl_ok e6 (er.mono st4.le) sr4 (.imm (rw'.mono (st2.le.trans (st3.le.trans le4)))) (fun o a z1 z2 => by cases z1) (.refl A H)
        exact ⟨_, _, rfl, rfl, hQ _ H4 F4 A' st4 sr5 ex er2⟩⟩
theorem ss_app {o e : Expr} {mo me : ME} {apos cpos : Pos} (ho : SoundE Γ X o mo) (he : SoundE Γ X e me) (hp : plainE e = true) (hsup : isSuper o = false) (hline : (apos.endLine == cpos.line) = true) : SoundS Γ X (.Expr (.Call (.Attribute o "append" apos) [e] [] cpos) pos) (.app mo me) := ⟨fun {σ H F A env S S' p D} h er sr hQ => by
  unfold evS at h
  obtain ⟨a, S1, e1, k1⟩ := bind_inv h
  obtain ⟨c, _, e2, k2⟩ := bind_inv k1
  obtain ⟨hc, rfl⟩ := coM_inv e2
  obtain ⟨v, S2, e3, k3⟩ := bind_inv k2
  obtain ⟨c', _, e4, k4⟩ := bind_inv k3
  obtain ⟨hc', rfl⟩ := coM_inv e4
  obtain ⟨_, _, e5, k5⟩ := bind_inv k4
  obtain ⟨⟨hk, hk'⟩, rfl⟩ := chk_inv e5
  obtain ⟨_, S3, e6, k6⟩ := bind_inv k5
  obtain ⟨rfl, rfl⟩ := pure_inv k6
  have hpl : [e].all plainE = true := by rw [List.all_cons, hp]; rfl
  refine ws_of (ps_expr (pe_met pe_w pa_w (base_of hsup _ _) hpl (by show 1 < 30; decide) hline) rfl) (ho.run e1 er sr fun v1 H1 F1 st1 sr1 vr1 nw1 => ?_)
  refine ⟨"list", "list.append", ⟨PySem.F.plainAttrs_list, PySem.F.slot_list_append, PySem.F.type_list_append⟩, ?_, ?_⟩
  · have t := (vr1.co sr1 hc).tyo sr1.sub (by rw [hk]; decide)
    rw [hk] at t; exact t
  · refine (sds_cons he sds_nil hp).run (evEs_one e3) (er.mono st1.le) sr1 fun vs H2 F2 st2 sr2 vr2 nw2 => ?_
    obtain ⟨u, rfl, vu⟩ := vr2.one
    cases nw2 with
    | cons n1 n2 =>
      exact app_wm sr2 e6 (vr1.step st2) vu (st1.trans st2) (fun o a z1 z2 => by
        have z3 := (n1 o a z1 z2).1
        subst z1 z2
        cases vu with
        | new _ hA _ => exact st1.back z3 hA) fun v H' F' st' sr' => hQ.nx st' sr' er⟩
theorem ss_ext {o e : Expr} {mo me : ME} {apos cpos : Pos} (ho : SoundE Γ X o mo) (he : SoundE Γ X e me) (hp : plainE e = true) (hsup : isSuper o = false) (hline : (apos.endLine == cpos.line) = true) : SoundS Γ X (.Expr (.Call (.Attribute o "extend" apos) [e] [] cpos) pos) (.ext mo me) := ⟨fun {σ H F A env S S' p D} h er sr hQ => by
  unfold evS at h
  obtain ⟨a, S1, e1, k1⟩ := bind_inv h
  obtain ⟨c, _, e2, k2⟩ := bind_inv k1
  obtain ⟨hc, rfl⟩ := coM_inv e2
  obtain ⟨v, S2, e3, k3⟩ := bind_inv k2
  obtain ⟨c', _, e4, k4⟩ := bind_inv k3
  obtain ⟨hc', rfl⟩ := coM_inv e4
  obtain ⟨_, _, e5, k5⟩ := bind_inv k4
  obtain ⟨⟨hk, hk'⟩, rfl⟩ := chk_inv e5
  obtain ⟨_, S3, e6, k6⟩ := bind_inv k5
  obtain ⟨rfl, rfl⟩ := pure_inv k6
  have hpl : [e].all plainE = true := by rw [List.all_cons, hp]; rfl
  refine ws_of (ps_expr (pe_met pe_w pa_w (base_of hsup _ _) hpl (by show 1 < 30; decide) hline) rfl) (ho.run e1 er sr fun v1 H1 F1 st1 sr1 vr1 nw1 => ?_)
  refine ⟨"list", "list.extend", ⟨PySem.F.plainAttrs_list, PySem.F.slot_list_extend, PySem.F.type_list_extend⟩, ?_, ?_⟩
  · have t := (vr1.co sr1 hc).tyo sr1.sub (by rw [hk]; decide)
    rw [hk] at t; exact t
  · refine (sds_cons he sds_nil hp).run (evEs_one e3) (er.mono st1.le) sr1 fun vs H2 F2 st2 sr2 vr2 nw2 => ?_
    obtain ⟨u, rfl, vu⟩ := vr2.one
    exact ext_wm sr2 e6 (vr1.step st2) vu (st1.trans st2) fun v H' F' st' sr' => hQ.nx st' sr' er⟩
end
end Th
end
section
set_option Elab.async false
set_option linter.all false
set_option maxRecDepth 100000
set_option maxHeartbeats 4000000
namespace Th
open PySem PySem.Spec PyProof.Rows L2
section
variable {Γ : Gam} {par : Par} {X : Cx} {a b e : Expr} {ma mb m : ME} {pos pos' p2 p3 : Pos}
theorem rg_ok {F : Hp} {K : Kit} {i j : Int} : RpAll K F (rgV i j) (rngD i j) := by
  have e1 : rgV i j = ((List.range (j - i).toNat).map fun n => i + (n : Nat)).map V.int := by unfold rgV; rw [List.map_map]; rfl
  have e2 : rngD i j = ((List.range (j - i).toNat).map fun n => i + (n : Nat)).map PyData.int := by unfold rngD; rw [List.map_map]; rfl
  rw [e1, e2]
  exact RpAll.of_ints _
theorem rgOk_of {i j : Int} (h : -1000000 ≤ i ∧ i ≤ 1000000 ∧ -1000000 ≤ j ∧ j ≤ 1000000) : RgOk i j := ⟨by omega, by omega, by omega, by omega, by omega⟩
theorem pe_tupRgN {te : L2.St → Hp → (Int → Int → Hp → Prop) → Prop} (hc : X.calm = true) (hg : Gl X "tuple") (hm : X.mg "tuple" = none) (he : PRg X e te) (na : starEach [e] X.env = (false, eval e X.env) :: starEach [] X.env) :
    PE X (.Call (.Name "tuple" pos') [e] [] pos) (fun σ H Q => te σ H fun i j H1 => RgOk i j ∧ NewT H1 (rgV i j) Q) := by
  refine ⟨fun pins s σ H Q I h => ?_⟩
  refine Call_ (ld_blt I hg hm boot_tuple (PyProof.Rows.callWith_type1 (args_cons (thn (he pins s σ H _ I h) fun x s1 ⟨r, i, j, t, u, v, H1, ex, hr, I1, ok, q⟩ => args_nil ?_) na) na))
  subst ex
  obtain ⟨b1, b2, b3, b4, b5⟩ := ok
  refine call_tuple_range (n := (j - i).toNat) (I1.ok.hd hc) hr (small_one b1 b2 b3 b4) (rangeSize_nat i j) b5 fun h' tk acc hk hi => ?_
  have I2 : Inv X pins σ H1 { s1 with heap := h', toks := tk } := I1.kept hk
  have z := newT_laid (t' := tk) I2 (vals_rg hi) (by rw [rgV_length, sizeLine_eq]; omega) q
  rw [Array.toArray_toList] at z
  exact z
theorem rng_plain : plainE (.Call (.Name "range" p2) [a] [] p3) = true := rfl
theorem sd_trng1 (G : Good Γ par X) (ha : SoundE Γ X a ma) (hp : plainE a = true) (hg : Gl X "tuple") (hg2 : Gl X "range") : SoundE Γ X (.Call (.Name "tuple" pos') [.Call (.Name "range" p2) [a] [] p3] [] pos) (.bi .trng1 [ma]) := ⟨fun {σ H F A env S S' r Q} h er sr hQ => by
  unfold evE at h
  obtain ⟨rs, S1, e1, k1⟩ := bind_inv h
  unfold evEs at e1
  obtain ⟨x, S2, e2, k2⟩ := bind_inv e1
  obtain ⟨ys, S3, e3, k3⟩ := bind_inv k2
  unfold evEs at e3
  obtain ⟨rfl, rfl⟩ := pure_inv e3
  obtain ⟨rfl, rfl⟩ := pure_inv k3
  unfold biOp at k1
  simp only at k1
  obtain ⟨c, _, e4, k4⟩ := bind_inv k1
  obtain ⟨hc, rfl⟩ := coM_inv e4
  obtain ⟨i, _, e5, k5⟩ := bind_inv k4
  obtain ⟨hi, rfl⟩ := lift_inv e5
  obtain ⟨_, _, e6, k6⟩ := bind_inv k5
  obtain ⟨hb, rfl⟩ := chk_inv e6
  obtain ⟨rfl, rfl⟩ := ret_inv k6
  refine we_of (pe_tupRgN G.calm hg (G.blt _ (by decide)) (prg_1 hg2 (G.blt _ (by decide)) pe_w (star_of hp _ _)) (star_of rng_plain _ _)) (ha.run e2 er sr fun v H1 F1 st1 sr1 vr nw => ?_)
  exact ⟨i, (vr.co sr1 hc).int hi, rgOk_of (by omega), (hQ.after st1).tup sr1 rg_ok⟩⟩
theorem sd_trng2 (G : Good Γ par X) (ha : SoundE Γ X a ma) (hb : SoundE Γ X b mb) (hp : plainE a = true) (hp2 : plainE b = true) (hg : Gl X "tuple") (hg2 : Gl X "range") : SoundE Γ X (.Call (.Name "tuple" pos') [.Call (.Name "range" p2) [a, b] [] p3] [] pos) (.bi .trng2 [ma, mb]) := ⟨fun {σ H F A env S S' r Q} h er sr hQ => by
  unfold evE at h
  obtain ⟨rs, S1, e1, k1⟩ := bind_inv h
  unfold evEs at e1
  obtain ⟨x, S2, e2, k2⟩ := bind_inv e1
  obtain ⟨ys, S3, e3, k3⟩ := bind_inv k2
  obtain ⟨rfl, rfl⟩ := pure_inv k3
  unfold evEs at e3
  obtain ⟨y, S4, e3', k3'⟩ := bind_inv e3
  obtain ⟨zs, S5, e3'', k3''⟩ := bind_inv k3'
  unfold evEs at e3''
  obtain ⟨rfl, rfl⟩ := pure_inv e3''
  obtain ⟨rfl, rfl⟩ := pure_inv k3''
  unfold biOp at k1
  simp only at k1
  obtain ⟨c, _, e4, k4⟩ := bind_inv k1
  obtain ⟨hc, rfl⟩ := coM_inv e4
  obtain ⟨i, _, e5, k5⟩ := bind_inv k4
  obtain ⟨hi, rfl⟩ := lift_inv e5
  obtain ⟨c', _, e4', k4'⟩ := bind_inv k5
  obtain ⟨hc', rfl⟩ := coM_inv e4'
  obtain ⟨j, _, e5', k5'⟩ := bind_inv k4'
  obtain ⟨hj, rfl⟩ := lift_inv e5'
  obtain ⟨_, _, e6, k6⟩ := bind_inv k5'
  obtain ⟨hb', rfl⟩ := chk_inv e6
  obtain ⟨rfl, rfl⟩ := ret_inv k6
  refine we_of (pe_tupRgN G.calm hg (G.blt _ (by decide)) (prg_2 hg2 (G.blt _ (by decide)) pe_w pe_w (star_of hp _ _) (star_of hp2 _ _) (stars_of (by rw [List.all_cons, hp2]; rfl) _ _)) (star_of (by rfl) _ _)) (ha.run e2 er sr fun v H1 F1 st1 sr1 vr nw => ?_)
  refine hb.run e3' (er.mono st1.le) sr1 fun u H2 F2 st2 sr2 vr2 nw2 => ?_
  exact ⟨i, j, ((vr.step st2).co sr2 hc).int hi, (vr2.co sr2 hc').int hj, rgOk_of hb', (hQ.after (st1.trans st2)).tup sr2 rg_ok⟩⟩
theorem sd_lrng1 (G : Good Γ par X) (ha : SoundE Γ X a ma) (hp : plainE a = true) (hg : Gl X "list") (hg2 : Gl X "range") : SoundE Γ X (.Call (.Name "list" pos') [.Call (.Name "range" p2) [a] [] p3] [] pos) (.bi .lrng1 [ma]) := ⟨fun {σ H F A env S S' r Q} h er sr hQ => by
  unfold evE at h
  obtain ⟨rs, S1, e1, k1⟩ := bind_inv h
  unfold evEs at e1
  obtain ⟨x, S2, e2, k2⟩ := bind_inv e1
  obtain ⟨ys, S3, e3, k3⟩ := bind_inv k2
  unfold evEs at e3
  obtain ⟨rfl, rfl⟩ := pure_inv e3
  obtain ⟨rfl, rfl⟩ := pure_inv k3
  unfold biOp at k1
  simp only at k1
  obtain ⟨c, _, e4, k4⟩ := bind_inv k1
  obtain ⟨hc, rfl⟩ := coM_inv e4
  obtain ⟨i, _, e5, k5⟩ := bind_inv k4
  obtain ⟨hi, rfl⟩ := lift_inv e5
  obtain ⟨_, _, e6, k6⟩ := bind_inv k5
  obtain ⟨hb, rfl⟩ := chk_inv e6
  obtain ⟨rfl, rfl⟩ := ret_inv k6
  refine we_of (pe_listRg G.calm hg (G.blt _ (by decide)) (prg_1 hg2 (G.blt _ (by decide)) pe_w (star_of hp _ _)) (star_of rng_plain _ _)) (ha.run e2 er sr fun v H1 F1 st1 sr1 vr nw => ?_)
  exact ⟨i, (vr.co sr1 hc).int hi, rgOk_of (by omega), fun q n => (hQ.after st1).lst sr1 rg_ok n⟩⟩
theorem cr_setTup (hc : X.calm = true) : CallR X (.type "set") (fun xs H Q => ∃ (t : Addr) (ns : List Int), xs = [.ref t] ∧ SqT X.K H t (ns.map V.int) ∧ ns.length ≤ 60 ∧ ∀ p k, H p = none → k ≤ ns.length → Q (.ref p) (upd H p (SetO X.w p (fun j => decide (j ∈ ns)) k))) := by
  intro pins s σ H xs us Q I r h
  obtain ⟨t, ns, rfl, hs, hl, q⟩ := h
  rw [Vals.ref1 r]
  obtain ⟨its, rv, pt, hz⟩ := I.tuple hs
  refine call_set_tupI ns (I.ok.hd hc) (show s.heap.IsTuple t its.toArray from pt) (by simpa using ints_of_vals rv) (by unfold scanBound; omega) fun h' tk k R hk keep => ?_
  exact ⟨.ref _, _, I.laid (a := s.heap.objs.size) (o := SetO X.w s.heap.objs.size (fun j => decide (j ∈ ns)) k) (t' := tk) keep (Nat.le_refl _) (setO_new R), rfl, q _ k (I.hok.fresh (Nat.le_refl _)) hk⟩
theorem sorted_eq : ∀ {xs ys : List Int}, xs.Pairwise (· < ·) → ys.Pairwise (· < ·) → (∀ k, k ∈ xs ↔ k ∈ ys) → xs = ys
  | [], [], _, _, _ => rfl
  | [], y :: ys, _, _, h => absurd ((h y).mpr List.mem_cons_self) (by simp)
  | x :: xs, [], _, _, h => absurd ((h x).mp List.mem_cons_self) (by simp)
  | x :: xs, y :: ys, p, q, h => by
    rw [List.pairwise_cons] at p q
    have e : x = y := by
      rcases List.mem_cons.mp ((h x).mp List.mem_cons_self) with z | z
      · exact z
      · rcases List.mem_cons.mp ((h y).mpr List.mem_cons_self) with z2 | z2
        · exact z2.symm
        · have := q.1 x z
          have := p.1 y z2
          omega
    subst e
    rw [sorted_eq p.2 q.2 fun k => ?_]
    constructor
    · intro hk
      rcases List.mem_cons.mp ((h k).mp (List.mem_cons_of_mem _ hk)) with z | z
      · subst z; exact absurd (p.1 _ hk) (by omega)
      · exact z
    · intro hk
      rcases List.mem_cons.mp ((h k).mpr (List.mem_cons_of_mem _ hk)) with z | z
      · subst z; exact absurd (q.1 _ hk) (by omega)
      · exact z
theorem mem_dedup : ∀ {xs : List Int} {k : Int}, k ∈ dedup xs ↔ k ∈ xs
  | [], k => by simp [dedup]
  | x :: xs, k => by
    unfold dedup
    split
    · rename_i h
      rw [mem_dedup, List.mem_cons]
      constructor
      · exact .inr
      · rintro (rfl | z)
        · exact h
        · exact z
    · rw [List.mem_cons, mem_dedup, List.mem_cons]
theorem nodup_dedup : ∀ xs : List Int, (dedup xs).Nodup
  | [] => List.nodup_nil
  | x :: xs => by
    unfold dedup
    split
    · exact nodup_dedup xs
    · rename_i h
      exact List.nodup_cons.mpr ⟨fun z => h (mem_dedup.mp z), nodup_dedup xs⟩
theorem sortI_lt {xs : List Int} (h : xs.Nodup) : (sortI xs).Pairwise (· < ·) := by
  have p : (sortI xs).Perm xs := List.mergeSort_perm _ _
  have s : (sortI xs).Pairwise (fun a b => decide (a ≤ b) = true) := List.pairwise_mergeSort (fun a b c h1 h2 => by simp only [decide_eq_true_eq] at *; omega) (fun a b => by simp only [Bool.or_eq_true, decide_eq_true_eq]; omega) xs
  have n : (sortI xs).Pairwise (· ≠ ·) := (p.nodup_iff).mpr h
  refine (s.and n).imp fun {a b} hab => ?_
  have := of_decide_eq_true hab.1
  have := hab.2
  omega
theorem mem_sortI {xs : List Int} {k : Int} : k ∈ sortI xs ↔ k ∈ xs := (List.mergeSort_perm _ _).mem_iff
theorem sd_sortset (G : Good Γ par X) (ha : SoundE Γ X a ma) (hp : plainE a = true) (hg : Gl X "sorted") (hg2 : Gl X "set") : SoundE Γ X (.Call (.Name "sorted" pos') [.Call (.Name "set" p2) [a] [] p3] [] pos) (.bi .sortset [ma]) := ⟨fun {σ H F A env S S' r Q} h er sr hQ => by
  unfold evE at h
  obtain ⟨rs, S1, e1, k1⟩ := bind_inv h
  unfold evEs at e1
  obtain ⟨x, S2, e2, k2⟩ := bind_inv e1
  obtain ⟨ys, S3, e3, k3⟩ := bind_inv k2
  unfold evEs at e3
  obtain ⟨rfl, rfl⟩ := pure_inv e3
  obtain ⟨rfl, rfl⟩ := pure_inv k3
  unfold biOp at k1
  simp only at k1
  obtain ⟨c, _, e4, k4⟩ := bind_inv k1
  obtain ⟨hc, rfl⟩ := coM_inv e4
  obtain ⟨xs, _, e5, k5⟩ := bind_inv k4
  obtain ⟨hx, rfl⟩ := lift_inv e5
  obtain ⟨ns, _, e6, k6⟩ := bind_inv k5
  obtain ⟨hn, rfl⟩ := lift_inv e6
  obtain ⟨_, _, e7, k7⟩ := bind_inv k6
  obtain ⟨hl, rfl⟩ := chk_inv e7
  obtain ⟨rfl, rfl⟩ := ret_inv k7
  have ct : c = .d (.tuple xs) := by
    unfold Co.tups at hx
    split at hx <;> first | (cases hx; rfl) | cases hx
  subst ct
  refine we_of (pe_callB (cr_sortedSet G.calm) hg (G.blt _ (by decide)) (by decide +kernel) (pa_cons (pe_callTy (cr_setTup G.calm) hg2 (G.blt _ (by decide)) (by decide +kernel) (pa_cons pe_w pa_nil (star_of hp _ _)) (by decide) (by decide) (star_of hp _ _) rfl) pa_nil rfl) (by decide) (by decide) rfl rfl) (ha.run e2 er sr fun v H1 F1 st1 sr1 vr nw => ?_)
  have co := vr.co sr1 hc
  cases co with
  | d rp =>
    cases rp with
    | @tup t o vs ds h1 h3 h2 =>
      obtain ⟨rfl, rfl⟩ := h2.ints hn
      refine ⟨t, ns, rfl, .inl (.inr ⟨_, sr1.sub _ _ h1⟩), hl, fun p k hpn hk => ?_⟩
      refine ⟨p, _, k, rfl, upd_same, by omega, fun ns' p' hlt hm hlen hp' => ?_⟩
      obtain ⟨sr2, st2⟩ := sr1.fresh_obj (o := SetO X.w p (fun j => decide (j ∈ ns)) k) hpn
      have e : ns' = sortI (dedup ns) := sorted_eq hlt (sortI_lt (nodup_dedup ns)) fun j => by rw [hm j, mem_sortI, mem_dedup, decide_eq_true_eq]
      subst e
      exact (hQ.after (st1.trans st2)).lst sr2 (RpAll.of_ints _) hp'⟩
end
end Th
end
section
set_option Elab.async false
set_option linter.all false
set_option maxRecDepth 100000
set_option maxHeartbeats 4000000
namespace Th
open PySem PySem.Spec PyProof.Rows L2
abbrev IsZp (h : Heap) (z TI TO : Addr) (f0 : Value) (f1 : Bool) : Prop :=
  h.get? z = some { cls := .type "zip", dict := none, data := .fields #[f0, .bool f1, .bool false, .ref TI, .ref TO], slots := #[] }
theorem wpAny_loadAlive {prog : Program} {w : World} {A : Around} {E : Value → Shared → Prop} {s : Shared} {a : Addr} {Q : Option Obj → Shared → Prop} (h : Q (s.heap.get? a) s) : wpAny (model prog w) A (loadIfAlive a) Q E s := by
  intro Γ p hΓ
  exact h
section
variable {prog : Program} {w : World} {A : Around} {E : Value → Shared → Prop} {s : Shared}
variable {z TI TO i1 i2 T0 : Addr} {fp1 fp2 : List Addr} {n1 n2 : Nat} {P1 P2 : Nat → Value → Prop} {St1 St2 : Nat → Heap → Prop} {i : Nat} {a1 a2 : Value}
theorem zip_kept_next {f1 : Bool} {o0 : Obj} {Q : Value → Shared → Prop} (S : ZipSep2 z TI TO i1 i2 fp1 fp2) (D1 : Draws prog w A i1 fp1 n1 P1 St1) (D2 : Draws prog w A i2 fp2 n2 P2 St2)
    (hz : IsZp s.heap z TI TO (rawInt T0) f1) (hT0 : s.heap.get? T0 = some o0) (h0z : T0 ≠ z) (hTI : IsTupOf2 s.heap TI (.ref i1) (.ref i2)) (st1 : St1 i s.heap) (st2 : St2 i s.heap) (hlt1 : i < n1) (hlt2 : i < n2)
    (hQ : ∀ x1 x2 h' tk, P1 i x1 → P2 i x2 → IsZp h' z TI TO (rawInt T0) true → St1 (i + 1) h' → St2 (i + 1) h' → IsTupOf2 h' s.heap.objs.size x1 x2 → h'.objs.size = s.heap.objs.size + 1 →
      (∀ c o, c ≠ z → c ≠ i1 → c ≠ i2 → s.heap.get? c = some o → h'.get? c = some o) → Q (.ref s.heap.objs.size) { s with heap := h', toks := tk }) :
    wpAny (model prog w) A (Builtin.«zip.__next__» ⟨[.ref z], []⟩) (fun fin s' => ∃ v, fin = .done (.ret v) ∧ Q v s') E s := by
  obtain ⟨hp, g, d, tk0, os⟩ := s
  show wpAny _ _ (field (.ref z) 2 >>= _) _ _ _
  refine wpAny_bind (wpAny_field hz rfl (x := .bool false) rfl ?_)
  show wpAny _ _ (field (.ref z) 3 >>= _) _ _ _
  refine wpAny_bind (wpAny_field hz rfl (x := .ref TI) rfl ?_)
  refine wpAny_bind (wpAny_seqItems hTI rfl ?_)
  show wpAny _ _ (Builtin.SmallTypes.ownedTupleIsFree (.ref z) >>= _) _ _ _
  refine wpAny_bind ?_
  unfold Builtin.SmallTypes.ownedTupleIsFree
  refine wpAny_bind (wpAny_field hz rfl (x := rawInt T0) rfl ?_)
  show wpAny _ _ (loadIfAlive T0 >>= _) _ _ _
  refine wpAny_bind (wpAny_loadAlive ?_)
  rw [hT0]
  show wpAny _ _ (field (.ref z) 1 >>= _) _ _ _
  refine wpAny_bind (wpAny_field hz rfl (x := .bool f1) rfl ?_)
  cases f1 with
  | false =>
    show wpAny _ _ (setField (.ref z) 1 (.bool true) >>= fun _ => pure false) _ _ _
    refine wpAny_bind (wpAny_setField_rec hz (by simp) fun g0 hz0 hs0 => wpAny_pure ?_)
    replace hz0 : IsZp g0 z TI TO (rawInt T0) true := hz0
    replace hs0 : Heap.SameBut z hp g0 := hs0
    simp only [if_false, Bool.false_eq_true]
    refine wpAny_bind ?_
    simp only [List.forIn_toArray, List.forIn_cons, List.forIn_nil]
    refine wpAny_bind (wpAny_bind (wpAny_holding ?_))
    show wpAny _ _ (Builtin.SmallTypes.nextOf (.ref i1) >>= _) _ _ ⟨g0, g, d, tk0, os⟩
    refine wpAny_bind (D1.item i _ _ _ hlt1 (D1.over st1 hs0 S.zf1) fun x1 p1 tk1 hx1 sn1 hp1 => wpAny_pure ?_)
    replace hp1 : Heap.SameBut i1 g0 p1 := hp1
    refine wpAny_pure ?_
    refine wpAny_bind (wpAny_bind (wpAny_holding ?_))
    show wpAny _ _ (Builtin.SmallTypes.nextOf (.ref i2) >>= _) _ _ ⟨p1, g, d, tk1, os⟩
    refine wpAny_bind (D2.item i _ _ _ hlt2 (D2.over (D2.over st2 hs0 S.zf2) hp1 S.sep1_2) fun x2 p2 tk2 hx2 sn2 hp2 => wpAny_pure ?_)
    replace hp2 : Heap.SameBut i2 p1 p2 := hp2
    refine wpAny_pure (wpAny_pure ?_)
    refine wpAny_bind (wpAny_newTuple ?_ (by show 2 ≤ sizeLine; decide))
    have hsz : p2.objs.size = hp.objs.size := by rw [hp2.1, hp1.1, hs0.1]
    have hzz : IsZp p2 z TI TO (rawInt T0) true := hp2.extBut _ _ S.zi2 (hp1.extBut _ _ S.zi1 hz0)
    have hj1 : St1 (i + 1) p2 := D1.over sn1 hp2 S.sep2_1
    have hj2 : St2 (i + 1) p2 := sn2
    refine wpAny_pure ⟨_, rfl, ?_⟩
    show Q (.ref p2.objs.size) ⟨p2.push { cls := .type "tuple", data := .seq #[x1, x2] }, g, d, tk2, os⟩
    rw [hsz]
    refine hQ x1 x2 _ tk2 hx1 hx2 (Heap.get?_push_of_some _ hzz) (D1.frame _ _ _ hj1 fun b hb o e => Heap.get?_push_of_some _ e) (D2.frame _ _ _ hj2 fun b hb o e => Heap.get?_push_of_some _ e) ?_ ?_ fun c o cz c1 c2 e => Heap.get?_push_of_some _ (hp2.extBut _ _ c2 (hp1.extBut _ _ c1 (hs0.extBut _ _ cz e)))
    · show _ = _
      rw [← hsz]; exact Heap.get?_push_size _ rfl
    · rw [Heap.size_push, hsz]
  | true =>
    show wpAny _ _ (pure false) _ _ _
    refine wpAny_pure ?_
    obtain ⟨g0, hg0⟩ : ∃ g0, g0 = hp := ⟨_, rfl⟩
    have hz0 : IsZp g0 z TI TO (rawInt T0) true := by rw [hg0]; exact hz
    have hs0 : Heap.SameBut z hp g0 := by rw [hg0]; exact Heap.SameBut.refl _ _
    rw [← hg0]
    simp only [if_false, Bool.false_eq_true]
    refine wpAny_bind ?_
    simp only [List.forIn_toArray, List.forIn_cons, List.forIn_nil]
    refine wpAny_bind (wpAny_bind (wpAny_holding ?_))
    show wpAny _ _ (Builtin.SmallTypes.nextOf (.ref i1) >>= _) _ _ ⟨g0, g, d, tk0, os⟩
    refine wpAny_bind (D1.item i _ _ _ hlt1 (D1.over st1 hs0 S.zf1) fun x1 p1 tk1 hx1 sn1 hp1 => wpAny_pure ?_)
    replace hp1 : Heap.SameBut i1 g0 p1 := hp1
    refine wpAny_pure ?_
    refine wpAny_bind (wpAny_bind (wpAny_holding ?_))
    show wpAny _ _ (Builtin.SmallTypes.nextOf (.ref i2) >>= _) _ _ ⟨p1, g, d, tk1, os⟩
    refine wpAny_bind (D2.item i _ _ _ hlt2 (D2.over (D2.over st2 hs0 S.zf2) hp1 S.sep1_2) fun x2 p2 tk2 hx2 sn2 hp2 => wpAny_pure ?_)
    replace hp2 : Heap.SameBut i2 p1 p2 := hp2
    refine wpAny_pure (wpAny_pure ?_)
    refine wpAny_bind (wpAny_newTuple ?_ (by show 2 ≤ sizeLine; decide))
    have hsz : p2.objs.size = hp.objs.size := by rw [hp2.1, hp1.1, hs0.1]
    have hzz : IsZp p2 z TI TO (rawInt T0) true := hp2.extBut _ _ S.zi2 (hp1.extBut _ _ S.zi1 hz0)
    have hj1 : St1 (i + 1) p2 := D1.over sn1 hp2 S.sep2_1
    have hj2 : St2 (i + 1) p2 := sn2
    refine wpAny_pure ⟨_, rfl, ?_⟩
    show Q (.ref p2.objs.size) ⟨p2.push { cls := .type "tuple", data := .seq #[x1, x2] }, g, d, tk2, os⟩
    rw [hsz]
    refine hQ x1 x2 _ tk2 hx1 hx2 (Heap.get?_push_of_some _ hzz) (D1.frame _ _ _ hj1 fun b hb o e => Heap.get?_push_of_some _ e) (D2.frame _ _ _ hj2 fun b hb o e => Heap.get?_push_of_some _ e) ?_ ?_ fun c o cz c1 c2 e => Heap.get?_push_of_some _ (hp2.extBut _ _ c2 (hp1.extBut _ _ c1 (hs0.extBut _ _ cz e)))
    · show _ = _
      rw [← hsz]; exact Heap.get?_push_size _ rfl
    · rw [Heap.size_push, hsz]
theorem zip_kept_end {f1 : Bool} {o0 : Obj} {Q : Fin → Shared → Prop} (S : ZipSep2 z TI TO i1 i2 fp1 fp2) (D1 : Draws prog w A i1 fp1 n1 P1 St1) (D2 : Draws prog w A i2 fp2 n2 P2 St2)
    (hz : IsZp s.heap z TI TO (rawInt T0) f1) (hT0 : s.heap.get? T0 = some o0) (hTI : IsTupOf2 s.heap TI (.ref i1) (.ref i2)) (st1 : St1 i s.heap) (st2 : St2 i s.heap) (hle1 : i ≤ n1) (hle2 : i ≤ n2) (hend : i = n1 ∨ i = n2)
    (hE : ∀ h' tk e, (∀ c o, c ≠ z → c ≠ i1 → c ≠ i2 → s.heap.get? c = some o → h'.get? c = some o) → (∃ o, h'.get? e = some o ∧ o.cls = .type "StopIteration") → E (.ref e) { s with heap := h', toks := tk }) :
    wpAny (model prog w) A (Builtin.«zip.__next__» ⟨[.ref z], []⟩) Q E s := by
  obtain ⟨hp, g, d, tk0, os⟩ := s
  show wpAny _ _ (field (.ref z) 2 >>= _) _ _ _
  refine wpAny_bind (wpAny_field hz rfl (x := .bool false) rfl ?_)
  show wpAny _ _ (field (.ref z) 3 >>= _) _ _ _
  refine wpAny_bind (wpAny_field hz rfl (x := .ref TI) rfl ?_)
  refine wpAny_bind (wpAny_seqItems hTI rfl ?_)
  show wpAny _ _ (Builtin.SmallTypes.ownedTupleIsFree (.ref z) >>= _) _ _ _
  refine wpAny_bind ?_
  unfold Builtin.SmallTypes.ownedTupleIsFree
  refine wpAny_bind (wpAny_field hz rfl (x := rawInt T0) rfl ?_)
  show wpAny _ _ (loadIfAlive T0 >>= _) _ _ _
  refine wpAny_bind (wpAny_loadAlive ?_)
  rw [hT0]
  show wpAny _ _ (field (.ref z) 1 >>= _) _ _ _
  refine wpAny_bind (wpAny_field hz rfl (x := .bool f1) rfl ?_)
  cases f1 with
  | false =>
    show wpAny _ _ (setField (.ref z) 1 (.bool true) >>= fun _ => pure false) _ _ _
    refine wpAny_bind (wpAny_setField_rec hz (by simp) fun g0 hz0 hs0 => wpAny_pure ?_)
    replace hs0 : Heap.SameBut z hp g0 := hs0
    simp only [if_false, Bool.false_eq_true]
    refine wpAny_bind ?_
    simp only [List.forIn_toArray, List.forIn_cons, List.forIn_nil]
    refine wpAny_bind (wpAny_bind (wpAny_holding ?_))
    show wpAny _ _ (Builtin.SmallTypes.nextOf (.ref i1) >>= _) _ _ ⟨g0, g, d, tk0, os⟩
    by_cases hlt1 : i < n1
    · refine wpAny_bind (D1.item i _ _ _ hlt1 (D1.over st1 hs0 S.zf1) fun x1 p1 tk1 hx1 sn1 hp1 => wpAny_pure ?_)
      replace hp1 : Heap.SameBut i1 g0 p1 := hp1
      have hi2 : i = n2 := by omega
      refine wpAny_pure ?_
      refine wpAny_bind (wpAny_bind (wpAny_holding ?_))
      show wpAny _ _ (Builtin.SmallTypes.nextOf (.ref i2) >>= _) _ _ ⟨p1, g, d, tk1, os⟩
      refine wpAny_bind (D2.done ⟨p1, g, d, tk1, os⟩ _ _ (by rw [← hi2]; exact (D2.over (D2.over st2 hs0 S.zf2) hp1 S.sep1_2)) fun q e hq he => ?_)
      replace hq : Heap.ExtBut i2 p1 q := hq
      exact hE q tk1 e (fun c o cz c1 c2 x => hq _ _ c2 (hp1.extBut _ _ c1 (hs0.extBut _ _ cz x))) he
    · have hi1 : i = n1 := by omega
      refine wpAny_bind (D1.done ⟨g0, g, d, tk0, os⟩ _ _ (by rw [← hi1]; exact (D1.over st1 hs0 S.zf1)) fun q e hq he => ?_)
      replace hq : Heap.ExtBut i1 g0 q := hq
      exact hE q tk0 e (fun c o cz c1 c2 x => hq _ _ c1 (hs0.extBut _ _ cz x)) he
  | true =>
    show wpAny _ _ (pure false) _ _ _
    refine wpAny_pure ?_
    obtain ⟨g0, hg0⟩ : ∃ g0, g0 = hp := ⟨_, rfl⟩
    have hs0 : Heap.SameBut z hp g0 := by rw [hg0]; exact Heap.SameBut.refl _ _
    rw [← hg0]
    simp only [if_false, Bool.false_eq_true]
    refine wpAny_bind ?_
    simp only [List.forIn_toArray, List.forIn_cons, List.forIn_nil]
    refine wpAny_bind (wpAny_bind (wpAny_holding ?_))
    show wpAny _ _ (Builtin.SmallTypes.nextOf (.ref i1) >>= _) _ _ ⟨g0, g, d, tk0, os⟩
    by_cases hlt1 : i < n1
    · refine wpAny_bind (D1.item i _ _ _ hlt1 (D1.over st1 hs0 S.zf1) fun x1 p1 tk1 hx1 sn1 hp1 => wpAny_pure ?_)
      replace hp1 : Heap.SameBut i1 g0 p1 := hp1
      have hi2 : i = n2 := by omega
      refine wpAny_pure ?_
      refine wpAny_bind (wpAny_bind (wpAny_holding ?_))
      show wpAny _ _ (Builtin.SmallTypes.nextOf (.ref i2) >>= _) _ _ ⟨p1, g, d, tk1, os⟩
      refine wpAny_bind (D2.done ⟨p1, g, d, tk1, os⟩ _ _ (by rw [← hi2]; exact (D2.over (D2.over st2 hs0 S.zf2) hp1 S.sep1_2)) fun q e hq he => ?_)
      replace hq : Heap.ExtBut i2 p1 q := hq
      exact hE q tk1 e (fun c o cz c1 c2 x => hq _ _ c2 (hp1.extBut _ _ c1 (hs0.extBut _ _ cz x))) he
    · have hi1 : i = n1 := by omega
      refine wpAny_bind (D1.done ⟨g0, g, d, tk0, os⟩ _ _ (by rw [← hi1]; exact (D1.over st1 hs0 S.zf1)) fun q e hq he => ?_)
      replace hq : Heap.ExtBut i1 g0 q := hq
      exact hE q tk0 e (fun c o cz c1 c2 x => hq _ _ c1 (hs0.extBut _ _ cz x)) he
theorem next_kept_item {f1 : Bool} {o0 : Obj} {Q : Option Value → Shared → Prop} (S : ZipSep2 z TI TO i1 i2 fp1 fp2) (D1 : Draws prog w A.in1 i1 fp1 n1 P1 St1) (D2 : Draws prog w A.in1 i2 fp2 n2 P2 St2)
    (hz : IsZp s.heap z TI TO (rawInt T0) f1) (hT0 : s.heap.get? T0 = some o0) (h0z : T0 ≠ z) (hTI : IsTupOf2 s.heap TI (.ref i1) (.ref i2)) (st1 : St1 i s.heap) (st2 : St2 i s.heap) (hlt1 : i < n1) (hlt2 : i < n2)
    (hQ : ∀ x1 x2 h' tk, P1 i x1 → P2 i x2 → IsZp h' z TI TO (rawInt T0) true → St1 (i + 1) h' → St2 (i + 1) h' → IsTupOf2 h' s.heap.objs.size x1 x2 → h'.objs.size = s.heap.objs.size + 1 →
      (∀ c o, c ≠ z → c ≠ i1 → c ≠ i2 → s.heap.get? c = some o → h'.get? c = some o) → Q (some (.ref s.heap.objs.size)) { s with heap := h', toks := tk }) :
    wpAny (model prog w) A (pyNext (.ref z)) Q E s := by
  have hT : s.TypeIs (.ref z) "zip" := ⟨_, hz, rfl⟩
  unfold pyNext
  exact wpAny_bind (wpAny_attempt (wpAny_callSpecial?_slot (name := Str.ofString "__next__") hT PySem.F.slot_zip_next
    (wpAny_call_entry PySem.F.slot_zip_next hT PySem.F.entry_zip_next
      (zip_kept_next S D1 D2 hz hT0 h0z hTI st1 st2 hlt1 hlt2 fun x1 x2 h' tk y1 y2 b1 d1 d2 b5 b6 b7 => wpAny_pure (hQ x1 x2 h' tk y1 y2 b1 d1 d2 b5 b6 b7)) (PySem.F.args_zip_next_1 _))))
theorem next_kept_end {f1 : Bool} {o0 : Obj} {Q : Option Value → Shared → Prop} (S : ZipSep2 z TI TO i1 i2 fp1 fp2) (D1 : Draws prog w A.in1 i1 fp1 n1 P1 St1) (D2 : Draws prog w A.in1 i2 fp2 n2 P2 St2)
    (hz : IsZp s.heap z TI TO (rawInt T0) f1) (hT0 : s.heap.get? T0 = some o0) (hTI : IsTupOf2 s.heap TI (.ref i1) (.ref i2)) (st1 : St1 i s.heap) (st2 : St2 i s.heap) (hle1 : i ≤ n1) (hle2 : i ≤ n2) (hend : i = n1 ∨ i = n2)
    (hQ : ∀ h' tk, (∀ c o, c ≠ z → c ≠ i1 → c ≠ i2 → s.heap.get? c = some o → h'.get? c = some o) → Q none { s with heap := h', toks := tk }) : wpAny (model prog w) A (pyNext (.ref z)) Q E s := by
  have hT : s.TypeIs (.ref z) "zip" := ⟨_, hz, rfl⟩
  unfold pyNext
  refine wpAny_bind (wpAny_attempt (wpAny_callSpecial?_slot (name := Str.ofString "__next__") hT PySem.F.slot_zip_next
    (wpAny_call_entry PySem.F.slot_zip_next hT PySem.F.entry_zip_next (zip_kept_end S D1 D2 hz hT0 hTI st1 st2 hle1 hle2 hend fun h' tk e hk he => ?_) (PySem.F.args_zip_next_1 _))))
  obtain ⟨o, ho, hc⟩ := he
  refine wpAny_bind (wpAny_isInstance (T := "StopIteration") (b := true) ⟨o, ho, hc⟩ isSubtype_stop ?_)
  exact wpAny_pure (hQ _ _ hk)
end
section
variable {X : Cx} {pins : List (Addr × Obj)} {σ : L2.St} {H : Hp} {s : Shared}
theorem inv_adopt {S : Addr} {o : HO} (I : Inv X pins σ H s) (f : FpOk X pins H S) (new : ObjOk X.prog X.w (upd H S o) s.heap S o) : Inv X pins σ (upd H S o) s := by
  have hn : H S = none := f.1
  have q := I.step (h' := s.heap) (H' := upd H S o) (g' := s.gens) (d' := s.drawn) (t' := s.toks) (ch := [S]) (fun b hb => by
      rw [List.mem_singleton] at hb; subst hb; exact ⟨f.2.2.2.1, f.2.1, f.2.2.2.2.1, f.2.2.2.2.2⟩) (fun b o _ _ _ e _ => e) (fun b o _ _ _ e _ => ⟨o.slots, e⟩)
    (fun b o hb _ n => by rw [upd_ne (fun z => hb (by rw [z]; exact List.mem_singleton.mpr rfl))]; exact n) (fun b o _ e => ⟨o, e⟩) (fun b xs e => by rw [upd_ne (ne_of_none e hn)]; exact e) (fun b o u e => by rw [upd_ne (ne_of_none e hn)]; exact e) (fun b ps e => ⟨#[], by rw [upd_ne (ne_of_none e hn), e]; simp⟩) (fun m hm => hm) (fun b u e => ?_) I.bare
  · exact q
  · by_cases hb : b = S
    · subst hb
      rw [upd_same] at e
      cases e
      exact new
    · rw [upd_ne hb] at e
      exact (I.hok b u e).stay (fun c v _ q => q) (fun c q => by rw [upd_ne (ne_of_none q hn)]; exact q) fun c xs q => by rw [upd_ne (ne_of_none q hn)]; exact q
def LZ : List (V × V) → List V → Hp → VK → Prop
  | [], done, H, Q => ∀ S, H S = none → Q (.ref S) (upd H S (.lst done))
  | p :: ps, done, H, Q => ∀ T o, H T = none → o.dict = none → LZ ps (done ++ [.ref T]) (upd H T (.frz o (.tup [p.1, p.2]))) Q
def ZpSt (z TI TO : Addr) (h : Heap) : Prop :=
  (∃ a b, IsTupOf2 h TO a b) ∧ (IsZip h z TI TO .none ∨ ∃ (T0 : Addr) (f1 : Bool) (o0 : Obj), IsZp h z TI TO (rawInt T0) f1 ∧ h.get? T0 = some o0 ∧ T0 ≠ z ∧ o0.cls = .type "tuple")
theorem sqb_new {K : PySem.W.Frag} {b : Bool} {T a : Addr} {o : HO} {xs : List V} (hn : H T = none) (h : SqB K b H a xs) : SqB K b (upd H T o) a xs := by
  cases b with
  | true =>
    rcases (show SqT K H a xs from h) with h | h
    · exact .inl ((Le.new hn).rd h)
    · exact .inr h
  | false =>
    rcases (show SqL K H a xs from h) with h | h
    · exact .inl ((Le.new hn).rd h)
    · exact .inr h
theorem vals_snoc {vs : List V} {us : List Value} {v : V} {u : Value} (h : Vals vs us) (r : RelV v u) : Vals (vs ++ [v]) (us ++ [u]) := Vals.append h (.cons r .nil)
theorem zip_loop {A : Around} (hh : A.handled = none) {z TI TO i1 i2 S a b : Addr} {k k' : Bool} {xs ys : List V} {R : Result → Shared → Prop} {res : Value} {Q : VK} (Sp : ZipSep2 z TI TO i1 i2 [i1, a] [i2, b]) (hSz : S ≠ z) (hSTI : S ≠ TI) (hSTO : S ≠ TO) (hS1 : S ≠ i1) (hS2 : S ≠ i2) (hSa : S ≠ a) (hSb : S ≠ b) :
    ∀ (m i : Nat) (s : Shared) (H : Hp) (acc : List Value) (c : Nat) (done : List V), min xs.length ys.length - i = m → i ≤ xs.length → i ≤ ys.length → Inv X pins σ H s → (∀ c ∈ [z, TI, TO, i1, i2, S], FpOk X pins H c) →
      SqB X.K k H a xs → SqB X.K k' H b ys → ZpSt z TI TO s.heap → IsTupOf2 s.heap TI (.ref i1) (.ref i2) → IsIB k s.heap i1 a i → IsIB k' s.heap i2 b i →
      s.heap.get? S = some { cls := .type "list", dict := none, data := .seq acc.toArray c, slots := #[] } → Vals done acc → done.length = i → LZ ((xs.zip ys).drop i) done H Q →
      (∀ s' H', Inv X pins σ H' s' → Q (.ref S) H' → R (.ok (.ret res)) s') →
      codeAny (model X.prog X.w) A (.builtin "list.extend.loop" ⟨[.ref S, .ref z, res], []⟩) R s := by
  intro m
  induction m with
  | zero =>
    intro i s H acc c done hm h1 h2 I hf hqx hqy hz hTI hi1 hi2 hS hv hd q hR
    obtain ⟨its, rv, p, hzx⟩ := sqb_inv I hqx
    obtain ⟨its2, rv2, p2, hzy⟩ := sqb_inv I hqy
    have hl1 := rv.length
    have hl2 := rv2.length
    have hend : i = its.toArray.size ∨ i = its2.toArray.size := by rw [List.size_toArray, List.size_toArray]; omega
    have hnil : (xs.zip ys).drop i = [] := List.drop_eq_nil_of_le (by rw [List.length_zip]; omega)
    rw [hnil] at q
    refine codeAny_builtin PySem.F.entry_extend_loop ?_
    rw [Around.under_plainId PySem.F.plain_extend_loop _]
    show wpAny _ A.in1 (pyNext (.ref z) >>= _) _ _ s
    have D1 := drawsB (prog := X.prog) (w := X.w) (A := A.in1.in1) (show A.in1.in1.handled = none from hh) k i1 a (iib_ne hi1 p) its.toArray
    have D2 := drawsB (prog := X.prog) (w := X.w) (A := A.in1.in1) (show A.in1.in1.handled = none from hh) k' i2 b (iib_ne hi2 p2) its2.toArray
    have fin : ∀ (h' : Heap) (tk : Nat), (∀ c o, c ≠ z → c ≠ TO → c ≠ i1 → c ≠ i2 → s.heap.get? c = some o → h'.get? c = some o) → R (.ok (.ret res)) { s with heap := h', toks := tk } := by
      intro h' tk hk
      have I1 : Inv X pins σ H { s with heap := h', toks := tk } := I.turnedL (t' := tk) (ch := [z, TI, TO, i1, i2, S]) (fun c o hb e => hk c o (fun q' => hb (by simp [q'])) (fun q' => hb (by simp [q'])) (fun q' => hb (by simp [q'])) (fun q' => hb (by simp [q'])) e) hf
      have hS' : h'.get? S = some { cls := .type "list", dict := none, data := .seq acc.toArray c, slots := #[] } := hk S _ hSz hSTO hS1 hS2 hS
      refine hR _ _ (inv_adopt (o := .lst done) I1 (hf S (by simp)) ⟨?_, acc, c, hv, hS'⟩) (q S (hf S (by simp)).1)
      rw [hd]; omega
    obtain ⟨⟨_, _, hTO⟩, hz⟩ := hz
    rcases hz with hz | ⟨T0, f1, o0, hz, hT0, h0z, _⟩
    · refine wpAny_bind (wpAny_pyNext_zipD2_end Sp D1 D2 hz hTI hTO ⟨hi1, p⟩ ⟨hi2, p2⟩ (by rw [List.size_toArray]; omega) (by rw [List.size_toArray]; omega) hend fun h' tk hk => ?_)
      exact wpAny_pure (fin h' tk hk)
    · refine wpAny_bind (next_kept_end Sp D1 D2 hz hT0 hTI ⟨hi1, p⟩ ⟨hi2, p2⟩ (by rw [List.size_toArray]; omega) (by rw [List.size_toArray]; omega) hend fun h' tk hk => ?_)
      exact wpAny_pure (fin h' tk fun c o cz _ c1 c2 e => hk c o cz c1 c2 e)
  | succ m ih =>
    intro i s H acc c done hm h1 h2 I hf hqx hqy hz hTI hi1 hi2 hS hv hd q hR
    obtain ⟨its, rv, p, hzx⟩ := sqb_inv I hqx
    obtain ⟨its2, rv2, p2, hzy⟩ := sqb_inv I hqy
    have hl1 := rv.length
    have hl2 := rv2.length
    have hlx : i < xs.length := by omega
    have hly : i < ys.length := by omega
    obtain ⟨u, hu, ru⟩ := rv.get (List.getElem?_eq_getElem hlx)
    obtain ⟨u2, hu2, ru2⟩ := rv2.get (List.getElem?_eq_getElem hly)
    have hdrop : (xs.zip ys).drop i = (xs[i], ys[i]) :: (xs.zip ys).drop (i + 1) := by
      rw [List.drop_eq_getElem_cons (by rw [List.length_zip]; omega), List.getElem_zip]
    rw [hdrop] at q
    refine codeAny_builtin PySem.F.entry_extend_loop ?_
    rw [Around.under_plainId PySem.F.plain_extend_loop _]
    show wpAny _ A.in1 (pyNext (.ref z) >>= _) _ _ s
    have D1 := drawsB (prog := X.prog) (w := X.w) (A := A.in1.in1) (show A.in1.in1.handled = none from hh) k i1 a (iib_ne hi1 p) its.toArray
    have D2 := drawsB (prog := X.prog) (w := X.w) (A := A.in1.in1) (show A.in1.in1.handled = none from hh) k' i2 b (iib_ne hi2 p2) its2.toArray
    have hlt : i < its.toArray.size := by rw [List.size_toArray]; omega
    have hlt2 : i < its2.toArray.size := by rw [List.size_toArray]; omega
    have go : ∀ (w1 w2 : Value) (h' : Heap) (tk : Nat), its.toArray[i]? = some w1 → its2.toArray[i]? = some w2 → ZpSt z TI TO h' → IsIB k h' i1 a (i + 1) → IsIB k' h' i2 b (i + 1) → IsTupOf2 h' s.heap.objs.size w1 w2 →
        (∀ c o, c ≠ z → c ≠ TO → c ≠ i1 → c ≠ i2 → s.heap.get? c = some o → h'.get? c = some o) →
        wpAny (model X.prog X.w) A.in1 (updateSeq S (·.push (.ref s.heap.objs.size)) >>= fun _ => again (.builtin "list.extend.loop" ⟨[.ref S, .ref z, res], []⟩))
          (fun fin s' => match fin with | .done f => R (.ok f) s' | .again c' => c'.quiet = true ∧ codeAny (model X.prog X.w) A c' R s') (fun e s' => R (.error e) s') { s with heap := h', toks := tk } := by
      intro w1 w2 h' tk hP1 hP2 hz' h1' h2' hT hk
      have eu : w1 = u := by
        rw [List.getElem?_toArray, hu] at hP1
        exact (Option.some.inj hP1).symm
      have eu2 : w2 = u2 := by
        rw [List.getElem?_toArray, hu2] at hP2
        exact (Option.some.inj hP2).symm
      subst eu eu2
      have new : ObjOk X.prog X.w (upd H s.heap.objs.size (.frz { cls := .type "tuple", data := .seq #[w1, w2] } (.tup [xs[i], ys[i]]))) h' s.heap.objs.size (.frz { cls := .type "tuple", data := .seq #[w1, w2] } (.tup [xs[i], ys[i]])) :=
        ⟨hT, by show 2 ≤ sizeLine; decide, [w1, w2], .cons ru (.cons ru2 .nil), ⟨_, hT, rfl, _, rfl⟩⟩
      have I1 : Inv X pins σ (upd H s.heap.objs.size (.frz { cls := .type "tuple", data := .seq #[w1, w2] } (.tup [xs[i], ys[i]]))) { s with heap := h', toks := tk } :=
        I.turnedNew (ch := [z, TI, TO, i1, i2, S]) (fun c o hb e => hk c o (fun q' => hb (by simp [q'])) (fun q' => hb (by simp [q'])) (fun q' => hb (by simp [q'])) (fun q' => hb (by simp [q'])) e) hf (Nat.le_refl _) new
      have hn : H s.heap.objs.size = none := I.hok.fresh (Nat.le_refl _)
      have hlt : ∀ c, c ∈ [z, TI, TO, i1, i2, S] → c < s.heap.objs.size := by
        intro c hc
        have e' : c = z ∨ c = TI ∨ c = TO ∨ c = i1 ∨ c = i2 ∨ c = S := by simpa using hc
        rcases e' with e | e | e | e | e | e
        · rw [e]
          rcases hz.2 with hz | ⟨_, _, _, hz, _⟩ <;> exact Heap.lt_size hz
        · rw [e]; exact Heap.lt_size hTI
        · obtain ⟨_, _, hTO⟩ := hz.1
          rw [e]; exact Heap.lt_size hTO
        · rw [e]; obtain ⟨_, e1, _⟩ := iib_obj hi1; exact Heap.lt_size e1
        · rw [e]; obtain ⟨_, e1, _⟩ := iib_obj hi2; exact Heap.lt_size e1
        · rw [e]; exact Heap.lt_size hS
      have hf1 : ∀ c ∈ [z, TI, TO, i1, i2, S], FpOk X pins (upd H s.heap.objs.size (.frz { cls := .type "tuple", data := .seq #[w1, w2] } (.tup [xs[i], ys[i]]))) c := fun c hc =>
        ⟨by rw [upd_ne (Nat.ne_of_lt (hlt c hc))]; exact (hf c hc).1, (hf c hc).2⟩
      have hS' : h'.get? S = some { cls := .type "list", dict := none, data := .seq acc.toArray c, slots := #[] } := hk S _ hSz hSTO hS1 hS2 hS
      have hTI' : IsTupOf2 h' TI (.ref i1) (.ref i2) := hk TI _ Sp.TIz Sp.TITO Sp.TIi1 Sp.TIi2 hTI
      have hacc : acc.length = i := by rw [← hv.length]; exact hd
      refine wpAny_bind ?_
      refine wpAny_updateSeq hS' rfl (wpAny_pure ⟨plainId_quiet PySem.F.plain_extend_loop _, ?_⟩) (by show acc.toArray.size ≤ sizeLine; rw [List.size_toArray]; omega) (by show (acc.toArray.push _).size ≤ sizeLine + 1; rw [Array.size_push, List.size_toArray]; omega)
      have hS2' := Heap.get?_update_self (Obj.mapSeq (·.push (Value.ref s.heap.objs.size))) hS' rfl
      obtain ⟨c2, hS3⟩ : ∃ c2, (h'.update S (Obj.mapSeq (·.push (Value.ref s.heap.objs.size)))).get? S = some { cls := .type "list", dict := none, data := .seq (acc ++ [Value.ref s.heap.objs.size]).toArray c2, slots := #[] } := by
        refine ⟨if (acc.toArray.push (Value.ref s.heap.objs.size)).size == acc.toArray.size then c else c + 1, hS2'.trans ?_⟩
        rw [← List.push_toArray]
        rfl
      have oth : ∀ b o, b ≠ S → h'.get? b = some o → (h'.update S (Obj.mapSeq (·.push (Value.ref s.heap.objs.size)))).get? b = some o := fun b o hb e => (Heap.get?_update_other _ _ (Ne.symm hb)).trans e
      have I2 : Inv X pins σ (upd H s.heap.objs.size (.frz { cls := .type "tuple", data := .seq #[w1, w2] } (.tup [xs[i], ys[i]]))) { s with heap := h'.update S (Obj.mapSeq (·.push (Value.ref s.heap.objs.size))), toks := tk } :=
        Inv.turnedL (s := { s with heap := h', toks := tk }) (t' := tk) (ch := [S]) I1 (fun c o hb e => oth c o (fun q' => hb (by simp [q'])) e) (fun c hc => hf1 c (by rw [List.mem_singleton] at hc; rw [hc]; simp))
      have qx : SqB X.K k (upd H s.heap.objs.size (.frz { cls := .type "tuple", data := .seq #[w1, w2] } (.tup [xs[i], ys[i]]))) a xs := sqb_new hn hqx
      have qy : SqB X.K k' (upd H s.heap.objs.size (.frz { cls := .type "tuple", data := .seq #[w1, w2] } (.tup [xs[i], ys[i]]))) b ys := sqb_new hn hqy
      refine ih (i + 1) _ _ (acc ++ [.ref s.heap.objs.size]) c2 (done ++ [.ref s.heap.objs.size]) (by omega) (by omega) (by omega) I2 hf1 qx qy ?_ (oth TI _ (Ne.symm hSTI) hTI') (h1'.at fun o e => oth i1 o (Ne.symm hS1) e) (h2'.at fun o e => oth i2 o (Ne.symm hS2) e) hS3 (vals_snoc hv (show RelV (.ref s.heap.objs.size) (.ref s.heap.objs.size) from rfl)) (by simp [hd]) (q _ _ hn rfl) hR
      · obtain ⟨⟨x0, y0, e1⟩, e2⟩ := hz'
        refine ⟨⟨x0, y0, oth TO _ (Ne.symm hSTO) e1⟩, ?_⟩
        rcases e2 with e2 | ⟨T0, f1, o0, e2, e3, e4, e5⟩
        · exact .inl (oth z _ (Ne.symm hSz) e2)
        · by_cases hT0S : T0 = S
          · rw [hT0S, hS'] at e3
            cases e3
            exact absurd (show Value.type "list" = Value.type "tuple" from e5) (by decide)
          · exact .inr ⟨T0, f1, o0, oth z _ (Ne.symm hSz) e2, oth T0 _ hT0S e3, e4, e5⟩
    obtain ⟨⟨_, _, hTO⟩, hz⟩ := hz
    rcases hz with hz | ⟨T0, f1, o0, hz, hT0, h0z, hcl⟩
    · refine wpAny_bind (wpAny_pyNext_zipD2_item Sp D1 D2 hz hTI hTO ⟨hi1, p⟩ ⟨hi2, p2⟩ hlt hlt2 fun w1 w2 h' tk hP1 hP2 z' TO' h1' h2' hT hsz hk => ?_)
      exact go w1 w2 h' tk hP1 hP2 ⟨⟨_, _, TO'⟩, .inr ⟨_, false, _, z', hT, Nat.ne_of_gt (Heap.lt_size hz), rfl⟩⟩ h1'.1 h2'.1 hT hk
    · refine wpAny_bind (next_kept_item Sp D1 D2 hz hT0 h0z hTI ⟨hi1, p⟩ ⟨hi2, p2⟩ hlt hlt2 fun w1 w2 h' tk hP1 hP2 z' h1' h2' hT hsz hk => ?_)
      refine go w1 w2 h' tk hP1 hP2 ⟨⟨_, _, hk TO _ Sp.TOz Sp.Ti1 Sp.Ti2 hTO⟩, .inr ⟨_, true, _, z', hk T0 _ h0z ?_ ?_ hT0, h0z, hcl⟩⟩ h1'.1 h2'.1 hT fun c o cz _ c1 c2 e => hk c o cz c1 c2 e
      · intro e
        obtain ⟨o, e2, _, e3, _⟩ := iib_obj hi1
        rw [← e, hT0] at e2; cases e2; exact e3 hcl
      · intro e
        obtain ⟨o, e2, _, e3, _⟩ := iib_obj hi2
        rw [← e, hT0] at e2; cases e2; exact e3 hcl
theorem zip_no_len : typeLookup (.type "zip") "__len__" = pure none := by rw [typeLookup_type, builtinLookup_eq_fast]; kernel_rfl
theorem zip_no_hint : typeLookup (.type "zip") "__length_hint__" = pure none := by rw [typeLookup_type, builtinLookup_eq_fast]; kernel_rfl
structure ZM (X : Cx) (pins : List (Addr × Obj)) (σ : L2.St) (Q : VK) (z : Addr) (s : Shared) : Prop where
  ex : ∃ (TI TO i1 i2 a b : Addr) (k k' : Bool) (xs ys : List V) (H : Hp), Inv X pins σ H s ∧ ZipSep2 z TI TO i1 i2 [i1, a] [i2, b] ∧ (∀ c ∈ [z, TI, TO, i1, i2], FpOk X pins H c) ∧ (∀ c ∈ [z, TI, TO, i1, i2, a, b], c < s.heap.objs.size) ∧
    SqB X.K k H a xs ∧ SqB X.K k' H b ys ∧ IsZip s.heap z TI TO .none ∧ (∃ x y, IsTupOf2 s.heap TO x y) ∧ IsTupOf2 s.heap TI (.ref i1) (.ref i2) ∧ IsIB k s.heap i1 a 0 ∧ IsIB k' s.heap i2 b 0 ∧ LZ (xs.zip ys) [] H Q
theorem list_init_zip {A : Around} (hh : A.handled = none) {z S : Addr} {s0 : Shared} {R : Result → Shared → Prop} {Q : VK} (Z : ZM X pins σ Q z s0) (hS0 : S = s0.heap.objs.size)
    (hR : ∀ s' H', Inv X pins σ H' s' → Q (.ref S) H' → R (.ok (.ret .none)) s') :
    wpAny (model X.prog X.w) A.in1 (Builtin.«list.__init__» ⟨[.ref S, .ref z], []⟩)
      (fun fin s' => match fin with | .done f => R (.ok f) s' | .again c' => c'.quiet = true ∧ codeAny (model X.prog X.w) A c' R s') (fun e s' => R (.error e) s') { s0 with heap := s0.heap.push { cls := .type "list", data := .seq #[] } } := by
  obtain ⟨TI, TO, i1, i2, a, b, k, k', xs, ys, H, I, Sp, hf, hlt, hqx, hqy, hz, hTO, hTI, h1, h2, q⟩ := Z.ex
  have hS : (s0.heap.push { cls := .type "list", data := .seq #[] }).get? S = some { cls := .type "list", data := .seq #[] } := by rw [hS0]; exact Heap.get?_push_size _ rfl
  have ne : ∀ c ∈ [z, TI, TO, i1, i2, a, b], S ≠ c := fun c hc e => by
    have := hlt c hc
    rw [← e, hS0] at this
    exact Nat.lt_irrefl _ this
  have fS : FpOk X pins H S := I.fpOk (by rw [hS0]; exact Nat.le_refl _) (I.hok.fresh (by rw [hS0]; exact Nat.le_refl _))
  have hf2 : ∀ c ∈ [z, TI, TO, i1, i2, S], FpOk X pins H c := fun c hc => by
    have e' : c = z ∨ c = TI ∨ c = TO ∨ c = i1 ∨ c = i2 ∨ c = S := by simpa using hc
    rcases e' with e | e | e | e | e | e
    · exact hf c (by simp [e])
    · exact hf c (by simp [e])
    · exact hf c (by simp [e])
    · exact hf c (by simp [e])
    · exact hf c (by simp [e])
    · rw [e]; exact fS
  have stand : ∀ (h' : Heap), (∀ b o, b ≠ S → s0.heap.get? b = some o → h'.get? b = some o) → Inv X pins σ H { s0 with heap := h' } ∧ ZpSt z TI TO h' ∧ IsTupOf2 h' TI (.ref i1) (.ref i2) ∧ IsIB k h' i1 a 0 ∧ IsIB k' h' i2 b 0 := by
    intro h' hk
    obtain ⟨x, y, hTO⟩ := hTO
    exact ⟨I.turnedL (t' := s0.toks) (ch := [S]) (fun c o hb e => hk c o (fun q' => hb (by simp [q'])) e) (fun c hc => by rw [List.mem_singleton] at hc; rw [hc]; exact fS),
      ⟨⟨x, y, hk TO _ (Ne.symm (ne TO (by simp))) hTO⟩, .inl (hk z _ (Ne.symm (ne z (by simp))) hz)⟩, hk TI _ (Ne.symm (ne TI (by simp))) hTI, h1.at fun o e => hk i1 o (Ne.symm (ne i1 (by simp))) e, h2.at fun o e => hk i2 o (Ne.symm (ne i2 (by simp))) e⟩
  have hT : ∀ s' : Shared, (∃ TI TO f0 f1, s'.heap.get? z = some { cls := .type "zip", dict := none, data := .fields #[f0, .bool f1, .bool false, .ref TI, .ref TO], slots := #[] }) → s'.TypeIs (.ref z) "zip" := fun s' ⟨_, _, _, _, h⟩ => ⟨_, h, rfl⟩
  show wpAny _ A.in1 (do let old ← Builtin.List.listItems (.ref S); Builtin.List.listUpdate (.ref S) (fun _ => #[]); letGo old.toList.reverse; Builtin.List.listExtendWith (.ref S) (.ref z) .none) _ _ _
  refine wpAny_bind ?_
  unfold Builtin.List.listItems
  refine wpAny_bind (wpAny_seqItems hS rfl (wpAny_pure ?_))
  show wpAny _ A.in1 (updateSeq S (fun _ => #[]) >>= fun _ => letGo (#[] : Array Value).toList.reverse >>= fun _ => Builtin.List.listExtendWith (.ref S) (.ref z) .none) _ _ _
  refine wpAny_bind (wpAny_updateSeq hS rfl ?_)
  have hS2 := Heap.get?_update_self (Obj.mapSeq (fun _ => (#[] : Array Value))) hS rfl
  have oth : ∀ b o, b ≠ S → s0.heap.get? b = some o → ((s0.heap.push { cls := .type "list", data := .seq #[] }).update S (Obj.mapSeq (fun _ => (#[] : Array Value)))).get? b = some o :=
    fun b o hb e => (Heap.get?_update_other _ _ (Ne.symm hb)).trans (Heap.get?_push_of_some _ e)
  refine wpAny_bind (wpAny_letGo ?_)
  unfold Builtin.List.listExtendWith
  have hz2 := oth z _ (Ne.symm (ne z (by simp))) hz
  have T2 : Shared.TypeIs { s0 with heap := (s0.heap.push { cls := .type "list", data := .seq #[] }).update S (Obj.mapSeq (fun _ => (#[] : Array Value))) } (.ref z) "zip" := ⟨_, hz2, rfl⟩
  refine wpAny_bind (wpAny_typeOf T2 ?_)
  have e1 : Builtin.List.listSameRef (.ref S) (.ref z) = false := by simp [Builtin.List.listSameRef, ne z (by simp)]
  have e2 : (Value.type "zip" == Value.type "list") = false := by decide
  have e3 : (Value.type "zip" == Value.type "tuple") = false := by decide
  simp only [e1, e2, e3, Bool.or_false, Bool.false_eq_true, if_false]
  refine wpAny_bind (wpAny_pyIter_zip hz2 ?_)
  refine wpAny_bind (wpAny_holding ?_)
  unfold Builtin.List.listLengthHint
  refine wpAny_bind (wpAny_specialOf T2 zip_no_len ?_)
  show wpAny _ A.in1 (specialOf (Value.ref z) (Str.ofString "__length_hint__") >>= _) _ _ _
  refine wpAny_bind (wpAny_specialOf T2 zip_no_hint ?_)
  refine wpAny_pure ?_
  show wpAny _ A.in1 (rule "list.extend.makes-room" >>= fun _ => Builtin.List.listTouch (.ref S) >>= fun _ =>
    again (.builtin "list.extend.loop" ⟨[.ref S, .ref z, .none], []⟩)) _ _ _
  refine wpAny_bind (wpAny_rule ?_)
  refine wpAny_bind ?_
  show wpAny _ A.in1 (updateSeq S (·.push .none) >>= fun _ => updateSeq S (·.pop)) _ _ _
  refine wpAny_bind (wpAny_updateSeq hS2 rfl ?_)
  have hS3 := Heap.get?_update_self (Obj.mapSeq (·.push Value.none)) hS2 rfl
  refine wpAny_updateSeq (hz := by seq_fits) hS3 rfl ?_
  have hS4 := Heap.get?_update_self (Obj.mapSeq (·.pop)) hS3 rfl
  obtain ⟨I4, z4, t4, h14, h24⟩ := stand ((((s0.heap.push { cls := .type "list", data := .seq #[] }).update S (Obj.mapSeq (fun _ => (#[] : Array Value)))).update S (Obj.mapSeq (·.push Value.none))).update S (Obj.mapSeq (·.pop))) fun b o hb e =>
    (Heap.get?_update_other _ _ (Ne.symm hb)).trans ((Heap.get?_update_other _ _ (Ne.symm hb)).trans (oth b o hb e))
  refine wpAny_pure ⟨plainId_quiet PySem.F.plain_extend_loop _, ?_⟩
  exact zip_loop hh Sp (ne z (by simp)) (ne TI (by simp)) (ne TO (by simp)) (ne i1 (by simp)) (ne i2 (by simp)) (ne a (by simp)) (ne b (by simp)) _ 0 _ H [] _ [] rfl (Nat.zero_le _) (Nat.zero_le _) I4 hf2 hqx hqy z4 t4 h14 h24 hS4 .nil rfl q hR
theorem call_list_zip {A : Around} (hh : A.handled = none) {z : Addr} {Q : VK} {E : Value → Shared → Prop} (Z : ZM X pins σ Q z s) :
    wpAny (model X.prog X.w) A (call (.type "list") [.ref z]) (EP X pins σ Q) E s := by
  refine callType_codes (Q₁ := fun obj s₁ => obj = .ref s.heap.objs.size ∧ s₁ = { s with heap := s.heap.push { cls := .type "list", data := .seq #[] } }) PySem.F.called_list (PySem.F.typeCall_list_1 _) PySem.F.entry_list_init
    (code_list_new _ ⟨rfl, rfl⟩) fun obj s₁ h₁ => ?_
  obtain ⟨rfl, rfl⟩ := h₁
  have hS : (s.heap.push { cls := .type "list", data := .seq #[] }).get? s.heap.objs.size = some { cls := .type "list", data := .seq #[] } := Heap.get?_push_size _ rfl
  refine ⟨⟨_, hS, rfl⟩, PySem.F.args_list_init_2 _ _, list_init_zip (A := A.in1) (show A.in1.handled = none from hh) Z rfl fun s' H' I' q => ?_⟩
  exact ⟨rfl, .ref s.heap.objs.size, H', I', rfl, q⟩
theorem pe_lzip {e e2 : Expr} {ta : TA} {p p2 p3 pos : Pos} (hc : X.calm = true) (hg : Gl X "list") (hm : X.mg "list" = none) (hg2 : Gl X "zip") (hm2 : X.mg "zip" = none) (ha : PA X [e, e2] ta)
    (hs : starEach [e, e2] X.env = (false, eval e X.env) :: starEach [e2] X.env) (hpl : (backTo p3 (starEach [e2] X.env)).any (·.1) = false)
    (na : starEach [.Call (.Name "zip" p2) [e, e2] [] p3] X.env = (false, eval (.Call (.Name "zip" p2) [e, e2] [] p3) X.env) :: starEach [] X.env) :
    PE X (.Call (.Name "list" p) [.Call (.Name "zip" p2) [e, e2] [] p3] [] pos) (fun σ H Q => ta σ H fun vs H1 => ∃ k k' a b xs ys, vs = [.ref a, .ref b] ∧ SqB X.K k H1 a xs ∧ SqB X.K k' H1 b ys ∧ LZ (xs.zip ys) [] H1 Q) := by
  refine ⟨fun pins s σ H Q I h => ?_⟩
  have inner : wpAny (model X.prog X.w) X.A (eval (.Call (.Name "zip" p2) [e, e2] [] p3) X.env) (fun v s' => ∃ z, v = .ref z ∧ ZM X pins σ Q z s') X.xe s := by
    refine Call_ (ld_blt I hg2 hm2 PyProof.Rows.boot_zip (PyProof.Rows.callWith_type1 (thn (ha.run p3 pins s σ H _ I h) fun us s1 ⟨vs, H1, I1, r1, q1⟩ => ?_) hs hpl))
    obtain ⟨k, k', a, b, xs, ys, ex, hqx, hqy, q⟩ := q1
    subst ex
    cases r1 with
    | cons r rr =>
      cases rr with
      | cons r' rr =>
        cases rr
        cases r
        cases r'
        have fresh5 : ∀ c, c ∈ [s1.heap.objs.size + 4, s1.heap.objs.size + 2, s1.heap.objs.size + 3, s1.heap.objs.size, s1.heap.objs.size + 1] → FpOk X pins H1 c := fun c hcm => by
          have e' : c = s1.heap.objs.size + 4 ∨ c = s1.heap.objs.size + 2 ∨ c = s1.heap.objs.size + 3 ∨ c = s1.heap.objs.size ∨ c = s1.heap.objs.size + 1 := by simpa using hcm
          have hle : s1.heap.objs.size ≤ c := by
            rcases e' with z | z | z | z | z
            · rw [z]; exact Nat.le_add_right _ _
            · rw [z]; exact Nat.le_add_right _ _
            · rw [z]; exact Nat.le_add_right _ _
            · rw [z]; exact Nat.le_refl _
            · rw [z]; exact Nat.le_add_right _ _
          exact I1.fpOk hle (I1.hok.fresh hle)
        obtain ⟨its, rv, p1, hz⟩ := sqb_inv I1 hqx
        obtain ⟨its2, rv2, p2, _⟩ := sqb_inv I1 hqy
        have la := isb_lt p1
        have lb := isb_lt p2
        refine zip_begins2 (beginsB k a its.toArray) (beginsB k' b its2.toArray) p1 p2 fun h' hzz hTI hTO h1 h2 hsz hk => ?_
        have I2 : Inv X pins σ H1 { s1 with heap := h' } := I1.kept (t' := s1.toks) hk
        refine ⟨_, rfl, ⟨_, _, _, _, a, b, k, k', xs, ys, H1, I2, zsep la lb, fresh5, fun c hc => ?_, hqx, hqy, hzz, ⟨_, _, hTO⟩, hTI, iib_new h1, iib_new h2, q⟩⟩
        have e' : c = s1.heap.objs.size + 4 ∨ c = s1.heap.objs.size + 2 ∨ c = s1.heap.objs.size + 3 ∨ c = s1.heap.objs.size ∨ c = s1.heap.objs.size + 1 ∨ c = a ∨ c = b := by simpa using hc
        show c < h'.objs.size
        rcases e' with z | z | z | z | z | z | z
        · rw [z]; exact Heap.lt_size hzz
        · rw [z]; exact Heap.lt_size hTI
        · rw [z]; exact Heap.lt_size hTO
        · rw [z]; exact Heap.lt_size h1
        · rw [z]; exact Heap.lt_size h2
        · rw [z]; obtain ⟨o, e1, _⟩ := isb_obj p1; exact Heap.lt_size (hk _ _ e1)
        · rw [z]; obtain ⟨o, e1, _⟩ := isb_obj p2; exact Heap.lt_size (hk _ _ e1)
  refine Call_ (ld_blt I hg hm boot_list (PyProof.Rows.callWith_type1 (args_cons (thn inner fun x s1 ⟨z, ex, Z⟩ => args_nil ?_) na) na))
  subst ex
  obtain ⟨_, _, _, _, _, _, _, _, _, _, _, I1, _⟩ := id Z.ex
  exact call_list_zip (I1.ok.hd hc) Z
end
end Th
end
section
set_option Elab.async false
set_option linter.all false
set_option maxRecDepth 100000
set_option maxHeartbeats 4000000
namespace Th
open PySem PySem.Spec PyProof.Rows L2
section
variable {X : Cx} {A : List Addr} {S : Store} {Q : VK}
theorem lz_ok : ∀ {xs ys : List V} {ds es : List D} {done : List V} {dd : List D} {F H : Hp}, StR (kit X) F H A S → Post (kit X) A F H S (.new (.lst (dd ++ zipD ds es))) Q → RpAll (kit X) F done dd → RpAll (kit X) F xs ds → RpAll (kit X) F ys es → LZ (xs.zip ys) done H Q
  | [], ys, ds, es, done, dd, F, H, sr, hQ, r, r1, r2 => by
    cases r1
    have e : zipD [] es = [] := rfl
    rw [e, List.append_nil] at hQ
    intro S hS
    exact hQ.lst sr r hS
  | x :: xs, [], ds, es, done, dd, F, H, sr, hQ, r, r1, r2 => by
    cases r2
    have e : zipD ds [] = [] := by cases ds <;> rfl
    rw [e, List.append_nil] at hQ
    intro S hS
    exact hQ.lst sr r hS
  | x :: xs, y :: ys, ds, es, done, dd, F, H, sr, hQ, r, r1, r2 => by
    cases r1 with
    | @cons _ _ d ds' q1 q2 =>
      cases r2 with
      | @cons _ _ d' es' q3 q4 =>
        intro T o hn hd
        obtain ⟨s2, st⟩ := sr.data (o := .frz o (.tup [x, y])) hn
        refine lz_ok (dd := dd ++ [pairD d d']) s2 ?_ ((r.mono st.le).append (.cons (.tup upd_same hd ((RpAll.cons q1 (.cons q3 .nil)).mono st.le)) .nil)) (q2.mono st.le) (q4.mono st.le)
        rw [List.append_assoc]
        exact hQ.after st
end
section
variable {Γ : Gam} {par : Par} {X : Cx} {a b : Expr} {ma mb : ME} {pos pos' p2 p3 : Pos}
theorem sd_lzip (G : Good Γ par X) (ha : SoundE Γ X a ma) (hb : SoundE Γ X b mb) (hp : plainE a = true) (hp2 : plainE b = true) (hg : Gl X "list") (hg2 : Gl X "zip") : SoundE Γ X (.Call (.Name "list" pos') [.Call (.Name "zip" p2) [a, b] [] p3] [] pos) (.bi .lzip [ma, mb]) := ⟨fun {σ H F A env S S' r Q} h er sr hQ => by
  unfold evE at h
  obtain ⟨rs, S1, e1, k1⟩ := bind_inv h
  have e1' := e1
  unfold evEs at e1
  obtain ⟨x, S2, e2, k2⟩ := bind_inv e1
  obtain ⟨ys, S3, e3, k3⟩ := bind_inv k2
  obtain ⟨rfl, rfl⟩ := pure_inv k3
  unfold evEs at e3
  obtain ⟨y, S4, e3', k3'⟩ := bind_inv e3
  obtain ⟨zs, S5, e3'', k3''⟩ := bind_inv k3'
  unfold evEs at e3''
  obtain ⟨rfl, rfl⟩ := pure_inv e3''
  obtain ⟨rfl, rfl⟩ := pure_inv k3''
  unfold biOp at k1
  simp only at k1
  obtain ⟨c, _, e4, k4⟩ := bind_inv k1
  obtain ⟨hc, rfl⟩ := coM_inv e4
  obtain ⟨xs, _, e5, k5⟩ := bind_inv k4
  obtain ⟨hi, rfl⟩ := lift_inv e5
  obtain ⟨c', _, e6, k6⟩ := bind_inv k5
  obtain ⟨hc', rfl⟩ := coM_inv e6
  obtain ⟨ys', _, e7, k7⟩ := bind_inv k6
  obtain ⟨hi', rfl⟩ := lift_inv e7
  obtain ⟨rfl, rfl⟩ := ret_inv k7
  have hpl : (backTo p3 (starEach [b] X.env)).any (·.1) = false := stars_of (by rw [List.all_cons, hp2]; rfl) _ _
  refine we_of (pe_lzip G.calm hg (G.blt _ (by decide)) hg2 (G.blt _ (by decide)) pa_w (star_of hp _ _) hpl (star_of (by rfl) _ _)) ((sds_cons ha (sds_cons hb sds_nil hp2) hp).run e1' er sr fun vs H' F' st sr' vrs nw => ?_)
  cases vrs with
  | cons vr z =>
    cases z with
    | cons vr' z =>
      cases z
      obtain ⟨a1, vs1, rfl, rp, sq⟩ := (vr.co sr' hc).itemsB sr'.sub hi
      obtain ⟨b1, vs2, rfl, rp', sq'⟩ := (vr'.co sr' hc').itemsB sr'.sub hi'
      exact ⟨_, _, a1, b1, vs1, vs2, rfl, sq, sq', lz_ok (dd := []) sr' (hQ.after st) .nil rp rp'⟩⟩
end
end Th
end
section
set_option Elab.async false
set_option linter.all false
set_option maxRecDepth 100000
set_option maxHeartbeats 4000000
namespace Th
open PySem PySem.Spec PyProof.Rows L2
structure CC where
  N : List Str
  sc : Scope
  fn : Str → Bool
  par : Par
structure Fits (cc : CC) (X : Cx) : Prop where
  N : X.N = cc.N
  sc : X.env.scope = cc.sc
  fn : ∀ x, cc.fn x = true → X.fn x = true
def CC.blk (cc : CC) (scope : Scope) : CC := { cc with sc := relS scope cc.sc, fn := fun x => scope.names.lookup x == some .cell }
theorem Fits.blk {cc : CC} {X : Cx} (h : Fits cc X) {scope : Scope} (s : Shared) (H : Hp) (C : Addr) (cl : List (Str × Addr)) (fp : List Addr) : Fits (cc.blk scope) (X.blk s H scope (compEnvC scope cl C X.env) fp) :=
  ⟨h.N, by rw [← show relS scope X.env.scope = (cc.blk scope).sc by rw [h.sc]; rfl]; rfl, fun x hx => hx⟩
theorem Good.blk {Γ : Gam} {par : Par} {X : Cx} (G : Good Γ par X) {scope : Scope} (s : Shared) (H : Hp) (C : Addr) (cl : List (Str × Addr)) (fp : List Addr) : Good Γ par (X.blk s H scope (compEnvC scope cl C X.env) fp) :=
  ⟨G.calm, G.nd, G.un, G.blt, G.con, G.fn⟩
def nidx (N : List Str) (x : Str) : Nat := N.findIdx fun y => y == x
def slotOf (cc : CC) (x : Str) : Option Nat := if cc.N[nidx cc.N x]? = some x then some (nidx cc.N x) else none
theorem slotOf_ok {cc : CC} {x : Str} {i : Nat} (h : slotOf cc x = some i) : cc.N[i]? = some x := by
  unfold slotOf at h
  split at h
  · cases h; assumption
  · cases h
def visB (cc : CC) (x : Str) : Bool := cc.sc.names.lookup x = some .local || cc.sc.names.lookup x = some .cell || cc.sc.names.lookup x = some .free
def locB (cc : CC) (x : Str) : Bool := cc.sc.names.lookup x = some .local || (cc.sc.names.lookup x = some .cell && cc.fn x)
def glB (cc : CC) (x : Str) : Bool := cc.sc.names.lookup x = some .globalImplicit
def okN (x : Str) : Bool := !(x == ("__debug__" : Str)) && !(x == ("__classdict__" : Str))
theorem okN_ok {x : Str} (h : okN x = true) : (x == ("__debug__" : Str)) = false ∧ (x == ("__classdict__" : Str)) = false := by
  unfold okN at h
  rw [Bool.and_eq_true] at h
  exact ⟨by simpa using h.1, by simpa using h.2⟩
section
variable {cc : CC} {X : Cx} {x : Str}
theorem visB_ok (F : Fits cc X) (h : visB cc x = true) : Vis X.env.scope x := by
  unfold visB at h
  rw [← F.sc] at h
  simp only [Bool.or_eq_true, decide_eq_true_eq] at h
  rcases h with (h | h) | h
  · exact .inl h
  · exact .inr (.inl h)
  · exact .inr (.inr h)
theorem locB_ok (F : Fits cc X) (h : locB cc x = true) : Loc X.env.scope x ∧ (X.fn x = true ∨ X.env.scope.names.lookup x = some .local) := by
  unfold locB at h
  rw [← F.sc] at h
  simp only [Bool.or_eq_true, Bool.and_eq_true, decide_eq_true_eq] at h
  rcases h with h | ⟨h, h2⟩
  · exact ⟨.inl h, .inr h⟩
  · exact ⟨.inr h, .inl (F.fn x h2)⟩
theorem glB_ok (F : Fits cc X) (h : glB cc x = true) : Gl X x := by
  unfold glB at h
  rw [← F.sc] at h
  have q : X.env.scope.names.lookup x = some .globalImplicit := of_decide_eq_true h
  exact q
theorem slot_ok (F : Fits cc X) {i : Nat} (h : slotOf cc x = some i) : X.N[i]? = some x := by rw [F.N]; exact slotOf_ok h
end
theorem fold_of {e : Expr} (h : plainE e = true) (env : PySem.Env) : ∀ x, foldedSetIterable e env x = pure x := by
  intro x
  cases e <;> first | rfl | (cases h)
def bopC : Operator → Option Bop
  | .Add => some .add | .Sub => some .sub | .Mult => some .mul | .FloorDiv => some .fdiv | .Mod => some .mod | .Pow => some .pow | .LShift => some .shl | .RShift => some .shr | .BitAnd => some .band
  | _ => none
theorem bopC_ok {o : Operator} {b : Bop} (h : bopC o = some b) : o = bopOf b := by
  cases o <;> first | (cases h; rfl) | cases h
def copC : CmpOp → Option Cop
  | .Eq => some .eq | .NotEq => some .ne | .Lt => some .lt | .LtE => some .le | .Gt => some .gt | .GtE => some .ge | .In => some .inn | .NotIn => some .notin
  | _ => none
theorem copC_ok {o : CmpOp} {b : Cop} (h : copC o = some b) : o = copOf b := by
  cases o <;> first | (cases h; rfl) | cases h
def isC : CmpOp → Option Bool
  | .Is => some false | .IsNot => some true | _ => none
theorem isC_ok {o : CmpOp} {b : Bool} (h : isC o = some b) : o = if b then .IsNot else .Is := by
  cases o <;> first | (cases h; rfl) | cases h
def biC (x : Str) (n : Nat) : Option Bi :=
  if n = 1 then
    if x = "len" then some .len else if x = "abs" then some .abs else if x = "int" then some .int else if x = "max" then some .max1 else if x = "min" then some .min1
    else if x = "sum" then some .sum else if x = "any" then some .any else if x = "all" then some .all else if x = "tuple" then some .tuple else if x = "list" then some .list else if x = "sorted" then some .sorted else none
  else if n = 2 then
    if x = "max" then some .max2 else if x = "min" then some .min2 else none
  else none
theorem biC_ok {x : Str} {n : Nat} {f : Bi} (h : biC x n = some f) : x = bnm f ∧ bval f ≠ .none := by
  unfold biC at h
  repeat' split at h
  all_goals first | (cases h; done) | (cases h; subst_vars; exact ⟨rfl, by decide⟩)
def tyC (x : Str) : Option Ty :=
  if x = "int" then some .int else if x = "bool" then some .bool else if x = "tuple" then some .tuple else if x = "str" then some .str else if x = "list" then some .list else none
theorem tyC_ok {x : Str} {t : Ty} (h : tyC x = some t) : x = Str.ofString (tyNm t) := by
  unfold tyC at h
  repeat' split at h
  all_goals first | (cases h; done) | (cases h; subst_vars; rfl)
def meC (x : Str) (n : Nat) : Option Me :=
  if x = "index" ∧ n = 1 then some .index else if x = "count" ∧ n = 1 then some .count else if x = "get" ∧ n = 2 then some .get2 else if x = "pop" ∧ n = 0 then some .pop else if x = "pop" ∧ n = 1 then some .popAt else none
theorem meC_ok {x : Str} {n : Nat} {m : Me} (h : meC x n = some m) : x = mnm m ∧ n < 30 := by
  unfold meC at h
  repeat' split at h
  all_goals first | (cases h; done) | (cases h; rename_i q; exact ⟨q.1, by omega⟩) | skip
def isBlt (x : Str) : Bool := bnames.contains x
mutual
def cG (cc : CC) : Nat → Expr → Option MG
  | 0, _ => none
  | n + 1, .Name x _ => if locB cc x then (slotOf cc x).map .name else none
  | n + 1, .Tuple es _ _ => (cGs cc n es).map .tup
  | _ + 1, _ => none
def cGs (cc : CC) : Nat → List Expr → Option (List MG)
  | _, [] => some []
  | 0, _ => none
  | n + 1, e :: es => (cG cc n e).bind fun g => (cGs cc n es).map (g :: ·)
end
theorem cG_plain {cc : CC} : ∀ {n : Nat} {e : Expr} {g : MG}, cG cc n e = some g → plainG e = true
  | 0, _, _, h => by unfold cG at h; cases h
  | n + 1, e, g, h => by
    cases e <;> first | rfl | (unfold cG at h; cases h)
theorem cGs_plain {cc : CC} : ∀ {n : Nat} {es : List Expr} {gs : List MG}, cGs cc n es = some gs → es.all plainG = true ∧ es.length = gs.length
  | _, [], _, h => by
    unfold cGs at h
    cases h; exact ⟨rfl, rfl⟩
  | 0, _ :: _, _, h => by unfold cGs at h; cases h
  | n + 1, e :: es, gs, h => by
    unfold cGs at h
    obtain ⟨g, h1, h2⟩ := Option.bind_eq_some_iff.mp h
    obtain ⟨gs', h3, rfl⟩ := Option.map_eq_some_iff.mp h2
    obtain ⟨q1, q2⟩ := cGs_plain h3
    exact ⟨by rw [List.all_cons, cG_plain h1, q1]; rfl, by rw [List.length_cons, List.length_cons, q2]⟩
mutual
theorem cG_ok {cc : CC} {X : Cx} (F : Fits cc X) (hN : X.N.Nodup) (hc : X.calm = true) : ∀ {n : Nat} {e : Expr} {g : MG}, cG cc n e = some g → SoundG X e g
  | 0, _, _, h => by unfold cG at h; cases h
  | n + 1, e, g, h => by
    cases e with
    | Name x p =>
      unfold cG at h
      split at h
      · rename_i hl
        obtain ⟨i, hi, rfl⟩ := Option.map_eq_some_iff.mp h
        obtain ⟨l1, l2⟩ := locB_ok F hl
        exact sg_name hN (slot_ok F hi) l1 l2
      · cases h
    | Tuple es k p =>
      unfold cG at h
      obtain ⟨gs, hg, rfl⟩ := Option.map_eq_some_iff.mp h
      obtain ⟨q1, q2⟩ := cGs_plain hg
      exact sg_tup hc (cGs_ok F hN hc hg) q1 q2
    | _ => unfold cG at h; cases h
theorem cGs_ok {cc : CC} {X : Cx} (F : Fits cc X) (hN : X.N.Nodup) (hc : X.calm = true) : ∀ {n : Nat} {es : List Expr} {gs : List MG}, cGs cc n es = some gs → SoundGs X es gs
  | _, [], _, h => by
    unfold cGs at h
    cases h; exact sgs_nil
  | 0, _ :: _, _, h => by unfold cGs at h; cases h
  | n + 1, e :: es, gs, h => by
    unfold cGs at h
    obtain ⟨g, h1, h2⟩ := Option.bind_eq_some_iff.mp h
    obtain ⟨gs', h3, rfl⟩ := Option.map_eq_some_iff.mp h2
    exact sgs_cons (cG_ok F hN hc h1) (cGs_ok F hN hc h3) (cG_plain h1)
end
def ownOf (cc : CC) (scope : Scope) : List (Str × Nat) := scope.names.filterMap fun y => if y.2 = .local ∨ y.2 = .cell then (slotOf cc y.1).map fun i => (y.1, i) else none
end Th
end
section
set_option Elab.async false
set_option linter.all false
set_option maxRecDepth 100000
set_option maxHeartbeats 4000000
namespace Th
open PySem PySem.Spec PyProof.Rows L2
def cConst : Const → ME
  | .int i => .cst (.int i) | .bool b => .cst (.bool b) | .none => .cst .none | .str x => .cst (.str x) | _ => .bad
def cName (cc : CC) (x : Str) : ME :=
  if okN x then (if visB cc x then (match slotOf cc x with | some i => .var i | none => .bad) else if glB cc x then .glob x else .bad) else .bad
def cBools (op : BoolOp) (f : Expr → ME) : List Expr → ME
  | [] => .bad
  | [a] => f a
  | a :: b :: r => match op with
    | .And => .an (f a) (cBools op f (b :: r))
    | .Or => .orr (f a) (cBools op f (b :: r))
def cOpt (f : Expr → ME) : Option Expr → Option ME
  | none => none
  | some e => some (f e)
def cSubs (f : Expr → ME) (a : Expr) : Expr → ME
  | .Slice lo hi none _ => .slc (f a) (cOpt f lo) (cOpt f hi)
  | .Slice none none (some (.UnaryOp .USub (.Constant (.int 1) _ _) _)) _ => .rev (f a)
  | i => if plainE i then .sub (f a) (f i) else .bad
def cComp (f : Expr → ME) (a : Expr) : List CmpOp → List Expr → ME
  | [op], [b] => match isC op with
    | some neg => match b with
      | .Constant .none _ _ => .isN (f a) neg
      | .Constant (.bool d) _ _ => .isB (f a) d neg
      | _ => .bad
    | none => match copC op with
      | some o => if plainE b then .cmp o (f a) (f b) else .bad
      | none => .bad
  | [op, op'], [b, c] => match copC op, copC op' with
    | some o, some o' => if plainE b && plainE c then .chain o o' (f a) (f b) (f c) else .bad
    | _, _ => .bad
  | _, _ => .bad
def cIsi (cc : CC) (f : Expr → ME) : List Expr → ME
  | [a, .Name t _] => match tyC t with
    | some ty => if plainE a && glB cc t then .isi (f a) ty else .bad
    | none => .bad
  | [a, .Tuple [.Name t _, .Name u _] _ _] => match tyC t, tyC u with
    | some ty, some ty' => if plainE a && glB cc t && glB cc u then .isi2 (f a) ty ty' else .bad
    | _, _ => .bad
  | _ => .bad
def cSpec (cc : CC) (f : Expr → ME) (x : Str) : List Expr → Option ME
  | [.Call (.Name y _) [a] [] _] =>
    if glB cc y && plainE a then
      (if x = "tuple" ∧ y = "range" then some (.bi .trng1 [f a]) else if x = "list" ∧ y = "range" then some (.bi .lrng1 [f a]) else if x = "sorted" ∧ y = "set" then some (.bi .sortset [f a]) else none)
    else none
  | [.Call (.Name y _) [a, b] [] _] =>
    if glB cc y && plainE a && plainE b then (if x = "tuple" ∧ y = "range" then some (.bi .trng2 [f a, f b]) else if x = "list" ∧ y = "zip" then some (.bi .lzip [f a, f b]) else none) else none
  | _ => none
def cCallN (cc : CC) (f : Expr → ME) (x : Str) (es : List Expr) (kws : List Keyword) : ME :=
  if glB cc x && es.all plainE && okN x then
    match kws with
    | [] => if x = "isinstance" then cIsi cc f es else if isBlt x then (match cSpec cc f x es with | some m => m | none => (match es, biC x es.length with | _ :: _, some b => .bi b (es.map f) | _, _ => .bad)) else .call x (es.map f)
    | _ :: _ => if kws.all (fun k => k.arg.isSome) && decide (kwNames kws = (cc.par x).drop es.length) && decide (es.length < (cc.par x).length) then .call x (es.map f ++ kws.map fun k => f k.value) else .bad
  else .bad
def cCallA (f : Expr → ME) (o : Expr) (m : Str) (apos : Pos) (es : List Expr) (kws : List Keyword) (pos : Pos) : ME :=
  match kws, meC m es.length with
  | [], some me => if es.all plainE && !isSuper o && (apos.endLine == pos.line) then .met me (f o) (es.map f) else .bad
  | _, _ => .bad
def cIter (cc : CC) (f : Expr → ME) (tg : Expr) (it : Expr) : MI :=
  match it with
  | .Call (.Name x _) [a] [] _ =>
    if x = "range" ∧ glB cc x = true ∧ plainE a = true then .rng1 (f a)
    else if x = "enumerate" ∧ glB cc x = true ∧ plainE a = true then (match tg with | .Tuple .. => .enum (f a) | _ => .seq .bad)
    else .seq (f it)
  | .Call (.Name x _) [a, b] [] _ =>
    if x = "range" ∧ glB cc x = true ∧ plainE a = true ∧ plainE b = true then .rng2 (f a) (f b)
    else if x = "zip" ∧ glB cc x = true ∧ plainE a = true ∧ plainE b = true then (match tg with | .Tuple .. => .zip (f a) (f b) | _ => .seq .bad)
    else .seq (f it)
  | e => .seq (f e)
def cLc (cc : CC) (n : Nat) (fi fe : Expr → ME) (ft : Expr → ME) (elt : Expr) (gens : List Comprehension) (scope : Scope) : ME :=
  match gens with
  | [g] => match cG (cc.blk scope) n g.target with
    | some mg =>
      if blkC cc.N cc.sc scope (ownOf cc scope) && plainE g.iter && decide (g.is_async = 0) && (mg.slots.all fun j => (ownOf cc scope).any fun p => p.2 == j) then
        match g.ifs with
        | [] => .lc (fe elt) mg (cIter cc fi g.target g.iter) ((ownOf cc scope).map (·.2)) none
        | [c] => .lc (fe elt) mg (cIter cc fi g.target g.iter) ((ownOf cc scope).map (·.2)) (some (ft c))
        | _ => .bad
      else .bad
    | none => .bad
  | _ => .bad
mutual
def cE (cc : CC) : Nat → Expr → ME
  | 0, _ => .bad
  | n + 1, e => match e with
    | .Name x _ => cName cc x
    | .Constant c _ _ => cConst c
    | .Tuple es _ _ => if es.all plainE && decide (es.length ≤ 1000) then .tup (es.map (cE cc n)) else .bad
    | .List es _ => if es.all plainE && decide (es.length ≤ 1000) then .lst (es.map (cE cc n)) else .bad
    | .Dict [] [] _ => .dic0
    | .BinOp a op b _ => (match bopC op with | some o => .bin o (cE cc n a) (cE cc n b) | none => .bad)
    | .UnaryOp .USub a _ => .neg (cE cc n a)
    | .UnaryOp .Not a _ => .nt (cE cc n a)
    | .BoolOp op es _ => cBools op (cE cc n) es
    | .Compare a ops cs _ => cComp (cE cc n) a ops cs
    | .IfExp c a b _ => .ife (cT cc n c) (cE cc n a) (cE cc n b)
    | .Subscript a i _ => cSubs (cE cc n) a i
    | .Call (.Name x _) es kws _ => cCallN cc (cE cc n) x es kws
    | .Call (.Attribute o m apos) es kws pos => cCallA (cE cc n) o m apos es kws pos
    | .ListComp elt gens scope _ => cLc cc n (cE cc n) (cE (cc.blk scope) n) (cT (cc.blk scope) n) elt gens scope
    | _ => .bad
def cT (cc : CC) : Nat → Expr → ME
  | 0, _ => .bad
  | n + 1, e => match e with
    | .UnaryOp .Not a _ => .nt (cT cc n a)
    | .BoolOp op es _ => cBools op (cT cc n) es
    | .Compare a ops cs _ => cComp (cE cc n) a ops cs
    | .IfExp .. => .bad
    | e => if valM (cE cc n e) then cE cc n e else .bad
end
section
variable {Γ : Gam} {X : Cx} {e : Expr}
theorem sd_bad : SoundE Γ X e .bad := ⟨fun {σ H F A env S S' r Q} h er sr hQ => by unfold evE at h; cases h⟩
theorem st_bad : SoundT Γ X e .bad := ⟨fun {σ H F A env S S' b Q} h er sr hQ => by
  rw [evT_val rfl] at h
  obtain ⟨x, S1, e1, k1⟩ := bind_inv h
  unfold evE at e1; cases e1⟩
theorem sw_bad : SoundPw Γ X e .bad := ⟨fun {σ H F A env S S' b Q} h er sr hQ => by
  rw [evT_val rfl] at h
  obtain ⟨x, S1, e1, k1⟩ := bind_inv h
  unfold evE at e1; cases e1⟩
end
end Th
end
section
set_option Elab.async false
set_option linter.all false
set_option maxRecDepth 100000
set_option maxHeartbeats 4000000
namespace Th
open PySem PySem.Spec PyProof.Rows L2
section
variable {Γ : Gam} {par : Par} {X : Cx} {cc : CC} {f : Expr → ME} {e a b c : Expr} {ma mb mc : ME} {pos pos' : Pos}
theorem st_chain (G : Good Γ par X) (op op' : Cop) (ha : SoundE Γ X a ma) (hb : SoundE Γ X b mb) (hc : SoundE Γ X c mc) (hp : plainE b = true) (hp' : plainE c = true) :
    SoundT Γ X (.Compare a [copOf op, copOf op'] [b, c] pos) (.chain op op' ma mb mc) := ⟨fun {σ H F A env S S' t Q} h er sr hQ => by
  rw [evT_val rfl] at h
  obtain ⟨r, S0, e0, k0⟩ := bind_inv h
  obtain ⟨cr, _, e0', k0'⟩ := bind_inv k0
  obtain ⟨hr, rfl⟩ := coM_inv e0'
  obtain ⟨hb', rfl⟩ := lift_inv k0'
  unfold evE at e0
  obtain ⟨x, S1, e1, k1⟩ := bind_inv e0
  obtain ⟨y, S2, e2, k2⟩ := bind_inv k1
  obtain ⟨z, S3, e3, k3⟩ := bind_inv k2
  obtain ⟨cz, S4, e4, k4⟩ := bind_inv k3
  obtain ⟨hz, rfl⟩ := coM_inv e4
  obtain ⟨i, S5, e5, k5⟩ := bind_inv k4
  obtain ⟨hi, rfl⟩ := lift_inv e5
  refine wt_of (pt_chain op_w op_w pe_w pe_w pe_w (last_of hp hp')) ?_
  refine ha.run e1 er sr fun v H1 F1 st1 s1 v1 n1 => ?_
  refine hb.run e2 (er.mono st1.le) s1 fun u H2 F2 st2 s2 v2 n2 => ?_
  refine cmp_ok op (by have := G.un; omega) s2 e3 (v1.step st2) v2 fun w H3 F3 st3 s3 v3 n3 => ?_
  refine ⟨i, (v3.co s3 hz).bool hi, ?_⟩
  have st13 := (st1.trans st2).trans st3
  cases i with
  | true =>
    simp only [if_true] at k5 ⊢
    obtain ⟨w', S6, e6, k6⟩ := bind_inv k5
    refine hc.run e6 (er.mono st13.le) s3 fun t' H4 F4 st4 s4 v4 n4 => ?_
    refine cmp_ok op' (by have := G.un; omega) s4 k6 (v2.step (st3.trans st4)) v4 fun w2 H5 F5 st5 s5 v5 n5 => ?_
    exact ⟨_, (v5.co s5 hr).bool hb', hQ H5 F5 ((st13.trans st4).trans st5) s5⟩
  | false =>
    simp only [Bool.false_eq_true, if_false] at k5 ⊢
    obtain ⟨rfl, rfl⟩ := ret_inv k5
    cases hr
    cases hb'
    exact ⟨_, rfl, hQ H3 F3 st13 s3⟩⟩
theorem pe_callK0 {CX : CXT} {k : Nat} {fa : Addr} {fd : FuncData} {ps ks : List Str} {sp : Sp} {E : XK} {x : Str} {p : Pos} {kws : List Keyword} {tk : TA} {g : List Value → List Value → List Value} {gV : List V → List V → List V}
    (F : FnOk X.prog X.w X.K X.mg X.base CX k fa fd ps sp) (hr : Room k X.A) (hg : Gl X x) (hm : X.mg x = some (.ref fa)) (hk : PySem.W.keepIn X.K (.ref fa) = true) (hb : KBinds X.K fd ps ks g gV) (hx : Passes CX X E)
    (hkw : PK X kws tk) (hall : (backToKw pos (keywordEach kws X.env)).all (·.1.isSome) = true) (hks : (backToKw pos (keywordEach kws X.env)).filterMap (·.1) = ks) (hdb : (x == ("__debug__" : Str)) = false) (hpl : (backToKw pos (keywordEach kws X.env)).any (·.1.isNone) = false) :
    PE X (.Call (.Name x p) [] kws pos) (fun σ H Q => tk σ H fun zs H2 => sp (gV [] zs) H2 Q E) := by
  refine ⟨fun pins s σ H Q I h => ?_⟩
  refine wpAny_Call_Name_kw (ld_glob I hg hm ?_ hdb)
  refine PySem.W.callWith_KW0 (h₀ := X.base) I.ok.mod.kin hk hall (thn (hkw.run pos pins s σ H _ I h) fun ws s2 ⟨zs, H2, I2, rz, q2⟩ => ⟨I2.kIn, ?_⟩) (by rw [hpl]; rfl)
  rw [hks]
  exact run_fnk (us := []) F hr hb hx I2 .nil rz q2
theorem sd_callK0 {x : Str} {kws : List Keyword} {ms' : List ME} (G : Good Γ par X) (hk : SoundKs Γ X kws ms') (hkw : (kws.all fun k => k.arg.isSome) = true) (hn : kwNames kws = par x) (hl : 0 < (par x).length) (hg : Gl X x) (hdb : (x == ("__debug__" : Str)) = false) : SoundE Γ X (.Call (.Name x pos') [] kws pos) (.call x ms') := ⟨fun {σ H F A env S S' r Q} h er sr hQ => by
  unfold evE at h
  obtain ⟨rs, S1, e1, k1⟩ := bind_inv h
  rcases hf : Γ x with _ | φ | d
  · simp only [hf] at k1; cases k1
  · simp only [hf] at k1
    obtain ⟨fa, fd, k, hm, hk', F0, hr, hb, hkb⟩ := G.fn x φ hf
    obtain ⟨g1, g2, g3⟩ := kw_some pos X.env hkw
    have kb := hkb 0 hl
    rw [List.drop_zero] at kb
    refine we_of (pe_callK0 F0 hr hg hm hk' kb pass0 pk_w g1 (g2.trans hn) hdb g3) ?_
    refine hk.run e1 er sr fun us H2 F2 st2 s2 vr2 nw2 => ?_
    exact call_ok k1 s2 vr2 st2 nw2 hQ
  · simp only [hf] at k1; cases k1⟩
theorem cName_ok {x : Str} (F : Fits cc X) (G : Good Γ par X) : SoundE Γ X (.Name x pos) (cName cc x) := by
  unfold cName
  split
  · rename_i h
    obtain ⟨o1, o2⟩ := okN_ok h
    split
    · rename_i hv
      split
      · rename_i i hi
        exact sd_var (slot_ok F hi) (visB_ok F hv) o1 o2
      · exact sd_bad
    · split
      · rename_i hg
        exact sd_glob G (glB_ok F hg) o1
      · exact sd_bad
  · exact sd_bad
theorem cConst_ok {k : Const} {j : Nat} : SoundE Γ X (.Constant k j pos) (cConst k) := by
  cases k with
  | none => exact sd_non
  | bool b => exact sd_bl
  | int i => exact sd_int
  | str x => exact sd_str
  | _ => exact sd_bad
theorem cEs_ok (hf : ∀ e, SoundE Γ X e (f e)) : ∀ {es : List Expr}, es.all plainE = true → SoundEs Γ X es (es.map f)
  | [], _ => sds_nil
  | e :: es, h => by
    rw [List.all_cons, Bool.and_eq_true] at h
    exact sds_cons (hf e) (cEs_ok hf h.2) h.1
theorem cKs_ok (hf : ∀ e, SoundE Γ X e (f e)) : ∀ {kws : List Keyword}, SoundKs Γ X kws (kws.map fun k => f k.value)
  | [] => sk_nil
  | ⟨nm, e, kp⟩ :: kws => sk_cons (hf e) (cKs_ok hf)
theorem cBools_ok {op : BoolOp} (hf : ∀ e, SoundE Γ X e (f e)) : ∀ {es : List Expr}, SoundE Γ X (.BoolOp op es pos) (cBools op f es)
  | [] => sd_bad
  | [a] => sd_one (hf a)
  | a :: b :: r => by
    cases op with
    | And => exact sd_an (hf a) (cBools_ok hf)
    | Or => exact sd_orr (hf a) (cBools_ok hf)
theorem cBools_pw {op : BoolOp} (hf : ∀ e, SoundT Γ X e (f e)) : ∀ {es : List Expr}, SoundPw Γ X (.BoolOp op es pos) (cBools op f es)
  | [] => sw_bad
  | [a] => sw_one op (hf a)
  | a :: b :: r => by
    cases op with
    | And => exact sw_an (hf a) (cBools_pw hf)
    | Or => exact sw_orr (hf a) (cBools_pw hf)
theorem cSubs_ok (G : Good Γ par X) (hf : ∀ e, SoundE Γ X e (f e)) {i : Expr} : SoundE Γ X (.Subscript a i pos) (cSubs f a i) := by
  unfold cSubs
  split
  · rename_i lo hi p
    refine sd_slc (hf a) ?_ ?_
    · cases lo with
      | none => exact so_none
      | some e => exact so_some (hf e)
    · cases hi with
      | none => exact so_none
      | some e => exact so_some (hf e)
  · exact sd_rev (hf a)
  · split
    · rename_i h
      exact sd_sub G (hf a) (hf _) h
    · exact sd_bad
theorem cComp_ok (G : Good Γ par X) (hf : ∀ e, SoundE Γ X e (f e)) {ops : List CmpOp} {cs : List Expr} : SoundE Γ X (.Compare a ops cs pos) (cComp f a ops cs) := by
  unfold cComp
  split
  · split
    · rename_i neg h
      split
      · rw [isC_ok h]; exact sd_isN neg (hf a)
      · rw [isC_ok h]; exact sd_isB neg _ (hf a)
      · exact sd_bad
    · split
      · rename_i o h
        rw [copC_ok h]
        split
        · rename_i hp
          exact sd_cmp G o (hf a) (hf _) hp
        · exact sd_bad
      · exact sd_bad
  · split
    · rename_i o o' h h'
      rw [copC_ok h, copC_ok h']
      split
      · rename_i hp
        rw [Bool.and_eq_true] at hp
        exact sd_chain G o o' (hf a) (hf _) (hf _) hp.1 hp.2
      · exact sd_bad
    · exact sd_bad
  · exact sd_bad
theorem cComp_t (G : Good Γ par X) (hf : ∀ e, SoundE Γ X e (f e)) {ops : List CmpOp} {cs : List Expr} : SoundT Γ X (.Compare a ops cs pos) (cComp f a ops cs) := by
  unfold cComp
  split
  · split
    · rename_i neg h
      split
      · rw [isC_ok h]; exact st_isN neg (hf a)
      · rw [isC_ok h]; exact st_isB neg _ (hf a)
      · exact st_bad
    · split
      · rename_i o h
        rw [copC_ok h]
        split
        · rename_i hp
          exact st_cmp G o (hf a) (hf _) hp
        · exact st_bad
      · exact st_bad
  · split
    · rename_i o o' h h'
      rw [copC_ok h, copC_ok h']
      split
      · rename_i hp
        rw [Bool.and_eq_true] at hp
        exact st_chain G o o' (hf a) (hf _) (hf _) hp.1 hp.2
      · exact st_bad
    · exact st_bad
  · exact st_bad
theorem cIsi_ok (Ft : Fits cc X) (G : Good Γ par X) (hf : ∀ e, SoundE Γ X e (f e)) (hg : Gl X "isinstance") {es : List Expr} : SoundE Γ X (.Call (.Name "isinstance" pos') es [] pos) (cIsi cc f es) := by
  unfold cIsi
  split
  · split
    · rename_i ty h
      cases tyC_ok h
      split
      · rename_i hp
        rw [Bool.and_eq_true] at hp
        exact sd_isi G ty (hf _) hp.1 hg (glB_ok Ft hp.2)
      · exact sd_bad
    · exact sd_bad
  · split
    · rename_i ty ty' h h'
      cases tyC_ok h
      cases tyC_ok h'
      split
      · rename_i hp
        rw [Bool.and_eq_true, Bool.and_eq_true] at hp
        exact sd_isi2 G ty ty' (hf _) hp.1.1 hg (glB_ok Ft hp.1.2) (glB_ok Ft hp.2)
      · exact sd_bad
    · exact sd_bad
  · exact sd_bad
theorem cSpec_ok (Ft : Fits cc X) (G : Good Γ par X) (hf : ∀ e, SoundE Γ X e (f e)) {x : Str} {es : List Expr} {m : ME} (hg : Gl X x) (h : cSpec cc f x es = some m) : SoundE Γ X (.Call (.Name x pos') es [] pos) m := by
  unfold cSpec at h
  split at h
  · split at h
    · rename_i hc
      rw [Bool.and_eq_true] at hc
      have hy := glB_ok Ft hc.1
      split at h
      · rename_i e
        obtain ⟨rfl, rfl⟩ := e
        cases h
        exact sd_trng1 G (hf _) hc.2 hg hy
      · split at h
        · rename_i e
          obtain ⟨rfl, rfl⟩ := e
          cases h
          exact sd_lrng1 G (hf _) hc.2 hg hy
        · split at h
          · rename_i e
            obtain ⟨rfl, rfl⟩ := e
            cases h
            exact sd_sortset G (hf _) hc.2 hg hy
          · cases h
    · cases h
  · split at h
    · rename_i hc
      rw [Bool.and_eq_true, Bool.and_eq_true] at hc
      have hy := glB_ok Ft hc.1.1
      split at h
      · rename_i e
        obtain ⟨rfl, rfl⟩ := e
        cases h
        exact sd_trng2 G (hf _) (hf _) hc.1.2 hc.2 hg hy
      · split at h
        · rename_i e
          obtain ⟨rfl, rfl⟩ := e
          cases h
          exact sd_lzip G (hf _) (hf _) hc.1.2 hc.2 hg hy
        · cases h
    · cases h
  · cases h
theorem cCallN_ok (Ft : Fits cc X) (G : Good Γ cc.par X) (hf : ∀ e, SoundE Γ X e (f e)) {x : Str} {es : List Expr} {kws : List Keyword} : SoundE Γ X (.Call (.Name x pos') es kws pos) (cCallN cc f x es kws) := by
  unfold cCallN
  split
  · rename_i h
    rw [Bool.and_eq_true, Bool.and_eq_true] at h
    have hg := glB_ok Ft h.1.1
    have hdb := (okN_ok h.2).1
    split
    · split
      · rename_i hx
        subst hx
        exact cIsi_ok Ft G hf hg
      · split
        · split
          · rename_i m hm
            exact cSpec_ok Ft G hf hg hm
          · split
            · rename_i hb
              obtain ⟨rfl, q2⟩ := biC_ok hb
              exact sd_bi G _ q2 (cEs_ok hf h.1.2) h.1.2 hg
            · exact sd_bad
        · exact sd_call G (cEs_ok hf h.1.2) (by rw [List.length_map]) h.1.2 hg hdb
    · split
      · rename_i hk
        simp only [Bool.and_eq_true, decide_eq_true_eq] at hk
        obtain ⟨⟨k1, k2⟩, k3⟩ := hk
        cases es with
        | nil => exact sd_callK0 G (cKs_ok hf) k1 k2 k3 hg hdb
        | cons e es => exact sd_callK G (cEs_ok hf h.1.2) (by rw [List.length_map]) (cKs_ok hf) h.1.2 k1 k2 k3 hg hdb
      · exact sd_bad
  · exact sd_bad
theorem cCallA_ok (G : Good Γ par X) (hf : ∀ e, SoundE Γ X e (f e)) {o : Expr} {m : Str} {apos : Pos} {es : List Expr} {kws : List Keyword} : SoundE Γ X (.Call (.Attribute o m apos) es kws pos) (cCallA f o m apos es kws pos) := by
  unfold cCallA
  split
  · rename_i me hm
    obtain ⟨rfl, q2⟩ := meC_ok hm
    split
    · rename_i h
      simp only [Bool.and_eq_true, Bool.not_eq_true'] at h
      exact sd_met me G (hf o) (cEs_ok hf h.1.1) (by rw [List.length_map]) h.1.1 q2 h.1.2 h.2
    · exact sd_bad
  · exact sd_bad
theorem si_bad {tg it : Expr} : SoundI Γ X tg it (.seq .bad) := ⟨fun {σ H F A env S S' ds ks R} h er sr hR => by
  unfold evI at h
  obtain ⟨x, S1, e1, k1⟩ := bind_inv h
  unfold evE at e1; cases e1⟩
theorem cIter_ok (Ft : Fits cc X) (G : Good Γ par X) (hf : ∀ e, SoundE Γ X e (f e)) {tg it : Expr} : SoundI Γ X tg it (cIter cc f tg it) := by
  unfold cIter
  split
  · split
    · rename_i h
      obtain ⟨rfl, h1, h2⟩ := h
      exact si_rng1 G (hf _) h2 (glB_ok Ft h1)
    · split
      · rename_i h
        obtain ⟨rfl, h1, h2⟩ := h
        split
        · exact si_enum G (hf _) h2 (glB_ok Ft h1)
        · exact si_bad
      · exact si_seq (hf _)
  · split
    · rename_i h
      obtain ⟨rfl, h1, h2, h3⟩ := h
      exact si_rng2 G (hf _) (hf _) h2 h3 (glB_ok Ft h1)
    · split
      · rename_i h
        obtain ⟨rfl, h1, h2, h3⟩ := h
        split
        · exact si_zip G (hf _) (hf _) h2 h3 (glB_ok Ft h1)
        · exact si_bad
      · exact si_seq (hf _)
  · exact si_seq (hf _)
end
end Th
end
section
set_option Elab.async false
set_option linter.all false
set_option maxRecDepth 100000
set_option maxHeartbeats 4000000
namespace Th
open PySem PySem.Spec PyProof.Rows L2
section
variable {Γ : Gam} {X : Cx} {cc : CC} {pos : Pos}
theorem own_mem {l : List (Str × Nat)} {j : Nat} (h : (l.any fun p => p.2 == j) = true) : j ∈ l.map (·.2) := by
  obtain ⟨p, hp, e⟩ := List.any_eq_true.mp h
  exact List.mem_map.mpr ⟨p, hp, eq_of_beq e⟩
theorem cLc_parts {P : Prop} {n : Nat} {fi fe ft : Expr → ME} {elt : Expr} {gens : List Comprehension} {scope : Scope} (Ft : Fits cc X) (G : Good Γ cc.par X) (hfi : ∀ e, SoundE Γ X e (fi e))
    (hfe : ∀ (s : Shared) (H : Hp) (C : Addr) (cl : List (Str × Addr)) (fp : List Addr) e, SoundE Γ (X.blk s H scope (compEnvC scope cl C X.env) fp) e (fe e)) (hft : ∀ (s : Shared) (H : Hp) (C : Addr) (cl : List (Str × Addr)) (fp : List Addr) e, SoundT Γ (X.blk s H scope (compEnvC scope cl C X.env) fp) e (ft e))
    (hb : cLc cc n fi fe ft elt gens scope = .bad → P)
    (h : ∀ (tg iter : Expr) (ifs : List Expr) (mg : MG) (mi : MI) (mt : Option ME) (own : List (Str × Nat)), gens = [⟨tg, iter, ifs, 0⟩] → cLc cc n fi fe ft elt gens scope = .lc (fe elt) mg mi (own.map (·.2)) mt → blkC X.N X.env.scope scope own = true → SoundI Γ X tg iter mi →
      (∀ (s : Shared) (H : Hp) (C : Addr) (cl : List (Str × Addr)) (fp : List Addr), SoundG (X.blk s H scope (compEnvC scope cl C X.env) fp) tg mg) →
      (∀ (s : Shared) (H : Hp) (C : Addr) (cl : List (Str × Addr)) (fp : List Addr), SoundTo Γ (X.blk s H scope (compEnvC scope cl C X.env) fp) ifs mt) → (∀ j ∈ mg.slots, j ∈ own.map (·.2)) → (∀ x, foldedSetIterable iter X.env x = pure x) → P) : P := by
  match gens, hb, h with
  | [], hb, h => exact hb rfl
  | _ :: _ :: _, hb, h => exact hb rfl
  | [⟨tg, iter, ifs, asy⟩], hb, h =>
    cases hg : cG (cc.blk scope) n tg with
    | none => exact hb (by unfold cLc; simp only [hg])
    | some mg =>
      by_cases hc : (blkC cc.N cc.sc scope (ownOf cc scope) && plainE iter && decide (asy = 0) && (mg.slots.all fun j => (ownOf cc scope).any fun p => p.2 == j)) = true
      · have hc' := hc
        simp only [Bool.and_eq_true, decide_eq_true_eq] at hc
        obtain ⟨⟨⟨c1, c2⟩, c3⟩, c4⟩ := hc
        subst c3
        rw [← Ft.N, ← Ft.sc] at c1
        have hG : ∀ (s : Shared) (H : Hp) (C : Addr) (cl : List (Str × Addr)) (fp : List Addr), SoundG (X.blk s H scope (compEnvC scope cl C X.env) fp) tg mg := fun s H C cl fp => cG_ok (Ft.blk s H C cl fp) G.nd G.calm hg
        have hS : ∀ j ∈ mg.slots, j ∈ (ownOf cc scope).map (·.2) := fun j hj => own_mem (List.all_eq_true.mp c4 j hj)
        match ifs, hb, h, hc' with
        | [], hb, h, hc' => exact h tg iter [] mg _ none (ownOf cc scope) rfl (by unfold cLc; dsimp only; rw [hg]; exact if_pos hc') c1 (cIter_ok Ft G hfi) hG (fun s H C cl fp => sto_nil) hS (fold_of c2 _)
        | [c], hb, h, hc' => exact h tg iter [c] mg _ (some (ft c)) (ownOf cc scope) rfl (by unfold cLc; dsimp only; rw [hg]; exact if_pos hc') c1 (cIter_ok Ft G hfi) hG (fun s H C cl fp => sto_one (hft s H C cl fp c)) hS (fold_of c2 _)
        | _ :: _ :: _, hb, h, hc' => exact hb (by unfold cLc; dsimp only; rw [hg]; exact if_pos hc')
      · exact hb (by unfold cLc; dsimp only; rw [hg]; exact if_neg hc)
end
theorem c_ok {Γ : Gam} : ∀ (n : Nat) (cc : CC) (X : Cx), Fits cc X → Good Γ cc.par X → (∀ e, SoundE Γ X e (cE cc n e)) ∧ ∀ e, SoundT Γ X e (cT cc n e)
  | 0, cc, X, F, G => ⟨fun e => by unfold cE; exact sd_bad, fun e => by unfold cT; exact st_bad⟩
  | n + 1, cc, X, F, G => by
    obtain ⟨hE, hT⟩ := c_ok n cc X F G
    have hE1 : ∀ e, SoundE Γ X e (cE cc (n + 1) e) := by
      intro e
      unfold cE
      split
      · exact cName_ok F G
      · exact cConst_ok
      · split
        · rename_i h
          rw [Bool.and_eq_true] at h
          exact sd_tup (cEs_ok hE h.1) (by rw [List.length_map]; exact of_decide_eq_true h.2)
        · exact sd_bad
      · split
        · rename_i h
          rw [Bool.and_eq_true] at h
          exact sd_lst (cEs_ok hE h.1) (by rw [List.length_map]; exact of_decide_eq_true h.2)
        · exact sd_bad
      · exact sd_dic0
      · split
        · rename_i o h
          rw [bopC_ok h]
          exact sd_bin o (hE _) (hE _)
        · exact sd_bad
      · exact sd_neg (hE _)
      · exact sd_nt (hE _)
      · exact cBools_ok hE
      · exact cComp_ok G hE
      · exact sd_ife (hT _) (hE _) (hE _)
      · exact cSubs_ok G hE
      · exact cCallN_ok F G hE
      · exact cCallA_ok G hE
      · rename_i elt gens scope p
        have hB : ∀ (s : Shared) (H : Hp) (C : Addr) (cl : List (Str × Addr)) (fp : List Addr), (∀ e, SoundE Γ (X.blk s H scope (compEnvC scope cl C X.env) fp) e (cE (cc.blk scope) n e)) ∧ ∀ e, SoundT Γ (X.blk s H scope (compEnvC scope cl C X.env) fp) e (cT (cc.blk scope) n e) :=
          fun s H C cl fp => c_ok n (cc.blk scope) _ (F.blk s H C cl fp) (G.blk s H C cl fp)
        refine cLc_parts (P := SoundE Γ X (.ListComp elt gens scope p) (cLc cc n (cE cc n) (cE (cc.blk scope) n) (cT (cc.blk scope) n) elt gens scope)) F G hE (fun s H C cl fp e => (hB s H C cl fp).1 e) (fun s H C cl fp e => (hB s H C cl fp).2 e) (fun e => by rw [e]; exact sd_bad) ?_
        intro tg iter ifs mg mi mt own eg em ok hi hg ht hs hf
        rw [em]
        subst eg
        exact sd_lc G.calm G.nd ok hi hg ht (fun s H C cl fp => (hB s H C cl fp).1 elt) hs hf
      · exact sd_bad
    refine ⟨hE1, fun e => ?_⟩
    unfold cT
    split
    · exact st_nt (hT _)
    · exact st_of_w (cBools_pw hT)
    · exact cComp_t G hE
    · exact st_bad
    · split
      · rename_i h1 h2 h3 h4 hv
        refine st_val ?_ hv (hE _)
        cases e with
        | UnaryOp op a p => cases op <;> first | rfl | (exact absurd rfl (h1 _ _))
        | BoolOp op es p => exact absurd rfl (h2 _ _ _)
        | Compare a ops cs p => exact absurd rfl (h3 _ _ _ _)
        | IfExp a b c p => exact absurd rfl (h4 _ _ _ _)
        | _ => rfl
      · exact st_bad
end Th
end
section
set_option Elab.async false
set_option linter.all false
set_option maxRecDepth 100000
set_option maxHeartbeats 4000000
namespace Th
open PySem PySem.Spec PyProof.Rows L2
def blkFn (sc : Scope) : Bool := (if sc.kind.isAnnotationScope then ScopeKind.function else sc.kind) == .function
def swNames (sc : Scope) (ts : List Expr) : List Str := ts.filterMap fun
  | .Name id pos => if sc.names.lookup id == some .local && pos.line == (ts.head?.map (·.pos.line)).getD 0 then some id else none
  | _ => none
def swS (sc : Scope) (ts vs : List Expr) : Option (Option (List Str)) :=
  if !(ts.length == 2 || ts.length == 3) || vs.length != ts.length || !blkFn sc then some none
  else if vs.all plainE = false then none
  else if (swNames sc ts).length != ts.length || (swNames sc ts).eraseDups.length != (swNames sc ts).length then some none
  else if vs.all (foldedForSure 8) then some none
  else if vs.all (constantsAlone 8) then none
  else some (some (swNames sc ts))
theorem any_star : ∀ {vs : List Expr}, vs.all plainE = true → (vs.any fun | .Starred .. => true | _ => false) = false
  | [], _ => rfl
  | v :: vs, h => by
    rw [List.all_cons, Bool.and_eq_true] at h
    rw [List.any_cons, any_star h.2]
    cases v <;> first | rfl | (cases h.1)
theorem swS_ok {env : PySem.Env} {ts vs : List Expr} {k k2 : Nat} {p p2 : Pos} {r : Option (List Str)} (h : swS env.scope ts vs = some r) : swappedStores [.Tuple ts k p] (.Tuple vs k2 p2) env = pure r := by
  unfold swS at h
  unfold swappedStores
  have hb : (env.blockKind != ScopeKind.function) = !blkFn env.scope := rfl
  have hn : (ts.filterMap fun
    | .Name id pos => if env.kindOf id == some .local && pos.line == (ts.head?.map (·.pos.line)).getD 0 then some id else none
    | _ => none) = swNames env.scope ts := rfl
  dsimp only
  rw [hb]
  split at h
  · rename_i c
    cases h
    rw [if_pos c]
  · rename_i c
    rw [if_neg c]
    split at h
    · cases h
    · rename_i c2
      have c2' : vs.all plainE = true := by simpa using c2
      refine (if_neg (fun z => Bool.false_ne_true ((any_star c2').symm.trans z))).trans ?_
      split at h
      · rename_i c3
        cases h
        exact if_pos c3
      · rename_i c3
        refine (if_neg c3).trans ?_
        split at h
        · rename_i c4
          cases h
          exact if_pos c4
        · rename_i c4
          refine (if_neg c4).trans ?_
          split at h
          · cases h
          · rename_i c5
            cases h
            exact if_neg c5
def noComp : Expr → Bool
  | .ListComp .. => false
  | .SetComp .. => false
  | .DictComp .. => false
  | _ => true
theorem sw_no {e : Expr} (h : noComp e = true) (t : Option Expr) (l : Nat) (env : PySem.Env) : swapsWith e t l env = pure false := by
  cases e <;> first | rfl | (cases h)
def swB (sc scope : Scope) (x : Str) (p lp : Pos) : Bool :=
  blkFn sc && sc.names.lookup x == some .local && p.line == lp.line && !(scope.names.any fun (n, k) => n == x && (k == .local || k == .cell))
theorem sw_lc {elt : Expr} {gs : List Comprehension} {scope : Scope} {lp p : Pos} {x : Str} {l : Nat} {env : PySem.Env} : swapsWith (.ListComp elt gs scope lp) (some (.Name x p)) l env = pure (swB env.scope scope x p lp) := rfl
theorem sole_no {tg e : Expr} (h : plainG tg = true) (hn : ∀ x p, tg ≠ .Name x p) (l : Nat) (env : PySem.Env) : swapsWithSole [tg] e l env = pure false := by
  cases tg with
  | Name x p => exact absurd rfl (hn x p)
  | Subscript o i p =>
    show swapsWith e (some (.Subscript o i p)) l env = pure false
    cases e <;> rfl
  | Tuple es k p =>
    show swapsWith e (some (.Tuple es k p)) l env = pure false
    cases e <;> rfl
  | _ => cases h
def isTupE : Expr → Bool
  | .Tuple .. => true
  | _ => false
theorem stores_no {tg e : Expr} (h : isTupE e = false) (env : PySem.Env) : swappedStores [tg] e env = pure none := by
  cases e <;> first | (cases h; done) | (cases tg <;> rfl)
def nmsC (cc : CC) : List Expr → Option (List Nat)
  | [] => some []
  | .Name x _ :: es => if locB cc x then (slotOf cc x).bind fun i => (nmsC cc es).map (i :: ·) else none
  | _ :: _ => none
theorem nmsC_ok {cc : CC} {X : Cx} (F : Fits cc X) : ∀ {es : List Expr} {is : List Nat}, nmsC cc es = some is → NmOk X es is
  | [], is, h => by
    unfold nmsC at h
    cases h; exact .nil
  | e :: es, is, h => by
    cases e <;> first
      | (unfold nmsC at h; cases h; done)
      | (unfold nmsC at h
         split at h
         · rename_i hl
           obtain ⟨i, h1, h2⟩ := Option.bind_eq_some_iff.mp h
           obtain ⟨is', h3, rfl⟩ := Option.map_eq_some_iff.mp h2
           obtain ⟨l1, l2⟩ := locB_ok F hl
           exact .cons (slot_ok F h1) l1 l2 (nmsC_ok F h3)
         · cases h)
def locOnly (cc : CC) (x : Str) : Bool := cc.sc.names.lookup x = some .local
theorem locOnly_ok {cc : CC} {X : Cx} (F : Fits cc X) {x : Str} (h : locOnly cc x = true) : X.env.scope.names.lookup x = some .local := by
  unfold locOnly at h
  rw [F.sc]
  exact of_decide_eq_true h
def cPar (cc : CC) (f : Expr → ME) (ts es : List Expr) : MS :=
  if es.all plainE && decide (es.length = ts.length) && decide (es.length ≤ 1000) then
    match swS cc.sc ts es with
    | none => .raise
    | some none => (match nmsC cc ts with
      | some is => .par is (es.map f)
      | none => (match ts, es with
        | [.Subscript o i _, .Name x _], [a, b] => if plainE i && locB cc x then (match slotOf cc x with | some n => .pst (f o) (f i) n (f a) (f b) | none => .raise) else .raise
        | _, _ => .raise))
    | some (some ns) => (match ts, es with
      | [.Name x _, .Name y _], [a, b] => (match slotOf cc x, slotOf cc y with
        | some i, some j => if decide (ns = [x, y]) && decide (i ≠ j) && locOnly cc x && locOnly cc y then .par [i, j] [f a, f b] else .raise
        | _, _ => .raise)
      | [.Name x _, .Name y _, .Name z _], [a, b, c] => (match slotOf cc x, slotOf cc y, slotOf cc z with
        | some i, some j, some l => if decide (ns = [x, y, z]) && decide (i ≠ j) && decide (i ≠ l) && decide (j ≠ l) && locOnly cc x && locOnly cc y && locOnly cc z then .par [i, j, l] [f a, f b, f c] else .raise
        | _, _, _ => .raise)
      | _, _ => .raise)
  else .raise
def cAsgN (cc : CC) (n : Nat) (f : Expr → ME) (x : Str) (p2 : Pos) (e : Expr) : MS :=
  if locB cc x then
    match slotOf cc x with
    | some i => match e with
      | .ListComp elt gens scope lp => if swB cc.sc scope x p2 lp then (if locOnly cc x then .asg (.name i) (cLc cc n f (cE (cc.blk scope) n) (cT (cc.blk scope) n) elt gens scope) else .raise) else .asg (.name i) (f e)
      | e => if noComp e then .asg (.name i) (f e) else .raise
    | none => .raise
  else .raise
def cExp (f : Expr → ME) : Expr → MS
  | .Call (.Attribute o m apos) [a] [] cpos =>
    if plainE a && !isSuper o && (apos.endLine == cpos.line) then
      (if m = "append" then .app (f o) (f a) else if m = "extend" then .ext (f o) (f a) else .expr (f (.Call (.Attribute o m apos) [a] [] cpos)))
    else .raise
  | e => if noComp e then .expr (f e) else .raise
def cS (cc : CC) : Nat → Stmt → MS
  | 0, _ => .raise
  | n + 1, st => match st with
    | .Pass _ => .pass
    | .Break _ => .brk
    | .Continue _ => .cnt
    | .Return none _ => .retN
    | .Return (some e) _ => .ret (cE cc n e)
    | .Expr e _ => cExp (cE cc n) e
    | .If c a b _ => .ifs (cT cc n c) (a.map (cS cc n)) (b.map (cS cc n))
    | .While c b [] _ => .whl (cT cc n c) (b.map (cS cc n))
    | .For tg it b [] _ => (match cG cc n tg with
      | some g => if plainE it then .forr g (cIter cc (cE cc n) tg it) (b.map (cS cc n)) else .raise
      | none => .raise)
    | .AugAssign (.Name x _) op e _ => (match bopC op, slotOf cc x with
      | some o, some i => if locB cc x then .aug o i (cE cc n e) else .raise
      | _, _ => .raise)
    | .AugAssign (.Subscript o i _) op e _ => (match bopC op with
      | some b => if plainE i then .augs b (cE cc n o) (cE cc n i) (cE cc n e) else .raise
      | none => .raise)
    | .Assign [.Name x p2] e _ => cAsgN cc n (cE cc n) x p2 e
    | .Assign [.Subscript o i _] e _ => .aset (cE cc n o) (cE cc n i) (cE cc n e)
    | .Assign [.Tuple ts k pt] e _ => (match e with
      | .Tuple es _ _ => cPar cc (cE cc n) ts es
      | e => (match cG cc n (.Tuple ts k pt) with
        | some (.tup gs) => if isTupE e = false then .asg (.tup gs) (cE cc n e) else .raise
        | _ => .raise))
    | _ => .raise
end Th
end
section
set_option Elab.async false
set_option linter.all false
set_option maxRecDepth 100000
set_option maxHeartbeats 4000000
namespace Th
open PySem PySem.Spec PyProof.Rows L2
section
variable {Γ : Gam} {X : Cx} {cc : CC} {f : Expr → ME} {pos : Pos}
theorem cSs_ok {g : Stmt → MS} (h : ∀ st, SoundS Γ X st (g st)) : ∀ (sts : List Stmt), SoundSs Γ X sts (sts.map g)
  | [] => sss_nil
  | s :: r => sss_cons (h s) (cSs_ok h r)
theorem cExp_ok (hf : ∀ e, SoundE Γ X e (f e)) {e : Expr} : SoundS Γ X (.Expr e pos) (cExp f e) := by
  unfold cExp
  split
  · split
    · rename_i h
      simp only [Bool.and_eq_true, Bool.not_eq_true'] at h
      split
      · rename_i hm; subst hm
        exact ss_app (hf _) (hf _) h.1.1 h.1.2 h.2
      · split
        · rename_i hm; subst hm
          exact ss_ext (hf _) (hf _) h.1.1 h.1.2 h.2
        · exact ss_expr (hf _) rfl
    · exact ss_raise
  · split
    · rename_i h
      exact ss_expr (hf _) (sw_no h _ _ _)
    · exact ss_raise
theorem cPar_ok (F : Fits cc X) (G : Good Γ cc.par X) (hf : ∀ e, SoundE Γ X e (f e)) {ts es : List Expr} {k k2 : Nat} {pt pt2 : Pos} : SoundS Γ X (.Assign [.Tuple ts k pt] (.Tuple es k2 pt2) pos) (cPar cc f ts es) := by
  unfold cPar
  split
  · rename_i h
    simp only [Bool.and_eq_true, decide_eq_true_eq] at h
    obtain ⟨⟨h1, h2⟩, h3⟩ := h
    have hs := cEs_ok (X := X) hf h1
    split
    · exact ss_raise
    · rename_i hw
      rw [← F.sc] at hw
      split
      · rename_i is hi
        exact ss_parT G.calm G.nd hs (nmsC_ok F hi) (swS_ok hw) h2 (by rw [List.length_map]) h3
      · split
        · split
          · rename_i hp
            rw [Bool.and_eq_true] at hp
            simp only [List.all_cons, List.all_nil, Bool.and_eq_true] at h1
            split
            · rename_i n hn
              obtain ⟨l1, l2⟩ := locB_ok F hp.2
              exact ss_pst G G.nd (hf _) (hf _) (hf _) (hf _) h1.1 h1.2.1 (slot_ok F hn) l1 l2 hp.1 (swS_ok hw)
            · exact ss_raise
          · exact ss_raise
        · exact ss_raise
    · rename_i ns hw
      rw [← F.sc] at hw
      split
      · split
        · rename_i i j hi hj
          split
          · rename_i hc
            simp only [Bool.and_eq_true, decide_eq_true_eq] at hc
            obtain ⟨⟨⟨c1, c2⟩, c3⟩, c4⟩ := hc
            subst c1
            exact ss_par2 G.calm G.nd hs (slot_ok F hi) (slot_ok F hj) c2 (locOnly_ok F c3) (locOnly_ok F c4) (swS_ok hw)
          · exact ss_raise
        · exact ss_raise
      · split
        · rename_i i j l hi hj hl
          split
          · rename_i hc
            simp only [Bool.and_eq_true, decide_eq_true_eq] at hc
            obtain ⟨⟨⟨⟨⟨⟨c1, c2⟩, c3⟩, c4⟩, c5⟩, c6⟩, c7⟩ := hc
            subst c1
            exact ss_par3 G.calm G.nd hs (slot_ok F hi) (slot_ok F hj) (slot_ok F hl) c2 c3 c4 (locOnly_ok F c5) (locOnly_ok F c6) (locOnly_ok F c7) (swS_ok hw)
          · exact ss_raise
        · exact ss_raise
      · exact ss_raise
  · exact ss_raise
theorem ss_asg_bad {t e : Expr} {i : Nat} : SoundS Γ X (.Assign [t] e pos) (.asg (.name i) .bad) := ⟨fun {σ H F A env S S' p D} h er sr hQ => by
  unfold evS at h
  obtain ⟨x, S1, e1, k1⟩ := bind_inv h
  unfold evE at e1; cases e1⟩
theorem cAsgN_ok (F : Fits cc X) (G : Good Γ cc.par X) {n : Nat} {x : Str} {p2 : Pos} {e : Expr} : SoundS Γ X (.Assign [.Name x p2] e pos) (cAsgN cc n (cE cc n) x p2 e) := by
  have hE := (c_ok (Γ := Γ) n cc X F G).1
  unfold cAsgN
  split
  · rename_i hl
    obtain ⟨l1, l2⟩ := locB_ok F hl
    split
    · rename_i i hi
      split
      · rename_i elt gens scope lp
        split
        · rename_i hw
          rw [← F.sc] at hw
          split
          · rename_i ho
            have hB : ∀ (s : Shared) (H : Hp) (C : Addr) (cl : List (Str × Addr)) (fp : List Addr), (∀ e, SoundE Γ (X.blk s H scope (compEnvC scope cl C X.env) fp) e (cE (cc.blk scope) n e)) ∧ ∀ e, SoundT Γ (X.blk s H scope (compEnvC scope cl C X.env) fp) e (cT (cc.blk scope) n e) :=
              fun s H C cl fp => c_ok n (cc.blk scope) _ (F.blk s H C cl fp) (G.blk s H C cl fp)
            refine cLc_parts (P := SoundS Γ X (.Assign [.Name x p2] (.ListComp elt gens scope lp) pos) (.asg (.name i) (cLc cc n (cE cc n) (cE (cc.blk scope) n) (cT (cc.blk scope) n) elt gens scope))) F G hE (fun s H C cl fp e => (hB s H C cl fp).1 e) (fun s H C cl fp e => (hB s H C cl fp).2 e) (fun e => by rw [e]; exact ss_asg_bad) ?_
            intro tg iter ifs mg mi mt own eg em ok hi' hg ht hs hf
            rw [em]
            subst eg
            exact ss_lc G.calm G.nd (slot_ok F hi) (locOnly_ok F ho) (by rw [sw_lc, hw]) ok hi' hg ht (fun s H C cl fp => (hB s H C cl fp).1 elt) hs hf
          · exact ss_raise
        · rename_i hw
          rw [← F.sc] at hw
          exact ss_name G.nd (slot_ok F hi) l1 l2 (hE _) (by rw [sw_lc]; rw [Bool.not_eq_true] at hw; rw [hw])
      · split
        · rename_i hn
          exact ss_name G.nd (slot_ok F hi) l1 l2 (hE _) (sw_no hn _ _ _)
        · exact ss_raise
    · exact ss_raise
  · exact ss_raise
end
theorem cS_ok {Γ : Gam} {cc : CC} {X : Cx} (F : Fits cc X) (G : Good Γ cc.par X) (hp : PassesOwn (model X.prog X.w) X.A X.env X.xe) : ∀ (n : Nat) (st : Stmt), SoundS Γ X st (cS cc n st)
  | 0, st => by unfold cS; exact ss_raise
  | n + 1, st => by
    obtain ⟨hE, hT⟩ := c_ok (Γ := Γ) n cc X F G
    have ih := cS_ok F G hp n
    unfold cS
    split
    · exact ss_pass
    · exact ss_brk
    · exact ss_cnt
    · exact ss_retN
    · exact ss_ret (hE _)
    · exact cExp_ok hE
    · exact ss_if (hT _) (cSs_ok ih _) (cSs_ok ih _)
    · exact ss_whl hp (hT _) (cSs_ok ih _)
    · split
      · rename_i g hg
        split
        · rename_i hpl
          exact ss_for hp G.calm (cIter_ok F G hE) (cG_ok F G.nd G.calm hg) (cSs_ok ih _) (fold_of hpl _)
        · exact ss_raise
      · exact ss_raise
    · split
      · rename_i o i ho hi
        split
        · rename_i hl
          obtain ⟨l1, l2⟩ := locB_ok F hl
          rw [bopC_ok ho]
          exact ss_aug G.nd (slot_ok F hi) l1 l2 (hE _)
        · exact ss_raise
      · exact ss_raise
    · split
      · rename_i b hb
        split
        · rename_i hpi
          rw [bopC_ok hb]
          exact ss_augs G (hE _) (hE _) (hE _) hpi
        · exact ss_raise
      · exact ss_raise
    · exact cAsgN_ok F G
    · rename_i o i p e q
      exact ss_aset G (hE _) (hE _) (hE _) (by cases e <;> rfl)
    · split
      · exact cPar_ok F G hE
      · split
        · rename_i gs hg
          split
          · rename_i ht
            exact ss_tup (cG_ok F G.nd G.calm hg) (hE _) rfl (sole_no rfl (fun _ _ z => by cases z) _ _) (stores_no ht _)
          · exact ss_raise
        · exact ss_raise
    · exact ss_raise
end Th
end
section
set_option Elab.async false
set_option linter.all false
set_option maxRecDepth 100000
set_option maxHeartbeats 4000000
namespace Th
open PySem PySem.Spec PyProof.Rows L2
structure GoodK (Γ : Gam) (par : Par) (P : Program) (w : World) (K : PySem.W.Frag) (mg : Str → Option Value) (base : Heap) (k : Nat) : Prop where
  blt : ∀ x ∈ bnames, mg x = none
  con : ∀ x d, Γ x = some (.con d) → ∃ v u, mg x = some u ∧ RelV v u ∧ ∀ F, Rp ⟨K, P, w⟩ F v d
  fn : ∀ x φ, Γ x = some (.fn φ) → ∃ (f : Addr) (fd : FuncData), mg x = some (.ref f) ∧ PySem.W.keepIn K (.ref f) = true ∧ FnOk P w K mg base CX0 k f fd (par x) (spF ⟨K, P, w⟩ φ) ∧ Binds K fd (par x) [] ∧
    ∀ n, n < (par x).length → KBinds K fd (par x) ((par x).drop n) (gN n) (gN n)
section
variable {Γ : Gam} {par : Par} {P : Program} {w : World} {K : PySem.W.Frag} {mg : Str → Option Value} {base : Heap} {k : Nat}
theorem GoodK.good (G : GoodK Γ par P w K mg base k) {X : Cx} (h1 : X.prog = P) (h2 : X.w = w) (h3 : X.K = K) (h4 : X.mg = mg) (h5 : X.base = base) (hr : Room k X.A) (hc : X.calm = true) (hN : X.N.Nodup) : Good Γ par X := by
  subst h1 h2 h3 h4 h5
  exact ⟨hc, hN, by have := hr.un; omega, G.blt, G.con, fun x φ h => let ⟨f, fd, q1, q2, q3, q4, q5⟩ := G.fn x φ h; ⟨f, fd, k, q1, q2, q3, hr, q4, q5⟩⟩
theorem GoodK.mono (G : GoodK Γ par P w K mg base k) {k' : Nat} (h : k ≤ k') : GoodK Γ par P w K mg base k' :=
  ⟨G.blt, G.con, fun x φ e => let ⟨f, fd, q1, q2, q3, q4, q5⟩ := G.fn x φ e; ⟨f, fd, q1, q2, q3.mono h, q4, q5⟩⟩
end
section
variable {K : Kit} {F H : Hp} {A B : List Addr} {S : Store}
theorem ArgR.length : ∀ {as : List Arg} {vs : List V} {B : List Addr}, ArgR K F H as vs B → as.length = vs.length ∧ B.length = (initS as).length
  | _, _, _, .nil => ⟨rfl, rfl⟩
  | _, _, _, .imm _ h => ⟨by rw [List.length_cons, List.length_cons, (ArgR.length h).1], (ArgR.length h).2⟩
  | _, _, _, .mut _ _ h => ⟨by rw [List.length_cons, List.length_cons, (ArgR.length h).1], by rw [initS, List.length_cons, List.length_cons, (ArgR.length h).2]⟩
theorem ArgR.ent : ∀ {as : List Arg} {vs : List V} {B : List Addr}, ArgR K F H as vs B → ∀ (k : Nat) (a : Addr) (e : Ent), B[k]? = some a → (initS as)[k]? = some e → EntR K F H a e
  | _, _, _, .nil, k, a, e, h1, _ => by simp at h1
  | _, _, _, .imm _ h, k, a, e, h1, h2 => ArgR.ent h k a e h1 (by rw [initS] at h2; exact h2)
  | _, _, _, .mut q1 q2 h, 0, a, e, h1, h2 => by
    rw [initS] at h2
    cases h1; cases h2
    exact .own q1 q2
  | _, _, _, .mut q1 q2 h, k + 1, a, e, h1, h2 => ArgR.ent h k a e (by simpa using h1) (by rw [initS] at h2; simpa using h2)
theorem initE_length : ∀ (as : List Arg) (k : Nat), (initE as k).length = as.length
  | [], _ => rfl
  | .imm _ :: as, k => by rw [initE, List.length_cons, List.length_cons, initE_length as k]
  | .mut _ :: as, k => by rw [initE, List.length_cons, List.length_cons, initE_length as (k + 1)]
theorem ArgR.env : ∀ {as : List Arg} {vs : List V} {B C : List Addr}, ArgR K F H as vs B → ∀ (i : Nat) (s : Sl), (initE as C.length)[i]? = some (some s) → ∃ v, vs[i]? = some v ∧ SloR K F (C ++ B) s v
  | _, _, _, _, .nil, i, s, h => by simp [initE] at h
  | _, _, _, _, .imm q h, 0, s, e => by
    rw [initE] at e
    cases e
    exact ⟨_, rfl, .d q⟩
  | _, _, _, _, .imm q h, i + 1, s, e => by
    rw [initE] at e
    obtain ⟨v, h1, h2⟩ := ArgR.env h i s (by simpa using e)
    exact ⟨v, by simpa using h1, h2⟩
  | _, _, _, C, .mut (a := a) q1 q2 h, 0, s, e => by
    rw [initE] at e
    cases e
    exact ⟨_, rfl, .p (by rw [List.getElem?_append_right (Nat.le_refl _), Nat.sub_self]; rfl)⟩
  | _, _, _, C, .mut (a := a) (as := as) (B := B) q1 q2 h, i + 1, s, e => by
    rw [initE] at e
    have e' : (initE as (C ++ [a]).length)[i]? = some (some s) := by rw [List.length_append]; simpa using e
    obtain ⟨v, h1, h2⟩ := ArgR.env (C := C ++ [a]) h i s e'
    exact ⟨v, by simpa using h1, by rw [List.append_assoc] at h2; exact h2⟩
theorem StR.take (h : StR K F H A S) {m : Nat} (hB : B = A.take m) : StR K F H B (S.take m) := by
  subst hB
  refine ⟨h.sub, h.nd.sublist (List.take_sublist _ _), by rw [List.length_take, List.length_take, h.len], fun k a e h1 h2 => ?_⟩
  have hk : k < m := by
    have z := (List.getElem?_eq_some_iff.mp h1).1
    rw [List.length_take] at z
    omega
  rw [List.getElem?_take_of_lt hk] at h1 h2
  exact h.ent k a e h1 h2
theorem pre_take {A B : List Addr} (h : B <+: A) : B = A.take B.length := (List.prefix_iff_eq_take.mp h)
theorem fin_ok {B : List Addr} {F0 H0 : Hp} {A' : List Addr} {S' outs : Store} {r r' : RV} {v : V} {F' H' : Hp} (h : finR B.length r S' = .ok r' outs) (st : Stp B F0 H0 F' H') (sr : StR K F' H' A' S') (ex : Ext B A' H0) (vr : VR K F' H' A' r v) (nw : ∀ o a, r = .new o → v = .ref a → H0 a = none) :
    ∃ F2, Stp B F0 H0 F2 H' ∧ StR K F2 H' B outs ∧ VR K F2 H' B r' v ∧ ∀ o a, r' = .new o → v = .ref a → H0 a = none := by
  have hB := pre_take ex.pre
  unfold finR at h
  cases vr with
  | imm q =>
    simp only at h
    cases h
    exact ⟨F', st, sr.take hB, .imm q, fun o a e => by cases e⟩
  | new q1 q2 q3 =>
    simp only at h
    cases h
    exact ⟨F', st, sr.take hB, .new q1 (fun z => q2 (ex.pre.subset z)) q3, nw⟩
  | @ptr k a hk =>
    simp only at h
    split at h
    · rename_i o e
      split at h
      · rename_i hlt
        cases h
        cases sr.ent k a _ hk e with
        | own hf ob =>
          obtain ⟨u, hu⟩ : ∃ u, H' a = some u := by
            cases q : H' a with
            | none => exact absurd q ob.there
            | some u => exact ⟨u, rfl⟩
          obtain ⟨s2, st2, r2⟩ := sr.freeze hk e hu
          have hkB : B[k]? = some a := by rw [hB, List.getElem?_take_of_lt hlt]; exact hk
          have s3 := s2.take hB
          have st3 : Stp B F' H' (upd F' a u) H' := ⟨st2.le, fun b hb nb => rfl, fun b f hb nb => by
            rw [upd_ne (fun z => nb (by rw [z]; exact List.mem_of_getElem? hkB))]; exact f⟩
          exact ⟨_, st.trans st3, s3, .imm r2, fun o a e => by cases e⟩
      · rename_i hlt
        cases h
        have hnB : a ∉ B := fun z => by
          obtain ⟨j, hj, e2⟩ := List.getElem_of_mem z
          have e3 : B[j]? = some a := by rw [List.getElem?_eq_getElem hj, e2]
          have e4 := pre_get ex.pre e3
          obtain ⟨l1, e1⟩ := List.getElem?_eq_some_iff.mp hk
          obtain ⟨l2, e2⟩ := List.getElem?_eq_some_iff.mp e4
          have := (List.getElem_inj sr.nd).mp (e1.trans e2.symm)
          omega
        cases sr.ent k a _ hk e with
        | own hf ob =>
          exact ⟨F', st, sr.take hB, .new hf hnB ob, fun o' a' e1 e2 => by
            cases e2
            exact (ex.new a (List.mem_of_getElem? hk)).resolve_left hnB⟩
    · rename_i d e
      cases h
      cases sr.ent k a _ hk e with
      | frz _ q => exact ⟨F', st, sr.take hB, .imm q, fun o a e => by cases e⟩
    · cases h
end
section
variable {Γ : Gam} {par : Par} {P : Program} {w : World} {K : PySem.W.Frag} {mg : Str → Option Value} {base : Heap} {k : Nat}
theorem den_len {np n : Nat} {body : List MS} {as : List Arg} {r : RV} {S : Store} (h : den Γ np n body as = .ok r S) : as.length = np ∧ np ≤ n := by
  unfold den at h
  split at h
  · assumption
  · cases h
theorem fn_ok (G : GoodK Γ par P w K mg base k) {x qual : Str} {st : Stmt} {f : Addr} {fd : FuncData} {N ps : List Str} (Fn0 : Fun K x qual st f fd) (S : FnScope N ps (defScope st)) (n : Nat) :
    FnOk P w K mg base CX0 (k + 1) f fd ps (spF ⟨K, P, w⟩ (den Γ ps.length N.length ((defBody st).map (cS ⟨N, defScope st, fun _ => true, par⟩ n)))) := by
  refine Fn0.ok S (fun vs H Q E h => ?_) fun cdv A outer s H vs Q E hr h => ?_
  · obtain ⟨as, F, B, r, outs, hφ, ar, _⟩ := h
    rw [← ar.length.1]; exact (den_len hφ).1
  · obtain ⟨as, F, B, r, outs, hφ, ar, nd, le, hQ⟩ := h
    obtain ⟨l1, l2⟩ := den_len hφ
    have lB := ar.length
    generalize hX : (cxOf CX0 P w K mg base N qual (defScope st) f cdv A outer s H E).nox = X
    have X1 : X.prog = P := by rw [← hX]; rfl
    have X2 : X.w = w := by rw [← hX]; rfl
    have X3 : X.K = K := by rw [← hX]; rfl
    have G' : Good Γ par X := by
      refine G.good X1 X2 X3 (by rw [← hX]; rfl) (by rw [← hX]; rfl) (by rw [← hX]; exact hr) (by rw [← hX]; rfl) (by rw [← hX]; exact S.nd)
    have Ft : Fits ⟨N, defScope st, fun _ => true, par⟩ X := ⟨by rw [← hX]; rfl, by rw [← hX]; rfl, fun x _ => by rw [← hX]; rfl⟩
    have po : PassesOwn (model X.prog X.w) X.A X.env X.xe := by rw [← hX]; exact PassesOwn.never
    have hK : kit X = ⟨K, P, w⟩ := by unfold kit; rw [X1, X2, X3]
    refine ⟨WSs X (defBody st), pss_w, ?_⟩
    unfold den at hφ
    rw [if_pos ⟨l1, l2⟩] at hφ
    have sr : StR (kit X) F H B (initS as) := by rw [hK]; exact ⟨le, nd, lB.2, ar.ent⟩
    have er : EnvR (kit X) F B (initE as 0 ++ List.replicate (N.length - ps.length) none) (L2.start N vs) := by
      rw [hK]
      refine ⟨by unfold L2.start; rw [List.length_append, List.length_append, List.length_map, initE_length, List.length_replicate, List.length_replicate, lB.1, ← l1, lB.1], fun i s e => ?_⟩
      by_cases hi : i < as.length
      · rw [List.getElem?_append_left (by rw [initE_length]; exact hi)] at e
        obtain ⟨v, h1, h2⟩ := ArgR.env (C := []) ar i s e
        refine ⟨v, ?_, h2⟩
        unfold L2.start
        rw [List.getElem?_append_left (by rw [List.length_map, ← lB.1]; exact hi), List.getElem?_map, h1]; rfl
      · rw [List.getElem?_append_right (by rw [initE_length]; omega), List.getElem?_replicate] at e
        split at e <;> cases e
    split at hφ
    · rename_i p S2 hev
      refine (cSs_ok (cS_ok Ft G' po n) (defBody st)).run hev er sr ?_
      intro σ' H' F' A' st' sr' ex' er'
      rw [hK] at sr' er'
      obtain ⟨fl, env'⟩ := p
      cases fl with
      | nx =>
        simp only at hφ
        cases hφ
        rw [← lB.2] at hQ
        exact hQ _ H' F' st' (sr'.take (pre_take ex'.pre)) (.imm .non) fun o a e => by cases e
      | bk => cases hφ
      | ct => cases hφ
      | ret r0 =>
        simp only at hφ
        rw [← lB.2] at hφ
        intro v vr nw
        rw [hK] at vr
        obtain ⟨F2, q1, q2, q3, q4⟩ := fin_ok hφ st' sr' ex' vr nw
        exact hQ v H' F2 q1 q2 q3 q4
    · cases hφ
    · cases hφ
def Gam.add (Γ : Gam) (x : Str) (g : Gd) : Gam := fun y => if y = x then some g else Γ y
theorem GoodK.add (G : GoodK Γ par P w K mg base k) {x qual : Str} {st : Stmt} {f : Addr} {fd : FuncData} {N ps : List Str} (hm : mg x = some (.ref f)) (Fn0 : Fun K x qual st f fd) (S : FnScope N ps (defScope st)) (n : Nat) (hp : par x = ps) (hb : Binds K fd ps [])
    (hk : ∀ n, n < ps.length → KBinds K fd ps (ps.drop n) (gN n) (gN n)) :
    GoodK (Γ.add x (.fn (den Γ ps.length N.length ((defBody st).map (cS ⟨N, defScope st, fun _ => true, par⟩ n))))) par P w K mg base (k + 1) := by
  have G1 := G.mono (Nat.le_succ k)
  refine ⟨G.blt, fun y d h => ?_, fun y φ h => ?_⟩
  · unfold Gam.add at h
    split at h
    · cases h
    · exact G.con y d h
  · unfold Gam.add at h
    split at h
    · rename_i e
      cases h
      rw [e, hp]
      exact ⟨f, fd, hm, Fn0.kp, fn_ok G Fn0 S n, hb, hk⟩
    · exact G1.fn y φ h
theorem kb_mk {fd : FuncData} {ps : List Str} {n : Nat} (h : ∀ us ws : List Value, us.length = n → ws.length + n = ps.length → bindArgs fd ⟨us, (ps.drop n).zip ws⟩ = pure (ps.zip (us ++ ws))) (hn : n < ps.length) : KBinds K fd ps (ps.drop n) (gN n) (gN n) := by
  refine ⟨fun s us ws _ hl => ?_, fun {vs us zs ws} r1 r2 => ?_⟩
  · by_cases e : us.length = n
    · rw [gN_at e] at hl ⊢
      rw [List.length_append] at hl
      exact .of_eq (h us ws e (by omega))
    · unfold gN at hl
      rw [if_neg e] at hl
      have : ps.length = 0 := hl.symm
      omega
  · unfold gN
    rw [r1.length]
    split
    · exact r1.append r2
    · exact .nil
theorem fkb {x qual : Str} {st : Stmt} {f : Addr} {fd : FuncData} {ps : List Str} (Fn0 : L2.Fun K x qual st f fd) (n : Nat)
    (h : ∀ (kV doc pm : Value) (an : Option Addr) (cdv ct : Value) (us ws : List Value), us.length = n → ws.length + n = ps.length → bindArgs (PySem.W.fnOf x qual (defArgs st) (defBody st) (defScope st) .none kV doc pm an cdv ct) ⟨us, (ps.drop n).zip ws⟩ = pure (ps.zip (us ++ ws))) (hn : n < ps.length) :
    KBinds K fd ps (ps.drop n) (gN n) (gN n) := by
  obtain ⟨oc, od, kV, doc, pm, an, cdv, ct, osl, rfl, lk, hcd⟩ := Fn0.ex
  exact kb_mk (h kV doc pm an cdv ct) hn
theorem law_sp {φ : Fn} {n : Nat} (h : ∀ ns : List Int, ns.length ≤ n → ∃ S, φ [.imm (.list (ns.map .int))] = .ok (.imm (.bool true)) S) {H : Hp} {a : Addr} {ns : List Int} (hl : ns.length ≤ n) (hs : SqL K H a (ns.map V.int)) {E : XK} : spF ⟨K, P, w⟩ φ [.ref a] H (fun v _ => v = .bl true) E := by
  obtain ⟨S, hS⟩ := h ns hl
  refine ⟨[.imm (.list (ns.map .int))], H, [], _, S, hS, .imm (.lst hs (RpAll.of_ints ns)) .nil, List.nodup_nil, Le.refl H, fun v H' F' st sr vr nw => ?_⟩
  cases vr with
  | imm r => cases r; rfl
end
end Th
end
section
set_option Elab.async false
set_option linter.all false
set_option maxRecDepth 100000
set_option maxHeartbeats 4000000
namespace Th
open PySem
def Wp {α : Type} (m : M α) (S : Store) (Q : α → Store → Prop) : Prop := ∃ a S', m S = .ok a S' ∧ Q a S'
section
variable {α β : Type} {S : Store}
theorem Wp.mono {m : M α} {Q R : α → Store → Prop} (h : Wp m S Q) (k : ∀ a S', Q a S' → R a S') : Wp m S R := by
  obtain ⟨a, S', e, q⟩ := h
  exact ⟨a, S', e, k a S' q⟩
theorem Wp.of {m : M α} {Q : α → Store → Prop} {a : α} {S' : Store} (h : m S = .ok a S') (q : Q a S') : Wp m S Q := ⟨a, S', h, q⟩
@[simp] theorem wp_pure {a : α} {Q : α → Store → Prop} : Wp (pure a : M α) S Q ↔ Q a S := by
  constructor
  · rintro ⟨b, S', e, q⟩
    obtain ⟨rfl, rfl⟩ := pure_inv e
    exact q
  · intro q; exact ⟨a, S, rfl, q⟩
@[simp] theorem wp_ret {a : α} {Q : α → Store → Prop} : Wp (M.ret a : M α) S Q ↔ Q a S := wp_pure
@[simp] theorem wp_bind {m : M α} {f : α → M β} {Q : β → Store → Prop} : Wp (m >>= f) S Q ↔ Wp m S fun a S' => Wp (f a) S' Q := by
  constructor
  · rintro ⟨b, S', e, q⟩
    obtain ⟨a, S1, e1, e2⟩ := bind_inv e
    exact ⟨a, S1, e1, b, S', e2, q⟩
  · rintro ⟨a, S1, e1, b, S', e2, q⟩
    exact ⟨b, S', by rw [bind_ok e1]; exact e2, q⟩
@[simp] theorem wp_err {Q : α → Store → Prop} : Wp (M.err : M α) S Q ↔ False := by
  constructor
  · rintro ⟨b, S', e, q⟩; cases e
  · exact False.elim
@[simp] theorem wp_lift_some {a : α} {Q : α → Store → Prop} : Wp (lift (some a)) S Q ↔ Q a S := wp_pure
@[simp] theorem wp_lift_none {Q : α → Store → Prop} : Wp (lift (none : Option α)) S Q ↔ False := wp_err
theorem wp_lift {o : Option α} {a : α} {Q : α → Store → Prop} (h : o = some a) (q : Q a S) : Wp (lift o) S Q := by rw [h]; exact wp_pure.mpr q
@[simp] theorem wp_chk {p : Prop} [Decidable p] {Q : Unit → Store → Prop} : Wp (chk p) S Q ↔ p ∧ Q () S := by
  unfold chk
  split
  · rename_i h; simp [h]
  · rename_i h; simp [h]
@[simp] theorem wp_ite {p : Prop} [Decidable p] {a b : M α} {Q : α → Store → Prop} : Wp (if p then a else b) S Q ↔ if p then Wp a S Q else Wp b S Q := by
  split <;> rfl
@[simp] theorem wp_getS {Q : Store → Store → Prop} : Wp getS S Q ↔ Q S S := by
  constructor
  · rintro ⟨b, S', e, q⟩
    obtain ⟨rfl, rfl⟩ := getS_inv e
    exact q
  · intro q; exact ⟨S, S, rfl, q⟩
@[simp] theorem wp_putS {T : Store} {Q : Unit → Store → Prop} : Wp (putS T) S Q ↔ Q () T := by
  constructor
  · rintro ⟨b, S', e, q⟩
    obtain rfl := putS_inv e
    exact q
  · intro q; exact ⟨(), T, rfl, q⟩
end
def Ent.co : Ent → Co
  | .own o => .o o
  | .frz d => .d d
section
variable {S : Store} {Q : Co → Store → Prop}
@[simp] theorem wp_co_imm {x : D} : Wp (coM (.imm x)) S Q ↔ Q (.d x) S := by
  constructor
  · rintro ⟨b, S', e, q⟩; cases e; exact q
  · intro q; exact ⟨_, _, rfl, q⟩
@[simp] theorem wp_co_new {x : Ob} : Wp (coM (.new x)) S Q ↔ Q (.o x) S := by
  constructor
  · rintro ⟨b, S', e, q⟩; cases e; exact q
  · intro q; exact ⟨_, _, rfl, q⟩
def coQ (Q : Co → Store → Prop) (S : Store) : Option Ent → Prop
  | some e => Q e.co S
  | none => False
@[simp] theorem coQ_some {e : Ent} : coQ Q S (some e) = Q e.co S := rfl
@[simp] theorem coQ_none : coQ Q S none = False := rfl
@[simp] theorem wp_co_ptr {k : Nat} : Wp (coM (.ptr k)) S Q ↔ coQ Q S S[k]? := by
  constructor
  · rintro ⟨b, S', e, q⟩
    unfold coM cont at e
    cases h : S[k]? with
    | none => simp only [h] at e; cases e
    | some u =>
      cases u <;> (simp only [h] at e; cases e; exact q)
  · intro q
    cases h : S[k]? with
    | none => rw [h] at q; exact q.elim
    | some u =>
      rw [h] at q
      refine ⟨u.co, S, ?_, q⟩
      unfold coM cont
      cases u <;> simp only [h] <;> rfl
end
section
variable {S : Store} {Q : D → Store → Prop}
@[simp] theorem wp_fz_imm {x : D} : Wp (frzM (.imm x)) S Q ↔ Q x S := by
  constructor
  · rintro ⟨b, S', e, q⟩; cases e; exact q
  · intro q; exact ⟨_, _, rfl, q⟩
@[simp] theorem wp_fz_new {x : Ob} : Wp (frzM (.new x)) S Q ↔ Q x.toD S := by
  constructor
  · rintro ⟨b, S', e, q⟩; cases e; exact q
  · intro q; exact ⟨_, _, rfl, q⟩
def fzQ (k : Nat) (S : Store) (Q : D → Store → Prop) : Option Ent → Prop
  | some (.own o) => Q o.toD (S.set k (.frz o.toD))
  | some (.frz d) => Q d S
  | none => False
@[simp] theorem wp_fz_ptr {k : Nat} : Wp (frzM (.ptr k)) S Q ↔ fzQ k S Q S[k]? := by
  constructor
  · rintro ⟨b, S', e, q⟩
    unfold frzM at e
    cases h : S[k]? with
    | none => simp only [h] at e; cases e
    | some u =>
      cases u <;> (simp only [h] at e; cases e; exact q)
  · intro q
    cases h : S[k]? with
    | none => rw [h] at q; exact q.elim
    | some u =>
      rw [h] at q
      cases u with
      | own o => exact ⟨_, _, by unfold frzM; simp only [h], q⟩
      | frz o => exact ⟨_, _, by unfold frzM; simp only [h], q⟩
@[simp] theorem fzQ_own {k : Nat} {o : Ob} : fzQ k S Q (some (.own o)) = Q o.toD (S.set k (.frz o.toD)) := rfl
@[simp] theorem fzQ_frz {k : Nat} {d : D} : fzQ k S Q (some (.frz d)) = Q d S := rfl
@[simp] theorem wp_frzs_nil {Q : List D → Store → Prop} : Wp (frzs []) S Q ↔ Q [] S := wp_pure
def kF2 (d : D) (Q : List D → Store → Prop) : List D → Store → Prop := fun ds S => Q (d :: ds) S
def kF1 (rs : List RV) (Q : List D → Store → Prop) : D → Store → Prop := fun d S => Wp (frzs rs) S (kF2 d Q)
@[simp] theorem kF2_ap {d : D} {Q : List D → Store → Prop} {ds : List D} : kF2 d Q ds S = Q (d :: ds) S := rfl
@[simp] theorem kF1_ap {d : D} {Q : List D → Store → Prop} {rs : List RV} : kF1 rs Q d S = Wp (frzs rs) S (kF2 d Q) := rfl
@[simp] theorem wp_frzs_cons {Q : List D → Store → Prop} {r : RV} {rs : List RV} : Wp (frzs (r :: rs)) S Q ↔ Wp (frzM r) S (kF1 rs Q) := by
  conv => lhs; unfold frzs
  simp only [wp_bind, wp_pure]
  rfl
end
@[simp] theorem co_own (o : Ob) : Ent.co (.own o) = .o o := rfl
@[simp] theorem co_frz (d : D) : Ent.co (.frz d) = .d d := rfl
section
variable {xs : List D} {kvs : List (D × D)} {i : Int} {b : Bool} {x : Str} {o : Ob}
@[simp] theorem toD_lst : Ob.toD (.lst xs) = .list xs := rfl
@[simp] theorem toD_dic : Ob.toD (.dic kvs) = .dict kvs := rfl
@[simp] theorem co_items_ol : Co.items (.o (.lst xs)) = some xs := rfl
@[simp] theorem co_items_od : Co.items (.o (.dic kvs)) = none := rfl
@[simp] theorem co_items_n : Co.items (.d .none) = none := rfl
@[simp] theorem co_items_b : Co.items (.d (.bool b)) = none := rfl
@[simp] theorem co_items_i : Co.items (.d (.int i)) = none := rfl
@[simp] theorem co_items_s : Co.items (.d (.str x)) = none := rfl
@[simp] theorem co_items_l : Co.items (.d (.list xs)) = some xs := rfl
@[simp] theorem co_items_t : Co.items (.d (.tuple xs)) = some xs := rfl
@[simp] theorem co_tups_ol : Co.tups (.o (.lst xs)) = none := rfl
@[simp] theorem co_tups_od : Co.tups (.o (.dic kvs)) = none := rfl
@[simp] theorem co_tups_n : Co.tups (.d .none) = none := rfl
@[simp] theorem co_tups_b : Co.tups (.d (.bool b)) = none := rfl
@[simp] theorem co_tups_i : Co.tups (.d (.int i)) = none := rfl
@[simp] theorem co_tups_s : Co.tups (.d (.str x)) = none := rfl
@[simp] theorem co_tups_l : Co.tups (.d (.list xs)) = none := rfl
@[simp] theorem co_tups_t : Co.tups (.d (.tuple xs)) = some xs := rfl
@[simp] theorem co_lits_ol : Co.lits (.o (.lst xs)) = some xs := rfl
@[simp] theorem co_lits_od : Co.lits (.o (.dic kvs)) = none := rfl
@[simp] theorem co_lits_n : Co.lits (.d .none) = none := rfl
@[simp] theorem co_lits_b : Co.lits (.d (.bool b)) = none := rfl
@[simp] theorem co_lits_i : Co.lits (.d (.int i)) = none := rfl
@[simp] theorem co_lits_s : Co.lits (.d (.str x)) = none := rfl
@[simp] theorem co_lits_l : Co.lits (.d (.list xs)) = some xs := rfl
@[simp] theorem co_lits_t : Co.lits (.d (.tuple xs)) = none := rfl
@[simp] theorem co_kitems_ol : Co.kitems (.o (.lst xs)) = none := rfl
@[simp] theorem co_kitems_od : Co.kitems (.o (.dic kvs)) = none := rfl
@[simp] theorem co_kitems_n : Co.kitems (.d .none) = none := rfl
@[simp] theorem co_kitems_b : Co.kitems (.d (.bool b)) = none := rfl
@[simp] theorem co_kitems_i : Co.kitems (.d (.int i)) = none := rfl
@[simp] theorem co_kitems_s : Co.kitems (.d (.str x)) = none := rfl
@[simp] theorem co_kitems_l : Co.kitems (.d (.list xs)) = none := rfl
@[simp] theorem co_kitems_t : Co.kitems (.d (.tuple xs)) = none := rfl
@[simp] theorem co_keyed_ol : Co.keyed (.o (.lst xs)) = none := rfl
@[simp] theorem co_keyed_od : Co.keyed (.o (.dic kvs)) = some kvs := rfl
@[simp] theorem co_keyed_n : Co.keyed (.d .none) = none := rfl
@[simp] theorem co_keyed_b : Co.keyed (.d (.bool b)) = none := rfl
@[simp] theorem co_keyed_i : Co.keyed (.d (.int i)) = none := rfl
@[simp] theorem co_keyed_s : Co.keyed (.d (.str x)) = none := rfl
@[simp] theorem co_keyed_l : Co.keyed (.d (.list xs)) = none := rfl
@[simp] theorem co_keyed_t : Co.keyed (.d (.tuple xs)) = none := rfl
@[simp] theorem co_int_ol : Co.int (.o (.lst xs)) = none := rfl
@[simp] theorem co_int_od : Co.int (.o (.dic kvs)) = none := rfl
@[simp] theorem co_int_n : Co.int (.d .none) = none := rfl
@[simp] theorem co_int_b : Co.int (.d (.bool b)) = none := rfl
@[simp] theorem co_int_i : Co.int (.d (.int i)) = some i := rfl
@[simp] theorem co_int_s : Co.int (.d (.str x)) = none := rfl
@[simp] theorem co_int_l : Co.int (.d (.list xs)) = none := rfl
@[simp] theorem co_int_t : Co.int (.d (.tuple xs)) = none := rfl
@[simp] theorem co_bool_ol : Co.bool (.o (.lst xs)) = none := rfl
@[simp] theorem co_bool_od : Co.bool (.o (.dic kvs)) = none := rfl
@[simp] theorem co_bool_n : Co.bool (.d .none) = none := rfl
@[simp] theorem co_bool_b : Co.bool (.d (.bool b)) = some b := rfl
@[simp] theorem co_bool_i : Co.bool (.d (.int i)) = none := rfl
@[simp] theorem co_bool_s : Co.bool (.d (.str x)) = none := rfl
@[simp] theorem co_bool_l : Co.bool (.d (.list xs)) = none := rfl
@[simp] theorem co_bool_t : Co.bool (.d (.tuple xs)) = none := rfl
@[simp] theorem co_noDict_ol : Co.noDict (.o (.lst xs)) = true := rfl
@[simp] theorem co_kind_ol : Co.kind (.o (.lst xs)) = 0 := rfl
@[simp] theorem co_isNone_ol : Co.isNone (.o (.lst xs)) = false := rfl
@[simp] theorem co_noDict_od : Co.noDict (.o (.dic kvs)) = false := rfl
@[simp] theorem co_kind_od : Co.kind (.o (.dic kvs)) = 2 := rfl
@[simp] theorem co_isNone_od : Co.isNone (.o (.dic kvs)) = false := rfl
@[simp] theorem co_noDict_n : Co.noDict (.d .none) = true := rfl
@[simp] theorem co_kind_n : Co.kind (.d .none) = 3 := rfl
@[simp] theorem co_isNone_n : Co.isNone (.d .none) = true := rfl
@[simp] theorem co_noDict_b : Co.noDict (.d (.bool b)) = true := rfl
@[simp] theorem co_kind_b : Co.kind (.d (.bool b)) = 3 := rfl
@[simp] theorem co_isNone_b : Co.isNone (.d (.bool b)) = false := rfl
@[simp] theorem co_noDict_i : Co.noDict (.d (.int i)) = true := rfl
@[simp] theorem co_kind_i : Co.kind (.d (.int i)) = 3 := rfl
@[simp] theorem co_isNone_i : Co.isNone (.d (.int i)) = false := rfl
@[simp] theorem co_noDict_s : Co.noDict (.d (.str x)) = true := rfl
@[simp] theorem co_kind_s : Co.kind (.d (.str x)) = 3 := rfl
@[simp] theorem co_isNone_s : Co.isNone (.d (.str x)) = false := rfl
@[simp] theorem co_noDict_l : Co.noDict (.d (.list xs)) = true := rfl
@[simp] theorem co_kind_l : Co.kind (.d (.list xs)) = 0 := rfl
@[simp] theorem co_isNone_l : Co.isNone (.d (.list xs)) = false := rfl
@[simp] theorem co_noDict_t : Co.noDict (.d (.tuple xs)) = true := rfl
@[simp] theorem co_kind_t : Co.kind (.d (.tuple xs)) = 1 := rfl
@[simp] theorem co_isNone_t : Co.isNone (.d (.tuple xs)) = false := rfl
@[simp] theorem co_dat_o : Co.dat (.o o) = o.toD := rfl
@[simp] theorem co_dat_d (d : D) : Co.dat (.d d) = d := rfl
@[simp] theorem ty_int_ol : isTy (.o (.lst xs)) .int = false := rfl
@[simp] theorem ty_int_od : isTy (.o (.dic kvs)) .int = false := rfl
@[simp] theorem ty_int_n : isTy (.d .none) .int = false := rfl
@[simp] theorem ty_int_b : isTy (.d (.bool b)) .int = true := rfl
@[simp] theorem ty_int_i : isTy (.d (.int i)) .int = true := rfl
@[simp] theorem ty_int_s : isTy (.d (.str x)) .int = false := rfl
@[simp] theorem ty_int_l : isTy (.d (.list xs)) .int = false := rfl
@[simp] theorem ty_int_t : isTy (.d (.tuple xs)) .int = false := rfl
@[simp] theorem ty_bool_ol : isTy (.o (.lst xs)) .bool = false := rfl
@[simp] theorem ty_bool_od : isTy (.o (.dic kvs)) .bool = false := rfl
@[simp] theorem ty_bool_n : isTy (.d .none) .bool = false := rfl
@[simp] theorem ty_bool_b : isTy (.d (.bool b)) .bool = true := rfl
@[simp] theorem ty_bool_i : isTy (.d (.int i)) .bool = false := rfl
@[simp] theorem ty_bool_s : isTy (.d (.str x)) .bool = false := rfl
@[simp] theorem ty_bool_l : isTy (.d (.list xs)) .bool = false := rfl
@[simp] theorem ty_bool_t : isTy (.d (.tuple xs)) .bool = false := rfl
@[simp] theorem ty_tuple_ol : isTy (.o (.lst xs)) .tuple = false := rfl
@[simp] theorem ty_tuple_od : isTy (.o (.dic kvs)) .tuple = false := rfl
@[simp] theorem ty_tuple_n : isTy (.d .none) .tuple = false := rfl
@[simp] theorem ty_tuple_b : isTy (.d (.bool b)) .tuple = false := rfl
@[simp] theorem ty_tuple_i : isTy (.d (.int i)) .tuple = false := rfl
@[simp] theorem ty_tuple_s : isTy (.d (.str x)) .tuple = false := rfl
@[simp] theorem ty_tuple_l : isTy (.d (.list xs)) .tuple = false := rfl
@[simp] theorem ty_tuple_t : isTy (.d (.tuple xs)) .tuple = true := rfl
@[simp] theorem ty_str_ol : isTy (.o (.lst xs)) .str = false := rfl
@[simp] theorem ty_str_od : isTy (.o (.dic kvs)) .str = false := rfl
@[simp] theorem ty_str_n : isTy (.d .none) .str = false := rfl
@[simp] theorem ty_str_b : isTy (.d (.bool b)) .str = false := rfl
@[simp] theorem ty_str_i : isTy (.d (.int i)) .str = false := rfl
@[simp] theorem ty_str_s : isTy (.d (.str x)) .str = true := rfl
@[simp] theorem ty_str_l : isTy (.d (.list xs)) .str = false := rfl
@[simp] theorem ty_str_t : isTy (.d (.tuple xs)) .str = false := rfl
@[simp] theorem ty_list_ol : isTy (.o (.lst xs)) .list = true := rfl
@[simp] theorem ty_list_od : isTy (.o (.dic kvs)) .list = false := rfl
@[simp] theorem ty_list_n : isTy (.d .none) .list = false := rfl
@[simp] theorem ty_list_b : isTy (.d (.bool b)) .list = false := rfl
@[simp] theorem ty_list_i : isTy (.d (.int i)) .list = false := rfl
@[simp] theorem ty_list_s : isTy (.d (.str x)) .list = false := rfl
@[simp] theorem ty_list_l : isTy (.d (.list xs)) .list = true := rfl
@[simp] theorem ty_list_t : isTy (.d (.tuple xs)) .list = false := rfl
end
def Sl.rv : Sl → RV
  | .d x => .imm x
  | .p k => .ptr k
@[simp] theorem rv_d (x : D) : Sl.rv (.d x) = .imm x := rfl
@[simp] theorem rv_p (x : Nat) : Sl.rv (.p x) = .ptr x := rfl
section
variable {α : Type}
noncomputable def kO (f : RV → M α) (Q : α → Store → Prop) : RV → Store → Prop := fun x S => Wp (f x) S Q
@[simp] theorem kO_ap {f : RV → M α} {Q : α → Store → Prop} {x : RV} {S : Store} : kO f Q x S = (Wp (f x) S Q) := rfl
noncomputable def kOs (f : List RV → M α) (Q : α → Store → Prop) : List RV → Store → Prop := fun x S => Wp (f x) S Q
@[simp] theorem kOs_ap {f : List RV → M α} {Q : α → Store → Prop} {x : List RV} {S : Store} : kOs f Q x S = (Wp (f x) S Q) := rfl
noncomputable def kS (Γ : Gam) (b : ME) (env : Env) (f : RV → RV → M α) (Q : α → Store → Prop) : RV → Store → Prop := fun x S => Wp (evE Γ b env) S (kO (f x) Q)
@[simp] theorem kS_ap {Γ : Gam} {b : ME} {env : Env} {f : RV → RV → M α} {Q : α → Store → Prop} {x : RV} {S : Store} : kS Γ b env f Q x S = (Wp (evE Γ b env) S (kO (f x) Q)) := rfl
noncomputable def kIT (Γ : Gam) (a : ME) (b : ME) (env : Env) (Q : RV → Store → Prop) : Bool → Store → Prop := fun p S => if p = true then Wp (evE Γ a env) S Q else Wp (evE Γ b env) S Q
@[simp] theorem kIT_ap {Γ : Gam} {a : ME} {b : ME} {env : Env} {Q : RV → Store → Prop} {p : Bool} {S : Store} : kIT Γ a b env Q p S = (if p = true then Wp (evE Γ a env) S Q else Wp (evE Γ b env) S Q) := rfl
noncomputable def kAn (Γ : Gam) (b : ME) (env : Env) (Q : RV → Store → Prop) : Bool → Store → Prop := fun p S => if p = true then Wp (evE Γ b env) S Q else Q (.imm (.bool false)) S
@[simp] theorem kAn_ap {Γ : Gam} {b : ME} {env : Env} {Q : RV → Store → Prop} {p : Bool} {S : Store} : kAn Γ b env Q p S = (if p = true then Wp (evE Γ b env) S Q else Q (.imm (.bool false)) S) := rfl
noncomputable def kOr (Γ : Gam) (b : ME) (env : Env) (Q : RV → Store → Prop) : Bool → Store → Prop := fun p S => if p = true then Q (.imm (.bool true)) S else Wp (evE Γ b env) S Q
@[simp] theorem kOr_ap {Γ : Gam} {b : ME} {env : Env} {Q : RV → Store → Prop} {p : Bool} {S : Store} : kOr Γ b env Q p S = (if p = true then Q (.imm (.bool true)) S else Wp (evE Γ b env) S Q) := rfl
noncomputable def kC3 (Γ : Gam) (c : ME) (env : Env) (op : Cop) (y : RV) (Q : RV → Store → Prop) : Bool → Store → Prop := fun p S => if p = true then Wp (evE Γ c env) S (kO (cmpOp op y) Q) else Q (.imm (.bool false)) S
@[simp] theorem kC3_ap {Γ : Gam} {c : ME} {env : Env} {op : Cop} {y : RV} {Q : RV → Store → Prop} {p : Bool} {S : Store} : kC3 Γ c env op y Q p S = (if p = true then Wp (evE Γ c env) S (kO (cmpOp op y) Q) else Q (.imm (.bool false)) S) := rfl
def boolOf (r : RV) : M Bool := do
  let c ← coM r
  lift c.bool
def intOf (r : RV) : M Int := do
  let c ← coM r
  lift c.int
def negOp (r : RV) : M RV := do
  let i ← intOf r
  pure (.imm (.int (-i)))
def ntOp (r : RV) : M RV := do
  let i ← boolOf r
  pure (.imm (.bool (!i)))
def isNOp (n : Bool) (r : RV) : M RV := do
  let c ← coM r
  pure (.imm (.bool (c.isNone != n)))
def isBOp (b n : Bool) (r : RV) : M RV := do
  let p ← boolOf r
  pure (.imm (.bool ((p == b) != n)))
def isiOp (t : Ty) (r : RV) : M RV := do
  let c ← coM r
  chk (c.noDict = true)
  pure (.imm (.bool (isTy c t)))
def isi2Op (t u : Ty) (r : RV) : M RV := do
  let c ← coM r
  chk (c.noDict = true)
  pure (.imm (.bool (isTy c t || isTy c u)))
def rng1Op (r : RV) : M (List D × List Nat) := do
  let i ← intOf r
  chk (-1000000 ≤ i ∧ i ≤ 1000000)
  pure (rngD 0 i, [])
def rng2Op (x y : RV) : M (List D × List Nat) := do
  let i ← intOf x
  let j ← intOf y
  chk (-1000000 ≤ i ∧ i ≤ 1000000 ∧ -1000000 ≤ j ∧ j ≤ 1000000)
  pure (rngD i j, [])
def itemsOf (r : RV) : M (List D) := do
  let c ← coM r
  lift c.items
def seqOp (r : RV) : M (List D × List Nat) := do
  let xs ← itemsOf r
  pure (xs, chks r)
def enumOp (r : RV) : M (List D × List Nat) := do
  let xs ← itemsOf r
  pure (xs.zipIdx.map fun p => pairD (.int (p.2 : Nat)) p.1, chks r)
def zipOp (x y : RV) : M (List D × List Nat) := do
  let xs ← itemsOf x
  let ys ← itemsOf y
  pure (zipD xs ys, chks x ++ chks y)
def valsOp (r : RV) : M (List D × List Nat) := do
  let c ← coM r
  let kvs ← lift c.keyed
  pure (kvs.map (·.2), chks r)
noncomputable def kC2 (Γ : Gam) (c : ME) (env : Env) (op : Cop) (op2 : Cop) (x : RV) (Q : RV → Store → Prop) : RV → Store → Prop := fun y S => Wp (cmpOp op x y) S (kO boolOf (kC3 Γ c env op2 y Q))
@[simp] theorem kC2_ap {Γ : Gam} {c : ME} {env : Env} {op : Cop} {op2 : Cop} {x : RV} {Q : RV → Store → Prop} {y : RV} {S : Store} : kC2 Γ c env op op2 x Q y S = (Wp (cmpOp op x y) S (kO boolOf (kC3 Γ c env op2 y Q))) := rfl
noncomputable def kC1 (Γ : Gam) (b : ME) (c : ME) (env : Env) (op : Cop) (op2 : Cop) (Q : RV → Store → Prop) : RV → Store → Prop := fun x S => Wp (evE Γ b env) S (kC2 Γ c env op op2 x Q)
@[simp] theorem kC1_ap {Γ : Gam} {b : ME} {c : ME} {env : Env} {op : Cop} {op2 : Cop} {Q : RV → Store → Prop} {x : RV} {S : Store} : kC1 Γ b c env op op2 Q x S = (Wp (evE Γ b env) S (kC2 Γ c env op op2 x Q)) := rfl
noncomputable def kSl3 (x : RV) (lo : Option Int) (Q : RV → Store → Prop) : Option Int → Store → Prop := fun hi S => Wp (slcOp x lo hi) S Q
@[simp] theorem kSl3_ap {x : RV} {lo : Option Int} {Q : RV → Store → Prop} {hi : Option Int} {S : Store} : kSl3 x lo Q hi S = (Wp (slcOp x lo hi) S Q) := rfl
noncomputable def kSl2 (Γ : Gam) (h : Option ME) (env : Env) (x : RV) (Q : RV → Store → Prop) : Option Int → Store → Prop := fun lo S => Wp (evO Γ h env) S (kSl3 x lo Q)
@[simp] theorem kSl2_ap {Γ : Gam} {h : Option ME} {env : Env} {x : RV} {Q : RV → Store → Prop} {lo : Option Int} {S : Store} : kSl2 Γ h env x Q lo S = (Wp (evO Γ h env) S (kSl3 x lo Q)) := rfl
noncomputable def kSl1 (Γ : Gam) (l : Option ME) (h : Option ME) (env : Env) (Q : RV → Store → Prop) : RV → Store → Prop := fun x S => Wp (evO Γ l env) S (kSl2 Γ h env x Q)
@[simp] theorem kSl1_ap {Γ : Gam} {l : Option ME} {h : Option ME} {env : Env} {Q : RV → Store → Prop} {x : RV} {S : Store} : kSl1 Γ l h env Q x S = (Wp (evO Γ l env) S (kSl2 Γ h env x Q)) := rfl
noncomputable def kTup (Q : RV → Store → Prop) : List D → Store → Prop := fun ds S => Q (.imm (.tuple ds)) S
@[simp] theorem kTup_ap {Q : RV → Store → Prop} {ds : List D} {S : Store} : kTup Q ds S = (Q (.imm (.tuple ds)) S) := rfl
noncomputable def kLst (Q : RV → Store → Prop) : List D → Store → Prop := fun ds S => Q (.new (.lst ds)) S
@[simp] theorem kLst_ap {Q : RV → Store → Prop} {ds : List D} {S : Store} : kLst Q ds S = (Q (.new (.lst ds)) S) := rfl
noncomputable def kL2 (r : RV) (Q : List RV → Store → Prop) : List RV → Store → Prop := fun rs S => Q (r :: rs) S
@[simp] theorem kL2_ap {r : RV} {Q : List RV → Store → Prop} {rs : List RV} {S : Store} : kL2 r Q rs S = (Q (r :: rs) S) := rfl
noncomputable def kL1 (Γ : Gam) (es : List ME) (env : Env) (Q : List RV → Store → Prop) : RV → Store → Prop := fun r S => Wp (evEs Γ es env) S (kL2 r Q)
@[simp] theorem kL1_ap {Γ : Gam} {es : List ME} {env : Env} {Q : List RV → Store → Prop} {r : RV} {S : Store} : kL1 Γ es env Q r S = Wp (evEs Γ es env) S (kL2 r Q) := rfl
noncomputable def kM3 (m : Me) (x : RV) (c : Co) (rs : List RV) (Q : RV → Store → Prop) : Co → Store → Prop := fun d S => c.kind = d.kind ∧ Wp (meOp m x rs) S Q
@[simp] theorem kM3_ap {m : Me} {x : RV} {c : Co} {rs : List RV} {Q : RV → Store → Prop} {d : Co} {S : Store} : kM3 m x c rs Q d S = (c.kind = d.kind ∧ Wp (meOp m x rs) S Q) := rfl
noncomputable def kM2 (m : Me) (x : RV) (c : Co) (Q : RV → Store → Prop) : List RV → Store → Prop := fun rs S => Wp (coM x) S (kM3 m x c rs Q)
@[simp] theorem kM2_ap {m : Me} {x : RV} {c : Co} {Q : RV → Store → Prop} {rs : List RV} {S : Store} : kM2 m x c Q rs S = (Wp (coM x) S (kM3 m x c rs Q)) := rfl
noncomputable def kM1 (Γ : Gam) (es : List ME) (env : Env) (m : Me) (x : RV) (Q : RV → Store → Prop) : Co → Store → Prop := fun c S => Wp (evEs Γ es env) S (kM2 m x c Q)
@[simp] theorem kM1_ap {Γ : Gam} {es : List ME} {env : Env} {m : Me} {x : RV} {Q : RV → Store → Prop} {c : Co} {S : Store} : kM1 Γ es env m x Q c S = (Wp (evEs Γ es env) S (kM2 m x c Q)) := rfl
noncomputable def kM0 (Γ : Gam) (es : List ME) (env : Env) (m : Me) (Q : RV → Store → Prop) : RV → Store → Prop := fun x S => Wp (coM x) S (kM1 Γ es env m x Q)
@[simp] theorem kM0_ap {Γ : Gam} {es : List ME} {env : Env} {m : Me} {Q : RV → Store → Prop} {x : RV} {S : Store} : kM0 Γ es env m Q x S = (Wp (coM x) S (kM1 Γ es env m x Q)) := rfl
noncomputable def kOi (Q : Option Int → Store → Prop) : Int → Store → Prop := fun i S => Q (some i) S
@[simp] theorem kOi_ap {Q : Option Int → Store → Prop} {i : Int} {S : Store} : kOi Q i S = (Q (some i) S) := rfl
noncomputable def kN (Q : Bool → Store → Prop) : Bool → Store → Prop := fun p S => Q (!p) S
@[simp] theorem kN_ap {Q : Bool → Store → Prop} {p : Bool} {S : Store} : kN Q p S = (Q (!p) S) := rfl
noncomputable def kTa (Γ : Gam) (b : ME) (env : Env) (Q : Bool → Store → Prop) : Bool → Store → Prop := fun p S => if p = true then Wp (evT Γ b env) S Q else Q false S
@[simp] theorem kTa_ap {Γ : Gam} {b : ME} {env : Env} {Q : Bool → Store → Prop} {p : Bool} {S : Store} : kTa Γ b env Q p S = (if p = true then Wp (evT Γ b env) S Q else Q false S) := rfl
noncomputable def kTo (Γ : Gam) (b : ME) (env : Env) (Q : Bool → Store → Prop) : Bool → Store → Prop := fun p S => if p = true then Q true S else Wp (evT Γ b env) S Q
@[simp] theorem kTo_ap {Γ : Gam} {b : ME} {env : Env} {Q : Bool → Store → Prop} {p : Bool} {S : Store} : kTo Γ b env Q p S = (if p = true then Q true S else Wp (evT Γ b env) S Q) := rfl
noncomputable def lcT (Γ : Gam) (elt : ME) (tg : MG) (own : List Nat) (ifs : Option ME) (env : Env) (x : D) : M (Option D) := do
  let e ← lift (asgG tg x (wipeE env own))
  let q ← evTo Γ ifs e
  if q then do
    let r ← evE Γ elt e
    let d ← frzM r
    pure (some d)
  else pure none
noncomputable def kLc (Γ : Gam) (elt : ME) (tg : MG) (own : List Nat) (ifs : Option ME) (env : Env) (Q : RV → Store → Prop) : List D × List Nat → Store → Prop := fun p S => Wp (lcL (lcT Γ elt tg own ifs env) p.2 S p.1) S (kLst Q)
@[simp] theorem kLc_ap {Γ : Gam} {elt : ME} {tg : MG} {own : List Nat} {ifs : Option ME} {env : Env} {Q : RV → Store → Prop} {p : List D × List Nat} {S : Store} : kLc Γ elt tg own ifs env Q p S = (Wp (lcL (lcT Γ elt tg own ifs env) p.2 S p.1) S (kLst Q)) := rfl
noncomputable def kOd (Q : Option D → Store → Prop) : D → Store → Prop := fun d S => Q (some d) S
@[simp] theorem kOd_ap {Q : Option D → Store → Prop} {d : D} {S : Store} : kOd Q d S = (Q (some d) S) := rfl
noncomputable def kLcT (Γ : Gam) (elt : ME) (env : Env) (Q : Option D → Store → Prop) : Bool → Store → Prop := fun p S => if p = true then Wp (evE Γ elt env) S (kO frzM (kOd Q)) else Q none S
@[simp] theorem kLcT_ap {Γ : Gam} {elt : ME} {env : Env} {Q : Option D → Store → Prop} {p : Bool} {S : Store} : kLcT Γ elt env Q p S = (if p = true then Wp (evE Γ elt env) S (kO frzM (kOd Q)) else Q none S) := rfl
noncomputable def kNx (Q : Fl × Env → Store → Prop) : Env → Store → Prop := fun e S => Q (.nx, e) S
@[simp] theorem kNx_ap {Q : Fl × Env → Store → Prop} {e : Env} {S : Store} : kNx Q e S = (Q (.nx, e) S) := rfl
noncomputable def kAsg (g : MG) (env : Env) (Q : Fl × Env → Store → Prop) : RV → Store → Prop := fun r S => Wp (assignG g r env) S (kNx Q)
@[simp] theorem kAsg_ap {g : MG} {env : Env} {Q : Fl × Env → Store → Prop} {r : RV} {S : Store} : kAsg g env Q r S = (Wp (assignG g r env) S (kNx Q)) := rfl
noncomputable def kPar (is : List Nat) (env : Env) (Q : Fl × Env → Store → Prop) : List RV → Store → Prop := fun rs S => Wp (putSls is rs env) S (kNx Q)
@[simp] theorem kPar_ap {is : List Nat} {env : Env} {Q : Fl × Env → Store → Prop} {rs : List RV} {S : Store} : kPar is env Q rs S = (Wp (putSls is rs env) S (kNx Q)) := rfl
noncomputable def kNu (env : Env) (Q : Fl × Env → Store → Prop) : Unit → Store → Prop := fun u S => Q (.nx, env) S
@[simp] theorem kNu_ap {env : Env} {Q : Fl × Env → Store → Prop} {u : Unit} {S : Store} : kNu env Q u S = (Q (.nx, env) S) := rfl
noncomputable def kSet3 (v : RV) (a : RV) (env : Env) (Q : Fl × Env → Store → Prop) : RV → Store → Prop := fun i S => Wp (setOp a i v) S (kNu env Q)
@[simp] theorem kSet3_ap {v : RV} {a : RV} {env : Env} {Q : Fl × Env → Store → Prop} {i : RV} {S : Store} : kSet3 v a env Q i S = (Wp (setOp a i v) S (kNu env Q)) := rfl
noncomputable def kSet2 (Γ : Gam) (i : ME) (v : RV) (env : Env) (Q : Fl × Env → Store → Prop) : RV → Store → Prop := fun a S => Wp (evE Γ i env) S (kSet3 v a env Q)
@[simp] theorem kSet2_ap {Γ : Gam} {i : ME} {v : RV} {env : Env} {Q : Fl × Env → Store → Prop} {a : RV} {S : Store} : kSet2 Γ i v env Q a S = (Wp (evE Γ i env) S (kSet3 v a env Q)) := rfl
noncomputable def kSet1 (Γ : Gam) (o : ME) (i : ME) (env : Env) (Q : Fl × Env → Store → Prop) : RV → Store → Prop := fun v S => Wp (evE Γ o env) S (kSet2 Γ i v env Q)
@[simp] theorem kSet1_ap {Γ : Gam} {o : ME} {i : ME} {env : Env} {Q : Fl × Env → Store → Prop} {v : RV} {S : Store} : kSet1 Γ o i env Q v S = (Wp (evE Γ o env) S (kSet2 Γ i v env Q)) := rfl
noncomputable def kPut (i : Nat) (env : Env) (Q : Fl × Env → Store → Prop) : RV → Store → Prop := fun z S => Wp (putSl i z env) S (kNx Q)
@[simp] theorem kPut_ap {i : Nat} {env : Env} {Q : Fl × Env → Store → Prop} {z : RV} {S : Store} : kPut i env Q z S = (Wp (putSl i z env) S (kNx Q)) := rfl
noncomputable def kAug (op : Bop) (i : Nat) (x : Int) (env : Env) (Q : Fl × Env → Store → Prop) : Int → Store → Prop := fun y S => op ≠ .pow ∧ Wp (intOp op x y) S (kPut i env Q)
@[simp] theorem kAug_ap {op : Bop} {i : Nat} {x : Int} {env : Env} {Q : Fl × Env → Store → Prop} {y : Int} {S : Store} : kAug op i x env Q y S = (op ≠ .pow ∧ Wp (intOp op x y) S (kPut i env Q)) := rfl
noncomputable def augQ (Γ : Gam) (op : Bop) (i : Nat) (e : ME) (env : Env) (Q : Fl × Env → Store → Prop) (S : Store) : Option (Option Sl) → Prop
  | some (some (.d (.int x))) => Wp (evE Γ e env) S (kO intOf (kAug op i x env Q))
  | _ => False
@[simp] theorem augQ_ap {Γ : Gam} {op : Bop} {i : Nat} {e : ME} {env : Env} {Q : Fl × Env → Store → Prop} {S : Store} {x : Int} : augQ Γ op i e env Q S (some (some (.d (.int x)))) = Wp (evE Γ e env) S (kO intOf (kAug op i x env Q)) := rfl
noncomputable def kAgs5 (a : RV) (b : RV) (env : Env) (Q : Fl × Env → Store → Prop) : RV → Store → Prop := fun z S => Wp (setOp a b z) S (kNu env Q)
@[simp] theorem kAgs5_ap {a : RV} {b : RV} {env : Env} {Q : Fl × Env → Store → Prop} {z : RV} {S : Store} : kAgs5 a b env Q z S = (Wp (setOp a b z) S (kNu env Q)) := rfl
noncomputable def kAgs4 (op : Bop) (a : RV) (b : RV) (x : Int) (env : Env) (Q : Fl × Env → Store → Prop) : Int → Store → Prop := fun y S => op ≠ .pow ∧ Wp (intOp op x y) S (kAgs5 a b env Q)
@[simp] theorem kAgs4_ap {op : Bop} {a : RV} {b : RV} {x : Int} {env : Env} {Q : Fl × Env → Store → Prop} {y : Int} {S : Store} : kAgs4 op a b x env Q y S = (op ≠ .pow ∧ Wp (intOp op x y) S (kAgs5 a b env Q)) := rfl
noncomputable def kAgs3 (Γ : Gam) (e : ME) (op : Bop) (a : RV) (b : RV) (env : Env) (Q : Fl × Env → Store → Prop) : Int → Store → Prop := fun x S => Wp (evE Γ e env) S (kO intOf (kAgs4 op a b x env Q))
@[simp] theorem kAgs3_ap {Γ : Gam} {e : ME} {op : Bop} {a : RV} {b : RV} {env : Env} {Q : Fl × Env → Store → Prop} {x : Int} {S : Store} : kAgs3 Γ e op a b env Q x S = (Wp (evE Γ e env) S (kO intOf (kAgs4 op a b x env Q))) := rfl
def itemI (a b : RV) : M Int := do
  let ca ← coM a
  let xs ← lift ca.lits
  let cb ← coM b
  let j ← lift cb.int
  let g ← lift (L2.atI xs j)
  lift (Co.d g).int
noncomputable def kAgs2 (Γ : Gam) (e : ME) (op : Bop) (a : RV) (env : Env) (Q : Fl × Env → Store → Prop) : RV → Store → Prop := fun b S => Wp (itemI a b) S (kAgs3 Γ e op a b env Q)
@[simp] theorem kAgs2_ap {Γ : Gam} {e : ME} {op : Bop} {a : RV} {env : Env} {Q : Fl × Env → Store → Prop} {b : RV} {S : Store} : kAgs2 Γ e op a env Q b S = (Wp (itemI a b) S (kAgs3 Γ e op a b env Q)) := rfl
noncomputable def kAgs1 (Γ : Gam) (i : ME) (e : ME) (op : Bop) (env : Env) (Q : Fl × Env → Store → Prop) : RV → Store → Prop := fun a S => Wp (evE Γ i env) S (kAgs2 Γ e op a env Q)
@[simp] theorem kAgs1_ap {Γ : Gam} {i : ME} {e : ME} {op : Bop} {env : Env} {Q : Fl × Env → Store → Prop} {a : RV} {S : Store} : kAgs1 Γ i e op env Q a S = (Wp (evE Γ i env) S (kAgs2 Γ e op a env Q)) := rfl
noncomputable def kPs6 (x : Nat) (db : D) (env : Env) (Q : Fl × Env → Store → Prop) : Unit → Store → Prop := fun u S => Wp (putSl x (.imm db) env) S (kNx Q)
@[simp] theorem kPs6_ap {x : Nat} {db : D} {env : Env} {Q : Fl × Env → Store → Prop} {u : Unit} {S : Store} : kPs6 x db env Q u S = (Wp (putSl x (.imm db) env) S (kNx Q)) := rfl
noncomputable def kPs5 (va : RV) (vo : RV) (x : Nat) (db : D) (env : Env) (Q : Fl × Env → Store → Prop) : RV → Store → Prop := fun vi S => Wp (setOp vo vi va) S (kPs6 x db env Q)
@[simp] theorem kPs5_ap {va : RV} {vo : RV} {x : Nat} {db : D} {env : Env} {Q : Fl × Env → Store → Prop} {vi : RV} {S : Store} : kPs5 va vo x db env Q vi S = (Wp (setOp vo vi va) S (kPs6 x db env Q)) := rfl
noncomputable def kPs4 (Γ : Gam) (i : ME) (va : RV) (x : Nat) (db : D) (env : Env) (Q : Fl × Env → Store → Prop) : RV → Store → Prop := fun vo S => Wp (evE Γ i env) S (kPs5 va vo x db env Q)
@[simp] theorem kPs4_ap {Γ : Gam} {i : ME} {va : RV} {x : Nat} {db : D} {env : Env} {Q : Fl × Env → Store → Prop} {vo : RV} {S : Store} : kPs4 Γ i va x db env Q vo S = (Wp (evE Γ i env) S (kPs5 va vo x db env Q)) := rfl
noncomputable def kPs3 (Γ : Gam) (o : ME) (i : ME) (va : RV) (x : Nat) (env : Env) (Q : Fl × Env → Store → Prop) : D → Store → Prop := fun db S => Wp (evE Γ o env) S (kPs4 Γ i va x db env Q)
@[simp] theorem kPs3_ap {Γ : Gam} {o : ME} {i : ME} {va : RV} {x : Nat} {env : Env} {Q : Fl × Env → Store → Prop} {db : D} {S : Store} : kPs3 Γ o i va x env Q db S = (Wp (evE Γ o env) S (kPs4 Γ i va x db env Q)) := rfl
noncomputable def kPs2 (Γ : Gam) (o : ME) (i : ME) (va : RV) (x : Nat) (env : Env) (Q : Fl × Env → Store → Prop) : RV → Store → Prop := fun vb S => Wp (lift (gotD vb)) S (kPs3 Γ o i va x env Q)
@[simp] theorem kPs2_ap {Γ : Gam} {o : ME} {i : ME} {va : RV} {x : Nat} {env : Env} {Q : Fl × Env → Store → Prop} {vb : RV} {S : Store} : kPs2 Γ o i va x env Q vb S = (Wp (lift (gotD vb)) S (kPs3 Γ o i va x env Q)) := rfl
noncomputable def kPs1 (Γ : Gam) (o : ME) (i : ME) (b : ME) (x : Nat) (env : Env) (Q : Fl × Env → Store → Prop) : RV → Store → Prop := fun va S => Wp (evE Γ b env) S (kPs2 Γ o i va x env Q)
@[simp] theorem kPs1_ap {Γ : Gam} {o : ME} {i : ME} {b : ME} {x : Nat} {env : Env} {Q : Fl × Env → Store → Prop} {va : RV} {S : Store} : kPs1 Γ o i b x env Q va S = (Wp (evE Γ b env) S (kPs2 Γ o i va x env Q)) := rfl
noncomputable def kDr (env : Env) (Q : Fl × Env → Store → Prop) : RV → Store → Prop := fun r S => Q (.nx, env) S
@[simp] theorem kDr_ap {env : Env} {Q : Fl × Env → Store → Prop} {r : RV} {S : Store} : kDr env Q r S = (Q (.nx, env) S) := rfl
noncomputable def kRet (env : Env) (Q : Fl × Env → Store → Prop) : RV → Store → Prop := fun r S => Q (.ret r, env) S
@[simp] theorem kRet_ap {env : Env} {Q : Fl × Env → Store → Prop} {r : RV} {S : Store} : kRet env Q r S = (Q (.ret r, env) S) := rfl
noncomputable def kAp3 (f : RV → RV → M Unit) (a : RV) (v : RV) (k : Nat) (env : Env) (Q : Fl × Env → Store → Prop) : Co → Store → Prop := fun c S => (k = 0 ∧ c.kind = 0) ∧ Wp (f a v) S (kNu env Q)
@[simp] theorem kAp3_ap {f : RV → RV → M Unit} {a : RV} {v : RV} {k : Nat} {env : Env} {Q : Fl × Env → Store → Prop} {c : Co} {S : Store} : kAp3 f a v k env Q c S = ((k = 0 ∧ c.kind = 0) ∧ Wp (f a v) S (kNu env Q)) := rfl
noncomputable def kAp2 (f : RV → RV → M Unit) (a : RV) (k : Nat) (env : Env) (Q : Fl × Env → Store → Prop) : RV → Store → Prop := fun v S => Wp (coM a) S (kAp3 f a v k env Q)
@[simp] theorem kAp2_ap {f : RV → RV → M Unit} {a : RV} {k : Nat} {env : Env} {Q : Fl × Env → Store → Prop} {v : RV} {S : Store} : kAp2 f a k env Q v S = (Wp (coM a) S (kAp3 f a v k env Q)) := rfl
noncomputable def kAp1 (Γ : Gam) (e : ME) (f : RV → RV → M Unit) (a : RV) (env : Env) (Q : Fl × Env → Store → Prop) : Co → Store → Prop := fun c S => Wp (evE Γ e env) S (kAp2 f a c.kind env Q)
@[simp] theorem kAp1_ap {Γ : Gam} {e : ME} {f : RV → RV → M Unit} {a : RV} {env : Env} {Q : Fl × Env → Store → Prop} {c : Co} {S : Store} : kAp1 Γ e f a env Q c S = (Wp (evE Γ e env) S (kAp2 f a c.kind env Q)) := rfl
noncomputable def kAp0 (Γ : Gam) (e : ME) (f : RV → RV → M Unit) (env : Env) (Q : Fl × Env → Store → Prop) : RV → Store → Prop := fun a S => Wp (coM a) S (kAp1 Γ e f a env Q)
@[simp] theorem kAp0_ap {Γ : Gam} {e : ME} {f : RV → RV → M Unit} {env : Env} {Q : Fl × Env → Store → Prop} {a : RV} {S : Store} : kAp0 Γ e f env Q a S = (Wp (coM a) S (kAp1 Γ e f a env Q)) := rfl
noncomputable def kIf (Γ : Gam) (a : List MS) (b : List MS) (env : Env) (Q : Fl × Env → Store → Prop) : Bool → Store → Prop := fun p S => if p = true then Wp (evSs Γ a env) S Q else Wp (evSs Γ b env) S Q
@[simp] theorem kIf_ap {Γ : Gam} {a : List MS} {b : List MS} {env : Env} {Q : Fl × Env → Store → Prop} {p : Bool} {S : Store} : kIf Γ a b env Q p S = (if p = true then Wp (evSs Γ a env) S Q else Wp (evSs Γ b env) S Q) := rfl
noncomputable def forF (Γ : Gam) (g : MG) (b : List MS) (x : D) (e : Env) : M (Fl × Env) := do
  let e' ← lift (asgG g x e)
  evSs Γ b e'
noncomputable def kFor (Γ : Gam) (g : MG) (b : List MS) (env : Env) (Q : Fl × Env → Store → Prop) : List D × List Nat → Store → Prop := fun p S => Wp (forL (forF Γ g b) p.2 S p.1 env) S Q
@[simp] theorem kFor_ap {Γ : Gam} {g : MG} {b : List MS} {env : Env} {Q : Fl × Env → Store → Prop} {p : List D × List Nat} {S : Store} : kFor Γ g b env Q p S = (Wp (forL (forF Γ g b) p.2 S p.1 env) S Q) := rfl
end
section
variable {Γ : Gam} {env : Env} {S : Store} {Q : RV → Store → Prop}
def vQ (Q : RV → Store → Prop) (S : Store) : Option (Option Sl) → Prop
  | some (some s) => Q s.rv S
  | _ => False
@[simp] theorem vQ_ap {s : Sl} : vQ Q S (some (some s)) = Q s.rv S := rfl
def gQ (Q : RV → Store → Prop) (S : Store) : Option Gd → Prop
  | some (.con d) => Q (.imm d) S
  | _ => False
@[simp] theorem gQ_ap {d : D} : gQ Q S (some (.con d)) = Q (.imm d) S := rfl
@[simp] theorem we_var {i : Nat} : Wp (evE Γ (.var i) env) S Q ↔ vQ Q S env[i]? := by
  unfold evE
  cases h : env[i]? with
  | none => simp [vQ]
  | some o =>
    cases o with
    | none => simp [vQ]
    | some s => cases s <;> simp
@[simp] theorem we_cst {d : D} : Wp (evE Γ (.cst d) env) S Q ↔ Q (.imm d) S := by unfold evE; simp
@[simp] theorem we_glob {x : Str} : Wp (evE Γ (.glob x) env) S Q ↔ gQ Q S (Γ x) := by
  unfold evE
  cases h : Γ x with
  | none => simp [gQ]
  | some o => cases o <;> simp [gQ]
@[simp] theorem we_dic0 : Wp (evE Γ .dic0 env) S Q ↔ Q (.new (.dic [])) S := by unfold evE; simp
@[simp] theorem we_tup {es : List ME} : Wp (evE Γ (.tup es) env) S Q ↔ Wp (evEs Γ es env) S (kOs frzs (kTup Q)) := by
  conv => lhs; unfold evE
  simp only [wp_bind, wp_pure, wp_chk, wp_ite, wp_getS]
  rfl
@[simp] theorem we_lst {es : List ME} : Wp (evE Γ (.lst es) env) S Q ↔ Wp (evEs Γ es env) S (kOs frzs (kLst Q)) := by
  conv => lhs; unfold evE
  simp only [wp_bind, wp_pure, wp_chk, wp_ite, wp_getS]
  rfl
@[simp] theorem we_bin {op : Bop} {a b : ME} : Wp (evE Γ (.bin op a b) env) S Q ↔ Wp (evE Γ a env) S (kS Γ b env (binOp op) Q) := by
  conv => lhs; unfold evE
  simp only [wp_bind, wp_pure, wp_chk, wp_ite, wp_getS]
  rfl
@[simp] theorem we_neg {a : ME} : Wp (evE Γ (.neg a) env) S Q ↔ Wp (evE Γ a env) S (kO negOp Q) := by
  conv => lhs; unfold evE
  simp only [wp_bind, wp_pure, wp_chk, wp_ite, wp_getS]
  unfold kO; simp only [negOp, ntOp, intOf, boolOf, isNOp, isBOp, isiOp, isi2Op, wp_bind, wp_pure, wp_chk]
@[simp] theorem we_nt {a : ME} : Wp (evE Γ (.nt a) env) S Q ↔ Wp (evE Γ a env) S (kO ntOp Q) := by
  conv => lhs; unfold evE
  simp only [wp_bind, wp_pure, wp_chk, wp_ite, wp_getS]
  unfold kO; simp only [negOp, ntOp, intOf, boolOf, isNOp, isBOp, isiOp, isi2Op, wp_bind, wp_pure, wp_chk]
@[simp] theorem we_an {a b : ME} : Wp (evE Γ (.an a b) env) S Q ↔ Wp (evE Γ a env) S (kO boolOf (kAn Γ b env Q)) := by
  conv => lhs; unfold evE
  simp only [wp_bind, wp_pure, wp_chk, wp_ite, wp_getS]
  unfold kO; simp only [negOp, ntOp, intOf, boolOf, isNOp, isBOp, isiOp, isi2Op, wp_bind, wp_pure, wp_chk]; rfl
@[simp] theorem we_orr {a b : ME} : Wp (evE Γ (.orr a b) env) S Q ↔ Wp (evE Γ a env) S (kO boolOf (kOr Γ b env Q)) := by
  conv => lhs; unfold evE
  simp only [wp_bind, wp_pure, wp_chk, wp_ite, wp_getS]
  unfold kO; simp only [negOp, ntOp, intOf, boolOf, isNOp, isBOp, isiOp, isi2Op, wp_bind, wp_pure, wp_chk]; rfl
@[simp] theorem we_cmp {op : Cop} {a b : ME} : Wp (evE Γ (.cmp op a b) env) S Q ↔ Wp (evE Γ a env) S (kS Γ b env (cmpOp op) Q) := by
  conv => lhs; unfold evE
  simp only [wp_bind, wp_pure, wp_chk, wp_ite, wp_getS]
  rfl
@[simp] theorem we_chain {op op2 : Cop} {a b c : ME} : Wp (evE Γ (.chain op op2 a b c) env) S Q ↔ Wp (evE Γ a env) S (kC1 Γ b c env op op2 Q) := by
  conv => lhs; unfold evE
  simp only [wp_bind, wp_pure, wp_chk, wp_ite, wp_getS]
  unfold kC1 kC2 kO boolOf kC3; simp only [wp_bind]; rfl
@[simp] theorem we_isN {a : ME} {n : Bool} : Wp (evE Γ (.isN a n) env) S Q ↔ Wp (evE Γ a env) S (kO (isNOp n) Q) := by
  conv => lhs; unfold evE
  simp only [wp_bind, wp_pure, wp_chk, wp_ite, wp_getS]
  unfold kO; simp only [negOp, ntOp, intOf, boolOf, isNOp, isBOp, isiOp, isi2Op, wp_bind, wp_pure, wp_chk]
@[simp] theorem we_isB {a : ME} {b n : Bool} : Wp (evE Γ (.isB a b n) env) S Q ↔ Wp (evE Γ a env) S (kO (isBOp b n) Q) := by
  conv => lhs; unfold evE
  simp only [wp_bind, wp_pure, wp_chk, wp_ite, wp_getS]
  unfold kO; simp only [negOp, ntOp, intOf, boolOf, isNOp, isBOp, isiOp, isi2Op, wp_bind, wp_pure, wp_chk]
@[simp] theorem we_ife {c a b : ME} : Wp (evE Γ (.ife c a b) env) S Q ↔ Wp (evT Γ c env) S (kIT Γ a b env Q) := by
  conv => lhs; unfold evE
  simp only [wp_bind, wp_pure, wp_chk, wp_ite, wp_getS]
  rfl
@[simp] theorem we_sub {a i : ME} : Wp (evE Γ (.sub a i) env) S Q ↔ Wp (evE Γ a env) S (kS Γ i env subOp Q) := by
  conv => lhs; unfold evE
  simp only [wp_bind, wp_pure, wp_chk, wp_ite, wp_getS]
  rfl
@[simp] theorem we_slc {a : ME} {l h : Option ME} : Wp (evE Γ (.slc a l h) env) S Q ↔ Wp (evE Γ a env) S (kSl1 Γ l h env Q) := by
  conv => lhs; unfold evE
  simp only [wp_bind, wp_pure, wp_chk, wp_ite, wp_getS]
  rfl
@[simp] theorem we_rev {a : ME} : Wp (evE Γ (.rev a) env) S Q ↔ Wp (evE Γ a env) S (kO revOp Q) := by
  conv => lhs; unfold evE
  simp only [wp_bind, wp_pure, wp_chk, wp_ite, wp_getS]
  rfl
theorem we_call {f : Str} {es : List ME} {φ : Fn} (h : Γ f = some (.fn φ)) : Wp (evE Γ (.call f es) env) S Q ↔ Wp (evEs Γ es env) S (kOs (callM φ) Q) := by
  conv => lhs; unfold evE
  simp only [h, wp_bind]
  rfl
@[simp] theorem we_bi {f : Bi} {es : List ME} : Wp (evE Γ (.bi f es) env) S Q ↔ Wp (evEs Γ es env) S (kOs (biOp f) Q) := by
  conv => lhs; unfold evE
  simp only [wp_bind, wp_pure, wp_chk, wp_ite, wp_getS]
  rfl
@[simp] theorem we_isi {a : ME} {t : Ty} : Wp (evE Γ (.isi a t) env) S Q ↔ Wp (evE Γ a env) S (kO (isiOp t) Q) := by
  conv => lhs; unfold evE
  simp only [wp_bind, wp_pure, wp_chk, wp_ite, wp_getS]
  unfold kO; simp only [negOp, ntOp, intOf, boolOf, isNOp, isBOp, isiOp, isi2Op, wp_bind, wp_pure, wp_chk]
@[simp] theorem we_isi2 {a : ME} {t u : Ty} : Wp (evE Γ (.isi2 a t u) env) S Q ↔ Wp (evE Γ a env) S (kO (isi2Op t u) Q) := by
  conv => lhs; unfold evE
  simp only [wp_bind, wp_pure, wp_chk, wp_ite, wp_getS]
  unfold kO; simp only [negOp, ntOp, intOf, boolOf, isNOp, isBOp, isiOp, isi2Op, wp_bind, wp_pure, wp_chk]
@[simp] theorem we_met {m : Me} {o : ME} {es : List ME} : Wp (evE Γ (.met m o es) env) S Q ↔ Wp (evE Γ o env) S (kM0 Γ es env m Q) := by
  conv => lhs; unfold evE
  simp only [wp_bind, wp_pure, wp_chk, wp_ite, wp_getS]
  rfl
@[simp] theorem we_lc {elt : ME} {tg : MG} {it : MI} {own : List Nat} {ifs : Option ME} : Wp (evE Γ (.lc elt tg it own ifs) env) S Q ↔ Wp (evI Γ it env) S (kLc Γ elt tg own ifs env Q) := by
  conv => lhs; unfold evE
  simp only [wp_bind, wp_pure, wp_chk, wp_ite, wp_getS]
  rfl
@[simp] theorem wes_nil {Q : List RV → Store → Prop} : Wp (evEs Γ [] env) S Q ↔ Q [] S := by unfold evEs; simp
@[simp] theorem weo_none {Q : Option Int → Store → Prop} : Wp (evO Γ none env) S Q ↔ Q none S := by unfold evO; simp
@[simp] theorem wto_none {Q : Bool → Store → Prop} : Wp (evTo Γ none env) S Q ↔ Q true S := by unfold evTo; simp
@[simp] theorem wto_some {Q : Bool → Store → Prop} {e : ME} : Wp (evTo Γ (some e) env) S Q ↔ Wp (evT Γ e env) S Q := by
  conv => lhs; unfold evTo
@[simp] theorem wes_cons {Q : List RV → Store → Prop} {e : ME} {es : List ME} : Wp (evEs Γ (e :: es) env) S Q ↔ Wp (evE Γ e env) S (kL1 Γ es env Q) := by
  conv => lhs; unfold evEs
  simp only [wp_bind, wp_pure, wp_chk, wp_ite, wp_getS]
  rfl
@[simp] theorem weo_some {Q : Option Int → Store → Prop} {e : ME} : Wp (evO Γ (some e) env) S Q ↔ Wp (evE Γ e env) S (kO intOf (kOi Q)) := by
  conv => lhs; unfold evO
  simp only [wp_bind, wp_pure, wp_chk, wp_ite, wp_getS]
  unfold kO; simp only [intOf, wp_bind]; rfl
@[simp] theorem wt_nt {Q : Bool → Store → Prop} {a : ME} : Wp (evT Γ (.nt a) env) S Q ↔ Wp (evT Γ a env) S (kN Q) := by
  conv => lhs; unfold evT
  simp only [wp_bind, wp_pure, wp_chk, wp_ite, wp_getS]
  rfl
@[simp] theorem wt_an {Q : Bool → Store → Prop} {a b : ME} : Wp (evT Γ (.an a b) env) S Q ↔ Wp (evT Γ a env) S (kTa Γ b env Q) := by
  conv => lhs; unfold evT
  simp only [wp_bind, wp_pure, wp_chk, wp_ite, wp_getS]
  rfl
@[simp] theorem wt_orr {Q : Bool → Store → Prop} {a b : ME} : Wp (evT Γ (.orr a b) env) S Q ↔ Wp (evT Γ a env) S (kTo Γ b env Q) := by
  conv => lhs; unfold evT
  simp only [wp_bind, wp_pure, wp_chk, wp_ite, wp_getS]
  rfl
def isT : ME → Bool
  | .nt _ => false
  | .an _ _ => false
  | .orr _ _ => false
  | _ => true
theorem wtr_of {Q : Bool → Store → Prop} {e : ME} (h : isT e = true) : Wp (evT Γ e env) S Q ↔ Wp (evE Γ e env) S (kO boolOf Q) := by
  cases e <;> first | (cases h; done) | (unfold kO boolOf; simp only [wp_bind]; conv => lhs; unfold evT; simp only [wp_bind])
@[simp] theorem wt_cmp {Q : Bool → Store → Prop} {op : Cop} {a b : ME} : Wp (evT Γ (.cmp op a b) env) S Q ↔ Wp (evE Γ (.cmp op a b) env) S (kO boolOf Q) := wtr_of rfl
@[simp] theorem wt_chain {Q : Bool → Store → Prop} {op op2 : Cop} {a b c : ME} : Wp (evT Γ (.chain op op2 a b c) env) S Q ↔ Wp (evE Γ (.chain op op2 a b c) env) S (kO boolOf Q) := wtr_of rfl
@[simp] theorem wt_isN {Q : Bool → Store → Prop} {a : ME} {n : Bool} : Wp (evT Γ (.isN a n) env) S Q ↔ Wp (evE Γ (.isN a n) env) S (kO boolOf Q) := wtr_of rfl
@[simp] theorem wt_isB {Q : Bool → Store → Prop} {a : ME} {b n : Bool} : Wp (evT Γ (.isB a b n) env) S Q ↔ Wp (evE Γ (.isB a b n) env) S (kO boolOf Q) := wtr_of rfl
@[simp] theorem wt_call {Q : Bool → Store → Prop} {f : Str} {es : List ME} : Wp (evT Γ (.call f es) env) S Q ↔ Wp (evE Γ (.call f es) env) S (kO boolOf Q) := wtr_of rfl
@[simp] theorem wt_bi {Q : Bool → Store → Prop} {f : Bi} {es : List ME} : Wp (evT Γ (.bi f es) env) S Q ↔ Wp (evE Γ (.bi f es) env) S (kO boolOf Q) := wtr_of rfl
@[simp] theorem wt_isi {Q : Bool → Store → Prop} {a : ME} {t : Ty} : Wp (evT Γ (.isi a t) env) S Q ↔ Wp (evE Γ (.isi a t) env) S (kO boolOf Q) := wtr_of rfl
@[simp] theorem wt_isi2 {Q : Bool → Store → Prop} {a : ME} {t u : Ty} : Wp (evT Γ (.isi2 a t u) env) S Q ↔ Wp (evE Γ (.isi2 a t u) env) S (kO boolOf Q) := wtr_of rfl
@[simp] theorem wt_var {Q : Bool → Store → Prop} {i : Nat} : Wp (evT Γ (.var i) env) S Q ↔ Wp (evE Γ (.var i) env) S (kO boolOf Q) := wtr_of rfl
@[simp] theorem wt_sub {Q : Bool → Store → Prop} {a i : ME} : Wp (evT Γ (.sub a i) env) S Q ↔ Wp (evE Γ (.sub a i) env) S (kO boolOf Q) := wtr_of rfl
@[simp] theorem wt_cst {Q : Bool → Store → Prop} {d : D} : Wp (evT Γ (.cst d) env) S Q ↔ Wp (evE Γ (.cst d) env) S (kO boolOf Q) := wtr_of rfl
@[simp] theorem wi_rng1 {Q : List D × List Nat → Store → Prop} {a : ME} : Wp (evI Γ (.rng1 a) env) S Q ↔ Wp (evE Γ a env) S (kO rng1Op Q) := by
  conv => lhs; unfold evI
  simp only [wp_bind, wp_pure, wp_chk, wp_ite, wp_getS]
  unfold kO; simp only [rng1Op, rng2Op, seqOp, enumOp, zipOp, valsOp, itemsOf, intOf, wp_bind, wp_pure, wp_chk]
@[simp] theorem wi_rng2 {Q : List D × List Nat → Store → Prop} {a b : ME} : Wp (evI Γ (.rng2 a b) env) S Q ↔ Wp (evE Γ a env) S (kS Γ b env rng2Op Q) := by
  conv => lhs; unfold evI
  simp only [wp_bind, wp_pure, wp_chk, wp_ite, wp_getS]
  unfold kS kO; simp only [rng1Op, rng2Op, seqOp, enumOp, zipOp, valsOp, itemsOf, intOf, wp_bind, wp_pure, wp_chk]
@[simp] theorem wi_seq {Q : List D × List Nat → Store → Prop} {a : ME} : Wp (evI Γ (.seq a) env) S Q ↔ Wp (evE Γ a env) S (kO seqOp Q) := by
  conv => lhs; unfold evI
  simp only [wp_bind, wp_pure, wp_chk, wp_ite, wp_getS]
  unfold kO; simp only [rng1Op, rng2Op, seqOp, enumOp, zipOp, valsOp, itemsOf, intOf, wp_bind, wp_pure, wp_chk]
@[simp] theorem wi_enum {Q : List D × List Nat → Store → Prop} {a : ME} : Wp (evI Γ (.enum a) env) S Q ↔ Wp (evE Γ a env) S (kO enumOp Q) := by
  conv => lhs; unfold evI
  simp only [wp_bind, wp_pure, wp_chk, wp_ite, wp_getS]
  unfold kO; simp only [rng1Op, rng2Op, seqOp, enumOp, zipOp, valsOp, itemsOf, intOf, wp_bind, wp_pure, wp_chk]
@[simp] theorem wi_zip {Q : List D × List Nat → Store → Prop} {a b : ME} : Wp (evI Γ (.zip a b) env) S Q ↔ Wp (evE Γ a env) S (kS Γ b env zipOp Q) := by
  conv => lhs; unfold evI
  simp only [wp_bind, wp_pure, wp_chk, wp_ite, wp_getS]
  unfold kS kO; simp only [rng1Op, rng2Op, seqOp, enumOp, zipOp, valsOp, itemsOf, intOf, wp_bind, wp_pure, wp_chk]
@[simp] theorem wi_vals {Q : List D × List Nat → Store → Prop} {a : ME} : Wp (evI Γ (.vals a) env) S Q ↔ Wp (evE Γ a env) S (kO valsOp Q) := by
  conv => lhs; unfold evI
  simp only [wp_bind, wp_pure, wp_chk, wp_ite, wp_getS]
  unfold kO; simp only [rng1Op, rng2Op, seqOp, enumOp, zipOp, valsOp, itemsOf, intOf, wp_bind, wp_pure, wp_chk]
theorem wp_lcF {elt : ME} {tg : MG} {own : List Nat} {ifs : Option ME} {x : D} {Q : Option D → Store → Prop} {e : Env} (he : asgG tg x (wipeE env own) = some e) :
    Wp (lcT Γ elt tg own ifs env x) S Q ↔ Wp (evTo Γ ifs e) S (kLcT Γ elt e Q) := by
  unfold lcT kLcT kO
  simp only [he, wp_bind, wp_lift_some, wp_ite, wp_pure]
  rfl
end
section
variable {env : Env} {S : Store} {Q : Env → Store → Prop} {i : Nat}
@[simp] theorem wp_put_imm {d : D} : Wp (putSl i (.imm d) env) S Q ↔ i < env.length ∧ Q (env.set i (some (.d d))) S := by
  constructor
  · rintro ⟨a, S', e, q⟩
    unfold putSl at e
    split at e
    · simp only at e; cases e; exact ⟨by assumption, q⟩
    · cases e
  · rintro ⟨h, q⟩
    exact ⟨_, _, by unfold putSl; rw [if_pos h], q⟩
@[simp] theorem wp_put_ptr {k : Nat} : Wp (putSl i (.ptr k) env) S Q ↔ i < env.length ∧ Q (env.set i (some (.p k))) S := by
  constructor
  · rintro ⟨a, S', e, q⟩
    unfold putSl at e
    split at e
    · simp only at e; cases e; exact ⟨by assumption, q⟩
    · cases e
  · rintro ⟨h, q⟩
    exact ⟨_, _, by unfold putSl; rw [if_pos h], q⟩
@[simp] theorem wp_put_new {o : Ob} : Wp (putSl i (.new o) env) S Q ↔ i < env.length ∧ Q (env.set i (some (.p S.length))) (S ++ [.own o]) := by
  constructor
  · rintro ⟨a, S', e, q⟩
    unfold putSl at e
    split at e
    · simp only at e; cases e; exact ⟨by assumption, q⟩
    · cases e
  · rintro ⟨h, q⟩
    exact ⟨_, _, by unfold putSl; rw [if_pos h], q⟩
@[simp] theorem wp_puts_nil : Wp (putSls [] [] env) S Q ↔ Q env S := by unfold putSls; simp
def kPuts (is : List Nat) (rs : List RV) (Q : Env → Store → Prop) : Env → Store → Prop := fun e S => Wp (putSls is rs e) S Q
@[simp] theorem kPuts_ap {is : List Nat} {rs : List RV} : kPuts is rs Q env S = Wp (putSls is rs env) S Q := rfl
@[simp] theorem wp_puts_cons {is : List Nat} {r : RV} {rs : List RV} : Wp (putSls (i :: is) (r :: rs) env) S Q ↔ Wp (putSl i r env) S (kPuts is rs Q) := by
  conv => lhs; unfold putSls
  simp only [wp_bind]
  rfl
@[simp] theorem wp_asg_name {r : RV} : Wp (assignG (.name i) r env) S Q ↔ Wp (putSl i r env) S Q := Iff.rfl
@[simp] theorem wp_asg_tup {gs : List MG} {d : D} : Wp (assignG (.tup gs) (.imm d) env) S Q ↔ Wp (lift (asgG (.tup gs) d env)) S Q := Iff.rfl
end
section
variable {Γ : Gam} {env : Env} {S : Store} {Q : Fl × Env → Store → Prop}
@[simp] theorem ws_asg {g : MG} {e : ME} : Wp (evS Γ (.asg g e) env) S Q ↔ Wp (evE Γ e env) S (kAsg g env Q) := by
  conv => lhs; unfold evS
  simp only [wp_bind, wp_pure, wp_chk, wp_ite, wp_getS]
  rfl
@[simp] theorem ws_par {is : List Nat} {es : List ME} : Wp (evS Γ (.par is es) env) S Q ↔ Wp (evEs Γ es env) S (kPar is env Q) := by
  conv => lhs; unfold evS
  simp only [wp_bind, wp_pure, wp_chk, wp_ite, wp_getS]
  rfl
@[simp] theorem ws_aset {o i e : ME} : Wp (evS Γ (.aset o i e) env) S Q ↔ Wp (evE Γ e env) S (kSet1 Γ o i env Q) := by
  conv => lhs; unfold evS
  simp only [wp_bind, wp_pure, wp_chk, wp_ite, wp_getS]
  rfl
@[simp] theorem ws_aug {op : Bop} {i : Nat} {e : ME} : Wp (evS Γ (.aug op i e) env) S Q ↔ augQ Γ op i e env Q S env[i]? := by
  conv => lhs; unfold evS
  cases h : env[i]? with
  | none => simp only [wp_err]; rfl
  | some o =>
    cases o with
    | none => simp only [wp_err]; rfl
    | some sl =>
      cases sl with
      | p k => simp only [wp_err]; rfl
      | d u =>
        cases u with
        | int x =>
          rw [augQ_ap]
          unfold kO intOf kAug
          simp only [wp_bind, wp_chk, wp_pure]
          rfl
        | _ => simp only [wp_err]; rfl
@[simp] theorem ws_augs {op : Bop} {o i e : ME} : Wp (evS Γ (.augs op o i e) env) S Q ↔ Wp (evE Γ o env) S (kAgs1 Γ i e op env Q) := by
  conv => lhs; unfold evS
  simp only [wp_bind, wp_pure, wp_chk, wp_ite, wp_getS]
  unfold kAgs1 kAgs2 itemI kAgs3 kO intOf; simp only [wp_bind]; rfl
@[simp] theorem ws_pst {o i a b : ME} {x : Nat} : Wp (evS Γ (.pst o i x a b) env) S Q ↔ Wp (evE Γ a env) S (kPs1 Γ o i b x env Q) := by
  conv => lhs; unfold evS
  simp only [wp_bind, wp_pure, wp_chk, wp_ite, wp_getS]
  rfl
@[simp] theorem ws_expr {e : ME} : Wp (evS Γ (.expr e) env) S Q ↔ Wp (evE Γ e env) S (kDr env Q) := by
  conv => lhs; unfold evS
  simp only [wp_bind, wp_pure, wp_chk, wp_ite, wp_getS]
  rfl
@[simp] theorem ws_app {o e : ME} : Wp (evS Γ (.app o e) env) S Q ↔ Wp (evE Γ o env) S (kAp0 Γ e appOp env Q) := by
  conv => lhs; unfold evS
  simp only [wp_bind, wp_pure, wp_chk, wp_ite, wp_getS]
  rfl
@[simp] theorem ws_ext {o e : ME} : Wp (evS Γ (.ext o e) env) S Q ↔ Wp (evE Γ o env) S (kAp0 Γ e extOp env Q) := by
  conv => lhs; unfold evS
  simp only [wp_bind, wp_pure, wp_chk, wp_ite, wp_getS]
  rfl
@[simp] theorem ws_ret {e : ME} : Wp (evS Γ (.ret e) env) S Q ↔ Wp (evE Γ e env) S (kRet env Q) := by
  conv => lhs; unfold evS
  simp only [wp_bind, wp_pure, wp_chk, wp_ite, wp_getS]
  rfl
@[simp] theorem ws_retN : Wp (evS Γ .retN env) S Q ↔ Q (.ret (.imm .none), env) S := by
  conv => lhs; unfold evS
  simp only [wp_bind, wp_pure, wp_chk, wp_ite, wp_getS]
@[simp] theorem ws_ifs {c : ME} {a b : List MS} : Wp (evS Γ (.ifs c a b) env) S Q ↔ Wp (evT Γ c env) S (kIf Γ a b env Q) := by
  conv => lhs; unfold evS
  simp only [wp_bind, wp_pure, wp_chk, wp_ite, wp_getS]
  rfl
@[simp] theorem ws_whl {c : ME} {b : List MS} : Wp (evS Γ (.whl c b) env) S Q ↔ Wp (whl (fun e => evT Γ c e) (fun e => evSs Γ b e) env) S Q := by
  conv => lhs; unfold evS
@[simp] theorem ws_for {g : MG} {it : MI} {b : List MS} : Wp (evS Γ (.forr g it b) env) S Q ↔ Wp (evI Γ it env) S (kFor Γ g b env Q) := by
  conv => lhs; unfold evS
  simp only [wp_bind, wp_pure, wp_chk, wp_ite, wp_getS]
  rfl
@[simp] theorem ws_brk : Wp (evS Γ .brk env) S Q ↔ Q (.bk, env) S := by
  conv => lhs; unfold evS
  simp only [wp_bind, wp_pure, wp_chk, wp_ite, wp_getS]
@[simp] theorem ws_cnt : Wp (evS Γ .cnt env) S Q ↔ Q (.ct, env) S := by
  conv => lhs; unfold evS
  simp only [wp_bind, wp_pure, wp_chk, wp_ite, wp_getS]
@[simp] theorem ws_pass : Wp (evS Γ .pass env) S Q ↔ Q (.nx, env) S := by
  conv => lhs; unfold evS
  simp only [wp_bind, wp_pure, wp_chk, wp_ite, wp_getS]
@[simp] theorem wss_nil : Wp (evSs Γ [] env) S Q ↔ Q (.nx, env) S := by
  conv => lhs; unfold evSs
  simp
def aft (Γ : Gam) (ss : List MS) (Q : Fl × Env → Store → Prop) : Fl × Env → Store → Prop := fun p S => match p.1 with
  | .nx => Wp (evSs Γ ss p.2) S Q
  | .bk => Q (.bk, p.2) S
  | .ct => Q (.ct, p.2) S
  | .ret r => Q (.ret r, p.2) S
theorem wss_cons {s : MS} {ss : List MS} : Wp (evSs Γ (s :: ss) env) S Q ↔ Wp (evS Γ s env) S (aft Γ ss Q) := by
  conv => lhs; unfold evSs
  rw [wp_bind]
  constructor
  · intro h
    refine h.mono fun p S1 q => ?_
    obtain ⟨fl, e⟩ := p
    cases fl with
    | nx => exact q
    | bk => exact (wp_pure (a := (Fl.bk, e)) (S := S1) (Q := Q)).mp q
    | ct => exact (wp_pure (a := (Fl.ct, e)) (S := S1) (Q := Q)).mp q
    | ret r => exact (wp_pure (a := (Fl.ret r, e)) (S := S1) (Q := Q)).mp q
  · intro h
    refine h.mono fun p S1 q => ?_
    obtain ⟨fl, e⟩ := p
    cases fl with
    | nx => exact q
    | bk => exact (wp_pure (a := (Fl.bk, e)) (S := S1) (Q := Q)).mpr q
    | ct => exact (wp_pure (a := (Fl.ct, e)) (S := S1) (Q := Q)).mpr q
    | ret r => exact (wp_pure (a := (Fl.ret r, e)) (S := S1) (Q := Q)).mpr q
@[simp] theorem aft_nx {ss : List MS} {e : Env} : aft Γ ss Q (.nx, e) S = Wp (evSs Γ ss e) S Q := rfl
@[simp] theorem aft_bk {ss : List MS} {e : Env} : aft Γ ss Q (.bk, e) S = Q (.bk, e) S := rfl
@[simp] theorem aft_ct {ss : List MS} {e : Env} : aft Γ ss Q (.ct, e) S = Q (.ct, e) S := rfl
@[simp] theorem aft_ret {ss : List MS} {e : Env} {r : RV} : aft Γ ss Q (.ret r, e) S = Q (.ret r, e) S := rfl
theorem wp_forF {g : MG} {b : List MS} {x : D} {e : Env} (h : asgG g x env = some e) : Wp (forF Γ g b x env) S Q ↔ Wp (evSs Γ b e) S Q := by
  unfold forF
  simp [h]
end
section
variable {f : D → Env → M (Fl × Env)} {ks : List Nat} {S0 : Store} {Q : Fl × Env → Store → Prop}
def turnQ (Q : Fl × Env → Store → Prop) (ks : List Nat) (S0 : Store) (I : Env → Store → Prop) : Fl × Env → Store → Prop := fun p S => match p.1 with
  | .nx => (∀ k ∈ ks, S[k]? = S0[k]?) ∧ I p.2 S
  | .ct => (∀ k ∈ ks, S[k]? = S0[k]?) ∧ I p.2 S
  | .bk => Q (.nx, p.2) S
  | .ret r => Q (.ret r, p.2) S
variable {I0 : Env → Store → Prop} {S : Store} {e : Env}
@[simp] theorem turnQ_nx : turnQ Q ks S0 I0 (.nx, e) S = ((∀ k ∈ ks, S[k]? = S0[k]?) ∧ I0 e S) := rfl
@[simp] theorem turnQ_ct : turnQ Q ks S0 I0 (.ct, e) S = ((∀ k ∈ ks, S[k]? = S0[k]?) ∧ I0 e S) := rfl
@[simp] theorem turnQ_bk : turnQ Q ks S0 I0 (.bk, e) S = Q (.nx, e) S := rfl
@[simp] theorem turnQ_ret {r : RV} : turnQ Q ks S0 I0 (.ret r, e) S = Q (.ret r, e) S := rfl
theorem wp_chkS {Q : Unit → Store → Prop} (h : ∀ k ∈ ks, S[k]? = S0[k]?) (q : Q () S) : Wp (chkS ks S0) S Q := ⟨(), S, by unfold chkS; rw [if_pos h], q⟩
theorem wp_for_nil {env : Env} (h : Q (.nx, env) S) : Wp (forL f ks S0 [] env) S Q := by
  unfold forL; simpa using h
theorem wp_for_cons {env : Env} {x : D} {xs : List D} (h : Wp (f x env) S (turnQ Q ks S0 fun e T => Wp (forL f ks S0 xs e) T Q)) : Wp (forL f ks S0 (x :: xs) env) S Q := by
  unfold forL
  rw [wp_bind]
  refine h.mono fun p S1 q => ?_
  obtain ⟨fl, e⟩ := p
  cases fl with
  | nx => simp only [wp_bind]; exact wp_chkS q.1 q.2
  | ct => simp only [wp_bind]; exact wp_chkS q.1 q.2
  | bk => simpa using q
  | ret r => simpa using q
theorem wp_for {β : Type} {enc : β → D} (I : List β → Env → Store → Prop) {ys : List β} {env : Env} (h0 : I [] env S)
    (step : ∀ (l : List β) (y : β) (r : List β) (e : Env) (T : Store), ys = l ++ y :: r → I l e T → Wp (f (enc y) e) T (turnQ Q ks S0 (I (l ++ [y]))))
    (fin : ∀ (e : Env) (T : Store), I ys e T → Q (.nx, e) T) : Wp (forL f ks S0 (ys.map enc) env) S Q := by
  suffices H : ∀ (r l : List β) (e : Env) (T : Store), ys = l ++ r → I l e T → Wp (forL f ks S0 (r.map enc) e) T Q from H ys [] env S rfl h0
  intro r
  induction r with
  | nil =>
    intro l e T he hI
    rw [List.append_nil] at he
    subst he
    exact wp_for_nil (fin e T hI)
  | cons y r ih =>
    intro l e T he hI
    refine wp_for_cons ((step l y r e T he hI).mono fun p T1 q => ?_)
    obtain ⟨fl, e1⟩ := p
    cases fl with
    | nx => exact ⟨q.1, ih (l ++ [y]) e1 T1 (by rw [he]; simp) q.2⟩
    | ct => exact ⟨q.1, ih (l ++ [y]) e1 T1 (by rw [he]; simp) q.2⟩
    | bk => exact q
    | ret v => exact q
theorem wp_forN {β : Type} {enc : β → D} (I : Nat → Env → Store → Prop) {ys : List β} {env : Env} (h0 : I 0 env S)
    (step : ∀ (i : Nat) (y : β) (e : Env) (T : Store), ys[i]? = some y → I i e T → Wp (f (enc y) e) T (turnQ Q ks S0 (I (i + 1))))
    (fin : ∀ (e : Env) (T : Store), I ys.length e T → Q (.nx, e) T) : Wp (forL f ks S0 (ys.map enc) env) S Q := by
  refine wp_for (fun l => I l.length) h0 (fun l y r e T he hI => ?_) fin
  have := step l.length y e T (by rw [he]; simp) hI
  simpa using this
theorem wp_for_rng {a b : Int} (I : Nat → Env → Store → Prop) {env : Env} (h0 : I 0 env S)
    (step : ∀ (i : Nat) (e : Env) (T : Store), i < (b - a).toNat → I i e T → Wp (f (.int (a + (i : Nat))) e) T (turnQ Q ks S0 (I (i + 1))))
    (fin : ∀ (e : Env) (T : Store), I (b - a).toNat e T → Q (.nx, e) T) : Wp (forL f ks S0 (rngD a b) env) S Q := by
  unfold rngD
  refine wp_forN (enc := fun i : Nat => PyData.int (a + (i : Nat))) (ys := List.range (b - a).toNat) I h0 (fun i y e T hy hI => ?_) (fun e T h => fin e T (by rwa [List.length_range] at h))
  obtain ⟨h1, h2⟩ := List.getElem?_eq_some_iff.mp hy
  rw [List.length_range] at h1
  rw [List.getElem_range] at h2
  subst h2
  exact step i e T h1 hI
end
section
variable {f : D → M (Option D)} {ks : List Nat} {S0 S : Store} {Q : List D → Store → Prop}
theorem lc_pure {β : Type} {enc : β → D} (g : β → Option D) {ys : List β} (h : ∀ y ∈ ys, Wp (f (enc y)) S fun o T => T = S ∧ o = g y) : lcL f ks S (ys.map enc) S = .ok (ys.filterMap g) S := by
  induction ys with
  | nil => rfl
  | cons y ys ih =>
    obtain ⟨o, T, e, rfl, rfl⟩ := h y (List.mem_cons_self)
    rw [List.map_cons]
    unfold lcL
    rw [bind_ok e]
    have e2 : chkS ks T T = .ok () T := by unfold chkS; rw [if_pos fun _ _ => rfl]
    rw [bind_ok e2, bind_ok (ih fun z hz => h z (List.mem_cons_of_mem _ hz)), List.filterMap_cons]
    cases g y <;> rfl
theorem wp_lc_pure {β : Type} {enc : β → D} (g : β → Option D) {ys : List β} (h : ∀ y ∈ ys, Wp (f (enc y)) S fun o T => T = S ∧ o = g y) (q : Q (ys.filterMap g) S) : Wp (lcL f ks S (ys.map enc)) S Q := ⟨_, _, lc_pure g h, q⟩
theorem wp_lc_map {β : Type} {enc : β → D} (g : β → D) {ys : List β} (h : ∀ y ∈ ys, Wp (f (enc y)) S fun o T => T = S ∧ o = some (g y)) (q : Q (ys.map g) S) : Wp (lcL f ks S (ys.map enc)) S Q :=
  wp_lc_pure (fun y => some (g y)) h (by rw [List.filterMap_eq_map']; exact q)
theorem wp_lc_filter {β : Type} {enc : β → D} (p : β → Bool) (g : β → D) {ys : List β} (h : ∀ y ∈ ys, Wp (f (enc y)) S fun o T => T = S ∧ o = if p y = true then some (g y) else none) (q : Q ((ys.filter p).map g) S) : Wp (lcL f ks S (ys.map enc)) S Q := by
  refine wp_lc_pure (fun y => if p y = true then some (g y) else none) h ?_
  have : (ys.filterMap fun y => if p y = true then some (g y) else none) = (ys.filter p).map g := by
    clear h q
    induction ys with
    | nil => rfl
    | cons y ys ih =>
      by_cases hp : p y = true
      · simp [hp, ih]
      · simp [hp, ih]
  rw [this]; exact q
theorem wp_lc {β : Type} {enc : β → D} (I : List β → List D → Store → Prop) {ys : List β} (h0 : I [] [] S)
    (step : ∀ (l : List β) (y : β) (r : List β) (ds : List D) (T : Store), ys = l ++ y :: r → I l ds T → Wp (f (enc y)) T fun o T' => (∀ k ∈ ks, T'[k]? = S0[k]?) ∧ I (l ++ [y]) (ds ++ o.toList) T')
    (fin : ∀ (ds : List D) (T : Store), I ys ds T → Q ds T) : Wp (lcL f ks S0 (ys.map enc)) S Q := by
  suffices H : ∀ (r l : List β) (ds : List D) (T : Store), ys = l ++ r → I l ds T → Wp (lcL f ks S0 (r.map enc)) T fun ds' T' => I ys (ds ++ ds') T' from
    (H ys [] [] S rfl h0).mono fun ds T h => fin ds T (by simpa using h)
  intro r
  induction r with
  | nil =>
    intro l ds T he hI
    rw [List.append_nil] at he
    subst he
    unfold lcL
    simpa using hI
  | cons y r ih =>
    intro l ds T he hI
    rw [List.map_cons]
    unfold lcL
    rw [wp_bind]
    refine (step l y r ds T he hI).mono fun o T1 q => ?_
    rw [wp_bind]
    refine wp_chkS q.1 ?_
    rw [wp_bind]
    refine (ih (l ++ [y]) (ds ++ o.toList) T1 (by rw [he]; simp) q.2).mono fun ds' T2 q2 => ?_
    rw [wp_pure]
    cases o <;> simpa using q2
end
section
variable {c : Env → M Bool} {b : Env → M (Fl × Env)} {Q : Fl × Env → Store → Prop}
theorem wp_whl {σ : Type} (I : σ → Env → Store → Prop) (μ : σ → Nat) {s : σ} {env : Env} {S : Store} (h0 : I s env S)
    (step : ∀ (s : σ) (e : Env) (T : Store), I s e T → Wp (c e) T fun p T1 => if p = true then Wp (b e) T1 (turnQ Q [] [] fun e' T' => ∃ s', I s' e' T' ∧ μ s' < μ s) else Q (.nx, e) T1) : Wp (whl c b env) S Q := by
  suffices H : ∀ (n : Nat) (s : σ) (e : Env) (T : Store), μ s < n → I s e T → ∃ p T', whlN c b n e T = some (.ok p T') ∧ Q p T' by
    obtain ⟨p, T', e, q⟩ := H (μ s + 1) s env S (Nat.lt_succ_self _) h0
    exact ⟨p, T', whl_of e, q⟩
  intro n
  induction n with
  | zero => intro s e T h; omega
  | succ n ih =>
    intro s e T hm hI
    obtain ⟨p, T1, e1, q⟩ := step s e T hI
    unfold whlN
    rw [e1]
    cases p with
    | false =>
      rw [if_neg (by simp)] at q
      exact ⟨_, _, rfl, q⟩
    | true =>
      rw [if_pos rfl] at q
      obtain ⟨⟨fl, e2⟩, T2, h2, q2⟩ := q
      simp only
      rw [h2]
      cases fl with
      | nx =>
        obtain ⟨_, s', hI', hl⟩ := q2
        exact ih s' e2 T2 (by omega) hI'
      | ct =>
        obtain ⟨_, s', hI', hl⟩ := q2
        exact ih s' e2 T2 (by omega) hI'
      | bk => exact ⟨_, _, rfl, q2⟩
      | ret r => exact ⟨_, _, rfl, q2⟩
end
def Rn (φ : Fn) (as : List Arg) (P : RV → Store → Prop) : Prop := ∃ r outs, φ as = .ok r outs ∧ P r outs
theorem Rn.mono {φ : Fn} {as : List Arg} {P P' : RV → Store → Prop} (h : Rn φ as P) (k : ∀ r o, P r o → P' r o) : Rn φ as P' := by
  obtain ⟨r, o, e, p⟩ := h
  exact ⟨r, o, e, k r o p⟩
def finQ (m : Nat) (P : RV → Store → Prop) : Fl × Env → Store → Prop := fun p S => match p.1 with
  | .ret (.imm d) => P (.imm d) (S.take m)
  | .ret (.new o) => P (.new o) (S.take m)
  | .ret (.ptr k) => ∃ e, S[k]? = some e ∧ match e with
    | .own o => if k < m then P (.imm o.toD) ((S.set k (.frz o.toD)).take m) else P (.new o) (S.take m)
    | .frz d => P (.imm d) (S.take m)
  | .nx => P (.imm .none) (S.take m)
  | _ => False
section
variable {m k : Nat} {P : RV → Store → Prop} {S : Store} {e : Env}
@[simp] theorem finQ_imm {d : D} : finQ m P (.ret (.imm d), e) S = P (.imm d) (S.take m) := rfl
@[simp] theorem finQ_new {o : Ob} : finQ m P (.ret (.new o), e) S = P (.new o) (S.take m) := rfl
@[simp] theorem finQ_nx : finQ m P (.nx, e) S = P (.imm .none) (S.take m) := rfl
theorem finQ_ptr {o : Ob} (h : S[k]? = some (.own o)) (hk : ¬ k < m) : finQ m P (.ret (.ptr k), e) S ↔ P (.new o) (S.take m) := by
  show (∃ e, S[k]? = some e ∧ _) ↔ _
  constructor
  · rintro ⟨u, h1, q⟩
    rw [h] at h1; cases h1
    simpa [hk] using q
  · intro q
    exact ⟨_, h, by simpa [hk] using q⟩
end
theorem den_run {Γ : Gam} {np n : Nat} {body : List MS} {as : List Arg} {P : RV → Store → Prop} (hl : as.length = np ∧ np ≤ n)
    (h : Wp (evSs Γ body (initE as 0 ++ List.replicate (n - np) none)) (initS as) (finQ (initS as).length P)) : Rn (den Γ np n body) as P := by
  obtain ⟨⟨fl, e⟩, S, h1, q⟩ := h
  unfold Rn den
  rw [if_pos hl, h1]
  cases fl with
  | nx => exact ⟨_, _, rfl, q⟩
  | bk => exact q.elim
  | ct => exact q.elim
  | ret r =>
    cases r with
    | imm d => exact ⟨_, _, rfl, q⟩
    | new o => exact ⟨_, _, rfl, q⟩
    | ptr k =>
      obtain ⟨u, hu, q⟩ := q
      simp only [finR, hu]
      cases u with
      | own o =>
        simp only at q ⊢
        split at q
        · rename_i hk
          rw [if_pos hk]
          exact ⟨_, _, rfl, q⟩
        · rename_i hk
          rw [if_neg hk]
          exact ⟨_, _, rfl, q⟩
      | frz d => exact ⟨_, _, rfl, q⟩
def noPtr : RV → Bool
  | .ptr _ => false
  | _ => true
theorem wp_call {φ : Fn} {rs : List RV} {S : Store} {Q : RV → Store → Prop} {as : List Arg} (ha : mkArgs S rs = some as) (hn : (ownPtrs S rs).Nodup)
    (h : Rn φ as fun r outs => noPtr r = true ∧ ∃ S', backArgs S rs outs S = some S' ∧ Q r S') : Wp (callM φ rs) S Q := by
  obtain ⟨r, outs, e, hp, S', hb, q⟩ := h
  refine ⟨r, S', ?_, q⟩
  unfold callM
  simp only [ha, if_pos hn, e, hb]
  cases r <;> first | rfl | (cases hp)
def Has (Γ : Gam) (x : Str) (P : Fn → Prop) : Prop := ∃ φ, Γ x = some (.fn φ) ∧ P φ
theorem Has.call {Γ : Gam} {x : Str} {P : Fn → Prop} (h : Has Γ x P) {env : Env} {S : Store} {Q : RV → Store → Prop} {es : List ME}
    (k : ∀ φ, P φ → Wp (evEs Γ es env) S (kOs (callM φ) Q)) : Wp (evE Γ (.call x es) env) S Q := by
  obtain ⟨φ, h1, h2⟩ := h
  rw [we_call h1]
  exact k φ h2
end Th
end
section
set_option Elab.async false
set_option linter.all false
set_option maxRecDepth 100000
set_option maxHeartbeats 4000000
namespace Th
open PySem
section
variable {α : Type} {S : Store} {x : RV} {i j : Int} {b : Bool} {d : D} {xs ys : List D} {ob : Ob} {k : Nat}
theorem wp_co_bind {f : Co → M α} {Q : α → Store → Prop} : Wp (coM x >>= f) S Q ↔ Wp (coM x) S fun c S' => Wp (f c) S' Q := wp_bind
@[simp] theorem wp_intOf_int {Q : Int → Store → Prop} : Wp (intOf (.imm (.int i))) S Q ↔ Q i S := by unfold intOf; simp
@[simp] theorem wp_boolOf_bool {Q : Bool → Store → Prop} : Wp (boolOf (.imm (.bool b))) S Q ↔ Q b S := by unfold boolOf; simp
variable {Q : RV → Store → Prop}
@[simp] theorem wp_neg : Wp (negOp (.imm (.int i))) S Q ↔ Q (.imm (.int (-i))) S := by unfold negOp; simp
@[simp] theorem wp_nt : Wp (ntOp (.imm (.bool b))) S Q ↔ Q (.imm (.bool (!b))) S := by unfold ntOp; simp
def kIsN (n : Bool) (Q : RV → Store → Prop) : Co → Store → Prop := fun c S => Q (.imm (.bool (c.isNone != n))) S
@[simp] theorem kIsN_ap {n : Bool} {c : Co} : kIsN n Q c S = Q (.imm (.bool (c.isNone != n))) S := rfl
@[simp] theorem wp_isN {n : Bool} : Wp (isNOp n x) S Q ↔ Wp (coM x) S (kIsN n Q) := by unfold isNOp; simp only [wp_bind, wp_pure]; rfl
@[simp] theorem wp_isB {n p : Bool} : Wp (isBOp p n (.imm (.bool b))) S Q ↔ Q (.imm (.bool ((b == p) != n))) S := by unfold isBOp; simp
def kIsi (t : Ty) (Q : RV → Store → Prop) : Co → Store → Prop := fun c S => c.noDict = true ∧ Q (.imm (.bool (isTy c t))) S
@[simp] theorem kIsi_ap {t : Ty} {c : Co} : kIsi t Q c S = (c.noDict = true ∧ Q (.imm (.bool (isTy c t))) S) := rfl
@[simp] theorem wp_isi {t : Ty} : Wp (isiOp t x) S Q ↔ Wp (coM x) S (kIsi t Q) := by unfold isiOp; simp only [wp_bind, wp_pure, wp_chk]; rfl
def kIsi2 (t u : Ty) (Q : RV → Store → Prop) : Co → Store → Prop := fun c S => c.noDict = true ∧ Q (.imm (.bool (isTy c t || isTy c u))) S
@[simp] theorem kIsi2_ap {t u : Ty} {c : Co} : kIsi2 t u Q c S = (c.noDict = true ∧ Q (.imm (.bool (isTy c t || isTy c u))) S) := rfl
@[simp] theorem wp_isi2 {t u : Ty} : Wp (isi2Op t u x) S Q ↔ Wp (coM x) S (kIsi2 t u Q) := by unfold isi2Op; simp only [wp_bind, wp_pure, wp_chk]; rfl
@[simp] theorem co_items_dd {kvs : List (D × D)} : Co.items (.d (.dict kvs)) = none := rfl
@[simp] theorem wp_int_add : Wp (intOp .add i j) S Q ↔ Q (.imm (.int (i + j))) S := by unfold intOp; simp
@[simp] theorem wp_int_sub : Wp (intOp .sub i j) S Q ↔ Q (.imm (.int (i - j))) S := by unfold intOp; simp
@[simp] theorem wp_int_mul : Wp (intOp .mul i j) S Q ↔ mulOk i j ∧ Q (.imm (.int (i * j))) S := by unfold intOp; simp
@[simp] theorem wp_int_fdiv : Wp (intOp .fdiv i j) S Q ↔ divOk i j ∧ Q (.imm (.int (i / j))) S := by unfold intOp; simp
@[simp] theorem wp_int_mod : Wp (intOp .mod i j) S Q ↔ 0 < j ∧ Q (.imm (.int (i % j))) S := by unfold intOp; simp
@[simp] theorem wp_int_pow : Wp (intOp .pow i j) S Q ↔ (0 ≤ j ∧ j ≤ 1000 ∧ i.natAbs < 2 ^ 63) ∧ Q (.imm (.int (i ^ j.toNat))) S := by unfold intOp; simp only [wp_bind, wp_chk, wp_pure]
@[simp] theorem wp_int_shl : Wp (intOp .shl i j) S Q ↔ (0 ≤ j ∧ j ≤ 1000 ∧ i.natAbs < 2 ^ 63) ∧ Q (.imm (.int (i * 2 ^ j.toNat))) S := by unfold intOp; simp only [wp_bind, wp_chk, wp_pure]
@[simp] theorem wp_int_shr : Wp (intOp .shr i j) S Q ↔ 0 ≤ j ∧ Q (.imm (.int (i / 2 ^ j.toNat))) S := by unfold intOp; simp
@[simp] theorem wp_int_band : Wp (intOp .band i j) S Q ↔ Q (.imm (.int (Builtin.bitAnd i j))) S := by unfold intOp; simp
@[simp] theorem wp_bin_int {op : Bop} : Wp (binOp op (.imm (.int i)) (.imm (.int j))) S Q ↔ Wp (intOp op i j) S Q := by unfold binOp; simp
@[simp] theorem wp_bin_tup : Wp (binOp .add (.imm (.tuple xs)) (.imm (.tuple ys))) S Q ↔ xs.length + ys.length ≤ sizeL ∧ Q (.imm (.tuple (xs ++ ys))) S := by unfold binOp; simp
@[simp] theorem wp_bin_new : Wp (binOp .add (.new (.lst xs)) (.new (.lst ys))) S Q ↔ xs.length + ys.length ≤ sizeL ∧ Q (.new (.lst (xs ++ ys))) S := by unfold binOp; simp
def kBinP (ys : List D) (Q : RV → Store → Prop) : Co → Store → Prop := fun c S => match c with
  | .o (.lst xs) => xs.length + ys.length ≤ sizeL ∧ Q (.new (.lst (xs ++ ys))) S
  | _ => False
@[simp] theorem kBinP_ap : kBinP ys Q (.o (.lst xs)) S = (xs.length + ys.length ≤ sizeL ∧ Q (.new (.lst (xs ++ ys))) S) := rfl
theorem wp_coP {Q : Co → Store → Prop} : Wp (coM (.ptr k)) S Q ↔ coQ Q S S[k]? := wp_co_ptr
@[simp] theorem wp_bin_ptr : Wp (binOp .add (.ptr k) (.new (.lst ys))) S Q ↔ coQ (kBinP ys Q) S S[k]? := by
  unfold binOp
  rw [wp_bind, wp_coP]
  cases h : S[k]? with
  | none => exact Iff.rfl
  | some e =>
    rw [coQ_some, coQ_some]
    cases e with
    | own o => cases o <;> simp [kBinP]
    | frz d => cases d <;> simp [kBinP]
def kBinN (xs : List D) (Q : RV → Store → Prop) : Co → Store → Prop := fun c S => match c with
  | .o (.lst ys) => xs.length + ys.length ≤ sizeL ∧ Q (.new (.lst (xs ++ ys))) S
  | _ => False
@[simp] theorem kBinN_ap : kBinN xs Q (.o (.lst ys)) S = (xs.length + ys.length ≤ sizeL ∧ Q (.new (.lst (xs ++ ys))) S) := rfl
@[simp] theorem wp_bin_newp : Wp (binOp .add (.new (.lst xs)) (.ptr k)) S Q ↔ coQ (kBinN xs Q) S S[k]? := by
  unfold binOp
  rw [wp_bind, wp_co_new, wp_bind, wp_coP]
  cases h : S[k]? with
  | none => exact Iff.rfl
  | some e =>
    rw [coQ_some, coQ_some]
    cases e with
    | own o => cases o <;> simp [kBinN]
    | frz d => cases d <;> simp [kBinN]
theorem wp_bin_pp {k' : Nat} (h : S[k]? = some (.own (.lst xs))) (h' : S[k']? = some (.own (.lst ys))) : Wp (binOp .add (.ptr k) (.ptr k')) S Q ↔ xs.length + ys.length ≤ sizeL ∧ Q (.new (.lst (xs ++ ys))) S := by
  unfold binOp
  simp [h, h']
@[simp] theorem wp_mul_tup : Wp (binOp .mul (.imm (.tuple xs)) (.imm (.int j))) S Q ↔ (j ≤ 1000 ∧ -1000 ≤ j ∧ xs.length ≤ 1000) ∧ Q (.imm (.tuple (List.replicate j.toNat xs).flatten)) S := by unfold binOp; simp
@[simp] theorem wp_mul_lst : Wp (binOp .mul (.new (.lst xs)) (.imm (.int j))) S Q ↔ (j ≤ 1000 ∧ -1000 ≤ j ∧ xs.length ≤ 1000) ∧ Q (.new (.lst (List.replicate j.toNat xs).flatten)) S := by unfold binOp; simp
@[simp] theorem wp_lt : Wp (cmpOp .lt (.imm (.int i)) (.imm (.int j))) S Q ↔ Q (.imm (.bool (decide (i < j)))) S := by unfold cmpOp; simp
@[simp] theorem wp_le : Wp (cmpOp .le (.imm (.int i)) (.imm (.int j))) S Q ↔ Q (.imm (.bool (decide (i ≤ j)))) S := by unfold cmpOp; simp
@[simp] theorem wp_gt : Wp (cmpOp .gt (.imm (.int i)) (.imm (.int j))) S Q ↔ Q (.imm (.bool (decide (j < i)))) S := by unfold cmpOp; simp
@[simp] theorem wp_ge : Wp (cmpOp .ge (.imm (.int i)) (.imm (.int j))) S Q ↔ Q (.imm (.bool (decide (j ≤ i)))) S := by unfold cmpOp; simp
theorem shaped_int : SeqAt.shaped (.int i) = true := rfl
theorem shaped_none : SeqAt.shaped .none = true := rfl
theorem shaped_bool : SeqAt.shaped (.bool b) = true := rfl
@[simp] theorem wp_eq_int : Wp (cmpOp .eq (.imm (.int i)) (.imm (.int j))) S Q ↔ Q (.imm (.bool (decide (i = j)))) S := by
  unfold cmpOp
  simp [shaped_int, PyData.eqv]
  rfl
@[simp] theorem wp_ne_int : Wp (cmpOp .ne (.imm (.int i)) (.imm (.int j))) S Q ↔ Q (.imm (.bool (decide (i ≠ j)))) S := by
  unfold cmpOp
  simp [shaped_int, PyData.eqv]
  rfl
@[simp] theorem wp_ne_bool {b' : Bool} : Wp (cmpOp .ne (.imm (.bool b)) (.imm (.bool b'))) S Q ↔ Q (.imm (.bool (b != b'))) S := by
  unfold cmpOp
  cases b <;> cases b' <;> simp [shaped_bool, PyData.eqv]
def kEq2 (a : Co) (Q : RV → Store → Prop) : Co → Store → Prop := fun c S => (SeqAt.shaped a.dat = true ∧ SeqAt.shaped c.dat = true) ∧ Q (.imm (.bool (PyData.eqv a.dat c.dat))) S
def kEq1 (y : RV) (Q : RV → Store → Prop) : Co → Store → Prop := fun c S => Wp (coM y) S (kEq2 c Q)
@[simp] theorem kEq2_ap {a c : Co} : kEq2 a Q c S = ((SeqAt.shaped a.dat = true ∧ SeqAt.shaped c.dat = true) ∧ Q (.imm (.bool (PyData.eqv a.dat c.dat))) S) := rfl
@[simp] theorem kEq1_ap {y : RV} {c : Co} : kEq1 y Q c S = Wp (coM y) S (kEq2 c Q) := rfl
theorem wp_eq {y : RV} : Wp (cmpOp .eq x y) S Q ↔ Wp (coM x) S (kEq1 y Q) := by
  unfold cmpOp; simp only [wp_bind, wp_pure, wp_chk]; rfl
def kNe2 (a : Co) (Q : RV → Store → Prop) : Co → Store → Prop := fun c S => (SeqAt.shaped a.dat = true ∧ SeqAt.shaped c.dat = true) ∧ Q (.imm (.bool (!PyData.eqv a.dat c.dat))) S
def kNe1 (y : RV) (Q : RV → Store → Prop) : Co → Store → Prop := fun c S => Wp (coM y) S (kNe2 c Q)
@[simp] theorem kNe2_ap {a c : Co} : kNe2 a Q c S = ((SeqAt.shaped a.dat = true ∧ SeqAt.shaped c.dat = true) ∧ Q (.imm (.bool (!PyData.eqv a.dat c.dat))) S) := rfl
@[simp] theorem kNe1_ap {y : RV} {c : Co} : kNe1 y Q c S = Wp (coM y) S (kNe2 c Q) := rfl
theorem wp_ne {y : RV} : Wp (cmpOp .ne x y) S Q ↔ Wp (coM x) S (kNe1 y Q) := by
  unfold cmpOp; simp only [wp_bind, wp_pure, wp_chk]; rfl
theorem any_int {ns : List Int} {n : Int} : ((ns.map PyData.int).any fun y => PyData.eqv y (.int n)) = decide (n ∈ ns) := by
  induction ns with
  | nil => simp
  | cons m ns ih =>
    rw [List.map_cons, List.any_cons, ih]
    by_cases h : n = m
    · subst h; simp [PyData.eqv]
    · have h' : ¬ m = n := fun e => h e.symm
      simp [PyData.eqv, h, h']
theorem all_flat_int {ns : List Int} : ((ns.map PyData.int).all flatD) = true := by
  induction ns with
  | nil => rfl
  | cons m ns ih => rw [List.map_cons, List.all_cons, ih]; rfl
theorem wp_in_tup {ns : List Int} : Wp (cmpOp .inn (.imm (.int i)) (.imm (.tuple (ns.map .int)))) S Q ↔ Q (.imm (.bool (decide (i ∈ ns)))) S := by
  unfold cmpOp
  simp only [wp_bind, wp_co_imm, co_items_t, co_dat_d, wp_chk, wp_pure, any_int, all_flat_int]
  simp [flatD]
theorem wp_nin_tup {ns : List Int} : Wp (cmpOp .notin (.imm (.int i)) (.imm (.tuple (ns.map .int)))) S Q ↔ Q (.imm (.bool (!decide (i ∈ ns)))) S := by
  unfold cmpOp
  simp only [wp_bind, wp_co_imm, co_items_t, co_dat_d, wp_chk, wp_pure, any_int, all_flat_int]
  simp [flatD]
theorem wp_in_new {ns : List Int} : Wp (cmpOp .inn (.imm (.int i)) (.new (.lst (ns.map .int)))) S Q ↔ Q (.imm (.bool (decide (i ∈ ns)))) S := by
  unfold cmpOp
  simp only [wp_bind, wp_co_imm, wp_co_new, co_items_ol, co_dat_d, wp_chk, wp_pure, any_int, all_flat_int]
  simp [flatD]
def kIm (Q : RV → Store → Prop) : D → Store → Prop := fun d S => Q (.imm d) S
@[simp] theorem kIm_ap : kIm Q d S = Q (.imm d) S := rfl
@[simp] theorem wp_sub_tup : Wp (subOp (.imm (.tuple xs)) (.imm (.int j))) S Q ↔ Wp (lift (L2.atI xs j)) S (kIm Q) := by unfold subOp; simp; rfl
@[simp] theorem wp_sub_lst : Wp (subOp (.imm (.list xs)) (.imm (.int j))) S Q ↔ Wp (lift (L2.atI xs j)) S (kIm Q) := by unfold subOp; simp; rfl
@[simp] theorem wp_sub_new : Wp (subOp (.new (.lst xs)) (.imm (.int j))) S Q ↔ Wp (lift (L2.atI xs j)) S (kIm Q) := by unfold subOp; simp; rfl
def subQ (j : D) (Q : RV → Store → Prop) (S : Store) : Co → Prop := fun c => Wp (match c.kitems.or c.items, c.keyed with
  | some xs, _ => do
    let j ← lift (Co.d j).int
    let d ← lift (L2.atI xs j)
    pure (.imm d)
  | none, some kvs => do
    chk (keyFits kvs j = true)
    let d ← lift (dget kvs j)
    pure (.imm d)
  | none, none => M.err) S Q
@[simp] theorem subQ_lst : subQ (.int j) Q S (.o (.lst xs)) ↔ Wp (lift (L2.atI xs j)) S (kIm Q) := by unfold subQ; simp; rfl
@[simp] theorem subQ_tup : subQ (.int j) Q S (.d (.tuple xs)) ↔ Wp (lift (L2.atI xs j)) S (kIm Q) := by unfold subQ; simp; rfl
@[simp] theorem subQ_dl : subQ (.int j) Q S (.d (.list xs)) ↔ Wp (lift (L2.atI xs j)) S (kIm Q) := by unfold subQ; simp; rfl
def kSub (j : D) (Q : RV → Store → Prop) : Co → Store → Prop := fun c S => subQ j Q S c
@[simp] theorem kSub_ap {c : Co} {d : D} : kSub d Q c S = subQ d Q S c := rfl
@[simp] theorem wp_sub_ptr : Wp (subOp (.ptr k) (.imm d)) S Q ↔ coQ (kSub d Q) S S[k]? := by
  unfold subOp
  rw [wp_bind, wp_coP]
  cases h : S[k]? with
  | none => exact Iff.rfl
  | some e =>
    rw [coQ_some, coQ_some, wp_bind, wp_co_imm]
    rfl
theorem at_nat {β : Type} {zs : List β} {n : Nat} : L2.atI zs (n : Int) = zs[n]? := by
  unfold L2.atI L2.ixN
  rw [if_pos (by omega)]
  split
  · simp
  · rename_i h
    rw [List.getElem?_eq_none (by omega)]; rfl
theorem at_pos {β : Type} {zs : List β} {i : Int} (h : 0 ≤ i) : L2.atI zs i = zs[i.toNat]? := by
  obtain ⟨n, rfl⟩ := Int.eq_ofNat_of_zero_le h
  rw [at_nat]; rfl
@[simp] theorem at_0 {β : Type} {zs : List β} : L2.atI zs 0 = zs[0]? := at_nat (n := 0)
@[simp] theorem at_1 {β : Type} {zs : List β} : L2.atI zs 1 = zs[1]? := at_nat (n := 1)
@[simp] theorem at_2 {β : Type} {zs : List β} : L2.atI zs 2 = zs[2]? := at_nat (n := 2)
@[simp] theorem at_3 {β : Type} {zs : List β} : L2.atI zs 3 = zs[3]? := at_nat (n := 3)
theorem at_neg {β : Type} {zs : List β} : L2.atI zs (-1) = zs.getLast? := by
  unfold L2.atI L2.ixN
  rw [if_neg (by omega)]
  cases zs with
  | nil => rfl
  | cons z zs =>
    rw [if_pos (by simp only [List.length_cons]; omega), List.getLast?_eq_getElem?, Option.bind_some]
    congr 1
    simp only [List.length_cons]
    omega
@[simp] theorem wp_slc_tup {lo hi : Option Int} : Wp (slcOp (.imm (.tuple xs)) lo hi) S Q ↔ Q (.imm (.tuple (cutD xs lo hi))) S := by unfold slcOp; simp
@[simp] theorem wp_slc_lst {lo hi : Option Int} : Wp (slcOp (.imm (.list xs)) lo hi) S Q ↔ Q (.new (.lst (cutD xs lo hi))) S := by unfold slcOp; simp
def kLen (Q : RV → Store → Prop) : Co → Store → Prop := fun c S => match c with
  | .o (.lst xs) => Q (.imm (.int xs.length)) S
  | .d (.list xs) => Q (.imm (.int xs.length)) S
  | .d (.tuple xs) => Q (.imm (.int xs.length)) S
  | _ => Wp (biOp .len [.imm .none]) S Q
@[simp] theorem kLen_ol : kLen Q (.o (.lst xs)) S = Q (.imm (.int xs.length)) S := rfl
@[simp] theorem kLen_l : kLen Q (.d (.list xs)) S = Q (.imm (.int xs.length)) S := rfl
@[simp] theorem kLen_t : kLen Q (.d (.tuple xs)) S = Q (.imm (.int xs.length)) S := rfl
theorem wp_len {c : Co} {S' : Store} (h : Wp (coM x) S fun c' T => c' = c ∧ T = S') {xs : List D} (hc : c.items = some xs) : Wp (biOp .len [x]) S Q ↔ Q (.imm (.int xs.length)) S' := by
  unfold biOp
  simp only [wp_bind]
  obtain ⟨c', T, e, rfl, rfl⟩ := h
  constructor
  · rintro ⟨a, T', e2, q⟩
    rw [e] at e2; cases e2
    simp only [hc] at q
    simpa using q
  · intro q
    refine ⟨_, _, e, ?_⟩
    simp only [hc]
    simpa using q
@[simp] theorem wp_len_tup : Wp (biOp .len [.imm (.tuple xs)]) S Q ↔ Q (.imm (.int xs.length)) S := wp_len (c := .d (.tuple xs)) (by simp) rfl
@[simp] theorem wp_len_lst : Wp (biOp .len [.imm (.list xs)]) S Q ↔ Q (.imm (.int xs.length)) S := wp_len (c := .d (.list xs)) (by simp) rfl
@[simp] theorem wp_len_new : Wp (biOp .len [.new (.lst xs)]) S Q ↔ Q (.imm (.int xs.length)) S := wp_len (c := .o (.lst xs)) (by simp) rfl
theorem wp_len_ptr (h : S[k]? = some (.own (.lst xs))) : Wp (biOp .len [.ptr k]) S Q ↔ Q (.imm (.int xs.length)) S := wp_len (c := .o (.lst xs)) (by simp [h]) rfl
def lenQ (Q : RV → Store → Prop) (S : Store) : Option Ent → Prop
  | some (.own (.lst xs)) => Q (.imm (.int xs.length)) S
  | some (.frz (.list xs)) => Q (.imm (.int xs.length)) S
  | some (.frz (.tuple xs)) => Q (.imm (.int xs.length)) S
  | some e => Wp (biOp .len [match e with | .own o => .new o | .frz d => .imm d]) S Q
  | none => False
@[simp] theorem lenQ_own : lenQ Q S (some (.own (.lst xs))) = Q (.imm (.int xs.length)) S := rfl
@[simp] theorem lenQ_frz : lenQ Q S (some (.frz (.list xs))) = Q (.imm (.int xs.length)) S := rfl
@[simp] theorem wp_len_p : Wp (biOp .len [.ptr k]) S Q ↔ lenQ Q S S[k]? := by
  cases h : S[k]? with
  | none =>
    unfold biOp
    simp [h, lenQ]
  | some e =>
    cases e with
    | own o =>
      cases o with
      | lst xs => exact wp_len_ptr h
      | dic kvs =>
        show _ ↔ Wp (biOp .len [.new (.dic kvs)]) S Q
        unfold biOp
        simp [h]
    | frz d =>
      cases d with
      | list xs => exact wp_len (c := .d (.list xs)) (by simp [h]) rfl
      | tuple xs => exact wp_len (c := .d (.tuple xs)) (by simp [h]) rfl
      | _ =>
        show _ ↔ Wp (biOp .len [.imm _]) S Q
        unfold biOp
        simp [h]
@[simp] theorem wp_abs : Wp (biOp .abs [.imm (.int i)]) S Q ↔ Q (.imm (.int (if i < 0 then -i else i))) S := by unfold biOp; simp
@[simp] theorem wp_int : Wp (biOp .int [.imm (.int i)]) S Q ↔ Q (.imm (.int i)) S := by unfold biOp; simp
@[simp] theorem wp_max2 : Wp (biOp .max2 [.imm (.int i), .imm (.int j)]) S Q ↔ Q (.imm (.int (if j > i then j else i))) S := by unfold biOp; simp
@[simp] theorem wp_min2 : Wp (biOp .min2 [.imm (.int i), .imm (.int j)]) S Q ↔ Q (.imm (.int (if j < i then j else i))) S := by unfold biOp; simp
theorem asInts_map {ns : List Int} : asInts (ns.map .int) = some ns := by
  induction ns with
  | nil => rfl
  | cons n ns ih => rw [List.map_cons]; unfold asInts; rw [ih]; rfl
theorem asBools_map {ns : List Bool} : asBools (ns.map .bool) = some ns := by
  induction ns with
  | nil => rfl
  | cons n ns ih => rw [List.map_cons]; unfold asBools; rw [ih]; rfl
theorem wp_sum_new {ns : List Int} : Wp (biOp .sum [.new (.lst (ns.map .int))]) S Q ↔ Q (.imm (.int ns.sum)) S := by unfold biOp; simp [asInts_map]
theorem wp_sum_tup {ns : List Int} : Wp (biOp .sum [.imm (.tuple (ns.map .int))]) S Q ↔ Q (.imm (.int ns.sum)) S := by unfold biOp; simp [asInts_map]
theorem wp_max1_tup {ns : List Int} : Wp (biOp .max1 [.imm (.tuple (ns.map .int))]) S Q ↔ ns ≠ [] ∧ Q (.imm (.int (maxI ns))) S := by unfold biOp; simp [asInts_map]
theorem wp_min1_new {ns : List Int} : Wp (biOp .min1 [.new (.lst (ns.map .int))]) S Q ↔ ns ≠ [] ∧ Q (.imm (.int (minI ns))) S := by unfold biOp; simp [asInts_map]
theorem wp_all_new {bs : List Bool} : Wp (biOp .all [.new (.lst (bs.map .bool))]) S Q ↔ Q (.imm (.bool (bs.all id))) S := by unfold biOp; simp [asBools_map]
theorem wp_any_new {bs : List Bool} : Wp (biOp .any [.new (.lst (bs.map .bool))]) S Q ↔ Q (.imm (.bool (bs.any id))) S := by unfold biOp; simp [asBools_map]
@[simp] theorem wp_tuple_new : Wp (biOp .tuple [.new (.lst xs)]) S Q ↔ Q (.imm (.tuple xs)) S := by unfold biOp; simp
@[simp] theorem wp_tuple_tup : Wp (biOp .tuple [.imm (.tuple xs)]) S Q ↔ Q (.imm (.tuple xs)) S := by unfold biOp; simp
@[simp] theorem wp_tuple_lst : Wp (biOp .tuple [.imm (.list xs)]) S Q ↔ Q (.imm (.tuple xs)) S := by unfold biOp; simp
def tupQ (Q : RV → Store → Prop) (S : Store) : Option Ent → Prop
  | some (.own (.lst xs)) => Q (.imm (.tuple xs)) S
  | some (.frz (.list xs)) => Q (.imm (.tuple xs)) S
  | some (.frz (.tuple xs)) => Q (.imm (.tuple xs)) S
  | _ => False
@[simp] theorem tupQ_own : tupQ Q S (some (.own (.lst xs))) = Q (.imm (.tuple xs)) S := rfl
@[simp] theorem tupQ_frz : tupQ Q S (some (.frz (.list xs))) = Q (.imm (.tuple xs)) S := rfl
@[simp] theorem wp_tuple_ptr : Wp (biOp .tuple [.ptr k]) S Q ↔ tupQ Q S S[k]? := by
  unfold biOp
  simp only [wp_bind, wp_co_ptr]
  cases h : S[k]? with
  | none => exact Iff.rfl
  | some e =>
    rw [coQ_some]
    cases e with
    | own o => cases o <;> simp [tupQ]
    | frz d => cases d <;> simp [tupQ, co_items_dd]
def ptQ (f : Bi) (Q : RV → Store → Prop) (S : Store) : Option Ent → Prop
  | some (.own o) => Wp (biOp f [.new o]) S Q
  | some (.frz d) => Wp (biOp f [.imm d]) S Q
  | none => False
@[simp] theorem ptQ_own {f : Bi} : ptQ f Q S (some (.own ob)) = Wp (biOp f [.new ob]) S Q := rfl
@[simp] theorem ptQ_frz {f : Bi} : ptQ f Q S (some (.frz d)) = Wp (biOp f [.imm d]) S Q := rfl
theorem wp_bi_ptr {f : Bi} {g : Co → M RV} (hf : ∀ r, biOp f [r] = coM r >>= g) : Wp (biOp f [.ptr k]) S Q ↔ ptQ f Q S S[k]? := by
  rw [hf, wp_bind, wp_co_ptr]
  cases h : S[k]? with
  | none => exact Iff.rfl
  | some e =>
    cases e with
    | own o => rw [coQ_some, ptQ_own, hf, wp_bind, wp_co_new]; rfl
    | frz d => rw [coQ_some, ptQ_frz, hf, wp_bind, wp_co_imm]; rfl
@[simp] theorem wp_list_p : Wp (biOp .list [.ptr k]) S Q ↔ ptQ .list Q S S[k]? := wp_bi_ptr fun r => rfl
@[simp] theorem wp_sorted_p : Wp (biOp .sorted [.ptr k]) S Q ↔ ptQ .sorted Q S S[k]? := wp_bi_ptr fun r => rfl
@[simp] theorem wp_sum_p : Wp (biOp .sum [.ptr k]) S Q ↔ ptQ .sum Q S S[k]? := wp_bi_ptr fun r => rfl
@[simp] theorem wp_all_p : Wp (biOp .all [.ptr k]) S Q ↔ ptQ .all Q S S[k]? := wp_bi_ptr fun r => rfl
@[simp] theorem wp_any_p : Wp (biOp .any [.ptr k]) S Q ↔ ptQ .any Q S S[k]? := wp_bi_ptr fun r => rfl
@[simp] theorem wp_min1_p : Wp (biOp .min1 [.ptr k]) S Q ↔ ptQ .min1 Q S S[k]? := wp_bi_ptr fun r => rfl
@[simp] theorem wp_max1_p : Wp (biOp .max1 [.ptr k]) S Q ↔ ptQ .max1 Q S S[k]? := wp_bi_ptr fun r => rfl
@[simp] theorem wp_list_new : Wp (biOp .list [.new (.lst xs)]) S Q ↔ Q (.new (.lst xs)) S := by unfold biOp; simp
@[simp] theorem wp_list_tup : Wp (biOp .list [.imm (.tuple xs)]) S Q ↔ Q (.new (.lst xs)) S := by unfold biOp; simp
@[simp] theorem wp_list_lst : Wp (biOp .list [.imm (.list xs)]) S Q ↔ Q (.new (.lst xs)) S := by unfold biOp; simp
@[simp] theorem wp_sorted_new : Wp (biOp .sorted [.new (.lst xs)]) S Q ↔ sortOk xs ∧ Q (.new (.lst (sortD xs))) S := by unfold biOp; simp
@[simp] theorem wp_trng1 : Wp (biOp .trng1 [.imm (.int i)]) S Q ↔ (-1000000 ≤ i ∧ i ≤ 1000000) ∧ Q (.imm (.tuple (rngD 0 i))) S := by unfold biOp; simp
@[simp] theorem wp_trng2 : Wp (biOp .trng2 [.imm (.int i), .imm (.int j)]) S Q ↔ (-1000000 ≤ i ∧ i ≤ 1000000 ∧ -1000000 ≤ j ∧ j ≤ 1000000) ∧ Q (.imm (.tuple (rngD i j))) S := by unfold biOp; simp
@[simp] theorem wp_lrng1 : Wp (biOp .lrng1 [.imm (.int i)]) S Q ↔ (-1000000 ≤ i ∧ i ≤ 1000000) ∧ Q (.new (.lst (rngD 0 i))) S := by unfold biOp; simp
theorem wp_sortset {ns : List Int} : Wp (biOp .sortset [.imm (.tuple (ns.map .int))]) S Q ↔ ns.length ≤ 60 ∧ Q (.new (.lst ((sortI (dedup ns)).map .int))) S := by unfold biOp; simp [asInts_map]
@[simp] theorem wp_lzip_tup : Wp (biOp .lzip [.imm (.tuple xs), .imm (.tuple ys)]) S Q ↔ Q (.new (.lst (zipD xs ys))) S := by unfold biOp; simp
end
section
variable {S : Store} {Q : List D × List Nat → Store → Prop} {xs ys : List D} {i j : Int} {k : Nat}
@[simp] theorem wp_rng1 : Wp (rng1Op (.imm (.int i))) S Q ↔ (-1000000 ≤ i ∧ i ≤ 1000000) ∧ Q (rngD 0 i, []) S := by unfold rng1Op; simp
@[simp] theorem wp_rng2 : Wp (rng2Op (.imm (.int i)) (.imm (.int j))) S Q ↔ (-1000000 ≤ i ∧ i ≤ 1000000 ∧ -1000000 ≤ j ∧ j ≤ 1000000) ∧ Q (rngD i j, []) S := by unfold rng2Op; simp
@[simp] theorem wp_seq_tup : Wp (seqOp (.imm (.tuple xs))) S Q ↔ Q (xs, []) S := by unfold seqOp itemsOf; simp; rfl
@[simp] theorem wp_seq_lst : Wp (seqOp (.imm (.list xs))) S Q ↔ Q (xs, []) S := by unfold seqOp itemsOf; simp; rfl
@[simp] theorem wp_seq_new : Wp (seqOp (.new (.lst xs))) S Q ↔ Q (xs, []) S := by unfold seqOp itemsOf; simp; rfl
def seqQ (k : Nat) (Q : List D × List Nat → Store → Prop) (S : Store) : Option Ent → Prop
  | some (.own (.lst xs)) => Q (xs, [k]) S
  | some (.frz (.list xs)) => Q (xs, [k]) S
  | some (.frz (.tuple xs)) => Q (xs, [k]) S
  | _ => False
@[simp] theorem seqQ_own : seqQ k Q S (some (.own (.lst xs))) = Q (xs, [k]) S := rfl
@[simp] theorem seqQ_frz : seqQ k Q S (some (.frz (.list xs))) = Q (xs, [k]) S := rfl
@[simp] theorem wp_seq_ptr : Wp (seqOp (.ptr k)) S Q ↔ seqQ k Q S S[k]? := by
  unfold seqOp itemsOf
  simp only [wp_bind, wp_co_ptr]
  cases h : S[k]? with
  | none => exact Iff.rfl
  | some e =>
    rw [coQ_some]
    cases e with
    | own o => cases o <;> simp [seqQ, chks]
    | frz d => cases d <;> simp [seqQ, chks, co_items_dd]
@[simp] theorem wp_enum_tup : Wp (enumOp (.imm (.tuple xs))) S Q ↔ Q (xs.zipIdx.map fun p => pairD (.int (p.2 : Nat)) p.1, []) S := by unfold enumOp itemsOf; simp; rfl
@[simp] theorem wp_enum_lst : Wp (enumOp (.imm (.list xs))) S Q ↔ Q (xs.zipIdx.map fun p => pairD (.int (p.2 : Nat)) p.1, []) S := by unfold enumOp itemsOf; simp; rfl
@[simp] theorem wp_zip_tup : Wp (zipOp (.imm (.tuple xs)) (.imm (.tuple ys))) S Q ↔ Q (zipD xs ys, []) S := by unfold zipOp itemsOf; simp; rfl
end
section
variable {S : Store} {Q : Unit → Store → Prop} {R : RV → Store → Prop} {xs ys : List D} {i j : Int} {k : Nat} {d : D}
theorem wp_set_lst {n : Nat} {v : RV} (h : S[k]? = some (.own (.lst xs))) (hn : L2.ixN xs.length j = some n) (hv : Wp (frzM v) S fun d T => T = S ∧ Q () (S.set k (.own (.lst (xs.set n d))))) : Wp (setOp (.ptr k) (.imm (.int j)) v) S Q := by
  unfold setOp
  simp only [wp_bind, wp_co_ptr, h, coQ_some, co_own, wp_co_imm, co_int_i, wp_lift_some, hn]
  refine hv.mono fun d T q => ?_
  obtain ⟨rfl, q⟩ := q
  rw [wp_getS]
  simpa [h] using q
theorem ix_nat {n m : Nat} (h : m < n) : L2.ixN n (m : Int) = some m := by
  unfold L2.ixN
  rw [if_pos (by omega), if_pos (by omega)]
  simp
theorem wp_app {v : RV} (h : Wp (frzM v) S fun d T => T[k]? = some (.own (.lst xs)) ∧ xs.length < sizeL ∧ Q () (T.set k (.own (.lst (xs ++ [d]))))) : Wp (appOp (.ptr k) v) S Q := by
  unfold appOp
  rw [wp_bind]
  refine h.mono fun d T q => ?_
  obtain ⟨h1, h2, h3⟩ := q
  rw [wp_bind, wp_co_ptr, h1, coQ_some, co_own]
  simp only [wp_bind, wp_chk, wp_getS, wp_putS]
  exact ⟨h2, h3⟩
theorem wp_ext_new (h : S[k]? = some (.own (.lst xs))) (hl : xs.length + ys.length ≤ sizeL) (q : Q () (S.set k (.own (.lst (xs ++ ys))))) : Wp (extOp (.ptr k) (.new (.lst ys))) S Q := by
  unfold extOp
  rw [wp_bind, wp_co_new, wp_bind, wp_co_ptr, h, coQ_some, co_own]
  simp only [wp_bind, wp_chk, wp_getS, wp_putS]
  exact ⟨hl, q⟩
theorem wp_pop (h : S[k]? = some (.own (.lst xs))) {d : D} (hd : xs.getLast? = some d) (q : R (.imm d) (S.set k (.own (.lst xs.dropLast)))) : Wp (meOp .pop (.ptr k) []) S R := by
  unfold meOp
  simp only [wp_bind, wp_co_ptr, h, coQ_some, co_own, hd, wp_lift_some, wp_getS, wp_putS, wp_pure]
  exact q
theorem wp_popAt {n : Nat} (h : S[k]? = some (.own (.lst xs))) {d : D} (hn : n < sizeL) (hd : xs[n]? = some d) (q : R (.imm d) (S.set k (.own (.lst (xs.eraseIdx n))))) : Wp (meOp .popAt (.ptr k) [.imm (.int (n : Nat))]) S R := by
  unfold meOp
  simp only [wp_bind, wp_co_ptr, h, coQ_some, co_own, wp_co_imm, co_int_i, Int.toNat_natCast, hd, wp_lift_some, wp_getS, wp_putS, wp_pure, wp_chk]
  exact ⟨by omega, q⟩
end
section
variable {S : Store} {Q : Unit → Store → Prop} {R : RV → Store → Prop} {xs ys : List D} {i j : Int} {k n : Nat} {d : D} {v : RV}
def kSe2 (k : Nat) (xs : List D) (n : Nat) (Q : Unit → Store → Prop) : D → Store → Prop := fun d S => S[k]? = some (.own (.lst xs)) ∧ Q () (S.set k (.own (.lst (xs.set n d))))
@[simp] theorem kSe2_ap : kSe2 k xs n Q d S = (S[k]? = some (.own (.lst xs)) ∧ Q () (S.set k (.own (.lst (xs.set n d))))) := rfl
def kSe1 (k : Nat) (xs : List D) (v : RV) (Q : Unit → Store → Prop) : Nat → Store → Prop := fun n S => Wp (frzM v) S (kSe2 k xs n Q)
@[simp] theorem kSe1_ap : kSe1 k xs v Q n S = Wp (frzM v) S (kSe2 k xs n Q) := rfl
def setQ (k : Nat) (j : Int) (v : RV) (Q : Unit → Store → Prop) (S : Store) : Option Ent → Prop
  | some (.own (.lst xs)) => Wp (lift (L2.ixN xs.length j)) S (kSe1 k xs v Q)
  | _ => Wp (setOp (.ptr k) (.imm (.int j)) v) S Q
@[simp] theorem setQ_own : setQ k j v Q S (some (.own (.lst xs))) = Wp (lift (L2.ixN xs.length j)) S (kSe1 k xs v Q) := rfl
@[simp] theorem wp_set_int : Wp (setOp (.ptr k) (.imm (.int j)) v) S Q ↔ setQ k j v Q S S[k]? := by
  cases h : S[k]? with
  | none => exact Iff.rfl
  | some e =>
    cases e with
    | frz d => exact Iff.rfl
    | own o =>
      cases o with
      | dic kvs => exact Iff.rfl
      | lst xs =>
        unfold setOp
        simp only [wp_bind, wp_co_ptr, h, coQ_some, co_own, wp_co_imm, co_int_i, wp_lift_some, wp_getS, wp_chk, wp_putS]
        rfl
def appQ (k : Nat) (d : D) (Q : Unit → Store → Prop) (S : Store) : Option Ent → Prop
  | some (.own (.lst xs)) => xs.length < sizeL ∧ Q () (S.set k (.own (.lst (xs ++ [d]))))
  | _ => False
@[simp] theorem appQ_own : appQ k d Q S (some (.own (.lst xs))) = (xs.length < sizeL ∧ Q () (S.set k (.own (.lst (xs ++ [d]))))) := rfl
def kApp (k : Nat) (Q : Unit → Store → Prop) : D → Store → Prop := fun d S => appQ k d Q S S[k]?
@[simp] theorem kApp_ap : kApp k Q d S = appQ k d Q S S[k]? := rfl
@[simp] theorem wp_app_ptr : Wp (appOp (.ptr k) v) S Q ↔ Wp (frzM v) S (kApp k Q) := by
  unfold appOp
  rw [wp_bind]
  refine ⟨fun h => h.mono fun d T q => ?_, fun h => h.mono fun d T q => ?_⟩
  · rw [wp_bind, wp_co_ptr] at q
    rw [kApp_ap]
    cases h : T[k]? with
    | none => rw [h] at q; exact q.elim
    | some e =>
      rw [h, coQ_some] at q
      cases e with
      | frz d => simp at q
      | own o =>
        cases o with
        | dic kvs => simp at q
        | lst xs => simpa using q
  · rw [wp_bind, wp_co_ptr]
    rw [kApp_ap] at q
    cases h : T[k]? with
    | none => rw [h] at q; exact q.elim
    | some e =>
      rw [h] at q
      rw [coQ_some]
      cases e with
      | frz d => exact q.elim
      | own o =>
        cases o with
        | dic kvs => exact q.elim
        | lst xs => simpa using q
def extQ (k : Nat) (ys : List D) (Q : Unit → Store → Prop) (S : Store) : Option Ent → Prop
  | some (.own (.lst xs)) => xs.length + ys.length ≤ sizeL ∧ Q () (S.set k (.own (.lst (xs ++ ys))))
  | _ => False
@[simp] theorem extQ_own : extQ k ys Q S (some (.own (.lst xs))) = (xs.length + ys.length ≤ sizeL ∧ Q () (S.set k (.own (.lst (xs ++ ys))))) := rfl
@[simp] theorem wp_ext_n : Wp (extOp (.ptr k) (.new (.lst ys))) S Q ↔ extQ k ys Q S S[k]? := by
  unfold extOp
  rw [wp_bind, wp_co_new, wp_bind, wp_co_ptr]
  cases h : S[k]? with
  | none => exact Iff.rfl
  | some e =>
    rw [coQ_some]
    cases e with
    | frz d => simp [extQ]
    | own o =>
      cases o with
      | dic kvs => simp [extQ]
      | lst xs => simp [extQ]
def kPop2 (k : Nat) (xs : List D) (R : RV → Store → Prop) : D → Store → Prop := fun d S => R (.imm d) (S.set k (.own (.lst xs.dropLast)))
@[simp] theorem kPop2_ap : kPop2 k xs R d S = R (.imm d) (S.set k (.own (.lst xs.dropLast))) := rfl
def popQ (k : Nat) (R : RV → Store → Prop) (S : Store) : Option Ent → Prop
  | some (.own (.lst xs)) => Wp (lift xs.getLast?) S (kPop2 k xs R)
  | _ => False
@[simp] theorem popQ_own : popQ k R S (some (.own (.lst xs))) = Wp (lift xs.getLast?) S (kPop2 k xs R) := rfl
@[simp] theorem wp_pop_ptr : Wp (meOp .pop (.ptr k) []) S R ↔ popQ k R S S[k]? := by
  unfold meOp
  simp only [wp_bind, wp_co_ptr]
  cases h : S[k]? with
  | none => exact Iff.rfl
  | some e =>
    rw [coQ_some]
    cases e with
    | frz d => simp [popQ]
    | own o =>
      cases o with
      | dic kvs => simp [popQ]
      | lst xs =>
        simp only [co_own, wp_bind, wp_getS, wp_putS, wp_pure]
        rfl
def kPat2 (k : Nat) (n : Nat) (xs : List D) (R : RV → Store → Prop) : D → Store → Prop := fun d S => R (.imm d) (S.set k (.own (.lst (xs.eraseIdx n))))
@[simp] theorem kPat2_ap : kPat2 k n xs R d S = R (.imm d) (S.set k (.own (.lst (xs.eraseIdx n)))) := rfl
def patQ (k : Nat) (i : Int) (R : RV → Store → Prop) (S : Store) : Option Ent → Prop
  | some (.own (.lst xs)) => (0 ≤ i ∧ i < sizeL) ∧ Wp (lift xs[i.toNat]?) S (kPat2 k i.toNat xs R)
  | _ => False
@[simp] theorem patQ_own : patQ k i R S (some (.own (.lst xs))) = ((0 ≤ i ∧ i < sizeL) ∧ Wp (lift xs[i.toNat]?) S (kPat2 k i.toNat xs R)) := rfl
@[simp] theorem wp_pat_ptr : Wp (meOp .popAt (.ptr k) [.imm (.int i)]) S R ↔ patQ k i R S S[k]? := by
  unfold meOp
  simp only [wp_bind, wp_co_ptr]
  cases h : S[k]? with
  | none => exact Iff.rfl
  | some e =>
    rw [coQ_some]
    cases e with
    | frz d => simp [patQ]
    | own o =>
      cases o with
      | dic kvs => simp [patQ]
      | lst xs =>
        simp only [co_own, wp_bind, wp_getS, wp_putS, wp_pure, wp_co_imm, co_int_i, wp_lift_some, wp_chk]
        rfl
end
section
variable {env : Env} {i : Nat} {d : D}
@[simp] theorem asg_name : asgG (.name i) d env = if i < env.length then some (env.set i (some (.d d))) else none := rfl
@[simp] theorem asg_tup {gs : List MG} {xs : List D} : asgG (.tup gs) (.tuple xs) env = if gs.length = xs.length then asgGs gs xs env else none := rfl
@[simp] theorem asgs_nil {xs : List D} : asgGs [] xs env = some env := by unfold asgGs; rfl
@[simp] theorem asgs_cons {g : MG} {gs : List MG} {x : D} {xs : List D} : asgGs (g :: gs) (x :: xs) env = (asgG g x env).bind (asgGs gs xs) := by
  conv => lhs; unfold asgGs
end
@[simp] theorem wipe_nil {env : Env} : wipeE env [] = env := rfl
@[simp] theorem wipe_cons {env : Env} {i : Nat} {is : List Nat} : wipeE env (i :: is) = (wipeE env is).set i none := rfl
theorem rng_map {a b : Int} : rngD a b = (List.range (b - a).toNat).map fun i => PyData.int (a + (i : Nat)) := rfl
end Th
end
section
set_option Elab.async false
set_option linter.all false
set_option maxRecDepth 100000
namespace Th
open PySem
def b_is_integer : List MS := [.ret (.an (.isi (.var 0) .int) (.nt (.isi (.var 0) .bool)))]
def b_is_number : List MS := [.ret (.an (.call "is_integer" [(.var 0)]) (.cmp .ge (.var 0) (.cst (.int (0)))))]
def b_is_within : List MS := [.ret (.an (.call "is_integer" [(.var 0)]) (.chain .le .le (.var 1) (.var 0) (.var 2)))]
def b_weighed : List MS := [.par [4, 5] [(.cst (.int (1))), (.cst (.int (1)))], .forr (.tup [(.name 6), (.name 7)]) (.enum (.var 2)) [.forr (.name 8) (.rng1 (.var 7)) [.asg (.name 4) (.bin .mul (.var 4) (.sub (.var 1) (.var 6)))]], .forr (.name 3) (.seq (.sub (.var 0) (.cst (.int (1))))) [.asg (.name 9) (.bi .sum [(.lc (.sub (.var 2) (.var 6)) (.name 6) (.seq (.var 3)) [6] none)]), .forr (.name 6) (.seq (.var 3)) [.forr (.name 8) (.rng1 (.sub (.var 2) (.var 6))) [.par [4, 5] [(.bin .mul (.var 4) (.sub (.var 2) (.var 6))), (.bin .mul (.var 5) (.var 9))]]]], .ret (.tup [(.var 4), (.var 5)])]
def b_bars : List MS := [.asg (.tup [(.name 3), (.name 4)]) (.call "weighed" [(.var 0), (.var 1), (.var 2)]), .ret (.cmp .lt (.var 3) (.var 4))]
def b_rows_to : List MS := [.asg (.name 3) (.lst [(.tup [])]), .forr (.name 4) (.rng1 (.var 0)) [.asg (.name 5) (.lst []), .forr (.name 6) (.seq (.var 3)) [.par [7, 8] [(.bin .sub (.var 1) (.bi .sum [(.var 6)])), (.bin .mul (.bin .sub (.bin .sub (.var 0) (.var 4)) (.cst (.int (1)))) (.var 2))], .ext (.var 5) (.lc (.bin .add (.var 6) (.tup [(.var 9)])) (.name 9) (.rng2 (.bi .max2 [(.cst (.int (0))), (.bin .sub (.var 7) (.var 8))]) (.bin .add (.bi .min2 [(.var 2), (.var 7)]) (.cst (.int (1))))) [9] none)], .asg (.name 3) (.var 5)], .ret (.var 3)]
def b_bar_weights : List MS := [.forr (.name 3) (.rng2 (.cst (.int (1))) (.bin .add (.bin .mul (.sub (.var 0) (.cst (.int (0)))) (.var 2)) (.cst (.int (1))))) [.forr (.name 4) (.seq (.call "rows_to" [(.sub (.var 0) (.cst (.int (0)))), (.var 3), (.var 2)])) [.ifs (.call "bars" [(.var 0), (.var 1), (.var 4)]) [.ret (.var 4)] []]], .ret (.cst .none)]
def b_bar_shows : List MS := [.ifs (.orr (.nt (.isi (.var 2) .tuple)) (.cmp .ne (.bi .len [(.var 2)]) (.sub (.var 0) (.cst (.int (0)))))) [.ret (.cst (.bool false))] [], .ret (.an (.bi .all [(.lc (.an (.call "is_number" [(.var 3)]) (.call "is_within" [(.var 3), (.cst (.int (0))), (.cst (.int (60)))])) (.name 3) (.seq (.var 2)) [3] none)]) (.call "bars" [(.var 0), (.var 1), (.var 2)]))]
def b_Lbox : List MS := [.asg (.name 2) (.bin .add (.bin .mul (.cst (.int (7121))) (.var 1)) (.cst (.int (8117)))), .ifs (.cmp .lt (.var 1) (.bi .len [(.var 0)])) [.asg (.name 2) (.bi .abs [(.bi .int [(.sub (.var 0) (.var 1))])])] [.ifs (.cmp .gt (.bi .len [(.var 0)]) (.cst (.int (0)))) [.asg (.name 2) (.bin .add (.var 2) (.bin .mul (.bin .mod (.bi .int [(.bi .abs [(.bi .int [(.sub (.var 0) (.bin .mod (.bi .int [(.var 1)]) (.bi .len [(.var 0)])))])])]) (.cst (.int (2147483563)))) (.cst (.int (58907)))))] []], .asg (.name 3) (.ife (.cmp .ge (.var 2) (.bin .pow (.cst (.int (10))) (.cst (.int (18))))) (.var 2) (.cst (.int (0)))), .ret (.lst [(.var 3), (.bin .add (.bin .mod (.bi .int [(.bin .add (.bin .mul (.bin .mod (.bi .int [(.var 2)]) (.cst (.int (2147483563)))) (.cst (.int (40014)))) (.bin .mul (.cst (.int (8117))) (.var 1)))]) (.cst (.int (2147483563)))) (.cst (.int (1))))])]
def b_Ltake : List MS := [.ifs (.cmp .gt (.sub (.var 0) (.cst (.int (0)))) (.cst (.int (0)))) [.asg (.name 3) (.bin .mod (.bi .int [(.sub (.var 0) (.cst (.int (0))))]) (.var 1)), .aset (.var 0) (.cst (.int (0))) (.bin .fdiv (.sub (.var 0) (.cst (.int (0)))) (.var 1)), .ret (.var 3)] [], .asg (.name 2) (.bin .mod (.bi .int [(.bin .add (.bin .mul (.sub (.var 0) (.cst (.int (1)))) (.cst (.int (39373)))) (.cst (.int (521))))]) (.cst (.int (2147483647)))), .aset (.var 0) (.cst (.int (1))) (.bin .add (.bin .mod (.bi .int [(.bin .add (.bin .mul (.var 2) (.cst (.int (40692)))) (.cst (.int (101))))]) (.cst (.int (2147483399)))) (.cst (.int (1)))), .ret (.bin .mod (.bi .int [(.bin .fdiv (.bin .add (.bin .mul (.var 2) (.cst (.int (2147483629)))) (.sub (.var 0) (.cst (.int (1))))) (.cst (.int (8243))))]) (.var 1))]
def b_Lpick : List MS := [.ret (.sub (.var 1) (.call "_law_take" [(.var 0), (.bi .len [(.var 1)])]))]
def b_Llike : List MS := [.asg (.name 2) (.lst [(.tup [(.var 0), (.var 1)])]), .forr (.name 3) (.rng1 (.cst (.int (1000000)))) [.ifs (.cmp .eq (.var 2) (.lst [])) [.ret (.cst (.bool true))] [], .asg (.tup [(.name 4), (.name 5)]) (.met .pop (.var 2) []), .ifs (.isN (.var 5) false) [.ifs (.isN (.var 4) true) [.ret (.cst (.bool false))] []] [.ifs (.isi (.var 5) .bool) [.ifs (.orr (.nt (.isi (.var 4) .bool)) (.cmp .ne (.var 4) (.var 5))) [.ret (.cst (.bool false))] []] [.ifs (.isi (.var 5) .tuple) [.ifs (.orr (.nt (.isi (.var 4) .tuple)) (.cmp .ne (.bi .len [(.var 4)]) (.bi .len [(.var 5)]))) [.ret (.cst (.bool false))] [], .ext (.var 2) (.bi .lzip [(.var 4), (.var 5)])] [.ifs (.isi (.var 5) .str) [.ifs (.orr (.nt (.isi (.var 4) .str)) (.cmp .ne (.var 4) (.var 5))) [.ret (.cst (.bool false))] []] [.ifs (.orr (.nt (.isi (.var 4) .int)) (.orr (.isi (.var 4) .bool) (.cmp .ne (.var 4) (.var 5)))) [.ret (.cst (.bool false))] []]]]]], .ret (.cst (.bool false))]
def b_Lshuffled : List MS := [.par [3, 4] [(.bi .list [(.var 1)]), (.lst [])], .forr (.name 2) (.rng1 (.bi .len [(.var 1)])) [.app (.var 4) (.met .popAt (.var 3) [(.call "_law_take" [(.var 0), (.bi .len [(.var 3)])])])], .ret (.var 4)]
def b_Llots : List MS := [.asg (.name 1) (.lst [(.tup [])]), .forr (.name 2) (.rng1 (.var 0)) [.asg (.name 1) (.bin .add (.var 1) (.lc (.bin .add (.var 4) (.tup [(.var 2)])) (.name 4) (.seq (.var 1)) [4] none))], .ret (.lc (.sub (.var 3) (.cst (.int (1)))) (.name 3) (.seq (.bi .sorted [(.lc (.tup [(.bi .len [(.var 4)]), (.var 4)]) (.name 4) (.seq (.var 1)) [4] none)])) [3] none)]
def b_Lnamed : List MS := [.asg (.name 3) (.call "_law_shuffled" [(.var 0), (.bi .lrng1 [(.var 1)])]), .ret (.tup [(.var 1), (.bi .tuple [(.bi .sorted [(.lc (.bi .tuple [(.bi .sorted [(.lc (.sub (.var 3) (.var 5)) (.name 5) (.seq (.var 4)) [5] none)])]) (.name 4) (.seq (.var 2)) [4] none)])])])]
def b_Lforest : List MS := [.par [3, 4] [(.bin .add (.cst (.int (1))) (.call "_law_take" [(.var 0), (.cst (.int (3)))])), (.lst [])], .app (.var 4) (.bi .trng1 [(.var 3)]), .forr (.name 2) (.rng1 (.call "_law_take" [(.var 0), (.cst (.int (4)))])) [.ifs (.cmp .lt (.var 3) (.var 1)) [.asg (.name 5) (.bi .min2 [(.bin .add (.cst (.int (1))) (.call "_law_take" [(.var 0), (.cst (.int (2)))])), (.bin .sub (.var 1) (.var 3))]), .asg (.name 6) (.ife (.cmp .eq (.call "_law_take" [(.var 0), (.cst (.int (6)))]) (.cst (.int (0)))) (.tup []) (.tup [(.call "_law_take" [(.var 0), (.var 3)])])), .app (.var 4) (.bin .add (.var 6) (.bi .trng2 [(.var 3), (.bin .add (.var 3) (.var 5))])), .asg (.name 3) (.bin .add (.var 3) (.var 5))] []], .ifs (.an (.cmp .eq (.var 3) (.cst (.int (1)))) (.cmp .gt (.var 1) (.cst (.int (1))))) [.par [4, 3] [(.lst [(.tup [(.cst (.int (0))), (.cst (.int (1)))])]), (.cst (.int (2)))]] [], .ifs (.cmp .eq (.call "_law_take" [(.var 0), (.cst (.int (5)))]) (.cst (.int (0)))) [.app (.var 4) (.tup [(.call "_law_take" [(.var 0), (.var 3)])])] [], .ret (.call "_law_named" [(.var 0), (.var 3), (.var 4)])]
def b_Lring : List MS := [.asg (.name 2) (.bin .add (.cst (.int (2))) (.call "_law_take" [(.var 0), (.bin .sub (.var 1) (.cst (.int (1))))])), .asg (.name 3) (.ife (.cmp .eq (.var 2) (.cst (.int (2)))) (.lst [(.tup [(.cst (.int (0))), (.cst (.int (1)))]), (.tup [(.cst (.int (0))), (.cst (.int (1)))])]) (.lc (.bi .tuple [(.bi .sorted [(.lst [(.var 4), (.bin .mod (.bi .int [(.bin .add (.var 4) (.cst (.int (1))))]) (.var 2))])])]) (.name 4) (.rng1 (.var 2)) [4] none)), .ifs (.an (.cmp .gt (.var 2) (.cst (.int (3)))) (.cmp .eq (.call "_law_take" [(.var 0), (.cst (.int (3)))]) (.cst (.int (0))))) [.aset (.var 3) (.cst (.int (0))) (.bi .tuple [(.bi .sortset [(.bin .add (.sub (.var 3) (.cst (.int (0)))) (.tup [(.call "_law_take" [(.var 0), (.var 2)])]))])])] [], .ret (.call "_law_named" [(.var 0), (.var 2), (.var 3)])]
def b_Lany_web : List MS := [.asg (.name 2) (.bin .add (.cst (.int (1))) (.call "_law_take" [(.var 0), (.var 1)])), .asg (.name 3) (.lc (.bi .tuple [(.lc (.var 6) (.name 6) (.rng1 (.var 2)) [6] (some (.cmp .eq (.call "_law_take" [(.var 0), (.cst (.int (2)))]) (.cst (.int (0))))))]) (.name 4) (.rng1 (.bin .add (.cst (.int (1))) (.call "_law_take" [(.var 0), (.ife (.cmp .lt (.var 2) (.cst (.int (6)))) (.cst (.int (4))) (.cst (.int (3))))]))) [4] none), .asg (.name 3) (.lc (.var 5) (.name 5) (.seq (.var 3)) [5] (some (.cmp .ne (.var 5) (.tup [])))), .asg (.name 3) (.bin .add (.var 3) (.lc (.tup [(.var 6)]) (.name 6) (.rng1 (.var 2)) [6] (some (.cmp .eq (.lc (.cst (.int (1))) (.name 5) (.seq (.var 3)) [5] (some (.cmp .inn (.var 6) (.var 5)))) (.lst []))))), .ret (.call "_law_named" [(.var 0), (.var 2), (.var 3)])]
def b_Lweb : List MS := [.asg (.name 2) (.call "_law_take" [(.var 0), (.cst (.int (8)))]), .ifs (.cmp .lt (.var 2) (.cst (.int (3)))) [.ret (.call "_law_forest" [(.var 0), (.var 1)])] [], .ifs (.cmp .lt (.var 2) (.cst (.int (5)))) [.ret (.call "_law_ring" [(.var 0), (.var 1)])] [], .ifs (.cmp .eq (.var 2) (.cst (.int (5)))) [.asg (.name 3) (.bin .add (.cst (.int (2))) (.call "_law_take" [(.var 0), (.bin .sub (.var 1) (.cst (.int (1))))])), .ret (.tup [(.var 3), (.tup [(.bi .trng1 [(.var 3)])])])] [], .ret (.call "_law_any_web" [(.var 0), (.var 1)])]
def b_Ltouch : List MS := [.ret (.orr (.cmp .eq (.var 1) (.var 2)) (.cmp .ne (.lc (.cst (.int (1))) (.name 3) (.seq (.sub (.var 0) (.cst (.int (1))))) [3] (some (.an (.cmp .inn (.var 1) (.var 3)) (.cmp .inn (.var 2) (.var 3))))) (.lst [])))]
def b_Lapart : List MS := [.ret (.cmp .eq (.lc (.cst (.int (1))) (.name 2) (.seq (.var 1)) [2] (some (.cmp .ne (.lc (.cst (.int (1))) (.name 3) (.seq (.var 1)) [3] (some (.an (.cmp .lt (.var 2) (.var 3)) (.call "_law_touch" [(.var 0), (.var 2), (.var 3)])))) (.lst [])))) (.lst []))]
def b_Lgcd : List MS := [.whl (.cmp .ne (.var 1) (.cst (.int (0)))) [.par [0, 1] [(.var 1), (.bin .mod (.bi .int [(.var 0)]) (.var 1))]], .ret (.var 0)]
def b_Lpart : List MS := [.ifs (.cmp .lt (.var 1) (.cst (.int (0)))) [.par [0, 1] [(.bin .sub (.cst (.int (0))) (.var 0)), (.bin .sub (.cst (.int (0))) (.var 1))]] [], .asg (.name 2) (.call "_law_gcd" [(.bi .abs [(.var 0)]), (.var 1)]), .ret (.tup [(.bin .fdiv (.var 0) (.var 2)), (.bin .fdiv (.var 1) (.var 2))])]
def b_Lplus : List MS := [.ret (.call "_law_part" [(.bin .add (.bin .mul (.sub (.var 0) (.cst (.int (0)))) (.sub (.var 1) (.cst (.int (1))))) (.bin .mul (.sub (.var 1) (.cst (.int (0)))) (.sub (.var 0) (.cst (.int (1)))))), (.bin .mul (.sub (.var 0) (.cst (.int (1)))) (.sub (.var 1) (.cst (.int (1)))))])]
def b_Ltimes : List MS := [.ret (.call "_law_part" [(.bin .mul (.sub (.var 0) (.cst (.int (0)))) (.sub (.var 1) (.cst (.int (0))))), (.bin .mul (.sub (.var 0) (.cst (.int (1)))) (.sub (.var 1) (.cst (.int (1)))))])]
def b_Lchances : List MS := [.ret (.bi .tuple [(.lc (.tup [(.cst (.int (1))), (.var 1)]) (.name 1) (.seq (.var 0)) [1] none)])]
def b_Lsum_of : List MS := [.asg (.name 3) (.tup [(.cst (.int (0))), (.cst (.int (1)))]), .forr (.name 4) (.rng1 (.bin .shl (.cst (.int (1))) (.bi .len [(.var 2)]))) [.asg (.name 5) (.bi .tuple [(.lc (.var 7) (.tup [(.name 8), (.name 7)]) (.enum (.var 2)) [8, 7] (some (.cmp .eq (.bin .band (.bin .shr (.var 4) (.var 8)) (.cst (.int (1)))) (.cst (.int (1))))))]), .ifs (.call "_law_apart" [(.var 0), (.var 5)]) [.asg (.name 6) (.tup [(.cst (.int (1))), (.cst (.int (1)))]), .forr (.name 7) (.seq (.var 5)) [.asg (.name 6) (.call "_law_times" [(.var 6), (.tup [(.bin .sub (.cst (.int (0))) (.sub (.sub (.var 1) (.var 7)) (.cst (.int (0))))), (.sub (.sub (.var 1) (.var 7)) (.cst (.int (1))))])])], .asg (.name 3) (.call "_law_plus" [(.var 3), (.var 6)])] []], .ret (.var 3)]
def b_Lfault : List MS := [.forr (.name 2) (.seq (.call "_law_lots" [(.sub (.var 0) (.cst (.int (0))))])) [.ifs (.cmp .lt (.sub (.call "_law_sum_of" [(.var 0), (.var 1), (.var 2)]) (.cst (.int (0)))) (.cst (.int (0)))) [.ret (.var 2)] []], .ret (.cst .none)]
def b_Lenough_for : List MS := [.forr (.name 3) (.rng2 (.cst (.int (1))) (.cst (.int (201)))) [.ifs (.isN (.call "_law_fault" [(.var 0), (.call "_law_chances" [(.bin .add (.bin .add (.slc (.var 1) none (some (.var 2))) (.tup [(.var 3)])) (.slc (.var 1) (some (.bin .add (.var 2) (.cst (.int (1))))) none))])]) false) [.ret (.var 3)] []], .ret (.cst .none)]
def b_Lmarks : List MS := [.asg (.name 3) (.bi .tuple [(.lc (.call "_law_pick" [(.var 0), (.ife (.cmp .ne (.var 2) (.cst (.int (1)))) (.lst [(.cst (.int (2))), (.cst (.int (2))), (.cst (.int (3))), (.cst (.int (3))), (.cst (.int (4))), (.cst (.int (5))), (.cst (.int (6))), (.cst (.int (8)))]) (.lst [(.cst (.int (4))), (.cst (.int (5))), (.cst (.int (6))), (.cst (.int (8))), (.cst (.int (9))), (.cst (.int (12)))]))]) (.name 5) (.rng1 (.sub (.var 1) (.cst (.int (0))))) [5] none)]), .ifs (.cmp .eq (.var 2) (.cst (.int (3)))) [.ret (.bi .tuple [(.lc (.bi .max2 [(.cst (.int (1))), (.bin .sub (.var 7) (.call "_law_take" [(.var 0), (.cst (.int (3)))]))]) (.name 7) (.seq (.var 3)) [7] none)])] [], .ifs (.cmp .eq (.var 2) (.cst (.int (0)))) [.ret (.var 3)] [], .forr (.name 4) (.rng1 (.cst (.int (12)))) [.ifs (.isN (.call "_law_fault" [(.var 1), (.call "_law_chances" [(.var 3)])]) false) [.brk] [], .asg (.name 3) (.bi .tuple [(.lc (.bin .add (.bin .add (.var 7) (.cst (.int (1)))) (.bin .fdiv (.var 7) (.cst (.int (2))))) (.name 7) (.seq (.var 3)) [7] none)])], .ifs (.cmp .eq (.var 2) (.cst (.int (2)))) [.asg (.name 5) (.call "_law_take" [(.var 0), (.sub (.var 1) (.cst (.int (0))))]), .asg (.name 6) (.call "_law_enough_for" [(.var 1), (.var 3), (.var 5)]), .asg (.name 3) (.bin .add (.bin .add (.slc (.var 3) none (some (.var 5))) (.tup [(.ife (.isN (.var 6) true) (.var 6) (.sub (.var 3) (.var 5)))])) (.slc (.var 3) (some (.bin .add (.var 5) (.cst (.int (1))))) none))] [], .ret (.var 3)]
def b_Lproduct : List MS := [.asg (.name 3) (.tup [(.cst (.int (1))), (.cst (.int (1)))]), .forr (.tup [(.name 5), (.name 6)]) (.enum (.var 2)) [.forr (.name 7) (.rng1 (.var 6)) [.asg (.name 3) (.call "_law_times" [(.var 3), (.tup [(.sub (.var 1) (.var 5)), (.cst (.int (1)))])])]], .forr (.name 4) (.seq (.sub (.var 0) (.cst (.int (1))))) [.asg (.name 8) (.bi .sum [(.lc (.sub (.var 2) (.var 5)) (.name 5) (.seq (.var 4)) [5] none)]), .forr (.name 5) (.seq (.var 4)) [.forr (.name 7) (.rng1 (.sub (.var 2) (.var 5))) [.asg (.name 3) (.call "_law_times" [(.var 3), (.call "_law_part" [(.sub (.var 2) (.var 5)), (.var 8)])])]]], .ret (.var 3)]
def b_Lsmall_web : List MS := [.forr (.name 3) (.rng1 (.cst (.int (8)))) [.asg (.name 4) (.call "_law_web" [(.var 0), (.var 1)]), .ifs (.cmp .le (.bi .len [(.sub (.var 4) (.cst (.int (1))))]) (.var 2)) [.ret (.var 4)] []], .ret (.tup [(.cst (.int (3))), (.tup [(.tup [(.cst (.int (0))), (.cst (.int (1)))]), (.tup [(.cst (.int (0))), (.cst (.int (2)))]), (.tup [(.cst (.int (1))), (.cst (.int (2)))])])])]
def b_Lshown : List MS := [.ifs (.orr (.nt (.isi (.var 2) .tuple)) (.cmp .ne (.bi .len [(.var 2)]) (.sub (.var 0) (.cst (.int (0)))))) [.ret (.cst (.bool false))] [], .ifs (.cmp .ne (.lc (.cst (.int (1))) (.name 3) (.seq (.var 2)) [3] (some (.orr (.nt (.isi (.var 3) .int)) (.orr (.isi (.var 3) .bool) (.orr (.cmp .lt (.var 3) (.cst (.int (0)))) (.cmp .gt (.var 3) (.cst (.int (60))))))))) (.lst [])) [.ret (.cst (.bool false))] [], .asg (.name 3) (.call "_law_product" [(.var 0), (.var 1), (.var 2)]), .ret (.cmp .lt (.sub (.var 3) (.cst (.int (0)))) (.sub (.var 3) (.cst (.int (1)))))]
def b_law_k71 : List MS := [.forr (.name 1) (.rng1 (.bi .max2 [(.cst (.int (3))), (.bi .min2 [(.bi .len [(.var 0)]), (.cst (.int (6)))])])) [.asg (.name 2) (.call "_law_box" [(.var 0), (.var 1)]), .asg (.name 3) (.call "_law_small_web" [(.var 2), (.cst (.int (5))), (.cst (.int (6)))]), .par [7, 8] [(.call "_law_marks" [(.var 2), (.var 3), (.bin .mul (.cst (.int (3))) (.call "_law_take" [(.var 2), (.cst (.int (2)))]))]), (.sub (.var 3) (.cst (.int (0))))], .asg (.name 4) (.lst [(.cst .none), (.tup []), (.cst (.int (0))), (.cst (.str "weights")), (.bin .mul (.lst [(.cst (.int (1)))]) (.var 8)), (.bin .mul (.tup [(.cst (.bool true))]) (.var 8)), (.bin .mul (.tup [(.cst (.int (0)))]) (.var 8)), (.bin .mul (.tup [(.cst (.int (1)))]) (.var 8)), (.bin .mul (.tup [(.cst (.int (1)))]) (.bin .add (.var 8) (.cst (.int (1))))), (.bin .add (.tup [(.cst (.int (61)))]) (.bin .mul (.tup [(.cst (.int (1)))]) (.bin .sub (.var 8) (.cst (.int (1)))))), (.bin .add (.tup [(.neg (.cst (.int (1))))]) (.bin .mul (.tup [(.cst (.int (1)))]) (.bin .sub (.var 8) (.cst (.int (1)))))), (.bin .mul (.tup [(.cst .none)]) (.var 8))]), .asg (.name 4) (.bin .add (.var 4) (.lc (.bi .tuple [(.lc (.call "_law_take" [(.var 2), (.cst (.int (5)))]) (.name 10) (.rng1 (.var 8)) [10] none)]) (.name 9) (.rng1 (.cst (.int (6)))) [9] none)), .asg (.name 5) (.call "bar_weights" [(.var 3), (.var 7), (.cst (.int (2)))]), .ifs (.isN (.var 5) true) [.asg (.name 4) (.bin .add (.var 4) (.lst [(.var 5), (.bi .list [(.var 5)]), (.bi .tuple [(.lc (.bin .mul (.cst (.int (2))) (.var 11)) (.name 11) (.seq (.var 5)) [11] none)]), (.bin .add (.slc (.var 5) none (some (.cst (.int (1))))) (.var 5)), (.bin .add (.var 5) (.tup [(.cst (.int (0)))])), (.bi .tuple [(.lc (.bin .add (.var 11) (.cst (.int (1)))) (.name 11) (.seq (.var 5)) [11] none)])]))] [], .forr (.name 6) (.seq (.var 4)) [.ifs (.nt (.call "_law_like" [(.call "bar_shows" [(.var 3), (.var 7), (.var 6)]), (.call "_law_shown" [(.var 3), (.var 7), (.var 6)])])) [.ret (.cst (.bool false))] []]], .ret (.isB (.call "bar_shows" [(.tup [(.cst (.int (4))), (.tup [(.tup [(.cst (.int (0))), (.cst (.int (1)))]), (.tup [(.cst (.int (0))), (.cst (.int (3)))]), (.tup [(.cst (.int (1))), (.cst (.int (2)))]), (.tup [(.cst (.int (2))), (.cst (.int (3)))])])]), (.tup [(.cst (.int (3))), (.cst (.int (4))), (.cst (.int (3))), (.cst (.int (4)))]), (.tup [(.cst (.int (1))), (.cst (.int (1))), (.cst (.int (1))), (.cst (.int (1)))])]) true false)]
def b_splits : List MS := [.asg (.name 2) (.lst [(.tup [])]), .forr (.name 3) (.rng1 (.var 0)) [.asg (.name 4) (.lst []), .forr (.name 5) (.seq (.var 2)) [.asg (.name 6) (.bin .sub (.bin .sub (.var 1) (.bi .sum [(.var 5)])) (.bin .sub (.bin .sub (.var 0) (.var 3)) (.cst (.int (1))))), .ext (.var 4) (.lc (.bin .add (.var 5) (.tup [(.var 7)])) (.name 7) (.rng2 (.cst (.int (1))) (.bin .add (.var 6) (.cst (.int (1))))) [7] none)], .asg (.name 2) (.var 4)], .ret (.var 2)]
def b_is_served : List MS := [.par [5, 6] [(.sub (.var 1) (.var 4)), (.cst (.int (1)))], .forr (.tup [(.name 7), (.name 8)]) (.zip (.sub (.var 0) (.cst (.int (1)))) (.var 2)) [.ifs (.cmp .inn (.var 4) (.var 7)) [.par [5, 6] [(.bin .mul (.var 5) (.sub (.var 8) (.met .index (.var 7) [(.var 4)]))), (.bin .mul (.var 6) (.var 3))]] []], .ret (.cmp .ge (.var 5) (.var 6))]
def b_arcs_found : List MS := [.par [3, 4] [(.bi .len [(.sub (.var 0) (.cst (.int (1))))]), (.lc (.call "splits" [(.bi .len [(.var 8)]), (.var 2)]) (.name 8) (.seq (.sub (.var 0) (.cst (.int (1))))) [8] none)], .par [5, 6] [(.lst [(.cst (.int (0)))]), (.lst [])], .whl (.cmp .gt (.bi .len [(.var 5)]) (.cst (.int (0)))) [.asg (.name 7) (.bin .sub (.bi .len [(.var 5)]) (.cst (.int (1)))), .ifs (.cmp .ge (.sub (.var 5) (.var 7)) (.bi .len [(.sub (.var 4) (.var 7))])) [.expr (.met .pop (.var 5) []), .ifs (.cmp .gt (.bi .len [(.var 5)]) (.cst (.int (0)))) [.expr (.met .pop (.var 6) []), .augs .add (.var 5) (.neg (.cst (.int (1)))) (.cst (.int (1)))] []] [.app (.var 6) (.sub (.sub (.var 4) (.var 7)) (.sub (.var 5) (.var 7))), .ifs (.nt (.bi .all [(.lc (.call "is_served" [(.var 0), (.var 1), (.var 6), (.var 2), (.var 9)]) (.name 9) (.seq (.sub (.sub (.var 0) (.cst (.int (1)))) (.var 7))) [9] none)])) [.expr (.met .pop (.var 6) []), .augs .add (.var 5) (.var 7) (.cst (.int (1)))] [.ifs (.cmp .lt (.bin .add (.var 7) (.cst (.int (1)))) (.var 3)) [.app (.var 5) (.cst (.int (0)))] [.ret (.bi .tuple [(.lc (.bi .tuple [(.lc (.call "least" [(.var 11), (.var 2)]) (.name 11) (.seq (.var 10)) [11] none)]) (.name 10) (.seq (.var 6)) [10] none)])]]]], .ret (.cst .none)]
def b_least : List MS := [.par [2, 3] [(.var 0), (.var 1)], .whl (.cmp .gt (.var 3) (.cst (.int (0)))) [.par [2, 3] [(.var 3), (.bin .mod (.var 2) (.var 3))]], .ret (.tup [(.bin .fdiv (.var 0) (.var 2)), (.bin .fdiv (.var 1) (.var 2))])]
def b_Lmet : List MS := [.asg (.name 2) (.lst []), .forr (.name 3) (.rng1 (.sub (.var 0) (.cst (.int (0))))) [.asg (.name 4) (.tup [(.cst (.int (1))), (.cst (.int (1)))]), .forr (.tup [(.name 5), (.name 6)]) (.zip (.sub (.var 0) (.cst (.int (1)))) (.var 1)) [.ifs (.cmp .inn (.var 3) (.var 5)) [.asg (.name 4) (.call "_law_times" [(.var 4), (.sub (.var 6) (.met .index (.var 5) [(.var 3)]))])] []], .app (.var 2) (.var 4)], .ret (.bi .tuple [(.var 2)])]
def b_Lserve : List MS := [.ifs (.orr (.nt (.isi (.var 2) .tuple)) (.cmp .ne (.bi .len [(.var 2)]) (.bi .len [(.sub (.var 0) (.cst (.int (1))))]))) [.ret (.cst (.bool false))] [], .forr (.tup [(.name 3), (.name 4)]) (.zip (.sub (.var 0) (.cst (.int (1)))) (.var 2)) [.ifs (.orr (.nt (.isi (.var 4) .tuple)) (.cmp .ne (.bi .len [(.var 4)]) (.bi .len [(.var 3)]))) [.ret (.cst (.bool false))] [], .forr (.name 5) (.seq (.var 4)) [.ifs (.orr (.nt (.isi (.var 5) .tuple)) (.orr (.cmp .ne (.bi .len [(.var 5)]) (.cst (.int (2)))) (.cmp .ne (.lc (.cst (.int (1))) (.name 9) (.seq (.var 5)) [9] (some (.orr (.nt (.isi (.var 9) .int)) (.orr (.isi (.var 9) .bool) (.cmp .lt (.var 9) (.cst (.int (1)))))))) (.lst [])))) [.ret (.cst (.bool false))] [], .ifs (.cmp .ne (.call "_law_gcd" [(.sub (.var 5) (.cst (.int (0)))), (.sub (.var 5) (.cst (.int (1))))]) (.cst (.int (1)))) [.ret (.cst (.bool false))] []], .asg (.name 6) (.tup [(.cst (.int (0))), (.cst (.int (1)))]), .forr (.name 5) (.seq (.var 4)) [.asg (.name 6) (.call "_law_plus" [(.var 6), (.var 5)])], .ifs (.cmp .gt (.sub (.var 6) (.cst (.int (0)))) (.sub (.var 6) (.cst (.int (1))))) [.ret (.cst (.bool false))] []], .ret (.cmp .eq (.lc (.cst (.int (1))) (.tup [(.name 7), (.name 8)]) (.enum (.call "_law_met" [(.var 0), (.var 2)])) [7, 8] (some (.cmp .lt (.bin .mul (.sub (.var 8) (.cst (.int (0)))) (.sub (.var 1) (.var 7))) (.sub (.var 8) (.cst (.int (1))))))) (.lst []))]
def b_Lall_rows : List MS := [.asg (.name 2) (.lst [(.tup [])]), .forr (.name 3) (.rng1 (.var 0)) [.asg (.name 4) (.lst []), .forr (.name 5) (.seq (.var 2)) [.asg (.name 4) (.bin .add (.var 4) (.lc (.bin .add (.var 5) (.tup [(.var 6)])) (.name 6) (.rng1 (.bin .add (.var 1) (.cst (.int (1))))) [6] none))], .asg (.name 2) (.var 4)], .ret (.var 2)]
def b_Lsplits : List MS := [.ret (.lc (.bi .tuple [(.lc (.bin .add (.var 3) (.cst (.int (1)))) (.name 3) (.seq (.var 2)) [3] none)]) (.name 2) (.seq (.call "_law_all_rows" [(.var 0), (.bi .max2 [(.cst (.int (0))), (.bin .sub (.var 1) (.var 0))])])) [2] (some (.cmp .le (.bi .sum [(.var 2)]) (.bin .sub (.var 1) (.var 0)))))]
def b_Lfirst_arcs : List MS := [.asg (.name 3) (.lst [(.tup [])]), .forr (.tup [(.name 4), (.name 5)]) (.enum (.sub (.var 0) (.cst (.int (1))))) [.asg (.name 6) (.lst []), .forr (.name 7) (.seq (.var 3)) [.forr (.name 8) (.seq (.call "_law_splits" [(.bi .len [(.var 5)]), (.var 2)])) [.asg (.name 9) (.bin .add (.var 7) (.tup [(.var 8)])), .ifs (.cmp .eq (.lc (.cst (.int (1))) (.name 11) (.seq (.var 5)) [11] (some (.nt (.call "_law_has" [(.var 0), (.var 1), (.var 9), (.var 2), (.var 11)])))) (.lst [])) [.app (.var 6) (.var 9)] []]], .asg (.name 3) (.var 6)], .ifs (.cmp .eq (.var 3) (.lst [])) [.ret (.cst .none)] [], .ret (.bi .tuple [(.lc (.bi .tuple [(.lc (.call "_law_part" [(.var 10), (.var 2)]) (.name 10) (.seq (.var 8)) [10] none)]) (.name 8) (.seq (.sub (.var 3) (.cst (.int (0))))) [8] none)])]
def b_Lhas : List MS := [.par [5, 6] [(.sub (.var 1) (.var 4)), (.cst (.int (1)))], .forr (.tup [(.name 7), (.name 8)]) (.zip (.sub (.var 0) (.cst (.int (1)))) (.var 2)) [.ifs (.cmp .inn (.var 4) (.var 7)) [.par [5, 6] [(.bin .mul (.var 5) (.sub (.var 8) (.met .index (.var 7) [(.var 4)]))), (.bin .mul (.var 6) (.var 3))]] []], .ret (.cmp .ge (.var 5) (.var 6))]
def b_law_k69 : List MS := [.forr (.name 1) (.rng1 (.bi .max2 [(.cst (.int (3))), (.bi .min2 [(.bi .len [(.var 0)]), (.cst (.int (6)))])])) [.asg (.name 2) (.call "_law_box" [(.var 0), (.var 1)]), .asg (.name 3) (.call "_law_small_web" [(.var 2), (.cst (.int (4))), (.cst (.int (4)))]), .asg (.name 4) (.call "_law_marks" [(.var 2), (.var 3), (.bin .mod (.bi .int [(.var 1)]) (.cst (.int (4))))]), .asg (.name 5) (.bin .add (.cst (.int (1))) (.call "_law_take" [(.var 2), (.cst (.int (6)))])), .asg (.name 6) (.call "_law_first_arcs" [(.var 3), (.var 4), (.var 5)]), .asg (.name 7) (.call "arcs_found" [(.var 3), (.var 4), (.var 5)]), .ifs (.nt (.call "_law_like" [(.var 7), (.var 6)])) [.ret (.cst (.bool false))] [], .ifs (.an (.isN (.var 7) true) (.orr (.nt (.call "_law_serve" [(.var 3), (.var 4), (.var 7)])) (.isN (.call "_law_fault" [(.var 3), (.call "_law_chances" [(.var 4)])]) true))) [.ret (.cst (.bool false))] []], .ret (.call "_law_like" [(.call "arcs_found" [(.tup [(.cst (.int (3))), (.tup [(.tup [(.cst (.int (0))), (.cst (.int (1)))]), (.tup [(.cst (.int (0))), (.cst (.int (2)))]), (.tup [(.cst (.int (1))), (.cst (.int (2)))])])]), (.tup [(.cst (.int (4))), (.cst (.int (4))), (.cst (.int (4)))]), (.cst (.int (2)))]), (.bin .mul (.tup [(.tup [(.tup [(.cst (.int (1))), (.cst (.int (2)))]), (.tup [(.cst (.int (1))), (.cst (.int (2)))])])]) (.cst (.int (3))))])]
def b_common_divisor : List MS := [.whl (.cmp .ne (.var 1) (.cst (.int (0)))) [.par [0, 1] [(.var 1), (.bin .mod (.var 0) (.var 1))]], .ret (.var 0)]
def b_common_multiple : List MS := [.ret (.bin .mul (.bin .fdiv (.var 0) (.call "common_divisor" [(.var 0), (.var 1)])) (.var 1))]
def b_laid_out : List MS := [.asg (.name 1) (.lst []), .asg (.name 2) (.cst (.int (0))), .forr (.name 3) (.seq (.var 0)) [.app (.var 1) (.tup [(.var 2), (.bin .add (.var 2) (.var 3))]), .aug .add 2 (.var 3)], .ret (.bi .tuple [(.var 1)])]
def b_dial_size : List MS := [.asg (.name 2) (.cst (.int (1))), .forr (.tup [(.name 3), (.name 4)]) (.seq (.sub (.var 0) (.var 1))) [.asg (.name 2) (.call "common_multiple" [(.var 2), (.var 4)])], .ret (.var 2)]
def b_dial_sizes : List MS := [.ret (.bi .tuple [(.lc (.call "dial_size" [(.var 0), (.var 1)]) (.name 1) (.rng1 (.bi .len [(.var 0)])) [1] none)])]
def b_arc_places : List MS := [.asg (.name 2) (.call "dial_size" [(.var 0), (.var 1)]), .ret (.call "laid_out" [(.lc (.bin .mul (.bin .fdiv (.var 2) (.var 4)) (.var 3)) (.tup [(.name 3), (.name 4)]) (.seq (.sub (.var 0) (.var 1))) [3, 4] none)])]
def b_Lover : List MS := [.ret (.call "_law_part" [(.bin .mul (.sub (.var 0) (.cst (.int (0)))) (.sub (.var 1) (.cst (.int (1))))), (.bin .mul (.sub (.var 0) (.cst (.int (1)))) (.sub (.var 1) (.cst (.int (0)))))])]
def b_Lthings : List MS := [.ret (.lc (.var 2) (.tup [(.name 2), (.name 3)]) (.enum (.sub (.var 0) (.cst (.int (1))))) [2, 3] (some (.cmp .inn (.var 1) (.var 3))))]
def b_Lhas_ring : List MS := [.asg (.name 1) (.bi .lrng1 [(.bin .add (.sub (.var 0) (.cst (.int (0)))) (.bi .len [(.sub (.var 0) (.cst (.int (1))))]))]), .forr (.tup [(.name 2), (.name 3)]) (.enum (.sub (.var 0) (.cst (.int (1))))) [.forr (.name 4) (.seq (.var 3)) [.par [5, 6] [(.sub (.var 1) (.var 4)), (.sub (.var 1) (.bin .add (.sub (.var 0) (.cst (.int (0)))) (.var 2)))], .ifs (.cmp .eq (.var 5) (.var 6)) [.ret (.cst (.bool true))] [], .asg (.name 1) (.lc (.ife (.cmp .eq (.var 7) (.var 6)) (.var 5) (.var 7)) (.name 7) (.seq (.var 1)) [7] none)]], .ret (.cst (.bool false))]
def b_Lbranch : List MS := [.par [3, 4, 5] [.dic0, .bad, (.lst [(.var 1)])], .whl (.cmp .ne (.var 5) (.lst [])) [.forr (.name 6) (.seq (.sub (.sub (.var 0) (.cst (.int (1)))) (.met .pop (.var 5) []))) [.ifs (.an (.cmp .ne (.var 6) (.var 2)) (.cmp .notin (.var 6) (.var 3))) [.aset (.var 3) (.var 6) (.cst (.bool true)), .forr (.name 7) (.seq (.call "_law_things" [(.var 0), (.var 6)])) [.ifs (.cmp .notin (.var 7) (.var 4)) [.aset (.var 4) (.var 7) (.cst (.bool true)), .app (.var 5) (.var 7)] []]] []]], .ret (.bi .sorted [(.bi .list [(.var 3)])])]
def b_Lleft : List MS := [.asg (.name 4) (.call "_law_branch" [(.var 0), (.var 2), (.var 3)]), .asg (.name 5) (.lc (.var 8) (.name 8) (.seq (.var 4)) [8] (some (.cmp .notin (.var 8) (.sub (.sub (.var 0) (.cst (.int (1)))) (.var 2))))), .par [6, 7] [(.call "_law_sum_of" [(.var 0), (.call "_law_chances" [(.var 1)]), (.bi .tuple [(.var 4)])]), (.call "_law_sum_of" [(.var 0), (.call "_law_chances" [(.var 1)]), (.bi .tuple [(.var 5)])])], .ret (.ife (.cmp .gt (.sub (.var 7) (.cst (.int (0)))) (.cst (.int (0)))) (.call "_law_over" [(.var 6), (.var 7)]) (.cst .none))]
def b_Lroot : List MS := [.asg (.name 2) (.call "_law_branch" [(.var 0), (.var 1), (.cst .none)]), .ret (.bi .min1 [(.lc (.var 3) (.tup [(.name 3), (.name 4)]) (.enum (.sub (.var 0) (.cst (.int (1))))) [3, 4] (some (.cmp .ne (.lc (.var 5) (.name 5) (.seq (.var 4)) [5] (some (.cmp .inn (.var 5) (.var 2)))) (.lst []))))])]
def b_Labove : List MS := [.asg (.name 2) (.call "_law_root" [(.var 0), (.var 1)]), .ifs (.cmp .eq (.var 1) (.var 2)) [.ret (.cst .none)] [], .asg (.name 3) (.lc (.var 4) (.name 4) (.seq (.sub (.sub (.var 0) (.cst (.int (1)))) (.var 1))) [4] (some (.cmp .eq (.lc (.var 5) (.name 5) (.seq (.sub (.sub (.var 0) (.cst (.int (1)))) (.var 2))) [5] (some (.cmp .inn (.var 5) (.call "_law_branch" [(.var 0), (.var 1), (.var 4)])))) (.lst [])))), .ret (.sub (.var 3) (.cst (.int (0))))]
def b_Lforest_arcs : List MS := [.asg (.name 2) (.lst []), .forr (.tup [(.name 3), (.name 4)]) (.enum (.sub (.var 0) (.cst (.int (1))))) [.par [6, 7] [(.call "_law_above" [(.var 0), (.var 3)]), (.lst [])], .forr (.name 5) (.seq (.var 4)) [.asg (.name 8) (.tup [(.cst (.int (1))), (.sub (.var 1) (.var 5))]), .ifs (.cmp .eq (.var 5) (.var 6)) [.asg (.name 8) (.call "_law_left" [(.var 0), (.var 1), (.var 3), (.var 6)])] [.forr (.name 9) (.seq (.call "_law_things" [(.var 0), (.var 5)])) [.ifs (.cmp .ne (.var 9) (.var 3)) [.asg (.name 8) (.call "_law_over" [(.var 8), (.call "_law_left" [(.var 0), (.var 1), (.var 9), (.var 5)])])] []]], .app (.var 7) (.var 8)], .app (.var 2) (.bi .tuple [(.var 7)])], .ret (.bi .tuple [(.var 2)])]
def b_Lshare : List MS := [.asg (.name 3) (.tup [(.cst (.int (1))), (.cst (.int (1)))]), .forr (.name 4) (.seq (.call "_law_things" [(.var 0), (.var 2)])) [.asg (.name 3) (.call "_law_times" [(.var 3), (.sub (.sub (.var 1) (.var 4)) (.met .index (.bi .list [(.sub (.sub (.var 0) (.cst (.int (1)))) (.var 4))]) [(.var 2)]))])], .ret (.var 3)]
def b_Larcs : List MS := [.asg (.name 2) (.lst []), .forr (.name 3) (.seq (.sub (.var 1) (.cst (.int (1))))) [.asg (.name 6) (.bin .add (.bi .len [(.var 3)]) (.call "_law_take" [(.var 0), (.cst (.int (4)))])), .par [7, 8] [(.bin .mul (.lst [(.cst (.int (1)))]) (.bi .len [(.var 3)])), (.bin .sub (.var 6) (.bi .len [(.var 3)]))], .forr (.name 5) (.rng1 (.bi .len [(.var 3)])) [.asg (.name 9) (.call "_law_take" [(.var 0), (.bin .add (.var 8) (.cst (.int (1))))]), .pst (.var 7) (.var 5) 8 (.bin .add (.cst (.int (1))) (.var 9)) (.bin .sub (.var 8) (.var 9))], .app (.var 2) (.bi .tuple [(.lc (.call "_law_part" [(.var 11), (.var 6)]) (.name 11) (.seq (.var 7)) [11] none)])], .asg (.name 4) (.lst []), .forr (.name 5) (.rng1 (.sub (.var 1) (.cst (.int (0))))) [.asg (.tup [(.name 10), (.name 6)]) (.call "_law_share" [(.var 1), (.var 2), (.var 5)]), .app (.var 4) (.bin .add (.bin .sub (.cst (.int (0))) (.bin .fdiv (.bin .sub (.cst (.int (0))) (.bin .fdiv (.var 6) (.cst (.int (1))))) (.var 10))) (.call "_law_pick" [(.var 0), (.lst [(.cst (.int (0))), (.cst (.int (0))), (.cst (.int (0))), (.cst (.int (1))), (.cst (.int (3)))])]))], .ret (.tup [(.bi .tuple [(.var 4)]), (.bi .tuple [(.var 2)])])]
def b_Lcase : List MS := [.forr (.name 2) (.rng1 (.cst (.int (6)))) [.asg (.name 3) (.ife (.cmp .eq (.call "_law_take" [(.var 0), (.cst (.int (2)))]) (.cst (.int (0)))) (.call "_law_forest" [(.var 0), (.var 1)]) (.call "_law_web" [(.var 0), (.var 1)])), .ifs (.an (.nt (.call "_law_has_ring" [(.var 3)])) (.cmp .eq (.call "_law_take" [(.var 0), (.cst (.int (2)))]) (.cst (.int (0))))) [.asg (.name 4) (.call "_law_marks" [(.var 0), (.var 3), (.bin .add (.cst (.int (1))) (.call "_law_take" [(.var 0), (.cst (.int (2)))]))]), .ifs (.an (.cmp .le (.bi .max1 [(.var 4)]) (.cst (.int (60)))) (.isN (.call "_law_fault" [(.var 3), (.call "_law_chances" [(.var 4)])]) false)) [.ret (.tup [(.var 3), (.var 4), (.call "_law_forest_arcs" [(.var 3), (.var 4)])])] []] [], .asg (.tup [(.name 4), (.name 5)]) (.call "_law_arcs" [(.var 0), (.var 3)]), .ifs (.cmp .le (.bi .max1 [(.var 4)]) (.cst (.int (60)))) [.ret (.tup [(.var 3), (.var 4), (.var 5)])] []], .ret (.tup [(.tup [(.cst (.int (3))), (.tup [(.tup [(.cst (.int (0))), (.cst (.int (1)))]), (.tup [(.cst (.int (1))), (.cst (.int (2)))])])]), (.tup [(.cst (.int (3))), (.cst (.int (4))), (.cst (.int (2)))]), (.tup [(.tup [(.tup [(.cst (.int (1))), (.cst (.int (3)))]), (.tup [(.cst (.int (1))), (.cst (.int (2)))])]), (.tup [(.tup [(.cst (.int (1))), (.cst (.int (2)))]), (.tup [(.cst (.int (1))), (.cst (.int (2)))])])])])]
def b_Lsize : List MS := [.asg (.name 1) (.cst (.int (1))), .forr (.tup [(.name 2), (.name 3)]) (.seq (.var 0)) [.asg (.name 1) (.bin .mul (.bin .fdiv (.var 1) (.call "_law_gcd" [(.var 1), (.var 3)])) (.var 3))], .ret (.var 1)]
def b_Lstretches : List MS := [.par [1, 2, 3] [(.call "_law_size" [(.var 0)]), (.lst []), (.cst (.int (0)))], .forr (.tup [(.name 4), (.name 5)]) (.seq (.var 0)) [.app (.var 2) (.tup [(.var 3), (.bin .add (.var 3) (.bin .mul (.bin .fdiv (.var 1) (.var 5)) (.var 4)))]), .asg (.name 3) (.sub (.sub (.var 2) (.bin .sub (.bi .len [(.var 2)]) (.cst (.int (1))))) (.cst (.int (1))))], .ret (.bi .tuple [(.var 2)])]
def b_law_k58 : List MS := [.forr (.name 1) (.rng1 (.bi .max2 [(.cst (.int (4))), (.bi .min2 [(.bi .len [(.var 0)]), (.cst (.int (8)))])])) [.asg (.name 2) (.call "_law_box" [(.var 0), (.var 1)]), .forr (.name 3) (.rng1 (.cst (.int (3)))) [.asg (.tup [(.name 6), (.name 7), (.name 8)]) (.call "_law_case" [(.var 2), (.cst (.int (6)))]), .asg (.name 4) (.call "dial_sizes" [(.var 8)]), .ifs (.nt (.call "_law_like" [(.var 4), (.bi .tuple [(.lc (.call "_law_size" [(.var 13)]) (.name 13) (.seq (.var 8)) [13] none)])])) [.ret (.cst (.bool false))] [], .forr (.name 5) (.rng1 (.bi .len [(.sub (.var 6) (.cst (.int (1))))])) [.asg (.name 9) (.call "arc_places" [(.var 8), (.var 5)]), .ifs (.orr (.nt (.call "_law_like" [(.var 9), (.call "_law_stretches" [(.sub (.var 8) (.var 5))])])) (.cmp .gt (.sub (.sub (.var 9) (.bin .sub (.bi .len [(.var 9)]) (.cst (.int (1))))) (.cst (.int (1)))) (.sub (.var 4) (.var 5)))) [.ret (.cst (.bool false))] [], .asg (.name 10) (.lc (.call "_law_part" [(.bin .sub (.var 12) (.var 11)), (.sub (.var 4) (.var 5))]) (.tup [(.name 11), (.name 12)]) (.seq (.var 9)) [11, 12] none), .ifs (.cmp .ne (.bi .tuple [(.var 10)]) (.sub (.var 8) (.var 5))) [.ret (.cst (.bool false))] []]]], .ret (.call "_law_like" [(.tup [(.call "dial_sizes" [(.tup [(.tup [(.tup [(.cst (.int (1))), (.cst (.int (3)))]), (.tup [(.cst (.int (1))), (.cst (.int (2)))])]), (.tup [(.tup [(.cst (.int (1))), (.cst (.int (2)))]), (.tup [(.cst (.int (1))), (.cst (.int (2)))])])])]), (.call "arc_places" [(.tup [(.tup [(.tup [(.cst (.int (1))), (.cst (.int (3)))]), (.tup [(.cst (.int (1))), (.cst (.int (2)))])])]), (.cst (.int (0)))])]), (.tup [(.tup [(.cst (.int (6))), (.cst (.int (2)))]), (.tup [(.tup [(.cst (.int (0))), (.cst (.int (2)))]), (.tup [(.cst (.int (2))), (.cst (.int (5)))])])])])]
def b_least_terms : List MS := [.asg (.name 2) (.call "common_divisor" [(.var 0), (.var 1)]), .ret (.tup [(.bin .fdiv (.var 0) (.var 2)), (.bin .fdiv (.var 1) (.var 2))])]
def b_things_of : List MS := [.ret (.bi .tuple [(.lc (.var 2) (.tup [(.name 2), (.name 3)]) (.enum (.sub (.var 0) (.cst (.int (1))))) [2, 3] (some (.cmp .inn (.var 1) (.var 3))))])]
def b_fraction_less : List MS := [.ret (.call "least_terms" [(.bin .sub (.bin .mul (.sub (.var 0) (.cst (.int (0)))) (.sub (.var 1) (.cst (.int (1))))) (.bin .mul (.sub (.var 1) (.cst (.int (0)))) (.sub (.var 0) (.cst (.int (1)))))), (.bin .mul (.sub (.var 0) (.cst (.int (1)))) (.sub (.var 1) (.cst (.int (1)))))])]
def b_fraction_times : List MS := [.ret (.call "least_terms" [(.bin .mul (.sub (.var 0) (.cst (.int (0)))) (.sub (.var 1) (.cst (.int (0))))), (.bin .mul (.sub (.var 0) (.cst (.int (1)))) (.sub (.var 1) (.cst (.int (1)))))])]
def b_left_over : List MS := [.asg (.name 3) (.tup [(.cst (.int (1))), (.cst (.int (1)))]), .forr (.name 4) (.seq (.sub (.var 1) (.var 2))) [.asg (.name 3) (.call "fraction_less" [(.var 3), (.var 4)])], .ret (.var 3)]
def b_is_arc : List MS := [.ifs (.orr (.nt (.isi (.var 0) .tuple)) (.orr (.cmp .ne (.bi .len [(.var 0)]) (.cst (.int (2)))) (.nt (.bi .all [(.lc (.an (.call "is_integer" [(.var 1)]) (.cmp .gt (.var 1) (.cst (.int (0))))) (.name 1) (.seq (.var 0)) [1] none)])))) [.ret (.cst (.bool false))] [], .ret (.cmp .eq (.call "common_divisor" [(.sub (.var 0) (.cst (.int (0)))), (.sub (.var 0) (.cst (.int (1))))]) (.cst (.int (1))))]
def b_are_arcs : List MS := [.ifs (.orr (.nt (.isi (.var 1) .tuple)) (.cmp .ne (.bi .len [(.var 1)]) (.bi .len [(.sub (.var 0) (.cst (.int (1))))]))) [.ret (.cst (.bool false))] [], .forr (.tup [(.name 2), (.name 3)]) (.zip (.sub (.var 0) (.cst (.int (1)))) (.var 1)) [.ifs (.orr (.nt (.isi (.var 3) .tuple)) (.orr (.cmp .ne (.bi .len [(.var 3)]) (.bi .len [(.var 2)])) (.nt (.bi .all [(.lc (.call "is_arc" [(.var 4)]) (.name 4) (.seq (.var 3)) [4] none)])))) [.ret (.cst (.bool false))] []], .ret (.cst (.bool true))]
def b_hand_share : List MS := [.asg (.name 3) (.tup [(.cst (.int (1))), (.cst (.int (1)))]), .forr (.name 4) (.seq (.call "things_of" [(.var 0), (.var 2)])) [.asg (.name 3) (.call "fraction_times" [(.var 3), (.sub (.sub (.var 1) (.var 4)) (.met .index (.sub (.sub (.var 0) (.cst (.int (1)))) (.var 4)) [(.var 2)]))])], .ret (.var 3)]
def b_arcs_serve : List MS := [.ifs (.nt (.call "are_arcs" [(.var 0), (.var 2)])) [.ret (.cst (.bool false))] [], .ifs (.bi .any [(.lc (.cmp .lt (.sub (.call "left_over" [(.var 0), (.var 2), (.var 5)]) (.cst (.int (0)))) (.cst (.int (0)))) (.name 5) (.rng1 (.bi .len [(.sub (.var 0) (.cst (.int (1))))])) [5] none)]) [.ret (.cst (.bool false))] [], .asg (.name 3) (.lc (.call "hand_share" [(.var 0), (.var 2), (.var 4)]) (.name 4) (.rng1 (.sub (.var 0) (.cst (.int (0))))) [4] none), .ret (.bi .all [(.lc (.cmp .ge (.bin .mul (.var 6) (.sub (.var 1) (.var 4))) (.var 7)) (.tup [(.name 4), (.tup [(.name 6), (.name 7)])]) (.enum (.var 3)) [4, 6, 7] none)])]
def b_Lless : List MS := [.ret (.call "_law_part" [(.bin .sub (.bin .mul (.sub (.var 0) (.cst (.int (0)))) (.sub (.var 1) (.cst (.int (1))))) (.bin .mul (.sub (.var 1) (.cst (.int (0)))) (.sub (.var 0) (.cst (.int (1)))))), (.bin .mul (.sub (.var 0) (.cst (.int (1)))) (.sub (.var 1) (.cst (.int (1)))))])]
def b_Lrest : List MS := [.asg (.name 1) (.tup [(.cst (.int (1))), (.cst (.int (1)))]), .forr (.name 2) (.seq (.var 0)) [.asg (.name 1) (.call "_law_less" [(.var 1), (.var 2)])], .ret (.var 1)]
def b_Lis_arc : List MS := [.ifs (.orr (.nt (.isi (.var 0) .tuple)) (.orr (.cmp .ne (.bi .len [(.var 0)]) (.cst (.int (2)))) (.cmp .ne (.lc (.cst (.int (1))) (.name 1) (.seq (.var 0)) [1] (some (.orr (.nt (.isi (.var 1) .int)) (.orr (.isi (.var 1) .bool) (.cmp .lt (.var 1) (.cst (.int (1)))))))) (.lst [])))) [.ret (.cst (.bool false))] [], .ret (.cmp .eq (.call "_law_gcd" [(.sub (.var 0) (.cst (.int (0)))), (.sub (.var 0) (.cst (.int (1))))]) (.cst (.int (1))))]
def b_Lserve_v2 : List MS := [.ifs (.orr (.nt (.isi (.var 2) .tuple)) (.cmp .ne (.bi .len [(.var 2)]) (.bi .len [(.sub (.var 0) (.cst (.int (1))))]))) [.ret (.cst (.bool false))] [], .forr (.tup [(.name 4), (.name 5)]) (.zip (.sub (.var 0) (.cst (.int (1)))) (.var 2)) [.ifs (.orr (.nt (.isi (.var 5) .tuple)) (.orr (.cmp .ne (.bi .len [(.var 5)]) (.bi .len [(.var 4)])) (.orr (.cmp .ne (.lc (.cst (.int (1))) (.name 7) (.seq (.var 5)) [7] (some (.nt (.call "_law_is_arc" [(.var 7)])))) (.lst [])) (.cmp .lt (.sub (.call "_law_rest" [(.var 5)]) (.cst (.int (0)))) (.cst (.int (0))))))) [.ret (.cst (.bool false))] []], .asg (.name 3) (.lc (.call "_law_share" [(.var 0), (.var 2), (.var 6)]) (.name 6) (.rng1 (.sub (.var 0) (.cst (.int (0))))) [6] none), .ret (.cmp .eq (.lc (.cst (.int (1))) (.tup [(.name 6), (.tup [(.name 8), (.name 9)])]) (.enum (.var 3)) [6, 8, 9] (some (.cmp .lt (.bin .mul (.var 8) (.sub (.var 1) (.var 6))) (.var 9)))) (.lst []))]
def b_Lbent : List MS := [.asg (.name 3) (.call "_law_take" [(.var 0), (.bi .len [(.sub (.var 1) (.cst (.int (1))))])]), .asg (.name 4) (.sub (.var 2) (.var 3)), .asg (.name 5) (.call "_law_take" [(.var 0), (.bi .len [(.var 4)])]), .asg (.tup [(.name 9), (.name 10)]) (.sub (.var 4) (.var 5)), .asg (.name 6) (.lst [(.tup [(.bin .mul (.var 9) (.cst (.int (2)))), (.bin .mul (.var 10) (.cst (.int (2))))]), (.tup [(.cst (.int (0))), (.cst (.int (1)))]), (.tup [(.bin .sub (.cst (.int (0))) (.var 9)), (.var 10)]), (.tup [(.var 9), (.bin .sub (.cst (.int (0))) (.var 10))]), (.lst [(.var 9), (.var 10)]), (.tup [(.var 9)]), (.tup [(.var 9), (.var 10), (.cst (.int (1)))]), (.cst .none), (.cst (.bool true)), (.tup [(.cst (.bool true)), (.var 10)]), (.cst (.int (1))), (.tup [(.var 9), (.cst .none)]), (.tup [(.cst (.int (1))), (.bin .add (.var 10) (.cst (.int (1))))]), (.tup [(.cst (.int (1))), (.cst (.int (1)))])]), .asg (.name 6) (.bin .add (.var 6) (.lst [(.call "_law_part" [(.bin .mul (.var 9) (.cst (.int (2)))), (.var 10)]), (.call "_law_part" [(.var 9), (.bin .mul (.var 10) (.cst (.int (2))))]), (.call "_law_part" [(.bin .mul (.var 9) (.cst (.int (3)))), (.bin .mul (.var 10) (.cst (.int (2))))]), (.call "_law_part" [(.bin .add (.var 9) (.cst (.int (1)))), (.bin .add (.var 10) (.cst (.int (1))))])])), .asg (.name 7) (.lst [(.bin .add (.bin .add (.slc (.var 4) none (some (.var 5))) (.tup [(.call "_law_pick" [(.var 0), (.var 6)])])) (.slc (.var 4) (some (.bin .add (.var 5) (.cst (.int (1))))) none)), (.bin .add (.bin .add (.slc (.var 4) none (some (.var 5))) (.tup [(.call "_law_pick" [(.var 0), (.var 6)])])) (.slc (.var 4) (some (.bin .add (.var 5) (.cst (.int (1))))) none)), (.bin .add (.var 4) (.tup [(.sub (.var 4) (.var 5))])), (.slc (.var 4) none (some (.neg (.cst (.int (1)))))), (.bi .list [(.var 4)]), (.cst .none), (.rev (.var 4)), (.tup [])]), .asg (.name 8) (.lst [(.bin .add (.bin .add (.slc (.var 2) none (some (.var 3))) (.tup [(.call "_law_pick" [(.var 0), (.var 7)])])) (.slc (.var 2) (some (.bin .add (.var 3) (.cst (.int (1))))) none)), (.bin .add (.bin .add (.slc (.var 2) none (some (.var 3))) (.tup [(.call "_law_pick" [(.var 0), (.slc (.var 7) none (some (.cst (.int (2)))))])])) (.slc (.var 2) (some (.bin .add (.var 3) (.cst (.int (1))))) none)), (.bin .add (.bin .add (.slc (.var 2) none (some (.var 3))) (.tup [(.sub (.var 7) (.cst (.int (6))))])) (.slc (.var 2) (some (.bin .add (.var 3) (.cst (.int (1))))) none))]), .ret (.call "_law_pick" [(.var 0), (.bin .add (.var 8) (.lst [(.bin .add (.var 2) (.slc (.var 2) none (some (.cst (.int (1)))))), (.slc (.var 2) none (some (.neg (.cst (.int (1)))))), (.bi .list [(.var 2)]), (.cst .none), (.tup []), (.cst (.int (0))), (.rev (.var 2))]))])]
def b_law_k55 : List MS := [.forr (.name 1) (.rng1 (.bi .max2 [(.cst (.int (4))), (.bi .min2 [(.bi .len [(.var 0)]), (.cst (.int (8)))])])) [.asg (.name 2) (.call "_law_box" [(.var 0), (.var 1)]), .asg (.tup [(.name 6), (.name 7), (.name 8)]) (.call "_law_case" [(.var 2), (.cst (.int (6)))]), .asg (.name 3) (.call "_law_take" [(.var 2), (.sub (.var 6) (.cst (.int (0))))]), .asg (.name 4) (.bin .add (.bin .add (.slc (.var 7) none (some (.var 3))) (.tup [(.bi .max2 [(.cst (.int (1))), (.bin .sub (.sub (.var 7) (.var 3)) (.cst (.int (1))))])])) (.slc (.var 7) (some (.bin .add (.var 3) (.cst (.int (1))))) none)), .forr (.name 5) (.seq (.bin .add (.lst [(.var 8)]) (.lc (.call "_law_bent" [(.var 2), (.var 6), (.var 8)]) (.name 10) (.rng1 (.cst (.int (8)))) [10] none))) [.forr (.name 9) (.seq (.lst [(.var 7), (.var 4)])) [.ifs (.nt (.call "_law_like" [(.call "arcs_serve" [(.var 6), (.var 9), (.var 5)]), (.call "_law_serve" [(.var 6), (.var 9), (.var 5)])])) [.ret (.cst (.bool false))] []]], .ifs (.isB (.call "arcs_serve" [(.var 6), (.var 7), (.var 8)]) true true) [.ret (.cst (.bool false))] []], .ret (.isB (.call "arcs_serve" [(.tup [(.cst (.int (2))), (.tup [(.tup [(.cst (.int (0))), (.cst (.int (1)))]), (.tup [(.cst (.int (0))), (.cst (.int (1)))])])]), (.tup [(.cst (.int (4))), (.cst (.int (4)))]), (.tup [(.tup [(.tup [(.cst (.int (1))), (.cst (.int (2)))]), (.tup [(.cst (.int (1))), (.cst (.int (2)))])]), (.tup [(.tup [(.cst (.int (1))), (.cst (.int (2)))]), (.tup [(.cst (.int (1))), (.cst (.int (2)))])])])]) true false)]
def b_hand_rows : List MS := [.asg (.name 3) (.lst []), .forr (.name 4) (.seq (.call "things_of" [(.var 0), (.var 2)])) [.asg (.tup [(.name 5), (.name 6)]) (.sub (.call "arc_places" [(.var 1), (.var 4)]) (.met .index (.sub (.sub (.var 0) (.cst (.int (1)))) (.var 4)) [(.var 2)])), .app (.var 3) (.tup [(.var 4), (.call "dial_size" [(.var 1), (.var 4)]), (.var 5), (.bin .sub (.var 6) (.var 5))])], .ret (.var 3)]
def b_with_places : List MS := [.ret (.bi .tuple [(.lc (.met .get2 (.var 1) [(.var 2), (.var 3)]) (.tup [(.name 2), (.name 3)]) (.enum (.var 0)) [2, 3] none)])]
def b_move_on : List MS := [.par [5, 6, 7, 8] [(.call "hand_rows" [(.var 0), (.var 2), (.var 4)]), (.cst (.int (0))), (.cst (.int (1))), .dic0], .forr (.tup [(.name 9), (.name 10), (.name 11), (.name 12)]) (.seq (.var 5)) [.par [6, 7] [(.bin .add (.bin .mul (.var 6) (.var 10)) (.sub (.var 3) (.var 9))), (.bin .mul (.var 7) (.var 12))]], .par [13, 14] [(.bin .fdiv (.var 6) (.var 7)), (.bin .mod (.var 6) (.var 7))], .forr (.tup [(.name 9), (.name 10), (.name 11), (.name 12)]) (.seq (.rev (.var 5))) [.aset (.var 8) (.var 9) (.bin .add (.var 11) (.bin .mod (.var 14) (.var 12))), .asg (.name 14) (.bin .fdiv (.var 14) (.var 12))], .ret (.tup [(.var 13), (.call "with_places" [(.var 3), (.var 8)])])]
def b_Lof_hand : List MS := [.asg (.name 3) (.lst []), .forr (.name 4) (.seq (.call "_law_things" [(.var 0), (.var 2)])) [.asg (.tup [(.name 5), (.name 6)]) (.sub (.call "_law_stretches" [(.sub (.var 1) (.var 4))]) (.met .index (.bi .list [(.sub (.sub (.var 0) (.cst (.int (1)))) (.var 4))]) [(.var 2)])), .app (.var 3) (.tup [(.var 4), (.call "_law_size" [(.sub (.var 1) (.var 4))]), (.var 5), (.bin .sub (.var 6) (.var 5))])], .ret (.var 3)]
def b_Lon : List MS := [.par [4, 5, 6, 7] [(.rev (.call "_law_of_hand" [(.var 0), (.var 1), (.var 3)])), (.cst (.int (0))), (.cst (.int (1))), (.cst (.int (1)))], .forr (.tup [(.name 8), (.name 9), (.name 10), (.name 11)]) (.seq (.var 4)) [.par [5, 6, 7] [(.bin .add (.var 5) (.bin .mul (.sub (.var 2) (.var 8)) (.var 6))), (.bin .mul (.var 6) (.var 9)), (.bin .mul (.var 7) (.var 11))]], .par [12, 13] [(.bin .mod (.bi .int [(.var 5)]) (.var 7)), (.bi .list [(.var 2)])], .forr (.tup [(.name 8), (.name 9), (.name 10), (.name 11)]) (.seq (.var 4)) [.aset (.var 13) (.var 8) (.bin .add (.var 10) (.bin .mod (.bi .int [(.var 12)]) (.var 11))), .asg (.name 12) (.bin .fdiv (.var 12) (.var 11))], .ret (.tup [(.bin .fdiv (.var 5) (.var 7)), (.bi .tuple [(.var 13)])])]
def b_Lplaces : List MS := [.ret (.bi .tuple [(.lc (.call "_law_take" [(.var 0), (.call "_law_size" [(.var 2)])]) (.name 2) (.seq (.var 1)) [2] none)])]
def b_Lare_in : List MS := [.ret (.cmp .eq (.lc (.cst (.int (1))) (.tup [(.name 4), (.name 5), (.name 6), (.name 7)]) (.seq (.call "_law_of_hand" [(.var 0), (.var 1), (.var 3)])) [4, 5, 6, 7] (some (.nt (.chain .le .lt (.var 6) (.sub (.var 2) (.var 4)) (.bin .add (.var 6) (.var 7)))))) (.lst []))]
def b_Lsome_places : List MS := [.par [7, 6] [(.call "_law_places" [(.var 0), (.var 2)]), (.lst [])], .asg (.name 4) (.lc (.call "_law_size" [(.var 11)]) (.name 11) (.seq (.var 2)) [11] none), .par [8, 9] [(.call "_law_things" [(.var 1), (.var 3)]), (.cst (.int (1)))], .forr (.name 5) (.seq (.var 8)) [.asg (.name 9) (.bin .mul (.var 9) (.sub (.var 4) (.var 5)))], .ifs (.cmp .gt (.var 9) (.cst (.int (300)))) [.ret (.bin .add (.lc (.call "_law_places" [(.var 0), (.var 2)]) (.name 12) (.rng1 (.cst (.int (30)))) [12] none) (.lst [(.bi .tuple [(.lc (.bin .sub (.var 14) (.cst (.int (1)))) (.name 14) (.seq (.var 4)) [14] none)])]))] [], .asg (.name 6) (.lst [(.bi .list [(.var 7)])]), .forr (.name 5) (.seq (.var 8)) [.asg (.name 10) (.lst []), .forr (.name 11) (.seq (.var 6)) [.asg (.name 10) (.bin .add (.var 10) (.lc (.bin .add (.bin .add (.slc (.var 11) none (some (.var 5))) (.lst [(.var 13)])) (.slc (.var 11) (some (.bin .add (.var 5) (.cst (.int (1))))) none)) (.name 13) (.rng1 (.sub (.var 4) (.var 5))) [13] none))], .asg (.name 6) (.var 10)], .ret (.lc (.bi .tuple [(.var 11)]) (.name 11) (.seq (.var 6)) [11] none)]
def b_law_k60 : List MS := [.forr (.name 1) (.rng1 (.bi .max2 [(.cst (.int (4))), (.bi .min2 [(.bi .len [(.var 0)]), (.cst (.int (8)))])])) [.asg (.name 2) (.call "_law_box" [(.var 0), (.var 1)]), .asg (.tup [(.name 5), (.name 6), (.name 7)]) (.call "_law_case" [(.var 2), (.cst (.int (5)))]), .asg (.name 3) (.call "_law_take" [(.var 2), (.sub (.var 5) (.cst (.int (0))))]), .par [8, 9] [(.call "_law_things" [(.var 5), (.var 3)]), .dic0], .forr (.name 4) (.seq (.bi .sortset [(.call "_law_some_places" [(.var 2), (.var 5), (.var 7), (.var 3)])])) [.asg (.name 10) (.call "move_on" [(.var 5), (.var 6), (.var 7), (.var 4), (.var 3)]), .ifs (.orr (.nt (.isi (.var 10) .tuple)) (.orr (.cmp .ne (.bi .len [(.var 10)]) (.cst (.int (2)))) (.orr (.nt (.call "_law_like" [(.var 10), (.call "_law_on" [(.var 5), (.var 7), (.var 4), (.var 3)])])) (.nt (.chain .le .lt (.cst (.int (0))) (.sub (.var 10) (.cst (.int (0)))) (.sub (.var 6) (.var 3))))))) [.ret (.cst (.bool false))] [], .ifs (.orr (.nt (.call "_law_are_in" [(.var 5), (.var 7), (.sub (.var 10) (.cst (.int (1)))), (.var 3)])) (.cmp .ne (.lc (.cst (.int (1))) (.name 12) (.rng1 (.bi .len [(.sub (.var 5) (.cst (.int (1))))])) [12] (some (.an (.cmp .notin (.var 12) (.var 8)) (.cmp .ne (.sub (.sub (.var 10) (.cst (.int (1)))) (.var 12)) (.sub (.var 4) (.var 12)))))) (.lst []))) [.ret (.cst (.bool false))] [], .asg (.name 11) (.bin .add (.tup [(.sub (.var 10) (.cst (.int (0)))), (.sub (.var 10) (.cst (.int (1))))]) (.bi .tuple [(.lc (.sub (.var 4) (.var 12)) (.name 12) (.rng1 (.bi .len [(.sub (.var 5) (.cst (.int (1))))])) [12] (some (.cmp .notin (.var 12) (.var 8))))])), .ifs (.cmp .inn (.var 11) (.var 9)) [.ret (.cst (.bool false))] [], .aset (.var 9) (.var 11) (.cst (.bool true))]], .ret (.call "_law_like" [(.call "move_on" [(.tup [(.cst (.int (2))), (.tup [(.tup [(.cst (.int (0))), (.cst (.int (1)))])])]), (.tup [(.cst (.int (2))), (.cst (.int (2)))]), (.tup [(.tup [(.tup [(.cst (.int (1))), (.cst (.int (2)))]), (.tup [(.cst (.int (1))), (.cst (.int (2)))])])]), (.tup [(.cst (.int (1)))]), (.cst (.int (0)))]), (.tup [(.cst (.int (1))), (.tup [(.cst (.int (0)))])])])]
def b_is_in_arcs : List MS := [.ret (.bi .all [(.lc (.chain .le .lt (.var 6) (.sub (.var 2) (.var 4)) (.bin .add (.var 6) (.var 7))) (.tup [(.name 4), (.name 5), (.name 6), (.name 7)]) (.seq (.call "hand_rows" [(.var 0), (.var 1), (.var 3)])) [4, 5, 6, 7] none)])]
def b_told_last : List MS := [.ret (.bi .tuple [(.lc (.var 4) (.name 4) (.rng1 (.sub (.var 0) (.cst (.int (0))))) [4] (some (.an (.cmp .gt (.sub (.var 3) (.var 4)) (.cst (.int (0)))) (.call "is_in_arcs" [(.var 0), (.var 1), (.var 2), (.var 4)]))))])]
def b_write_story : List MS := [.asg (.name 5) (.lc (.lst []) (.name 6) (.rng1 (.sub (.var 0) (.cst (.int (0))))) [6] none), .forr (.name 6) (.seq (.var 3)) [.asg (.tup [(.name 7), (.name 4)]) (.call "move_on" [(.var 0), (.var 1), (.var 2), (.var 4), (.var 6)]), .app (.sub (.var 5) (.var 6)) (.var 7)], .ret (.tup [(.bi .tuple [(.lc (.bi .tuple [(.var 8)]) (.name 8) (.seq (.var 5)) [8] none)]), (.var 4)])]
def b_Lstory : List MS := [.ret (.bi .tuple [(.lc (.call "_law_take" [(.var 0), (.sub (.var 1) (.cst (.int (0))))]) (.name 3) (.rng1 (.call "_law_take" [(.var 0), (.bin .add (.var 2) (.cst (.int (1))))])) [3] none)])]
def b_Lwritten : List MS := [.asg (.name 4) (.bin .mul (.lst [(.tup [])]) (.sub (.var 0) (.cst (.int (0))))), .forr (.name 5) (.seq (.var 2)) [.asg (.tup [(.name 6), (.name 3)]) (.call "_law_on" [(.var 0), (.var 1), (.var 3), (.var 5)]), .aset (.var 4) (.var 5) (.bin .add (.sub (.var 4) (.var 5)) (.tup [(.var 6)]))], .ret (.tup [(.bi .tuple [(.var 4)]), (.var 3)])]
def b_Llast_of : List MS := [.asg (.name 2) (.lst []), .forr (.name 3) (.seq (.bi .sortset [(.var 1)])) [.asg (.name 4) (.bi .max1 [(.lc (.var 6) (.tup [(.name 6), (.name 7)]) (.enum (.var 1)) [6, 7] (some (.cmp .eq (.var 7) (.var 3))))]), .ifs (.cmp .eq (.lc (.cst (.int (1))) (.name 5) (.seq (.slc (.var 1) (some (.bin .add (.var 4) (.cst (.int (1))))) none)) [5] (some (.call "_law_touch" [(.var 0), (.var 3), (.var 5)]))) (.lst [])) [.app (.var 2) (.var 3)] []], .ret (.bi .tuple [(.var 2)])]
def b_law_k61 : List MS := [.forr (.name 1) (.rng1 (.bi .max2 [(.cst (.int (4))), (.bi .min2 [(.bi .len [(.var 0)]), (.cst (.int (8)))])])) [.asg (.name 2) (.call "_law_box" [(.var 0), (.var 1)]), .asg (.tup [(.name 7), (.name 8), (.name 6)]) (.call "_law_case" [(.var 2), (.cst (.int (6)))]), .par [9, 10] [(.call "_law_story" [(.var 2), (.var 7), (.ife (.cmp .eq (.var 1) (.cst (.int (0)))) (.cst (.int (40))) (.cst (.int (16))))]), (.call "_law_places" [(.var 2), (.var 6)])], .forr (.name 3) (.seq (.bi .sortset [(.lst [(.cst (.int (0))), (.cst (.int (1))), (.bin .fdiv (.bi .len [(.var 9)]) (.cst (.int (2)))), (.call "_law_take" [(.var 2), (.bin .add (.bi .len [(.var 9)]) (.cst (.int (1))))]), (.bi .len [(.var 9)])])])) [.asg (.name 11) (.slc (.var 9) none (some (.var 3))), .asg (.tup [(.name 14), (.name 15)]) (.call "write_story" [(.var 7), (.var 8), (.var 6), (.var 11), (.var 10)]), .ifs (.nt (.call "_law_like" [(.tup [(.var 14), (.var 15)]), (.call "_law_written" [(.var 7), (.var 6), (.var 11), (.var 10)])])) [.ret (.cst (.bool false))] [], .ifs (.nt (.call "_law_like" [(.call "told_last" [(.var 7), (.var 6), (.var 15), (.bi .tuple [(.lc (.bi .len [(.var 17)]) (.name 17) (.seq (.var 14)) [17] none)])]), (.call "_law_last_of" [(.var 7), (.var 11)])])) [.ret (.cst (.bool false))] []], .par [12, 13] [(.call "_law_places" [(.var 2), (.var 6)]), (.bi .tuple [(.lc (.call "_law_take" [(.var 2), (.cst (.int (2)))]) (.name 16) (.rng1 (.sub (.var 7) (.cst (.int (0))))) [16] none)])], .asg (.name 4) (.bi .tuple [(.lc (.var 16) (.name 16) (.rng1 (.sub (.var 7) (.cst (.int (0))))) [16] (some (.an (.cmp .gt (.sub (.var 13) (.var 16)) (.cst (.int (0)))) (.call "_law_are_in" [(.var 7), (.var 6), (.var 12), (.var 16)]))))]), .ifs (.nt (.call "_law_like" [(.call "told_last" [(.var 7), (.var 6), (.var 12), (.var 13)]), (.var 4)])) [.ret (.cst (.bool false))] []], .par [5, 6] [(.tup [(.cst (.int (3))), (.tup [(.tup [(.cst (.int (0))), (.cst (.int (1)))]), (.tup [(.cst (.int (1))), (.cst (.int (2)))])])]), (.tup [(.tup [(.tup [(.cst (.int (1))), (.cst (.int (3)))]), (.tup [(.cst (.int (1))), (.cst (.int (2)))])]), (.tup [(.tup [(.cst (.int (1))), (.cst (.int (2)))]), (.tup [(.cst (.int (1))), (.cst (.int (2)))])])])], .ret (.call "_law_like" [(.tup [(.call "told_last" [(.var 5), (.var 6), (.tup [(.cst (.int (4))), (.cst (.int (0)))]), (.tup [(.cst (.int (1))), (.cst (.int (1))), (.cst (.int (1)))])]), (.call "told_last" [(.var 5), (.var 6), (.tup [(.cst (.int (1))), (.cst (.int (1)))]), (.tup [(.cst (.int (0))), (.cst (.int (1))), (.cst (.int (1)))])])]), (.tup [(.tup [(.cst (.int (1)))]), (.tup [(.cst (.int (2)))])])])]
def b_touches : List MS := [.ret (.orr (.cmp .eq (.var 1) (.var 2)) (.bi .any [(.lc (.an (.cmp .inn (.var 1) (.var 3)) (.cmp .inn (.var 2) (.var 3))) (.name 3) (.seq (.sub (.var 0) (.cst (.int (1))))) [3] none)]))]
def b_touching : List MS := [.ret (.bi .tuple [(.lc (.var 2) (.name 2) (.rng1 (.sub (.var 0) (.cst (.int (0))))) [2] (some (.call "touches" [(.var 0), (.var 1), (.var 2)])))])]
def b_lowest : List MS := [.ifs (.cmp .eq (.var 1) (.cst (.int (0)))) [.raise] [], .asg (.name 2) (.call "common_divisor" [(.bi .abs [(.var 0)]), (.bi .abs [(.var 1)])]), .ifs (.cmp .lt (.var 1) (.cst (.int (0)))) [.asg (.name 2) (.bin .sub (.cst (.int (0))) (.var 2))] [], .ret (.tup [(.bin .fdiv (.var 0) (.var 2)), (.bin .fdiv (.var 1) (.var 2))])]
def b_minus : List MS := [.ret (.call "lowest" [(.bin .sub (.bin .mul (.sub (.var 0) (.cst (.int (0)))) (.sub (.var 1) (.cst (.int (1))))) (.bin .mul (.sub (.var 1) (.cst (.int (0)))) (.sub (.var 0) (.cst (.int (1)))))), (.bin .mul (.sub (.var 0) (.cst (.int (1)))) (.sub (.var 1) (.cst (.int (1)))))])]
def b_times : List MS := [.ret (.call "lowest" [(.bin .mul (.sub (.var 0) (.cst (.int (0)))) (.sub (.var 1) (.cst (.int (0))))), (.bin .mul (.sub (.var 0) (.cst (.int (1)))) (.sub (.var 1) (.cst (.int (1)))))])]
def b_is_less : List MS := [.ret (.cmp .lt (.bin .mul (.sub (.var 0) (.cst (.int (0)))) (.sub (.var 1) (.cst (.int (1))))) (.bin .mul (.sub (.var 1) (.cst (.int (0)))) (.sub (.var 0) (.cst (.int (1))))))]
def b_lots_of : List MS := [.asg (.name 1) (.lst [(.tup [])]), .forr (.name 2) (.rng1 (.var 0)) [.ext (.var 1) (.lc (.bin .add (.var 3) (.tup [(.var 2)])) (.name 3) (.seq (.var 1)) [3] none)], .ret (.bi .tuple [.bad])]
def b_lot_order : List MS := [.ret (.tup [(.bi .len [(.var 0)]), (.var 0)])]
def b_without : List MS := [.ret (.bi .tuple [(.lc (.var 2) (.name 2) (.seq (.var 0)) [2] (some (.cmp .notin (.var 2) (.var 1))))])]
def b_sums_within : List MS := [.par [3, 4] [(.lc (.call "touching" [(.var 0), (.var 5)]) (.name 5) (.rng1 (.sub (.var 0) (.cst (.int (0))))) [5] none), .bad], .forr (.name 2) (.seq (.slc (.call "lots_of" [(.sub (.var 0) (.cst (.int (0))))]) (some (.cst (.int (1)))) none)) [.asg (.name 5) (.sub (.var 2) (.cst (.int (0)))), .asg (.name 6) (.call "times" [(.sub (.var 1) (.var 5)), (.sub (.var 4) (.call "without" [(.var 2), (.sub (.var 3) (.var 5))]))]), .aset (.var 4) (.var 2) (.call "minus" [(.sub (.var 4) (.slc (.var 2) (some (.cst (.int (1)))) none)), (.var 6)])], .ret (.var 4)]
def b_first_below : List MS := [.forr (.name 3) (.seq (.var 2)) [.ifs (.call "is_less" [(.sub (.var 1) (.var 3)), (.glob "NOUGHT")]) [.ret (.var 3)] []], .ret (.cst .none)]
def b_region_fault : List MS := [.ret (.call "first_below" [(.var 0), (.call "sums_within" [(.var 0), (.var 1)]), (.call "lots_of" [(.sub (.var 0) (.cst (.int (0))))])])]
def b_Lfirst_bar : List MS := [.asg (.name 3) (.bi .sorted [(.lc (.tup [(.bi .sum [(.var 5)]), (.var 5)]) (.name 5) (.seq (.call "_law_all_rows" [(.sub (.var 0) (.cst (.int (0)))), (.var 2)])) [5] (some (.cmp .gt (.bi .sum [(.var 5)]) (.cst (.int (0))))))]), .forr (.tup [(.name 4), (.name 5)]) (.seq (.var 3)) [.asg (.name 6) (.call "_law_product" [(.var 0), (.var 1), (.var 5)]), .ifs (.cmp .lt (.sub (.var 6) (.cst (.int (0)))) (.sub (.var 6) (.cst (.int (1))))) [.ret (.var 5)] []], .ret (.cst .none)]
def b_law_k70 : List MS := [.forr (.name 1) (.rng1 (.bi .max2 [(.cst (.int (3))), (.bi .min2 [(.bi .len [(.var 0)]), (.cst (.int (6)))])])) [.asg (.name 3) (.call "_law_box" [(.var 0), (.var 1)]), .asg (.name 4) (.call "_law_small_web" [(.var 3), (.cst (.int (4))), (.cst (.int (4)))]), .asg (.name 5) (.call "_law_marks" [(.var 3), (.var 4), (.bin .mod (.bi .int [(.var 1)]) (.cst (.int (4))))]), .asg (.name 6) (.call "bar_weights" [(.var 4), (.var 5), (.cst (.int (2)))]), .ifs (.nt (.call "_law_like" [(.var 6), (.call "_law_first_bar" [(.var 4), (.var 5), (.cst (.int (2)))])])) [.ret (.cst (.bool false))] [], .asg (.name 7) (.lc (.var 8) (.name 8) (.rng2 (.cst (.int (1))) (.cst (.int (7)))) [8] (some (.isN (.call "arcs_found" [(.var 4), (.var 5), (.var 8)]) true))), .ifs (.orr (.an (.isN (.var 6) true) (.cmp .ne (.var 7) (.lst []))) (.an (.cmp .ne (.var 7) (.lst [])) (.isN (.call "region_fault" [(.var 4), (.call "_law_chances" [(.var 5)])]) true))) [.ret (.cst (.bool false))] [], .ifs (.an (.isN (.call "_law_fault" [(.var 4), (.call "_law_chances" [(.var 5)])]) true) (.cmp .ne (.var 7) (.lst []))) [.ret (.cst (.bool false))] []], .asg (.name 2) (.tup [(.cst (.int (4))), (.tup [(.tup [(.cst (.int (0))), (.cst (.int (1)))]), (.tup [(.cst (.int (0))), (.cst (.int (3)))]), (.tup [(.cst (.int (1))), (.cst (.int (2)))]), (.tup [(.cst (.int (2))), (.cst (.int (3)))])])]), .ifs (.isN (.call "region_fault" [(.var 2), (.call "_law_chances" [(.tup [(.cst (.int (3))), (.cst (.int (4))), (.cst (.int (3))), (.cst (.int (4)))])])]) true) [.ret (.cst (.bool false))] [], .ret (.an (.call "_law_like" [(.call "bar_weights" [(.var 2), (.tup [(.cst (.int (3))), (.cst (.int (4))), (.cst (.int (3))), (.cst (.int (4)))]), (.cst (.int (2)))]), (.tup [(.cst (.int (1))), (.cst (.int (1))), (.cst (.int (1))), (.cst (.int (1)))])]) (.call "_law_like" [(.call "bar_weights" [(.var 2), (.tup [(.cst (.int (4))), (.cst (.int (4))), (.cst (.int (4))), (.cst (.int (4)))]), (.cst (.int (2)))]), (.cst .none)]))]
def b_rows_of : List MS := [.par [2, 3] [(.cst (.int (1))), (.cst (.int (0)))], .forr (.name 1) (.seq (.var 0)) [.forr (.name 4) (.rng2 (.cst (.int (1))) (.bin .add (.var 1) (.cst (.int (1))))) [.aug .add 3 (.cst (.int (1))), .asg (.name 2) (.bin .fdiv (.bin .mul (.var 2) (.var 3)) (.var 4))]], .ret (.var 2)]
def b_rows_many : List MS := [.asg (.name 2) (.cst (.int (1))), .forr (.name 3) (.seq (.sub (.var 0) (.cst (.int (1))))) [.asg (.name 2) (.bin .mul (.var 2) (.call "rows_of" [(.lc (.sub (.var 1) (.var 4)) (.name 4) (.seq (.var 3)) [4] none)]))], .ret (.var 2)]
def b_by_size : List MS := [.ret (.tup [(.bi .len [(.var 0)]), (.var 0)])]
def b_apart_lots : List MS := [.asg (.name 2) (.lst [(.tup [])]), .forr (.name 3) (.seq (.var 1)) [.ext (.var 2) (.lc (.bin .add (.var 4) (.tup [(.var 3)])) (.name 4) (.seq (.var 2)) [4] (some (.nt (.bi .any [(.lc (.call "touches" [(.var 0), (.var 3), (.var 5)]) (.name 5) (.seq (.var 4)) [5] none)]))))], .ret (.bi .tuple [.bad])]
def b_is_fine : List MS := [.asg (.name 1) (.cst (.int (1))), .forr (.name 2) (.seq (.var 0)) [.asg (.name 1) (.bin .mul (.var 1) (.bin .add (.var 2) (.cst (.int (1)))))], .ret (.cmp .le (.var 1) (.glob "MOST_ROWS"))]
def b_rows_within : List MS := [.asg (.name 1) (.lst [(.tup [])]), .forr (.name 2) (.seq (.var 0)) [.asg (.name 3) (.lst []), .forr (.name 4) (.seq (.var 1)) [.ext (.var 3) (.lc (.bin .add (.var 4) (.tup [(.var 5)])) (.name 5) (.rng1 (.bin .add (.var 2) (.cst (.int (1))))) [5] none)], .asg (.name 1) (.var 3)], .ret (.var 1)]
def b_row_less : List MS := [.asg (.name 2) (.bi .tuple [(.lc (.bin .sub (.var 4) (.ife (.cmp .inn (.var 3) (.var 1)) (.cst (.int (1))) (.cst (.int (0))))) (.tup [(.name 3), (.name 4)]) (.enum (.var 0)) [3, 4] none)]), .ret (.ife (.cmp .ge (.bi .min1 [(.var 2)]) (.cst (.int (0)))) (.var 2) (.cst .none))]
def b_counts_within : List MS := [.ifs (.nt (.call "is_fine" [(.var 1)])) [.raise] [], .asg (.name 2) (.lc (.var 6) (.name 6) (.seq (.call "apart_lots" [(.var 0), (.bi .trng1 [(.sub (.var 0) (.cst (.int (0))))])])) [6] (some (.cmp .gt (.bi .len [(.var 6)]) (.cst (.int (0)))))), .asg (.name 3) .dic0, .forr (.name 4) (.seq (.call "rows_within" [(.var 1)])) [.asg (.name 5) (.ife (.cmp .eq (.bi .sum [(.var 4)]) (.cst (.int (0)))) (.cst (.int (1))) (.cst (.int (0)))), .forr (.name 6) (.seq (.var 2)) [.asg (.name 7) (.call "row_less" [(.var 4), (.var 6)]), .ifs (.isN (.var 7) true) [.aug .add 5 (.ife (.cmp .eq (.bin .mod (.bi .len [(.var 6)]) (.cst (.int (2)))) (.cst (.int (1)))) (.sub (.var 3) (.var 7)) (.bin .sub (.cst (.int (0))) (.sub (.var 3) (.var 7))))] []], .aset (.var 3) (.var 4) (.var 5)], .ret (.var 3)]
def b_heaps_many : List MS := [.ret (.sub (.call "counts_within" [(.var 0), (.var 1)]) (.bi .tuple [(.var 1)]))]
def b_Lmany : List MS := [.asg (.name 2) (.lc (.var 9) (.name 9) (.seq (.slc (.call "_law_lots" [(.sub (.var 0) (.cst (.int (0))))]) (some (.cst (.int (1)))) none)) [9] (some (.call "_law_apart" [(.var 0), (.var 9)]))), .asg (.name 3) (.lst [(.tup [])]), .forr (.name 4) (.seq (.var 1)) [.asg (.name 7) (.lst []), .forr (.name 6) (.seq (.var 3)) [.asg (.name 7) (.bin .add (.var 7) (.lc (.bin .add (.var 6) (.tup [(.var 11)])) (.name 11) (.rng1 (.bin .add (.var 4) (.cst (.int (1))))) [11] none))], .asg (.name 3) (.var 7)], .asg (.name 5) .dic0, .forr (.name 6) (.seq (.var 3)) [.asg (.name 8) (.ife (.cmp .eq (.bi .sum [(.var 6)]) (.cst (.int (0)))) (.cst (.int (1))) (.cst (.int (0)))), .forr (.name 9) (.seq (.var 2)) [.ifs (.cmp .gt (.bi .min1 [(.lc (.sub (.var 6) (.var 12)) (.name 12) (.seq (.var 9)) [12] none)]) (.cst (.int (0)))) [.asg (.name 10) (.bi .tuple [(.lc (.bin .sub (.var 4) (.ife (.cmp .inn (.var 12) (.var 9)) (.cst (.int (1))) (.cst (.int (0))))) (.tup [(.name 12), (.name 4)]) (.enum (.var 6)) [12, 4] none)]), .asg (.name 8) (.bin .add (.var 8) (.ife (.cmp .eq (.bin .band (.bi .len [(.var 9)]) (.cst (.int (1)))) (.cst (.int (1)))) (.sub (.var 5) (.var 10)) (.bin .sub (.cst (.int (0))) (.sub (.var 5) (.var 10)))))] []], .aset (.var 5) (.var 6) (.var 8)], .ret (.sub (.var 5) (.bi .tuple [(.var 1)]))]
def b_Lrows : List MS := [.par [2, 3] [(.cst (.int (1))), (.cst (.int (0)))], .forr (.name 1) (.seq (.var 0)) [.forr (.name 4) (.rng2 (.cst (.int (1))) (.bin .add (.var 1) (.cst (.int (1))))) [.asg (.name 3) (.bin .add (.var 3) (.cst (.int (1)))), .asg (.name 2) (.bin .fdiv (.bin .mul (.var 2) (.var 3)) (.var 4))]], .ret (.var 2)]
def b_Lrows_many : List MS := [.asg (.name 2) (.cst (.int (1))), .forr (.name 3) (.seq (.sub (.var 0) (.cst (.int (1))))) [.asg (.name 2) (.bin .mul (.var 2) (.call "_law_rows" [(.lc (.sub (.var 1) (.var 4)) (.name 4) (.seq (.var 3)) [4] none)]))], .ret (.var 2)]
def b_Lis_forest : List MS := [.asg (.name 1) (.lst []), .forr (.tup [(.name 3), (.name 4)]) (.enum (.sub (.var 0) (.cst (.int (1))))) [.asg (.name 1) (.bin .add (.var 1) (.lc (.tup [(.var 8), (.var 3)]) (.name 8) (.seq (.var 4)) [8] none))], .forr (.name 2) (.rng1 (.bin .add (.bi .len [(.var 1)]) (.cst (.int (1))))) [.par [5, 6] [(.lc (.sub (.var 7) (.cst (.int (0)))) (.name 7) (.seq (.var 1)) [7] none), (.lc (.sub (.var 7) (.cst (.int (1)))) (.name 7) (.seq (.var 1)) [7] none)], .asg (.name 1) (.lc (.var 7) (.name 7) (.seq (.var 1)) [7] (some (.an (.cmp .gt (.met .count (.var 5) [(.sub (.var 7) (.cst (.int (0))))]) (.cst (.int (1)))) (.cmp .gt (.met .count (.var 6) [(.sub (.var 7) (.cst (.int (1))))]) (.cst (.int (1)))))))], .ret (.cmp .eq (.var 1) (.lst []))]
def b_Lsplit : List MS := [.asg (.name 3) (.bin .mul (.lst [(.cst (.int (1)))]) (.var 1)), .forr (.name 4) (.rng1 (.call "_law_take" [(.var 0), (.bin .add (.bin .sub (.var 2) (.var 1)) (.cst (.int (1))))])) [.asg (.name 5) (.call "_law_take" [(.var 0), (.var 1)]), .aset (.var 3) (.var 5) (.bin .add (.sub (.var 3) (.var 5)) (.cst (.int (1))))], .ret (.bi .tuple [(.var 3)])]
def b_Larcs_v2 : List MS := [.asg (.name 3) (.lst []), .forr (.name 4) (.seq (.sub (.var 1) (.cst (.int (1))))) [.asg (.name 5) (.bin .add (.bi .len [(.var 4)]) (.call "_law_take" [(.var 0), (.cst (.int (5)))])), .asg (.name 6) (.call "_law_split" [(.var 0), (.bi .len [(.var 4)]), (.var 5)]), .ifs (.var 2) [.asg (.name 5) (.bi .sum [(.var 6)])] [], .app (.var 3) (.bi .tuple [(.lc (.call "_law_part" [(.var 7), (.var 5)]) (.name 7) (.seq (.var 6)) [7] none)])], .ret (.bi .tuple [(.var 3)])]
def b_law_k68 : List MS := [.forr (.name 1) (.rng1 (.bi .max2 [(.cst (.int (3))), (.bi .min2 [(.bi .len [(.var 0)]), (.cst (.int (6)))])])) [.asg (.name 3) (.call "_law_box" [(.var 0), (.var 1)]), .asg (.name 4) (.call "_law_web" [(.var 3), (.cst (.int (5)))]), .asg (.name 5) (.bi .tuple [(.lc (.call "_law_take" [(.var 3), (.cst (.int (4)))]) (.name 11) (.rng1 (.sub (.var 4) (.cst (.int (0))))) [11] none)]), .par [9, 10] [(.call "rows_many" [(.var 4), (.var 5)]), (.call "_law_rows_many" [(.var 4), (.var 5)])], .asg (.name 6) (.call "_law_many" [(.var 4), (.var 5)]), .ifs (.orr (.nt (.call "_law_like" [(.var 9), (.var 10)])) (.orr (.cmp .gt (.var 6) (.var 10)) (.nt (.call "_law_like" [(.call "heaps_many" [(.var 4), (.var 5)]), (.var 6)])))) [.ret (.cst (.bool false))] [], .asg (.name 7) (.lc (.var 14) (.name 14) (.seq (.call "_law_all_rows" [(.sub (.var 4) (.cst (.int (0)))), (.cst (.int (1)))])) [14] (some (.cmp .lt (.call "_law_many" [(.var 4), (.var 14)]) (.call "rows_many" [(.var 4), (.var 14)])))), .ifs (.orr (.cmp .ne (.cmp .eq (.var 7) (.lst [])) (.call "_law_is_forest" [(.var 4)])) (.an (.cmp .eq (.var 7) (.lst [])) (.cmp .ne (.var 6) (.var 10)))) [.ret (.cst (.bool false))] [], .asg (.name 8) (.tup [(.var 10), (.cst (.int (1)))]), .forr (.tup [(.name 11), (.name 12)]) (.enum (.call "_law_met" [(.var 4), (.call "_law_arcs" [(.var 3), (.var 4), (.cmp .eq (.call "_law_take" [(.var 3), (.cst (.int (2)))]) (.cst (.int (0))))])])) [.forr (.name 13) (.rng1 (.sub (.var 5) (.var 11))) [.asg (.name 8) (.call "_law_times" [(.var 8), (.var 12)])]], .ifs (.cmp .gt (.sub (.var 8) (.cst (.int (0)))) (.sub (.var 8) (.cst (.int (1))))) [.ret (.cst (.bool false))] []], .asg (.name 2) (.tup [(.cst (.int (3))), (.tup [(.tup [(.cst (.int (0))), (.cst (.int (1)))]), (.tup [(.cst (.int (0))), (.cst (.int (2)))]), (.tup [(.cst (.int (1))), (.cst (.int (2)))])])]), .ret (.call "_law_like" [(.tup [(.call "rows_many" [(.var 2), (.tup [(.cst (.int (1))), (.cst (.int (1))), (.cst (.int (1)))])]), (.call "rows_many" [(.tup [(.cst (.int (3))), (.tup [(.tup [(.cst (.int (0))), (.cst (.int (1))), (.cst (.int (2)))])])]), (.tup [(.cst (.int (2))), (.cst (.int (1))), (.cst (.int (1)))])])]), (.tup [(.cst (.int (8))), (.cst (.int (12)))])])]
def b_fraction_over : List MS := [.ret (.call "least_terms" [(.bin .mul (.sub (.var 0) (.cst (.int (0)))) (.sub (.var 1) (.cst (.int (1))))), (.bin .mul (.sub (.var 0) (.cst (.int (1)))) (.sub (.var 1) (.cst (.int (0)))))])]
def b_hung_things : List MS := [.par [2, 3, 4] [(.lst []), .dic0, .dic0], .forr (.name 1) (.rng1 (.bi .len [(.sub (.var 0) (.cst (.int (1))))])) [.asg (.name 5) (.ife (.cmp .inn (.var 1) (.var 4)) (.lst []) (.lst [(.tup [(.var 1), (.cst .none)])])), .aset (.var 4) (.var 1) (.cst (.bool true)), .whl (.cmp .gt (.bi .len [(.var 5)]) (.cst (.int (0)))) [.asg (.tup [(.name 7), (.name 8)]) (.met .popAt (.var 5) [(.cst (.int (0)))]), .app (.var 2) (.tup [(.var 7), (.var 8)]), .forr (.name 6) (.seq (.sub (.sub (.var 0) (.cst (.int (1)))) (.var 7))) [.ifs (.cmp .ne (.var 6) (.var 8)) [.ifs (.cmp .inn (.var 6) (.var 3)) [.raise] [], .aset (.var 3) (.var 6) (.cst (.bool true)), .ext (.var 5) (.call "things_below" [(.var 0), (.var 6), (.var 7), (.var 4)])] []]]], .ret (.var 2)]
def b_things_below : List MS := [.asg (.name 4) (.lst []), .forr (.name 5) (.seq (.call "things_of" [(.var 0), (.var 1)])) [.ifs (.cmp .ne (.var 5) (.var 2)) [.ifs (.cmp .inn (.var 5) (.var 3)) [.raise] [], .aset (.var 3) (.var 5) (.cst (.bool true)), .app (.var 4) (.tup [(.var 5), (.var 1)])] []], .ret (.var 4)]
def b_demand_of : List MS := [.asg (.name 5) (.tup [(.cst (.int (1))), (.sub (.var 1) (.var 4))]), .forr (.name 6) (.seq (.call "things_of" [(.var 0), (.var 4)])) [.ifs (.cmp .ne (.var 6) (.var 3)) [.asg (.name 5) (.call "fraction_over" [(.var 5), (.sub (.var 2) (.var 6))])] []], .ret (.var 5)]
def b_forest_arcs : List MS := [.par [2, 3] [.dic0, .dic0], .forr (.tup [(.name 4), (.name 5)]) (.seq (.rev (.call "hung_things" [(.var 0)]))) [.asg (.name 6) (.tup [(.cst (.int (1))), (.cst (.int (1)))]), .forr (.name 7) (.seq (.sub (.sub (.var 0) (.cst (.int (1)))) (.var 4))) [.ifs (.cmp .ne (.var 7) (.var 5)) [.aset (.var 3) (.tup [(.var 4), (.var 7)]) (.call "demand_of" [(.var 0), (.var 1), (.var 2), (.var 4), (.var 7)]), .asg (.name 6) (.call "fraction_less" [(.var 6), (.sub (.var 3) (.tup [(.var 4), (.var 7)]))])] []], .ifs (.orr (.cmp .lt (.sub (.var 6) (.cst (.int (0)))) (.cst (.int (0)))) (.an (.cmp .eq (.sub (.var 6) (.cst (.int (0)))) (.cst (.int (0)))) (.isN (.var 5) true))) [.ret (.cst .none)] [], .aset (.var 2) (.var 4) (.var 6), .ifs (.isN (.var 5) true) [.aset (.var 3) (.tup [(.var 4), (.var 5)]) (.var 6)] []], .ret (.bi .tuple [(.lc (.bi .tuple [(.lc (.sub (.var 3) (.tup [(.var 4), (.var 7)])) (.name 7) (.seq (.var 8)) [7] none)]) (.tup [(.name 4), (.name 8)]) (.enum (.sub (.var 0) (.cst (.int (1))))) [4, 8] none)])]
def b_chances_of : List MS := [.ret (.bi .tuple [(.lc (.tup [(.cst (.int (1))), (.var 1)]) (.name 1) (.seq (.var 0)) [1] none)])]
def b_is_open : List MS := [.ret (.bi .all [(.lc (.call "is_less" [(.glob "NOUGHT"), (.var 2)]) (.name 2) (.seq .bad) [2] none)])]
def b_law_k57 : List MS := [.forr (.name 1) (.rng1 (.bi .max2 [(.cst (.int (4))), (.bi .min2 [(.bi .len [(.var 0)]), (.cst (.int (8)))])])) [.asg (.name 3) (.call "_law_box" [(.var 0), (.var 1)]), .asg (.name 4) (.call "_law_forest" [(.var 3), (.ife (.cmp .eq (.var 1) (.cst (.int (0)))) (.cst (.int (6))) (.cst (.int (5))))]), .asg (.name 5) (.call "_law_marks" [(.var 3), (.var 4), (.bin .add (.cst (.int (1))) (.bin .band (.var 1) (.cst (.int (1)))))]), .ifs (.an (.cmp .eq (.bin .band (.var 1) (.cst (.int (1)))) (.cst (.int (1)))) (.cmp .eq (.call "_law_take" [(.var 3), (.cst (.int (2)))]) (.cst (.int (0))))) [.asg (.name 8) (.lst [(.tup [(.tup [(.cst (.int (3))), (.tup [(.tup [(.cst (.int (0))), (.cst (.int (1))), (.cst (.int (2)))])])]), (.tup [(.cst (.int (3))), (.cst (.int (3))), (.cst (.int (3)))])]), (.tup [(.tup [(.cst (.int (2))), (.tup [(.tup [(.cst (.int (0)))]), (.tup [(.cst (.int (0))), (.cst (.int (1)))])])]), (.tup [(.cst (.int (2))), (.cst (.int (2)))])]), (.tup [(.tup [(.cst (.int (3))), (.tup [(.tup [(.cst (.int (0))), (.cst (.int (1)))]), (.tup [(.cst (.int (1))), (.cst (.int (2)))])])]), (.tup [(.cst (.int (2))), (.cst (.int (4))), (.cst (.int (2)))])]), (.tup [(.tup [(.cst (.int (4))), (.tup [(.tup [(.cst (.int (0))), (.cst (.int (1)))]), (.tup [(.cst (.int (1))), (.cst (.int (2)))]), (.tup [(.cst (.int (3)))])])]), (.tup [(.cst (.int (3))), (.cst (.int (5))), (.cst (.int (3))), (.cst (.int (1)))])])]), .asg (.tup [(.name 4), (.name 5)]) (.call "_law_pick" [(.var 3), (.bin .add (.var 8) (.lst [(.tup [(.tup [(.cst (.int (4))), (.tup [(.tup [(.cst (.int (0))), (.cst (.int (1)))]), (.tup [(.cst (.int (1))), (.cst (.int (2))), (.cst (.int (3)))])])]), (.tup [(.cst (.int (2))), (.cst (.int (6))), (.cst (.int (3))), (.cst (.int (3)))])]), (.tup [(.tup [(.cst (.int (4))), (.tup [(.tup [(.cst (.int (0))), (.cst (.int (1)))]), (.tup [(.cst (.int (2))), (.cst (.int (3)))])])]), (.tup [(.cst (.int (2))), (.cst (.int (2))), (.cst (.int (3))), (.cst (.int (4)))])])]))])] [], .asg (.name 2) (.call "forest_arcs" [(.var 4), (.var 5)]), .ifs (.isN (.call "_law_fault" [(.var 4), (.call "_law_chances" [(.var 5)])]) true) [.cnt] [], .asg (.name 6) (.lc (.var 9) (.name 9) (.rng1 (.bi .len [(.sub (.var 4) (.cst (.int (1))))])) [9] (some (.an (.isN (.call "_law_above" [(.var 4), (.var 9)]) false) (.cmp .eq (.sub (.call "left_over" [(.var 4), (.var 2), (.var 9)]) (.cst (.int (0)))) (.cst (.int (0))))))), .asg (.name 7) (.lc (.var 10) (.name 10) (.seq (.call "_law_lots" [(.sub (.var 4) (.cst (.int (0))))])) [10] (some (.cmp .eq (.sub (.call "_law_sum_of" [(.var 4), (.call "_law_chances" [(.var 5)]), (.var 10)]) (.cst (.int (0)))) (.cst (.int (0)))))), .ifs (.orr (.cmp .ne (.cmp .eq (.var 6) (.lst [])) (.cmp .eq (.var 7) (.lst []))) (.nt (.call "_law_like" [(.call "is_open" [(.var 4), (.call "chances_of" [(.var 5)])]), (.cmp .eq (.var 7) (.lst []))]))) [.ret (.cst (.bool false))] []], .asg (.name 2) (.call "forest_arcs" [(.tup [(.cst (.int (3))), (.tup [(.tup [(.cst (.int (0))), (.cst (.int (1)))]), (.tup [(.cst (.int (1))), (.cst (.int (2)))])])]), (.tup [(.cst (.int (2))), (.cst (.int (4))), (.cst (.int (2)))])]), .ret (.call "_law_like" [(.call "left_over" [(.tup [(.cst (.int (3))), (.tup [(.tup [(.cst (.int (0))), (.cst (.int (1)))]), (.tup [(.cst (.int (1))), (.cst (.int (2)))])])]), (.var 2), (.cst (.int (0)))]), (.tup [(.cst (.int (0))), (.cst (.int (1)))])])]
def b_web_beside : List MS := [.asg (.name 2) (.lc (.bi .tuple [(.lc (.bin .add (.sub (.var 0) (.cst (.int (0)))) (.var 4)) (.name 4) (.seq (.var 3)) [4] none)]) (.name 3) (.seq (.sub (.var 1) (.cst (.int (1))))) [3] none), .ret (.tup [(.bin .add (.sub (.var 0) (.cst (.int (0)))) (.sub (.var 1) (.cst (.int (0))))), (.bi .tuple [(.bi .sorted [(.bin .add (.bi .list [(.sub (.var 0) (.cst (.int (1))))]) (.var 2))])])])]
def b_web_tied : List MS := [.par [6, 7] [(.lst []), (.sub (.var 0) (.cst (.int (0))))], .forr (.name 4) (.rng1 (.sub (.var 1) (.cst (.int (0))))) [.app (.var 6) (.ife (.cmp .eq (.var 4) (.var 3)) (.var 2) (.var 7)), .aug .add 7 (.ife (.cmp .eq (.var 4) (.var 3)) (.cst (.int (0))) (.cst (.int (1))))], .asg (.name 5) (.lc (.bi .tuple [(.bi .sorted [(.lc (.sub (.var 6) (.var 4)) (.name 4) (.seq (.var 8)) [4] none)])]) (.name 8) (.seq (.sub (.var 1) (.cst (.int (1))))) [8] none), .ret (.tup [(.var 7), (.bi .tuple [(.bi .sorted [(.bin .add (.bi .list [(.sub (.var 0) (.cst (.int (1))))]) (.var 5))])])])]
def b_tied_marks : List MS := [.asg (.name 4) (.bin .add (.bin .add (.bi .list [(.slc (.var 0) none (some (.var 2)))]) (.lst [(.bin .mul (.sub (.var 0) (.var 2)) (.sub (.var 1) (.var 3)))])) (.bi .list [(.slc (.var 0) (some (.bin .add (.var 2) (.cst (.int (1))))) none)])), .ret (.bi .tuple [(.bin .add (.bin .add (.var 4) (.bi .list [(.slc (.var 1) none (some (.var 3)))])) (.bi .list [(.slc (.var 1) (some (.bin .add (.var 3) (.cst (.int (1))))) none)]))])]
def b_alt_sum : List MS := [.ret (.sub (.call "sums_within" [(.var 0), (.var 1)]) (.var 2))]
def b_Lmoved : List MS := [.ret (.bi .tuple [(.bi .sorted [(.lc (.sub (.var 1) (.var 2)) (.name 2) (.seq (.var 0)) [2] none)])])]
def b_Lbeside : List MS := [.asg (.name 2) (.lc (.bin .add (.sub (.var 0) (.cst (.int (0)))) (.var 3)) (.name 3) (.rng1 (.sub (.var 1) (.cst (.int (0))))) [3] none), .ret (.tup [(.bin .add (.sub (.var 0) (.cst (.int (0)))) (.sub (.var 1) (.cst (.int (0))))), (.bi .tuple [(.bi .sorted [(.bin .add (.bi .list [(.sub (.var 0) (.cst (.int (1))))]) (.lc (.call "_law_moved" [(.var 4), (.var 2)]) (.name 4) (.seq (.sub (.var 1) (.cst (.int (1))))) [4] none))])])])]
def b_Lnames : List MS := [.asg (.name 4) (.lc (.var 5) (.name 5) (.rng1 (.sub (.var 1) (.cst (.int (0))))) [5] (some (.cmp .ne (.var 5) (.var 3)))), .ret (.lc (.ife (.cmp .eq (.var 5) (.var 3)) (.var 2) (.bin .add (.sub (.var 0) (.cst (.int (0)))) (.met .index (.var 4) [(.var 5)]))) (.name 5) (.rng1 (.sub (.var 1) (.cst (.int (0))))) [5] none)]
def b_Lrest_v2 : List MS := [.ret (.bi .tuple [(.lc (.var 3) (.name 3) (.rng1 (.sub (.var 0) (.cst (.int (0))))) [3] (some (.an (.cmp .ne (.var 3) (.var 1)) (.nt (.an (.var 2) (.call "_law_touch" [(.var 0), (.var 1), (.var 3)]))))))])]
def b_law_k72 : List MS := [.forr (.name 1) (.rng1 (.bi .max2 [(.cst (.int (3))), (.bi .min2 [(.bi .len [(.var 0)]), (.cst (.int (6)))])])) [.asg (.name 2) (.call "_law_box" [(.var 0), (.var 1)]), .par [12, 13] [(.call "_law_small_web" [(.var 2), (.cst (.int (3))), (.cst (.int (3)))]), (.call "_law_small_web" [(.var 2), (.cst (.int (3))), (.cst (.int (3)))])], .par [14, 15] [(.call "_law_take" [(.var 2), (.sub (.var 12) (.cst (.int (0))))]), (.call "_law_take" [(.var 2), (.sub (.var 13) (.cst (.int (0))))])], .par [16, 17] [(.call "_law_marks" [(.var 2), (.var 12), (.bin .mod (.bi .int [(.var 1)]) (.cst (.int (4))))]), (.call "_law_marks" [(.var 2), (.var 13), (.cst (.int (1)))])], .par [18, 19, 20] [(.call "web_beside" [(.var 12), (.var 13)]), (.call "web_tied" [(.var 12), (.var 13), (.var 14), (.var 15)]), (.call "_law_names" [(.var 12), (.var 13), (.var 14), (.var 15)])], .asg (.name 3) (.tup [(.bin .sub (.bin .add (.sub (.var 12) (.cst (.int (0)))) (.sub (.var 13) (.cst (.int (0))))) (.cst (.int (1)))), (.bi .tuple [(.bi .sorted [(.bin .add (.bi .list [(.sub (.var 12) (.cst (.int (1))))]) (.lc (.call "_law_moved" [(.var 27), (.var 20)]) (.name 27) (.seq (.sub (.var 13) (.cst (.int (1))))) [27] none))])])]), .ifs (.orr (.nt (.call "_law_like" [(.var 18), (.call "_law_beside" [(.var 12), (.var 13)])])) (.nt (.call "_law_like" [(.var 19), (.var 3)]))) [.ret (.cst (.bool false))] [], .asg (.name 4) (.bin .add (.bin .add (.bin .add (.bin .add (.slc (.var 16) none (some (.var 14))) (.tup [(.bin .mul (.sub (.var 16) (.var 14)) (.sub (.var 17) (.var 15)))])) (.slc (.var 16) (some (.bin .add (.var 14) (.cst (.int (1))))) none)) (.slc (.var 17) none (some (.var 15)))) (.slc (.var 17) (some (.bin .add (.var 15) (.cst (.int (1))))) none)), .ifs (.orr (.nt (.call "_law_like" [(.call "tied_marks" [(.var 16), (.var 17), (.var 14), (.var 15)]), (.var 4)])) (.cmp .ne (.call "_law_is_forest" [(.var 19)]) (.an (.call "_law_is_forest" [(.var 12)]) (.call "_law_is_forest" [(.var 13)])))) [.ret (.cst (.bool false))] [], .par [21, 22] [(.call "_law_chances" [(.var 16)]), (.call "_law_chances" [(.var 17)])], .par [23, 24] [(.call "_law_sum_of" [(.var 12), (.var 21), (.bi .trng1 [(.sub (.var 12) (.cst (.int (0))))])]), (.call "_law_sum_of" [(.var 13), (.var 22), (.bi .trng1 [(.sub (.var 13) (.cst (.int (0))))])])], .ifs (.nt (.call "_law_like" [(.call "alt_sum" [(.var 18), (.bin .add (.var 21) (.var 22)), (.bi .trng1 [(.sub (.var 18) (.cst (.int (0))))])]), (.call "_law_times" [(.var 23), (.var 24)])])) [.ret (.cst (.bool false))] [], .asg (.name 5) (.call "_law_times" [(.call "_law_sum_of" [(.var 12), (.var 21), (.call "_law_rest" [(.var 12), (.var 14), (.cst (.bool false))])]), (.call "_law_sum_of" [(.var 13), (.var 22), (.call "_law_rest" [(.var 13), (.var 15), (.cst (.bool false))])])]), .asg (.name 6) (.call "_law_times" [(.call "_law_sum_of" [(.var 12), (.var 21), (.call "_law_rest" [(.var 12), (.var 14), (.cst (.bool true))])]), (.call "_law_sum_of" [(.var 13), (.var 22), (.call "_law_rest" [(.var 13), (.var 15), (.cst (.bool true))])])]), .ifs (.nt (.call "_law_like" [(.call "alt_sum" [(.var 19), (.call "_law_chances" [(.var 4)]), (.bi .trng1 [(.sub (.var 19) (.cst (.int (0))))])]), (.call "_law_less" [(.var 5), (.call "_law_times" [(.tup [(.cst (.int (1))), (.bin .mul (.sub (.var 16) (.var 14)) (.sub (.var 17) (.var 15)))]), (.var 6)])])])) [.ret (.cst (.bool false))] [], .asg (.name 7) (.bi .lzip [(.sub (.var 12) (.cst (.int (1)))), (.call "_law_arcs" [(.var 2), (.var 12), (.cst (.bool true))])]), .par [25, 26] [(.bi .tuple [(.lc (.var 28) (.tup [(.name 27), (.name 28)]) (.seq (.var 7)) [27, 28] none)]), (.lst [])], .forr (.name 8) (.seq (.call "_law_met" [(.var 12), (.var 25)])) [.app (.var 26) (.bin .sub (.cst (.int (0))) (.bin .fdiv (.bin .sub (.cst (.int (0))) (.sub (.var 8) (.cst (.int (1))))) (.sub (.var 8) (.cst (.int (0))))))], .asg (.name 9) (.call "_law_arcs" [(.var 2), (.var 13), (.cst (.bool true))]), .asg (.name 10) (.lc (.bin .sub (.cst (.int (0))) (.bin .fdiv (.bin .sub (.cst (.int (0))) (.sub (.var 8) (.cst (.int (1))))) (.sub (.var 8) (.cst (.int (0)))))) (.name 8) (.seq (.call "_law_met" [(.var 13), (.var 9)])) [8] none), .asg (.name 11) (.bi .sorted [(.bin .add (.var 7) (.lc (.tup [(.call "_law_moved" [(.var 27), (.var 20)]), (.bi .tuple [(.lc (.var 30) (.tup [(.name 29), (.name 30)]) (.seq (.bi .sorted [.bad])) [29, 30] none)])]) (.tup [(.name 27), (.name 28)]) (.zip (.sub (.var 13) (.cst (.int (1)))) (.var 9)) [27, 28] none))]), .ifs (.nt (.call "_law_like" [(.call "arcs_serve" [(.var 19), (.call "tied_marks" [(.bi .tuple [(.var 26)]), (.bi .tuple [(.var 10)]), (.var 14), (.var 15)]), (.bi .tuple [(.lc (.var 28) (.tup [(.name 27), (.name 28)]) (.seq (.var 11)) [27, 28] none)])]), (.cst (.bool true))])) [.ret (.cst (.bool false))] []], .ret (.cst (.bool true))]
def b_times_v2 : List MS := [.ret (.call "least_terms" [(.bin .mul (.sub (.var 0) (.cst (.int (0)))) (.sub (.var 1) (.cst (.int (0))))), (.bin .mul (.sub (.var 0) (.cst (.int (1)))) (.sub (.var 1) (.cst (.int (1)))))])]
def b_plus : List MS := [.ret (.call "least_terms" [(.bin .add (.bin .mul (.sub (.var 0) (.cst (.int (0)))) (.sub (.var 1) (.cst (.int (1))))) (.bin .mul (.sub (.var 1) (.cst (.int (0)))) (.sub (.var 0) (.cst (.int (1)))))), (.bin .mul (.sub (.var 0) (.cst (.int (1)))) (.sub (.var 1) (.cst (.int (1)))))])]
def b_met_chances : List MS := [.asg (.name 2) (.lst []), .forr (.name 3) (.rng1 (.sub (.var 0) (.cst (.int (0))))) [.asg (.name 4) (.tup [(.cst (.int (1))), (.cst (.int (1)))]), .forr (.tup [(.name 5), (.name 6)]) (.zip (.sub (.var 0) (.cst (.int (1)))) (.var 1)) [.ifs (.cmp .inn (.var 3) (.var 5)) [.asg (.name 4) (.call "times_drawndials" [(.var 4), (.sub (.var 6) (.met .index (.var 5) [(.var 3)]))])] []], .app (.var 2) (.var 4)], .ret (.bi .tuple [(.var 2)])]
def b_thing_draws : List MS := [.par [2, 3] [(.tup [(.cst (.int (1))), (.cst (.int (1)))]), (.lst [])], .forr (.tup [(.name 4), (.name 5)]) (.zip (.var 0) (.var 1)) [.app (.var 3) (.tup [(.var 4), (.var 5)]), .asg (.name 2) (.call "plus" [(.var 2), (.tup [(.bin .sub (.cst (.int (0))) (.sub (.var 5) (.cst (.int (0))))), (.sub (.var 5) (.cst (.int (1))))])])], .ret (.bin .add (.var 3) (.ife (.cmp .gt (.sub (.var 2) (.cst (.int (0)))) (.cst (.int (0)))) (.lst [(.tup [(.cst .none), (.var 2)])]) (.lst [])))]
def b_dial_rows : List MS := [.asg (.name 2) .bad, .forr (.tup [(.name 3), (.name 4)]) (.zip (.sub (.var 0) (.cst (.int (1)))) (.var 1)) [.asg (.name 5) .dic0, .forr (.tup [(.name 6), (.name 7)]) (.seq .bad) [.forr (.tup [(.name 8), (.name 9)]) (.seq (.call "thing_draws" [(.var 3), (.var 4)])) [.aset (.var 5) (.bin .add (.var 6) (.tup [(.var 8)])) (.call "times_drawndials" [(.var 7), (.var 9)])]], .asg (.name 2) (.var 5)], .ret (.var 2)]
def b_all_met : List MS := [.asg (.name 2) (.lst []), .forr (.name 3) (.rng1 (.sub (.var 0) (.cst (.int (0))))) [.ifs (.bi .all [(.lc (.cmp .eq (.var 5) (.var 3)) (.tup [(.name 4), (.name 5)]) (.zip (.sub (.var 0) (.cst (.int (1)))) (.var 1)) [4, 5] (some (.cmp .inn (.var 3) (.var 4))))]) [.app (.var 2) (.var 3)] []], .ret (.bi .tuple [(.var 2)])]
def b_dial_faults : List MS := [.asg (.name 2) .dic0, .forr (.tup [(.name 3), (.name 4)]) (.seq .bad) [.asg (.name 5) (.call "all_met" [(.var 0), (.var 3)]), .aset (.var 2) (.var 5) (.call "plus" [(.met .get2 (.var 2) [(.var 5), (.tup [(.cst (.int (0))), (.cst (.int (1)))])]), (.var 4)])], .ret (.bi .tuple [(.lc (.tup [(.sub (.var 2) (.var 5)), (.var 5)]) (.name 5) (.seq .bad) [5] none)])]
def b_none_met : List MS := [.asg (.name 2) (.tup [(.cst (.int (0))), (.cst (.int (1)))]), .forr (.tup [(.name 3), (.name 4)]) (.seq (.call "dial_faults" [(.var 0), (.var 1)])) [.ifs (.cmp .eq (.bi .len [(.var 4)]) (.cst (.int (0)))) [.asg (.name 2) (.call "plus" [(.var 2), (.var 3)])] []], .ret (.var 2)]
def b_sums_within_v2 : List MS := [.par [3, 4] [(.lc (.call "touching" [(.var 0), (.var 5)]) (.name 5) (.rng1 (.sub (.var 0) (.cst (.int (0))))) [5] none), .bad], .forr (.name 2) (.seq (.slc (.call "lots_of" [(.sub (.var 0) (.cst (.int (0))))]) (some (.cst (.int (1)))) none)) [.asg (.name 5) (.sub (.var 2) (.cst (.int (0)))), .asg (.name 6) (.call "times_altsums" [(.sub (.var 1) (.var 5)), (.sub (.var 4) (.call "without" [(.var 2), (.sub (.var 3) (.var 5))]))]), .aset (.var 4) (.var 2) (.call "minus" [(.sub (.var 4) (.slc (.var 2) (some (.cst (.int (1)))) none)), (.var 6)])], .ret (.var 4)]
def b_law_k75 : List MS := [.forr (.name 1) (.rng1 (.bi .max2 [(.cst (.int (3))), (.bi .min2 [(.bi .len [(.var 0)]), (.cst (.int (6)))])])) [.asg (.name 3) (.call "_law_box" [(.var 0), (.var 1)]), .asg (.name 4) (.call "_law_small_web" [(.var 3), (.cst (.int (5))), (.cst (.int (5)))]), .asg (.name 5) (.call "_law_arcs" [(.var 3), (.var 4), (.cmp .eq (.call "_law_take" [(.var 3), (.cst (.int (2)))]) (.cst (.int (0))))]), .par [7, 8] [(.call "_law_met" [(.var 4), (.var 5)]), (.bi .trng1 [(.sub (.var 4) (.cst (.int (0))))])], .ifs (.nt (.call "_law_like" [(.call "met_chances" [(.var 4), (.var 5)]), (.var 7)])) [.ret (.cst (.bool false))] [], .asg (.name 6) (.call "_law_sum_of" [(.var 4), (.var 7), (.var 8)]), .ifs (.orr (.nt (.call "_law_like" [(.call "none_met" [(.var 4), (.var 5)]), (.var 6)])) (.nt (.call "_law_like" [(.call "alt_sum" [(.var 4), (.var 7), (.var 8)]), (.var 6)]))) [.ret (.cst (.bool false))] [], .ifs (.orr (.isN (.call "region_fault" [(.var 4), (.var 7)]) true) (.isN (.call "_law_fault" [(.var 4), (.var 7)]) true)) [.ret (.cst (.bool false))] []], .asg (.name 2) (.tup [(.cst (.int (3))), (.tup [(.tup [(.cst (.int (0))), (.cst (.int (1)))]), (.tup [(.cst (.int (1))), (.cst (.int (2)))])])]), .ret (.call "_law_like" [(.call "none_met" [(.var 2), (.tup [(.tup [(.tup [(.cst (.int (1))), (.cst (.int (2)))]), (.tup [(.cst (.int (1))), (.cst (.int (3)))])]), (.tup [(.tup [(.cst (.int (1))), (.cst (.int (4)))]), (.tup [(.cst (.int (3))), (.cst (.int (4)))])])])]), (.tup [(.cst (.int (1))), (.cst (.int (24)))])])]
end Th
end
section
set_option Elab.async false
set_option linter.all false
set_option maxRecDepth 100000
set_option maxHeartbeats 4000000
namespace Th
open PySem
abbrev nD (n : Nat) : D := .int (n : Int)
abbrev lotD (l : List Nat) : D := .tuple (l.map nD)
abbrev Web := Nat × List (List Nat)
abbrev thD (ts : List (List Nat)) : D := .tuple (ts.map lotD)
abbrev webD (w : Web) : D := .tuple [nD w.1, thD w.2]
structure Bx where
  g : Int
  s : Int
  hg : 0 ≤ g
  hs : 0 ≤ s
def Bx.ob (b : Bx) : Ob := .lst [.int b.g, .int b.s]
def Bx.mk' (g s : Int) (hg : 0 ≤ g) (hs : 0 ≤ s) : Bx := ⟨g, s, hg, hs⟩
theorem Bx.ob_eq (b : Bx) : b.ob = .lst [.int b.g, .int b.s] := rfl
theorem szL_eq : sizeL = 16777216 := rfl
theorem mulOk_r {i j : Int} (h : j.natAbs < 2 ^ 63) : mulOk i j := .inl (.inr h)
theorem mulOk_l {i j : Int} (h : i.natAbs < 2 ^ 63) : mulOk i j := .inl (.inl h)
theorem divOk_of {i j : Int} (h : 0 < j) (h2 : j < 2 ^ 63) : divOk i j := ⟨h, by
  have h3 : j.natAbs < 2 ^ 63 := by omega
  unfold big
  exact Nat.lt_trans h3 (Nat.pow_lt_pow_right (by decide) (by decide))⟩
def TakeSp (φ : Fn) : Prop := ∀ (b : Bx) (m : Int), 0 < m → m ≤ 1000000 → Rn φ [.mut b.ob, .imm (.int m)] fun r o => ∃ (k : Nat) (b' : Bx), (k : Int) < m ∧ r = .imm (nD k) ∧ o = [.own b'.ob]
theorem take_sp (Γ : Gam) : TakeSp (den Γ 2 4 b_Ltake) := by
  intro b m h1 h2
  refine den_run ⟨rfl, by decide⟩ ?_
  simp [b_Ltake, initE, initS, wss_cons, Bx.ob, L2.ixN, h1]
  split
  · rename_i hg
    refine ⟨divOk_of h1 (by omega), (b.g % m).toNat, ?_, ?_, ⟨b.g / m, b.s, Int.ediv_nonneg b.hg (by omega), b.hs⟩, rfl, rfl⟩
    · have := Int.emod_nonneg b.g (show m ≠ 0 by omega)
      have := Int.emod_lt_of_pos b.g h1
      omega
    · have := Int.emod_nonneg b.g (show m ≠ 0 by omega)
      omega
  · have hs := b.hs
    generalize e1 : (b.s * 39373 + 521) % 2147483647 = raw
    have r1 : 0 ≤ raw := by rw [← e1]; omega
    generalize e2 : (raw * 40692 + 101) % 2147483399 + 1 = s'
    have r2 : 0 ≤ s' := by rw [← e2]; omega
    refine ⟨mulOk_r (by decide), mulOk_r (by decide), mulOk_r (by decide), divOk_of (by decide) (by decide), ((raw * 2147483629 + s') / 8243 % m).toNat, ?_, ?_, ⟨b.g, s', b.hg, r2⟩, rfl, rfl⟩
    · have := Int.emod_nonneg ((raw * 2147483629 + s') / 8243) (show m ≠ 0 by omega)
      have := Int.emod_lt_of_pos ((raw * 2147483629 + s') / 8243) h1
      omega
    · have := Int.emod_nonneg ((raw * 2147483629 + s') / 8243) (show m ≠ 0 by omega)
      omega
theorem TakeSp.wp {φ : Fn} (h : TakeSp φ) {S : Store} {k0 : Nat} {b : Bx} {m : Int} {Q : RV → Store → Prop} (hb : S[k0]? = some (.own b.ob)) (h1 : 0 < m) (h2 : m ≤ 1000000)
    (q : ∀ (k : Nat) (b' : Bx), (k : Int) < m → Q (.imm (nD k)) (S.set k0 (.own b'.ob))) : Wp (callM φ [.ptr k0, .imm (.int m)]) S Q := by
  refine wp_call (as := [.mut b.ob, .imm (.int m)]) (by simp [mkArgs, mkArg, hb]) (by simp [ownPtrs, hb]) ((h b m h1 h2).mono fun r o ⟨k, b', hk, hr, ho⟩ => ?_)
  subst hr ho
  exact ⟨rfl, _, by simp [backArgs, hb], q k b' hk⟩
theorem abs_nonneg (i : Int) : 0 ≤ (if i < 0 then -i else i) := by split <;> omega
def BoxSp (φ : Fn) : Prop := ∀ (ns : List Int) (k : Nat), ns.length ≤ 1000 → k ≤ 1000 → Rn φ [.imm (.list (ns.map .int)), .imm (nD k)] fun r o => ∃ b : Bx, r = .new b.ob ∧ o = []
theorem at_ints {ns : List Int} {i : Nat} (h : i < ns.length) : L2.atI (ns.map PyData.int) (i : Int) = some (.int ns[i]) := by
  rw [at_nat, List.getElem?_map, List.getElem?_eq_getElem h]; rfl
theorem box_end {Γ : Gam} {script : D} {k : Nat} {cell : Int} (hc : 0 ≤ cell) :
    Wp (evSs Γ (b_Lbox.drop 2) [some (.d script), some (.d (nD k)), some (.d (.int cell)), none]) [] (finQ 0 fun r o => (∃ b : Bx, r = .new b.ob) ∧ o = []) := by
  have m2 : mulOk 8117 (k : Int) := mulOk_l (by decide)
  have m3 : ∀ c : Int, mulOk (c % 2147483563) 40014 := fun c => mulOk_r (by decide)
  simp [b_Lbox, wss_cons, m2, m3]
  split
  · exact ⟨⟨_, _, hc, by omega⟩, rfl⟩
  · exact ⟨⟨_, _, by decide, by omega⟩, rfl⟩
theorem box_sp (Γ : Gam) : BoxSp (den Γ 2 4 b_Lbox) := by
  intro ns k hl hk
  refine den_run ⟨rfl, by decide⟩ ?_
  have m1 : mulOk 7121 (k : Int) := mulOk_l (by decide)
  have m4 : ∀ c : Int, mulOk (c % 2147483563) 58907 := fun c => mulOk_r (by decide)
  simp [b_Lbox, initE, initS, wss_cons, m1, m4]
  split
  · rename_i h
    rw [at_ints h]
    simp
    exact box_end (abs_nonneg _)
  · split
    · rename_i h
      have hpos : 0 < (ns.length : Int) := by omega
      have e : (k : Int) % (ns.length : Int) = ((k % ns.length : Nat) : Int) := by simp
      have hlt : k % ns.length < ns.length := Nat.mod_lt _ (by omega)
      rw [e, at_ints hlt]
      simp [m4]
      refine ⟨by omega, box_end ?_⟩
      have := abs_nonneg ns[k % ns.length]
      omega
    · have h3 := box_end (Γ := Γ) (script := .list (ns.map .int)) (k := k) (cell := 7121 * (k : Int) + 8117) (by omega)
      simpa [b_Lbox, wss_cons] using h3
inductive SeqA : Arg → List D → Store → Prop
  | lst (ds : List D) : SeqA (.mut (.lst ds)) ds [.own (.lst ds)]
  | dl (ds : List D) : SeqA (.imm (.list ds)) ds []
  | dt (ds : List D) : SeqA (.imm (.tuple ds)) ds []
def PickP (ds : List D) (o : Store) (r : RV) (o' : Store) : Prop := ∃ (d : D) (b' : Bx), d ∈ ds ∧ r = .imm d ∧ o' = .own b'.ob :: o
def PickSp (φ : Fn) : Prop := ∀ (b : Bx) (a : Arg) (ds : List D) (o : Store), SeqA a ds o → ds ≠ [] → ds.length ≤ 1000000 → Rn φ [.mut b.ob, a] (PickP ds o)
theorem pick_sp {Γ : Gam} (hT : Has Γ "_law_take" TakeSp) : PickSp (den Γ 2 2 b_Lpick) := by
  intro b a ds o hs hn hl
  have hlen : 0 < ds.length := List.length_pos_iff.mpr hn
  refine den_run ⟨rfl, by decide⟩ ?_
  cases hs with
  | lst =>
    simp [b_Lpick, initE, initS, wss_cons]
    refine hT.call fun φ hφ => ?_
    simp
    refine hφ.wp (b := b) (by rfl) (by omega) (by omega) fun k b' hk => ?_
    have hk' : k < ds.length := by omega
    simp [at_nat, List.getElem?_eq_getElem hk']
    exact ⟨_, b', List.getElem_mem hk', rfl, rfl⟩
  | dl =>
    simp [b_Lpick, initE, initS, wss_cons]
    refine hT.call fun φ hφ => ?_
    simp
    refine hφ.wp (b := b) (by rfl) (by omega) (by omega) fun k b' hk => ?_
    have hk' : k < ds.length := by omega
    simp [at_nat, List.getElem?_eq_getElem hk']
    exact ⟨_, b', List.getElem_mem hk', rfl, rfl⟩
  | dt =>
    simp [b_Lpick, initE, initS, wss_cons]
    refine hT.call fun φ hφ => ?_
    simp
    refine hφ.wp (b := b) (by rfl) (by omega) (by omega) fun k b' hk => ?_
    have hk' : k < ds.length := by omega
    simp [at_nat, List.getElem?_eq_getElem hk']
    exact ⟨_, b', List.getElem_mem hk', rfl, rfl⟩
theorem PickSp.wp_new {φ : Fn} (h : PickSp φ) {S : Store} {k0 : Nat} {b : Bx} {ds : List D} {Q : RV → Store → Prop} (hb : S[k0]? = some (.own b.ob)) (h1 : ds ≠ []) (h2 : ds.length ≤ 1000000)
    (q : ∀ (d : D) (b' : Bx), d ∈ ds → Q (.imm d) (S.set k0 (.own b'.ob))) : Wp (callM φ [.ptr k0, .new (.lst ds)]) S Q := by
  refine wp_call (as := [.mut b.ob, .mut (.lst ds)]) (by simp [mkArgs, mkArg, hb]) (by simp [ownPtrs, hb]) ((h b _ ds _ (.lst ds) h1 h2).mono fun r o ⟨d, b', hd, hr, ho⟩ => ?_)
  subst hr ho
  exact ⟨rfl, _, by simp [backArgs, hb], q d b' hd⟩
theorem PickSp.wp_tup {φ : Fn} (h : PickSp φ) {S : Store} {k0 : Nat} {b : Bx} {ds : List D} {Q : RV → Store → Prop} (hb : S[k0]? = some (.own b.ob)) (h1 : ds ≠ []) (h2 : ds.length ≤ 1000000)
    (q : ∀ (d : D) (b' : Bx), d ∈ ds → Q (.imm d) (S.set k0 (.own b'.ob))) : Wp (callM φ [.ptr k0, .imm (.tuple ds)]) S Q := by
  refine wp_call (as := [.mut b.ob, .imm (.tuple ds)]) (by simp [mkArgs, mkArg, hb]) (by simp [ownPtrs, hb]) ((h b _ ds _ (.dt ds) h1 h2).mono fun r o ⟨d, b', hd, hr, ho⟩ => ?_)
  subst hr ho
  exact ⟨rfl, _, by simp [backArgs, hb], q d b' hd⟩
def ShufP (ds : List D) (r : RV) (o : Store) : Prop := ∃ (ds' : List D) (b' : Bx), ds'.Perm ds ∧ r = .new (.lst ds') ∧ o = [.own b'.ob, .own (.lst ds)]
def ShufSp (φ : Fn) : Prop := ∀ (b : Bx) (ds : List D), ds.length ≤ 1000 → Rn φ [.mut b.ob, .mut (.lst ds)] (ShufP ds)
theorem perm_erase {α : Type} : ∀ {xs : List α} {n : Nat} {x : α}, xs[n]? = some x → (x :: xs.eraseIdx n).Perm xs
  | [], _, _, h => by simp at h
  | y :: ys, 0, x, h => by
    simp at h; subst h
    exact List.Perm.refl _
  | y :: ys, n + 1, x, h => by
    have ih := perm_erase (xs := ys) (n := n) (x := x) (by simpa using h)
    rw [List.eraseIdx_cons_succ]
    exact (List.Perm.swap y x _).trans (ih.cons y)
theorem shuf_sp {Γ : Gam} (hT : Has Γ "_law_take" TakeSp) : ShufSp (den Γ 2 5 b_Lshuffled) := by
  intro b ds hl
  refine den_run ⟨rfl, by decide⟩ ?_
  simp [b_Lshuffled, initE, initS, wss_cons]
  refine ⟨by omega, ?_⟩
  obtain ⟨I, hI⟩ : ∃ I : Nat → Env → Store → Prop, I = fun i e T => ∃ (l f : List D) (b' : Bx) (t : Option Sl), (f ++ l).Perm ds ∧ l.length + i = ds.length ∧ e = [some (.p 0), some (.p 1), t, some (.p 2), some (.p 3)] ∧ T = [.own b'.ob, .own (.lst ds), .own (.lst l), .own (.lst f)] := ⟨_, rfl⟩
  refine wp_for_rng I (by rw [hI]; exact ⟨ds, [], b, none, List.Perm.refl _, rfl, rfl, rfl⟩) (fun i e T hi h => ?_) fun e T h => ?_
  · rw [hI] at h
    obtain ⟨l, f, b', t, hp, hlen, rfl, rfl⟩ := h
    have hi' : i < ds.length := by omega
    have hf : f.length + l.length = ds.length := by rw [← List.length_append]; exact hp.length_eq
    rw [wp_forF (by rfl)]
    simp [wss_cons]
    refine hT.call fun φ hφ => ?_
    simp
    refine hφ.wp (b := b') (by rfl) (by omega) (by omega) fun k b'' hk => ?_
    have hk' : k < l.length := by omega
    simp [List.getElem?_eq_getElem hk', szL_eq]
    refine ⟨by omega, by omega, ?_⟩
    rw [hI]
    refine ⟨l.eraseIdx k, f ++ [l[k]], b'', _, ?_, ?_, rfl, rfl⟩
    · rw [List.append_assoc]
      exact ((perm_erase (List.getElem?_eq_getElem hk')).append_left f).trans hp
    · rw [List.length_eraseIdx_of_lt hk']; omega
  · rw [hI] at h
    obtain ⟨l, f, b', t, hp, hlen, rfl, rfl⟩ := h
    have : l = [] := List.length_eq_zero_iff.mp (by omega)
    subst this
    simp [wss_cons]
    rw [finQ_ptr (o := .lst f) rfl (by decide)]
    exact ⟨f, b', by simpa using hp, rfl, rfl⟩
end Th
end
section
set_option Elab.async false
set_option linter.all false
set_option maxRecDepth 100000
set_option maxHeartbeats 4000000
namespace Th
open PySem
def EvP (d : D) (r : RV) (o : Store) : Prop := r = .imm d ∧ o = []
def Ev (φ : Fn) (as : List D) (d : D) : Prop := Rn φ (as.map Arg.imm) (EvP d)
section
variable {φ : Fn} {S : Store} {Q : RV → Store → Prop} {a b c d e : D}
theorem Ev.wp1 (h : Ev φ [a] d) (q : Q (.imm d) S) : Wp (callM φ [.imm a]) S Q := by
  refine wp_call (as := [.imm a]) (by simp [mkArgs, mkArg]) (by simp [ownPtrs]) (Rn.mono h fun r o ⟨h1, h2⟩ => ?_)
  subst h1 h2
  exact ⟨rfl, S, by simp [backArgs], q⟩
theorem Ev.wp2 (h : Ev φ [a, b] d) (q : Q (.imm d) S) : Wp (callM φ [.imm a, .imm b]) S Q := by
  refine wp_call (as := [.imm a, .imm b]) (by simp [mkArgs, mkArg]) (by simp [ownPtrs]) (Rn.mono h fun r o ⟨h1, h2⟩ => ?_)
  subst h1 h2
  exact ⟨rfl, S, by simp [backArgs], q⟩
theorem Ev.wp3 (h : Ev φ [a, b, c] d) (q : Q (.imm d) S) : Wp (callM φ [.imm a, .imm b, .imm c]) S Q := by
  refine wp_call (as := [.imm a, .imm b, .imm c]) (by simp [mkArgs, mkArg]) (by simp [ownPtrs]) (Rn.mono h fun r o ⟨h1, h2⟩ => ?_)
  subst h1 h2
  exact ⟨rfl, S, by simp [backArgs], q⟩
theorem Ev.wp4 (h : Ev φ [a, b, c, e] d) (q : Q (.imm d) S) : Wp (callM φ [.imm a, .imm b, .imm c, .imm e]) S Q := by
  refine wp_call (as := [.imm a, .imm b, .imm c, .imm e]) (by simp [mkArgs, mkArg]) (by simp [ownPtrs]) (Rn.mono h fun r o ⟨h1, h2⟩ => ?_)
  subst h1 h2
  exact ⟨rfl, S, by simp [backArgs], q⟩
end
def EnP (ds : List D) (r : RV) (o : Store) : Prop := r = .new (.lst ds) ∧ o = []
def En (φ : Fn) (as : List D) (ds : List D) : Prop := Rn φ (as.map Arg.imm) (EnP ds)
section
variable {φ : Fn} {S : Store} {Q : RV → Store → Prop} {a b c e : D} {d : List D}
theorem En.wp1 (h : En φ [a] d) (q : Q (.new (.lst d)) S) : Wp (callM φ [.imm a]) S Q := by
  refine wp_call (as := [.imm a]) (by simp [mkArgs, mkArg]) (by simp [ownPtrs]) (Rn.mono h fun r o ⟨h1, h2⟩ => ?_)
  subst h1 h2
  exact ⟨rfl, S, by simp [backArgs], q⟩
theorem En.wp2 (h : En φ [a, b] d) (q : Q (.new (.lst d)) S) : Wp (callM φ [.imm a, .imm b]) S Q := by
  refine wp_call (as := [.imm a, .imm b]) (by simp [mkArgs, mkArg]) (by simp [ownPtrs]) (Rn.mono h fun r o ⟨h1, h2⟩ => ?_)
  subst h1 h2
  exact ⟨rfl, S, by simp [backArgs], q⟩
theorem En.wp3 (h : En φ [a, b, c] d) (q : Q (.new (.lst d)) S) : Wp (callM φ [.imm a, .imm b, .imm c]) S Q := by
  refine wp_call (as := [.imm a, .imm b, .imm c]) (by simp [mkArgs, mkArg]) (by simp [ownPtrs]) (Rn.mono h fun r o ⟨h1, h2⟩ => ?_)
  subst h1 h2
  exact ⟨rfl, S, by simp [backArgs], q⟩
end
def GcdSp (φ : Fn) : Prop := ∀ a b : Nat, Ev φ [nD a, nD b] (nD (Nat.gcd a b))
theorem gcd_step {x y : Nat} : Nat.gcd y (x % y) = Nat.gcd x y := by
  rw [Nat.gcd_comm, ← Nat.gcd_rec, Nat.gcd_comm]
theorem gcd_sp (Γ : Gam) : GcdSp (den Γ 2 2 b_Lgcd) := by
  intro a b
  refine den_run ⟨rfl, by decide⟩ ?_
  simp [b_Lgcd, initE, initS, wss_cons]
  obtain ⟨I, hI⟩ : ∃ I : Nat × Nat → Env → Store → Prop, I = fun s e T => e = [some (.d (nD s.1)), some (.d (nD s.2))] ∧ T = [] ∧ Nat.gcd s.1 s.2 = Nat.gcd a b := ⟨_, rfl⟩
  refine wp_whl I (fun s => s.2) (s := (a, b)) (by rw [hI]; exact ⟨rfl, rfl, rfl⟩) fun s e T h => ?_
  rw [hI] at h
  obtain ⟨rfl, rfl, hg⟩ := h
  obtain ⟨x, y⟩ := s
  by_cases hy : y = 0
  · subst hy
    simp [wss_cons]
    refine ⟨?_, rfl⟩
    rw [← hg]
    simp
  · have hy' : ¬ (y : Int) = 0 := by omega
    simp [wss_cons, hy]
    refine ⟨by omega, y, x % y, ?_, Nat.mod_lt _ (by omega)⟩
    rw [hI]
    exact ⟨by simp, rfl, by rw [← hg]; exact gcd_step⟩
abbrev frD (q : Rat) : D := .tuple [.int q.num, nD q.den]
def PartSp (φ : Fn) : Prop := ∀ t d : Int, d ≠ 0 → d.natAbs < big → Ev φ [.int t, .int d] (frD (Rat.divInt t d))
theorem part_pos (t : Int) (d : Nat) (hd : 0 < d) : (mkRat t d).num = t / (Nat.gcd t.natAbs d : Nat) ∧ ((mkRat t d).den : Int) = (d : Int) / (Nat.gcd t.natAbs d : Nat) := by
  rw [← Rat.divInt_ofNat]
  have h1 : (d : Int).sign = 1 := Int.sign_eq_one_of_pos (by omega)
  have h2 : (d : Int).gcd t = Nat.gcd t.natAbs d := by
    rw [Int.gcd_eq_natAbs_gcd_natAbs, Nat.gcd_comm]; rfl
  constructor
  · rw [Rat.num_divInt, h1, h2, Int.one_mul]
  · rw [Rat.den_divInt, if_neg (by omega), h2, Int.natAbs_natCast]
    exact Int.natCast_ediv _ _
theorem big_pos : 0 < big := Nat.pow_pos (by decide)
theorem part_sp {Γ : Gam} (hG : Has Γ "_law_gcd" GcdSp) : PartSp (den Γ 2 3 b_Lpart) := by
  intro t d hd hb
  refine den_run ⟨rfl, by decide⟩ ?_
  simp [b_Lpart, initE, initS, wss_cons]
  have pos : ∀ (t : Int) (d : Nat), 0 < d → d < big → Wp (evE Γ (ME.call (Str.ofString "_law_gcd") [ME.bi Bi.abs [ME.var 0], ME.var 1]) [some (.d (.int t)), some (.d (nD d)), none]) []
      (kAsg (MG.name 2) [some (.d (.int t)), some (.d (nD d)), none] (aft Γ [MS.ret (ME.tup [ME.bin Bop.fdiv (ME.var 0) (ME.var 2), ME.bin Bop.fdiv (ME.var 1) (ME.var 2)])] (finQ 0 (EvP (frD (Rat.divInt t d)))))) := by
    intro t d hd hb
    refine hG.call fun φ hφ => ?_
    simp
    have ha : (if t < 0 then -t else t) = ((t.natAbs : Nat) : Int) := by split <;> omega
    rw [ha]
    refine (hφ t.natAbs d).wp2 ?_
    simp [wss_cons]
    have hg : 0 < Nat.gcd t.natAbs d := Nat.gcd_pos_of_pos_right _ hd
    have hle : Nat.gcd t.natAbs d ≤ d := Nat.gcd_le_right _ hd
    have hk : ∀ x : Int, divOk x (Nat.gcd t.natAbs d : Nat) := fun x => ⟨by omega, by rw [Int.natAbs_natCast]; omega⟩
    obtain ⟨p1, p2⟩ := part_pos t d hd
    exact ⟨hk _, hk _, by rw [← p1, ← p2], rfl⟩
  split
  · rename_i h
    have hn : 0 < (-d).toNat := by omega
    have q := pos (-t) (-d).toNat hn (by omega)
    have e1 : (((-d).toNat : Nat) : Int) = -d := by omega
    have e2 : nD (-d).toNat = .int (-d) := by show PyData.int _ = _; rw [e1]
    rw [e1, e2, Rat.neg_divInt_neg] at q
    simpa [wss_cons] using q
  · rename_i h
    have q := pos t d.toNat (by omega) (by omega)
    have e1 : ((d.toNat : Nat) : Int) = d := by omega
    have e2 : nD d.toNat = .int d := by show PyData.int _ = _; rw [e1]
    rw [e1, e2] at q
    exact q
structure Fit (q : Rat) : Prop where
  num : q.num.natAbs < big
  den : q.den < big
theorem den_lt {a b : Rat} (h : a.den * b.den < big) : a.den < big ∧ b.den < big := by
  have := a.den_pos
  have := b.den_pos
  exact ⟨Nat.lt_of_le_of_lt (Nat.le_mul_of_pos_right _ b.den_pos) h, Nat.lt_of_le_of_lt (Nat.le_mul_of_pos_left _ a.den_pos) h⟩
theorem mulOk_big {i j : Int} (h : i.natAbs < big) (h2 : j.natAbs < big) : mulOk i j := .inr ⟨h, h2⟩
def PlusSp (φ : Fn) : Prop := ∀ a b : Rat, a.num.natAbs < big → b.num.natAbs < big → a.den * b.den < big → Ev φ [frD a, frD b] (frD (a + b))
theorem plus_sp {Γ : Gam} (hP : Has Γ "_law_part" PartSp) : PlusSp (den Γ 2 2 b_Lplus) := by
  intro a b ha hb hd
  obtain ⟨h1, h2⟩ := den_lt hd
  refine den_run ⟨rfl, by decide⟩ ?_
  simp [b_Lplus, initE, initS, wss_cons]
  refine hP.call fun φ hφ => ?_
  simp
  refine ⟨mulOk_big ha h2, mulOk_big hb h1, mulOk_big h1 h2, ?_⟩
  refine (hφ _ _ ?_ ?_).wp2 ?_
  · have := a.den_pos
    have := b.den_pos
    have := Nat.mul_pos a.den_pos b.den_pos
    omega
  · rw [← Int.natCast_mul, Int.natAbs_natCast]; exact hd
  · simp
    have e : Rat.divInt (a.num * ↑b.den + b.num * ↑a.den) (↑a.den * ↑b.den) = a + b := by
      rw [Rat.add_def', ← Int.natCast_mul, Rat.divInt_ofNat]
    rw [e]
    exact ⟨rfl, rfl⟩
def LessSp (φ : Fn) : Prop := ∀ a b : Rat, a.num.natAbs < big → b.num.natAbs < big → a.den * b.den < big → Ev φ [frD a, frD b] (frD (a - b))
def TimesSp (φ : Fn) : Prop := ∀ a b : Rat, a.num.natAbs < big → b.num.natAbs < big → a.den * b.den < big → Ev φ [frD a, frD b] (frD (a * b))
theorem times_sp {Γ : Gam} (hP : Has Γ "_law_part" PartSp) : TimesSp (den Γ 2 2 b_Ltimes) := by
  intro a b ha hb hd
  obtain ⟨h1, h2⟩ := den_lt hd
  refine den_run ⟨rfl, by decide⟩ ?_
  simp [b_Ltimes, initE, initS, wss_cons]
  refine hP.call fun φ hφ => ?_
  simp
  refine ⟨mulOk_big ha hb, mulOk_big h1 h2, ?_⟩
  refine (hφ _ _ ?_ ?_).wp2 ?_
  · have := Nat.mul_pos a.den_pos b.den_pos
    omega
  · rw [← Int.natCast_mul, Int.natAbs_natCast]; exact hd
  · simp
    have e : Rat.divInt (a.num * b.num) (↑a.den * ↑b.den) = a * b := by
      rw [Rat.mul_def', ← Int.natCast_mul, Rat.divInt_ofNat]
    rw [e]
    exact ⟨rfl, rfl⟩
def inv (m : Nat) : Rat := mkRat 1 m
theorem inv_num {m : Nat} (h : 0 < m) : (inv m).num = 1 := by
  unfold inv
  rw [Rat.num_mkRat, if_neg (by omega)]
  simp
theorem inv_den {m : Nat} (h : 0 < m) : (inv m).den = m := by
  unfold inv
  rw [Rat.den_mkRat, if_neg (by omega)]
  simp
theorem inv_frD {m : Nat} (h : 0 < m) : frD (inv m) = .tuple [.int 1, nD m] := by
  unfold frD
  rw [inv_num h, inv_den h]
abbrev chD (ps : List Rat) : D := .tuple (ps.map frD)
def ChanSp (φ : Fn) : Prop := ∀ ms : List Nat, (∀ m ∈ ms, 0 < m) → Ev φ [lotD ms] (chD (ms.map inv))
theorem chan_sp (Γ : Gam) : ChanSp (den Γ 1 2 b_Lchances) := by
  intro ms hm
  refine den_run ⟨rfl, by decide⟩ ?_
  simp [b_Lchances, initE, initS, wss_cons]
  refine wp_lc_map (fun m => .tuple [.int 1, nD m]) (fun m hmm => ?_) ?_
  · rw [wp_lcF (by rfl)]
    simp
  · simp
    refine ⟨?_, rfl⟩
    show RV.imm (.tuple _) = RV.imm (.tuple ((ms.map inv).map frD))
    rw [List.map_map]
    congr 2
    refine List.map_congr_left fun m hmm => ?_
    exact (inv_frD (hm m hmm)).symm
end Th
end
section
set_option Elab.async false
set_option linter.all false
set_option maxRecDepth 100000
set_option maxHeartbeats 4000000
namespace Th
open PySem
def sumL {α : Type} (f : α → Rat) : List α → Rat
  | [] => 0
  | x :: xs => f x + sumL f xs
def prodL {α : Type} (f : α → Rat) : List α → Rat
  | [] => 1
  | x :: xs => f x * prodL f xs
def prodN {α : Type} (f : α → Nat) : List α → Nat
  | [] => 1
  | x :: xs => f x * prodN f xs
section
variable {α : Type} {f : α → Rat} {g : α → Nat} {xs ys : List α}
theorem sumL_append : sumL f (xs ++ ys) = sumL f xs + sumL f ys := by
  induction xs with
  | nil => simp [sumL, Rat.zero_add]
  | cons x xs ih => simp only [List.cons_append, sumL, ih, Rat.add_assoc]
theorem prodL_append : prodL f (xs ++ ys) = prodL f xs * prodL f ys := by
  induction xs with
  | nil => simp [prodL]
  | cons x xs ih => simp only [List.cons_append, prodL, ih, Rat.mul_assoc]
theorem prodN_append : prodN g (xs ++ ys) = prodN g xs * prodN g ys := by
  induction xs with
  | nil => simp [prodN]
  | cons x xs ih => simp only [List.cons_append, prodN, ih, Nat.mul_assoc]
theorem sumL_snoc {x : α} : sumL f (xs ++ [x]) = sumL f xs + f x := by rw [sumL_append]; simp [sumL, Rat.add_zero]
theorem prodL_snoc {x : α} : prodL f (xs ++ [x]) = prodL f xs * f x := by rw [prodL_append]; simp [prodL]
theorem prodN_snoc {x : α} : prodN g (xs ++ [x]) = prodN g xs * g x := by rw [prodN_append]; simp [prodN]
theorem prodN_pos (h : ∀ x ∈ xs, 0 < g x) : 0 < prodN g xs := by
  induction xs with
  | nil => exact Nat.one_pos
  | cons x xs ih => exact Nat.mul_pos (h x List.mem_cons_self) (ih fun y hy => h y (List.mem_cons_of_mem _ hy))
theorem prodN_sub (h : xs.Sublist ys) : prodN g xs ∣ prodN g ys := by
  induction h with
  | slnil => exact Nat.dvd_refl _
  | cons a _ ih => exact Nat.dvd_trans ih (Nat.dvd_mul_left _ _)
  | cons_cons a _ ih => exact Nat.mul_dvd_mul_left _ ih
theorem prodN_le {K : Nat} (h : ∀ x ∈ xs, g x ≤ K) : prodN g xs ≤ K ^ xs.length := by
  induction xs with
  | nil => exact Nat.le_refl _
  | cons x xs ih =>
    rw [List.length_cons, Nat.pow_succ, Nat.mul_comm]
    exact Nat.mul_le_mul (h x List.mem_cons_self) (ih fun y hy => h y (List.mem_cons_of_mem _ hy))
end
def Bd (D B : Nat) (q : Rat) : Prop := ∃ n : Int, q = mkRat n D ∧ n.natAbs ≤ B
section
variable {D B D' B' : Nat} {q p : Rat}
theorem Bd.den (h : Bd D B q) (hD : 0 < D) : q.den ≤ D := by
  obtain ⟨n, rfl, hn⟩ := h
  rw [Rat.den_mkRat, if_neg (by omega)]
  exact Nat.div_le_self _ _
theorem Bd.num (h : Bd D B q) (hD : 0 < D) : q.num.natAbs ≤ B := by
  obtain ⟨n, rfl, hn⟩ := h
  rw [Rat.num_mkRat, if_neg (by omega)]
  refine Nat.le_trans ?_ hn
  exact Int.natAbs_ediv_le_natAbs _ _
theorem Bd.add (h : Bd D B q) (h' : Bd D B' p) (hD : 0 < D) : Bd D (B + B') (q + p) := by
  obtain ⟨n, rfl, hn⟩ := h
  obtain ⟨m, rfl, hm⟩ := h'
  refine ⟨n + m, ?_, by omega⟩
  rw [Rat.mkRat_add_mkRat _ _ (by omega) (by omega), ← Int.add_mul, Rat.mkRat_mul_right (by omega)]
theorem Bd.mul (h : Bd D B q) (h' : Bd D' B' p) : Bd (D * D') (B * B') (q * p) := by
  obtain ⟨n, rfl, hn⟩ := h
  obtain ⟨m, rfl, hm⟩ := h'
  refine ⟨n * m, Rat.mkRat_mul_mkRat _ _ _ _, ?_⟩
  rw [Int.natAbs_mul]
  exact Nat.mul_le_mul hn hm
theorem Bd.neg (h : Bd D B q) : Bd D B (-q) := by
  obtain ⟨n, rfl, hn⟩ := h
  exact ⟨-n, Rat.neg_mkRat _ _, by rw [Int.natAbs_neg]; exact hn⟩
theorem Bd.scale (h : Bd D B q) (c : Nat) (hc : 0 < c) : Bd (D * c) (B * c) q := by
  obtain ⟨n, rfl, hn⟩ := h
  refine ⟨n * c, (Rat.mkRat_mul_right (by omega)).symm, ?_⟩
  rw [Int.natAbs_mul, Int.natAbs_natCast]
  exact Nat.mul_le_mul_right _ hn
theorem Bd.mono (h : Bd D B q) (hb : B ≤ B') : Bd D B' q := by
  obtain ⟨n, rfl, hn⟩ := h
  exact ⟨n, rfl, by omega⟩
theorem Bd.dvd (h : Bd D D q) (hd : D ∣ D') (hp : 0 < D') : Bd D' D' q := by
  obtain ⟨c, rfl⟩ := hd
  exact h.scale c (Nat.pos_of_mul_pos_left hp)
theorem Bd.self (h : q.num.natAbs ≤ q.den) : Bd q.den q.den q := ⟨q.num, (Rat.mkRat_self q).symm, h⟩
theorem Bd.one : Bd 1 1 1 := ⟨1, by rfl, by decide⟩
theorem Bd.zero (hD : 0 < D) : Bd D 0 0 := ⟨0, by simp, by decide⟩
end
theorem depthAll_ints {ns : List Int} : PyData.depthAll (ns.map .int) = 0 := by
  induction ns with
  | nil => rfl
  | cons n ns ih => rw [List.map_cons]; unfold PyData.depthAll; rw [ih]; rfl
theorem canAll_ints {ns : List Int} : PyData.canLayAll0 (ns.map .int) = true := by
  induction ns with
  | nil => rfl
  | cons n ns ih => rw [List.map_cons]; unfold PyData.canLayAll0; rw [ih]; rfl
theorem shaped_ints {ns : List Int} : SeqAt.shaped (.list (ns.map .int)) = true := by
  unfold SeqAt.shaped PyData.canLay0 PyData.depth
  rw [canAll_ints, depthAll_ints]
  rfl
theorem shaped_tints {ns : List Int} : SeqAt.shaped (.tuple (ns.map .int)) = true := by
  unfold SeqAt.shaped PyData.canLay0 PyData.depth
  rw [canAll_ints, depthAll_ints]
  rfl
theorem eqv_nil {xs : List D} : PyData.eqv (.list xs) (.list []) = xs.isEmpty := by
  cases xs <;> simp [PyData.eqv, PyData.eqvAll]
theorem eqv_tnil {xs : List D} : PyData.eqv (.tuple xs) (.tuple []) = xs.isEmpty := by
  cases xs <;> simp [PyData.eqv, PyData.eqvAll]
section
variable {S : Store} {Q : RV → Store → Prop} {α : Type} {l : List α} {f : α → Int}
theorem map_ones : (l.map fun x => PyData.int (f x)) = (l.map f).map .int := by rw [List.map_map]; rfl
theorem wp_eq_nil {xs : List D} (h : SeqAt.shaped (.list xs) = true) : Wp (cmpOp .eq (.new (.lst xs)) (.new (.lst []))) S Q ↔ Q (.imm (.bool xs.isEmpty)) S := by
  rw [wp_eq]
  have h0 : SeqAt.shaped (.list []) = true := rfl
  simp [eqv_nil, h0, h]
theorem wp_ne_nil {xs : List D} (h : SeqAt.shaped (.list xs) = true) : Wp (cmpOp .ne (.new (.lst xs)) (.new (.lst []))) S Q ↔ Q (.imm (.bool (!xs.isEmpty))) S := by
  rw [wp_ne]
  have h0 : SeqAt.shaped (.list []) = true := rfl
  simp [eqv_nil, h0, h]
theorem shaped_map : SeqAt.shaped (.list (l.map fun x => PyData.int (f x))) = true := by rw [map_ones]; exact shaped_ints
theorem wp_eq_ints : Wp (cmpOp .eq (.new (.lst (l.map fun x => PyData.int (f x)))) (.new (.lst []))) S Q ↔ Q (.imm (.bool l.isEmpty)) S := by
  rw [wp_eq_nil shaped_map, List.isEmpty_map]
theorem wp_ne_ints : Wp (cmpOp .ne (.new (.lst (l.map fun x => PyData.int (f x)))) (.new (.lst []))) S Q ↔ Q (.imm (.bool (!l.isEmpty))) S := by
  rw [wp_ne_nil shaped_map, List.isEmpty_map]
theorem any_nat {ns : List Nat} {n : Nat} : ((ns.map nD).any fun y => PyData.eqv y (nD n)) = decide (n ∈ ns) := by
  have := any_int (ns := ns.map fun k : Nat => (k : Int)) (n := (n : Int))
  rw [List.map_map] at this
  refine Eq.trans this ?_
  simp only [List.mem_map, decide_eq_decide]
  constructor
  · rintro ⟨a, h, e⟩
    have : a = n := by omega
    rw [← this]; exact h
  · intro h; exact ⟨n, h, rfl⟩
theorem all_flat_nat {ns : List Nat} : ((ns.map nD).all flatD) = true := by
  induction ns with
  | nil => rfl
  | cons m ns ih => rw [List.map_cons, List.all_cons, ih]; rfl
theorem wp_in_lot {ns : List Nat} {n : Nat} : Wp (cmpOp .inn (.imm (nD n)) (.imm (lotD ns))) S Q ↔ Q (.imm (.bool (decide (n ∈ ns)))) S := by
  unfold cmpOp
  simp only [wp_bind, wp_co_imm, co_items_t, co_dat_d, wp_chk, wp_pure, any_nat, all_flat_nat]
  simp [flatD]
theorem wp_nin_lot {ns : List Nat} {n : Nat} : Wp (cmpOp .notin (.imm (nD n)) (.imm (lotD ns))) S Q ↔ Q (.imm (.bool (!decide (n ∈ ns)))) S := by
  unfold cmpOp
  simp only [wp_bind, wp_co_imm, co_items_t, co_dat_d, wp_chk, wp_pure, any_nat, all_flat_nat]
  simp [flatD]
end
def touchB (w : Web) (a b : Nat) : Bool := decide (a = b) || w.2.any fun lot => decide (a ∈ lot) && decide (b ∈ lot)
def TouchSp (φ : Fn) : Prop := ∀ (w : Web) (a b : Nat), Ev φ [webD w, nD a, nD b] (.bool (touchB w a b))
theorem any_filter {α : Type} {p : α → Bool} {l : List α} : (!(l.filter p).isEmpty) = l.any p := by
  induction l with
  | nil => rfl
  | cons x xs ih =>
    by_cases h : p x = true
    · simp [h]
    · have h' : p x = false := by simpa using h
      rw [List.filter_cons_of_neg h, ih, List.any_cons, h', Bool.false_or]
theorem touch_sp (Γ : Gam) : TouchSp (den Γ 3 4 b_Ltouch) := by
  intro w a b
  refine den_run ⟨rfl, by decide⟩ ?_
  simp [b_Ltouch, initE, initS, wss_cons]
  have q : ∀ (Q : RV → Store → Prop), Q (.imm (.bool (w.2.any fun lot => decide (a ∈ lot) && decide (b ∈ lot)))) [] → Wp (lcL (lcT Γ (ME.cst (.int 1)) (MG.name 3) [3] (some (ME.an (ME.cmp Cop.inn (ME.var 1) (ME.var 3)) (ME.cmp Cop.inn (ME.var 2) (ME.var 3)))) [some (.d (webD w)), some (.d (nD a)), some (.d (nD b)), none]) [] [] (w.2.map lotD)) []
      (kLst (kS Γ (ME.lst []) [some (.d (webD w)), some (.d (nD a)), some (.d (nD b)), none] (cmpOp Cop.ne) Q)) := by
    intro Q hQ
    refine wp_lc_filter (fun lot => decide (a ∈ lot) && decide (b ∈ lot)) (fun _ => .int 1) (fun lot hl => ?_) ?_
    · rw [wp_lcF (by rfl)]
      simp [wp_in_lot]
      by_cases h1 : a ∈ lot <;> simp [h1]
    · simp
      have := wp_ne_ints (S := []) (Q := Q) (l := w.2.filter fun lot => decide (a ∈ lot) && decide (b ∈ lot)) (f := fun _ => 1)
      rw [this, any_filter]
      exact hQ
  by_cases h : a = b
  · subst h
    simp
    exact ⟨by simp [touchB], rfl⟩
  · have h' : ¬ (a : Int) = b := by omega
    simp [h']
    refine q _ ?_
    exact ⟨by simp [touchB, h], rfl⟩
end Th
end
section
set_option Elab.async false
set_option linter.all false
set_option maxRecDepth 100000
set_option maxHeartbeats 4000000
namespace Th
open PySem
def apartB (w : Web) (lot : List Nat) : Bool := lot.all fun a => lot.all fun b => !(decide (a < b) && touchB w a b)
def ApartSp (φ : Fn) : Prop := ∀ (w : Web) (lot : List Nat), Ev φ [webD w, lotD lot] (.bool (apartB w lot))
theorem isEmpty_filter {α : Type} {p : α → Bool} {l : List α} : (l.filter p).isEmpty = l.all fun x => !p x := by
  induction l with
  | nil => rfl
  | cons x xs ih =>
    by_cases h : p x = true
    · simp [h]
    · have h' : p x = false := by simpa using h
      rw [List.filter_cons_of_neg h, ih, List.all_cons, h']; rfl
theorem not_any {α : Type} {p : α → Bool} {l : List α} : (!l.any p) = l.all fun x => !p x := by
  induction l with
  | nil => rfl
  | cons x xs ih => simp only [List.any_cons, List.all_cons, Bool.not_or, ih]
theorem apart_sp {Γ : Gam} (hT : Has Γ "_law_touch" TouchSp) : ApartSp (den Γ 2 4 b_Lapart) := by
  intro w lot
  refine den_run ⟨rfl, by decide⟩ ?_
  obtain ⟨p, hp⟩ : ∃ p : Nat → Nat → Bool, p = fun a b => decide (a < b) && touchB w a b := ⟨_, rfl⟩
  obtain ⟨q, hq⟩ : ∃ q : Nat → Bool, q = fun a => lot.any (p a) := ⟨_, rfl⟩
  simp [b_Lapart, initE, initS, wss_cons]
  refine wp_lc_filter q (fun _ => .int 1) (fun a ha => ?_) ?_
  · rw [wp_lcF (by rfl)]
    simp
    refine wp_lc_filter (p a) (fun _ => .int 1) (fun b hb => ?_) ?_
    · rw [wp_lcF (by rfl)]
      have e : p a b = (decide (a < b) && touchB w a b) := by rw [hp]
      simp
      by_cases h : a < b
      · simp [h]
        refine hT.call fun φ hφ => ?_
        simp
        refine (hφ w a b).wp3 ?_
        simp [e, h]
      · simp [e, h]
    · simp
      refine (wp_ne_ints (l := lot.filter (p a)) (f := fun _ => 1)).mpr ?_
      rw [any_filter]
      have e : lot.any (p a) = q a := by rw [hq]
      rw [e]
      cases q a <;> simp
  · simp
    refine (wp_eq_ints (l := lot.filter q) (f := fun _ => 1)).mpr ?_
    rw [isEmpty_filter]
    obtain ⟨v, hv⟩ : ∃ v : Bool, v = lot.all fun x => !q x := ⟨_, rfl⟩
    rw [← hv]
    simp
    refine ⟨?_, rfl⟩
    rw [hv, hq, hp]
    unfold apartB
    congr 3
    funext a
    exact not_any
theorem enum_map {α : Type} {f : α → D} {l : List α} : ((l.map f).zipIdx.map fun p => pairD (.int (p.2 : Nat)) p.1) = l.zipIdx.map fun p => pairD (nD p.2) (f p.1) := by
  rw [List.zipIdx_map, List.map_map]
  rfl
def sel (place : Nat) (lot : List Nat) : List Nat := (lot.zipIdx.filter fun p => place.testBit p.2).map (·.1)
def part (ps : List Rat) (some : List Nat) : Rat := prodL (fun h => -(ps.getD h 0)) some
def altS (w : Web) (ps : List Rat) (lot : List Nat) : Rat :=
  sumL (fun place => if apartB w (sel place lot) = true then part ps (sel place lot) else 0) (List.range (2 ^ lot.length))
theorem sel_sub {place : Nat} {lot : List Nat} : (sel place lot).Sublist lot := by
  have h : ((lot.zipIdx.filter fun p => place.testBit p.2).map (·.1)).Sublist (lot.zipIdx.map (·.1)) := List.filter_sublist.map _
  rw [List.zipIdx_map_fst] at h
  exact h
structure ChOk (ps : List Rat) : Prop where
  one : ∀ p ∈ ps, p.num.natAbs ≤ p.den
  den : ∀ p ∈ ps, p.den ≤ 2 ^ 200
theorem bitAnd_nat {a b : Nat} : Builtin.bitAnd (a : Int) (b : Int) = ((a &&& b : Nat) : Int) := by
  unfold Builtin.bitAnd
  have h1 : decide (0 ≤ (a : Int)) = true := by simp
  have h2 : decide (0 ≤ (b : Int)) = true := by simp
  rw [h1, h2]
  rfl
theorem bit_one {place spot : Nat} : Builtin.bitAnd ((place : Int) / 2 ^ spot) 1 = if place.testBit spot = true then 1 else 0 := by
  have e : (place : Int) / 2 ^ spot = ((place / 2 ^ spot : Nat) : Int) := by
    rw [Int.natCast_ediv]
    congr 1
  rw [e]
  have e2 : Builtin.bitAnd ((place / 2 ^ spot : Nat) : Int) 1 = ((place / 2 ^ spot &&& 1 : Nat) : Int) := bitAnd_nat (b := 1)
  rw [e2, Nat.and_one_is_mod, Nat.testBit_eq_decide_div_mod_eq]
  by_cases h : place / 2 ^ spot % 2 = 1
  · simp [h]
  · have : place / 2 ^ spot % 2 = 0 := by omega
    simp [this]
def SumSp (φ : Fn) : Prop := ∀ (w : Web) (ps : List Rat) (lot : List Nat), ChOk ps → (∀ h ∈ lot, h < ps.length) → lot.length ≤ 12 → Ev φ [webD w, chD ps, lotD lot] (frD (altS w ps lot))
theorem big_eq : big = 2 ^ 8000 := rfl
theorem pow_lt_big {n : Nat} (h : n < 8000) : 2 ^ n < big := Nat.pow_lt_pow_right (by decide) h
theorem sum_sp {Γ : Gam} (hA : Has Γ "_law_apart" ApartSp) (hT : Has Γ "_law_times" TimesSp) (hP : Has Γ "_law_plus" PlusSp) : SumSp (den Γ 3 9 b_Lsum_of) := by
  intro w ps lot hc hl hlen
  have hpw : 2 ^ lot.length ≤ 4096 := Nat.pow_le_pow_right (n := 2) (by decide) hlen
  have hd : ∀ h ∈ lot, 0 < (ps.getD h 0).den ∧ (ps.getD h 0).den ≤ 2 ^ 200 ∧ (ps.getD h 0).num.natAbs ≤ (ps.getD h 0).den := fun h hh => by
    have e : ps.getD h 0 = ps[h]'(hl h hh) := by rw [List.getD_eq_getElem?_getD, List.getElem?_eq_getElem (hl h hh)]; rfl
    rw [e]
    have hm := List.getElem_mem (hl h hh)
    exact ⟨Rat.den_pos _, hc.den _ hm, hc.one _ hm⟩
  let dn : Nat → Nat := fun h => (ps.getD h 0).den
  have hpos : ∀ l : List Nat, l.Sublist lot → 0 < prodN dn l := fun l hs => prodN_pos fun x hx => (hd x (hs.subset hx)).1
  have hle : ∀ l : List Nat, l.Sublist lot → prodN dn l ≤ 2 ^ 2400 := fun l hs => by
    have h1 : prodN dn l ≤ (2 ^ 200) ^ l.length := prodN_le fun x hx => (hd x (hs.subset hx)).2.1
    have h2 : (2 ^ 200) ^ l.length ≤ (2 ^ 200) ^ 12 := Nat.pow_le_pow_right (by decide) (Nat.le_trans hs.length_le hlen)
    exact Nat.le_trans h1 h2
  have hbd : ∀ l : List Nat, l.Sublist lot → Bd (prodN dn l) (prodN dn l) (part ps l) := by
    intro l
    unfold part
    induction l with
    | nil => intro _; exact Bd.one
    | cons x l ih =>
      intro hs
      refine Bd.mul (Bd.neg (Bd.self ?_)) (ih ((List.sublist_cons_self x l).trans hs))
      exact (hd x (hs.subset List.mem_cons_self)).2.2
  have hfit : ∀ l : List Nat, l.Sublist lot → (part ps l).num.natAbs ≤ 2 ^ 2400 ∧ (part ps l).den ≤ 2 ^ 2400 := fun l hs =>
    ⟨Nat.le_trans ((hbd l hs).num (hpos l hs)) (hle l hs), Nat.le_trans ((hbd l hs).den (hpos l hs)) (hle l hs)⟩
  have p1 : 2 ^ 2400 < big := pow_lt_big (by decide)
  have p2 : 2 ^ 2400 * 2 ^ 200 < big := by rw [← Nat.pow_add]; exact pow_lt_big (by decide)
  have p3 : 2 ^ 2400 * 2 ^ 2400 < big := by rw [← Nat.pow_add]; exact pow_lt_big (by decide)
  have p4 : 2 ^ 12 * 2 ^ 2400 < big := by rw [← Nat.pow_add]; exact pow_lt_big (by decide)
  generalize hX : (2 : Nat) ^ 2400 = X at *
  generalize hY : (2 : Nat) ^ 200 = Y at *
  let term : Nat → Rat := fun place => if apartB w (sel place lot) = true then part ps (sel place lot) else 0
  have htb : ∀ n, n ≤ 4096 → Bd (prodN dn lot) (n * prodN dn lot) (sumL term (List.range n)) := by
    intro n
    induction n with
    | zero => intro _; rw [Nat.zero_mul]; exact Bd.zero (hpos lot (List.Sublist.refl _))
    | succ n ih =>
      intro hn
      rw [List.range_succ, sumL_snoc, Nat.succ_mul]
      refine Bd.add (ih (by omega)) ?_ (hpos lot (List.Sublist.refl _))
      show Bd _ _ (if apartB w (sel n lot) = true then part ps (sel n lot) else 0)
      split
      · exact (hbd _ sel_sub).dvd (prodN_sub sel_sub) (hpos lot (List.Sublist.refl _))
      · exact (Bd.zero (hpos lot (List.Sublist.refl _))).mono (by omega)
  have htf : ∀ n, n ≤ 4096 → (sumL term (List.range n)).num.natAbs < big ∧ (sumL term (List.range n)).den ≤ X := fun n hn => by
    have h1 := (htb n hn).num (hpos lot (List.Sublist.refl _))
    have h2 := (htb n hn).den (hpos lot (List.Sublist.refl _))
    have h3 := hle lot (List.Sublist.refl _)
    refine ⟨Nat.lt_of_le_of_lt (Nat.le_trans h1 (Nat.mul_le_mul (show n ≤ 2 ^ 12 by omega) h3)) p4, Nat.le_trans h2 h3⟩
  refine den_run ⟨rfl, by decide⟩ ?_
  simp [b_Lsum_of, initE, initS, wss_cons]
  have e0 : (2 : Int) ^ lot.length = ((2 ^ lot.length : Nat) : Int) := by simp
  rw [e0]
  have hterm : altS w ps lot = sumL term (List.range (2 ^ lot.length)) := rfl
  rw [hterm]
  generalize 2 ^ lot.length = N at *
  refine ⟨by omega, by omega, ?_⟩
  obtain ⟨I, hI⟩ : ∃ I : Nat → Env → Store → Prop, I = fun i e T => ∃ t4 t5 t6 t7 t8 : Option Sl, e = [some (.d (webD w)), some (.d (chD ps)), some (.d (lotD lot)), some (.d (frD (sumL term (List.range i)))), t4, t5, t6, t7, t8] ∧ T = [] := ⟨_, rfl⟩
  refine wp_for_rng I (by rw [hI]; exact ⟨none, none, none, none, none, rfl, rfl⟩) (fun i e T hi h => ?_) fun e T h => ?_
  · rw [hI] at h
    obtain ⟨t4, t5, t6, t7, t8, rfl, rfl⟩ := h
    have hi' : i < N := by omega
    rw [wp_forF (by rfl)]
    obtain ⟨e1, he1⟩ : ∃ e1 : Env, e1 = [some (.d (webD w)), some (.d (chD ps)), some (.d (lotD lot)), some (.d (frD (sumL term (List.range i)))), some (.d (nD i)), t5, t6, t7, t8] := ⟨_, rfl⟩
    simp only [Int.zero_add, List.set_cons_succ, List.set_cons_zero]
    simp [wss_cons]
    rw [enum_map]
    refine wp_lc_filter (fun q => i.testBit q.2) (fun q => nD q.1) (fun q hq => ?_) ?_
    · rw [wp_lcF (by rfl)]
      simp [bit_one]
    · have es : ((lot.zipIdx.filter fun q => i.testBit q.2).map fun q => nD q.1) = (sel i lot).map nD := by unfold sel; rw [List.map_map]; rfl
      simp
      rw [es]
      simp [wss_cons]
      refine hA.call fun φ hφ => ?_
      simp
      refine (hφ w (sel i lot)).wp2 ?_
      have ht : term i = if apartB w (sel i lot) = true then part ps (sel i lot) else 0 := rfl
      cases hap : apartB w (sel i lot) with
      | false =>
        simp
        rw [hI]
        have e : sumL term (List.range (i + 1)) = sumL term (List.range i) := by
          rw [List.range_succ, sumL_snoc, ht, hap]
          simp [Rat.add_zero]
        exact ⟨some (.d (nD i)), some (.d (lotD (sel i lot))), t6, t7, t8, by rw [e], rfl⟩
      | true =>
        rw [hap, if_pos rfl] at ht
        simp [wss_cons]
        obtain ⟨I2, hI2⟩ : ∃ I2 : List Nat → Env → Store → Prop, I2 = fun l e T => ∃ t7 : Option Sl, e = [some (.d (webD w)), some (.d (chD ps)), some (.d (lotD lot)), some (.d (frD (sumL term (List.range i)))), some (.d (nD i)), some (.d (lotD (sel i lot))), some (.d (frD (part ps l))), t7, t8] ∧ T = [] := ⟨_, rfl⟩
        refine wp_for I2 (by rw [hI2]; exact ⟨t7, rfl, rfl⟩) (fun l y r e T he h => ?_) fun e T h => ?_
        · rw [hI2] at h
          obtain ⟨t7, rfl, rfl⟩ := h
          have hsub : (l ++ [y]).Sublist lot := by
            refine List.Sublist.trans ?_ (sel_sub (place := i))
            rw [he]
            exact List.Sublist.append (List.Sublist.refl l) (List.singleton_sublist.mpr List.mem_cons_self)
          have hl1 : l.Sublist lot := (List.sublist_append_left l [y]).trans hsub
          have hy : y ∈ lot := hsub.subset (by simp)
          have hyl := hl y hy
          rw [wp_forF (by rfl)]
          simp [wss_cons]
          refine hT.call fun φ hφ => ?_
          have ey : L2.atI (ps.map frD) (y : Int) = some (frD (ps.getD y 0)) := by
            rw [at_nat, List.getElem?_map, List.getElem?_eq_getElem hyl, List.getD_eq_getElem?_getD, List.getElem?_eq_getElem hyl]; rfl
          simp [ey]
          obtain ⟨d1, d2, d3⟩ := hd y hy
          obtain ⟨f1, f2⟩ := hfit l hl1
          have q := hφ (part ps l) (-(ps.getD y 0)) (Nat.lt_of_le_of_lt f1 p1) ?_ ?_
          · refine Ev.wp2 (b := .tuple [.int (-(ps.getD y 0).num), nD (ps.getD y 0).den]) q ?_
            simp
            rw [hI2]
            have e : part ps (l ++ [y]) = part ps l * -(ps.getD y 0) := prodL_snoc
            exact ⟨some (.d (nD y)), by rw [e, List.getD_eq_getElem?_getD], rfl⟩
          · rw [Rat.neg_num, Int.natAbs_neg]
            exact Nat.lt_of_le_of_lt (Nat.le_trans d3 d2) (Nat.lt_of_le_of_lt (by rw [← hX, ← hY]; exact Nat.pow_le_pow_right (by decide) (by decide)) p1)
          · rw [Rat.neg_den]
            exact Nat.lt_of_le_of_lt (Nat.mul_le_mul f2 d2) p2
        · rw [hI2] at h
          obtain ⟨t7, rfl, rfl⟩ := h
          simp [wss_cons]
          refine hP.call fun φ hφ => ?_
          simp
          obtain ⟨f1, f2⟩ := hfit (sel i lot) sel_sub
          obtain ⟨g1, g2⟩ := htf i (by omega)
          refine Ev.wp2 (hφ _ _ g1 (Nat.lt_of_le_of_lt f1 p1) (Nat.lt_of_le_of_lt (Nat.mul_le_mul g2 f2) p3)) ?_
          simp
          rw [hI]
          have e : sumL term (List.range (i + 1)) = sumL term (List.range i) + part ps (sel i lot) := by
            rw [List.range_succ, sumL_snoc, ht]
          exact ⟨some (.d (nD i)), some (.d (lotD (sel i lot))), some (.d (frD (part ps (sel i lot)))), t7, t8, by rw [e], rfl⟩
  · rw [hI] at h
    obtain ⟨t4, t5, t6, t7, t8, rfl, rfl⟩ := h
    simp [wss_cons]
    exact ⟨rfl, rfl⟩
end Th
end
section
set_option Elab.async false
set_option linter.all false
set_option maxRecDepth 100000
set_option maxHeartbeats 4000000
namespace Th
open PySem PySem.W
theorem alikeAll_nat {xs ys : List Nat} : alikeAll (xs.map nD) (ys.map nD) = true := by
  induction xs generalizing ys with
  | nil => simp [alikeAll]
  | cons x xs ih =>
    cases ys with
    | nil => simp [alikeAll]
    | cons y ys => simp [alikeAll, alike, ih]
theorem depthAll_nat {ns : List Nat} : PyData.depthAll (ns.map nD) = 0 := by
  induction ns with
  | nil => rfl
  | cons n ns ih => rw [List.map_cons]; unfold PyData.depthAll; rw [ih]; rfl
theorem depth_lot {l : List Nat} : PyData.depth (lotD l) = 1 := by unfold PyData.depth; rw [depthAll_nat]
theorem sortOk_nat {ns : List Nat} : sortOk (ns.map nD) := by
  refine ⟨?_, .inr ?_, ?_⟩
  · intro d hd d' hd'
    obtain ⟨n, _, rfl⟩ := List.mem_map.mp hd
    obtain ⟨m, _, rfl⟩ := List.mem_map.mp hd'
    simp [alike]
  · intro d hd
    obtain ⟨n, _, rfl⟩ := List.mem_map.mp hd
    exact ⟨by simp, by simp⟩
  · intro d hd
    obtain ⟨n, _, rfl⟩ := List.mem_map.mp hd
    simp [PyData.depth]
theorem sortOk_lots {ls : List (List Nat)} (h : ∀ l ∈ ls, l ≠ []) : sortOk (ls.map lotD) := by
  refine ⟨?_, .inl ?_, ?_⟩
  · intro d hd d' hd'
    obtain ⟨n, _, rfl⟩ := List.mem_map.mp hd
    obtain ⟨m, _, rfl⟩ := List.mem_map.mp hd'
    simp only [alike]; exact alikeAll_nat
  · intro d hd
    obtain ⟨n, hn, rfl⟩ := List.mem_map.mp hd
    cases n with
    | nil => exact absurd rfl (h _ hn)
    | cons x r => exact ⟨_, _, rfl⟩
  · intro d hd
    obtain ⟨n, _, rfl⟩ := List.mem_map.mp hd
    rw [depth_lot]; decide
def leD (a b : D) : Bool := PySem.W.dataLe false (fun d => d) a b
theorem sortD_eq {ds : List D} : sortD ds = ds.mergeSort leD := rfl
def sortN (ns : List Nat) : List Nat := ns.mergeSort fun a b => leD (nD a) (nD b)
def sortLs (ls : List (List Nat)) : List (List Nat) := ls.mergeSort fun a b => leD (lotD a) (lotD b)
theorem sortD_nat {ns : List Nat} : sortD (ns.map nD) = (sortN ns).map nD := by
  rw [sortD_eq]
  exact (List.map_mergeSort (f := nD) (r := fun a b => leD (nD a) (nD b)) (s := leD) fun a _ b _ => rfl).symm
theorem sortD_lots {ls : List (List Nat)} : sortD (ls.map lotD) = (sortLs ls).map lotD := by
  rw [sortD_eq]
  exact (List.map_mergeSort (f := lotD) (r := fun a b => leD (lotD a) (lotD b)) (s := leD) fun a _ b _ => rfl).symm
theorem sortN_perm {ns : List Nat} : (sortN ns).Perm ns := List.mergeSort_perm _ _
theorem sortLs_perm {ls : List (List Nat)} : (sortLs ls).Perm ls := List.mergeSort_perm _ _
def subs : Nat → List (List Nat)
  | 0 => [[]]
  | n + 1 => subs n ++ (subs n).map fun l => l ++ [n]
theorem subs_length : ∀ n, (subs n).length = 2 ^ n
  | 0 => rfl
  | n + 1 => by
    rw [subs, List.length_append, List.length_map, subs_length n]
    omega
theorem subs_mem : ∀ {n : Nat} {l : List Nat}, l ∈ subs n → l.Sublist (List.range n)
  | 0, l, h => by
    rw [subs, List.mem_singleton] at h
    subst h; exact List.Sublist.refl _
  | n + 1, l, h => by
    rw [subs, List.mem_append] at h
    rw [List.range_succ]
    rcases h with h | h
    · exact (subs_mem h).trans (List.sublist_append_left _ _)
    · obtain ⟨l', h', rfl⟩ := List.mem_map.mp h
      exact List.Sublist.append (subs_mem h') (List.Sublist.refl _)
abbrev lpD (l : List Nat) : D := .tuple [nD l.length, lotD l]
def lotsN (n : Nat) : List (List Nat) := (subs n).mergeSort fun a b => leD (lpD a) (lpD b)
theorem lotsN_perm {n : Nat} : (lotsN n).Perm (subs n) := List.mergeSort_perm _ _
theorem sortOk_lp {ls : List (List Nat)} : sortOk (ls.map lpD) := by
  refine ⟨?_, .inl ?_, ?_⟩
  · intro d hd d' hd'
    obtain ⟨n, _, rfl⟩ := List.mem_map.mp hd
    obtain ⟨m, _, rfl⟩ := List.mem_map.mp hd'
    simp [alike, alikeAll]
    exact alikeAll_nat
  · intro d hd
    obtain ⟨n, hn, rfl⟩ := List.mem_map.mp hd
    exact ⟨_, _, rfl⟩
  · intro d hd
    obtain ⟨n, _, rfl⟩ := List.mem_map.mp hd
    simp [PyData.depth, PyData.depthAll, depthAll_nat]
def LotsSp (φ : Fn) : Prop := ∀ n : Nat, n ≤ 12 → En φ [nD n] ((lotsN n).map lotD)
theorem lots_sp (Γ : Gam) : LotsSp (den Γ 1 5 b_Llots) := by
  intro n hn
  refine den_run ⟨rfl, by decide⟩ ?_
  simp [b_Llots, initE, initS, wss_cons]
  refine ⟨by omega, ?_⟩
  obtain ⟨I, hI⟩ : ∃ I : Nat → Env → Store → Prop, I = fun i e T => ∃ (k : Nat) (t : Option Sl), e = [some (.d (nD n)), some (.p k), t, none, none] ∧ T[k]? = some (.own (.lst ((subs i).map lotD))) := ⟨_, rfl⟩
  refine wp_for_rng I (by rw [hI]; exact ⟨0, none, rfl, rfl⟩) (fun i e T hi h => ?_) fun e T h => ?_
  · rw [hI] at h
    obtain ⟨k, t, rfl, hk⟩ := h
    have hi' : i < n := by omega
    rw [wp_forF (by rfl)]
    simp [wss_cons, hk]
    refine wp_lc_map (fun l => lotD (l ++ [i])) (fun l hl => ?_) ?_
    · rw [wp_lcF (by rfl)]
      have hln : l.length ≤ i := by
        have := (subs_mem hl).length_le
        rwa [List.length_range] at this
      simp [szL_eq]
      omega
    · simp [hk, szL_eq, subs_length]
      have hp : 2 ^ i ≤ 4096 := Nat.pow_le_pow_right (n := 2) (by decide) (show i ≤ 12 by omega)
      refine ⟨by omega, ?_⟩
      rw [hI]
      refine ⟨T.length, _, rfl, ?_⟩
      rw [List.getElem?_concat_length]
      congr 3
      rw [subs, List.map_append, List.map_map]
      rfl
  · rw [hI] at h
    obtain ⟨k, t, rfl, hk⟩ := h
    have e : ((n : Int) - 0).toNat = n := by omega
    rw [e] at hk
    simp [wss_cons, hk]
    refine wp_lc_map lpD (fun l hl => ?_) ?_
    · rw [wp_lcF (by rfl)]
      simp
    · simp
      refine ⟨sortOk_lp, ?_⟩
      have es : sortD ((subs n).map lpD) = (lotsN n).map lpD := by
        rw [sortD_eq]
        exact (List.map_mergeSort (f := lpD) (r := fun a b => leD (lpD a) (lpD b)) (s := leD) fun a _ b _ => rfl).symm
      rw [es]
      refine wp_lc_map lotD (fun l hl => ?_) ?_
      · rw [wp_lcF (by rfl)]
        simp
      · simp
        exact ⟨rfl, rfl⟩
def faultO (w : Web) (ps : List Rat) : Option (List Nat) := (lotsN w.1).find? fun l => decide (altS w ps l < 0)
def optD (o : Option (List Nat)) : D := match o with
  | some l => lotD l
  | none => .none
def FaultSp (φ : Fn) : Prop := ∀ (w : Web) (ps : List Rat), ChOk ps → w.1 ≤ ps.length → w.1 ≤ 12 → Ev φ [webD w, chD ps] (optD (faultO w ps))
theorem lots_ok {n : Nat} {l : List Nat} (h : l ∈ lotsN n) : l.Sublist (List.range n) := subs_mem (lotsN_perm.mem_iff.mp h)
theorem find_none {α : Type} {p : α → Bool} {l : List α} : (∀ x ∈ l, p x = false) → l.find? p = none := by
  intro h
  rw [List.find?_eq_none]
  intro x hx
  simp [h x hx]
theorem num_neg {q : Rat} : decide (q.num < 0) = decide (q < 0) := by
  rw [decide_eq_decide]
  have := Rat.num_nonneg (q := q)
  constructor
  · intro h
    exact Rat.not_le.mp fun h2 => by have := this.mpr h2; omega
  · intro h
    have h2 : ¬ 0 ≤ q := Rat.not_le.mpr h
    have h3 : ¬ 0 ≤ q.num := fun z => h2 (this.mp z)
    omega
theorem fault_sp {Γ : Gam} (hL : Has Γ "_law_lots" LotsSp) (hS : Has Γ "_law_sum_of" SumSp) : FaultSp (den Γ 2 3 b_Lfault) := by
  intro w ps hc hw hn
  refine den_run ⟨rfl, by decide⟩ ?_
  simp [b_Lfault, initE, initS, wss_cons]
  refine hL.call fun φ hφ => ?_
  simp
  refine (hφ w.1 hn).wp1 ?_
  simp
  obtain ⟨I, hI⟩ : ∃ I : List (List Nat) → Env → Store → Prop, I = fun l e T => ∃ t : Option Sl, e = [some (.d (webD w)), some (.d (chD ps)), t] ∧ T = [] ∧ ∀ x ∈ l, decide (altS w ps x < 0) = false := ⟨_, rfl⟩
  refine wp_for I (by rw [hI]; exact ⟨none, rfl, rfl, by simp⟩) (fun l y r e T he h => ?_) fun e T h => ?_
  · rw [hI] at h
    obtain ⟨t, rfl, rfl, ha⟩ := h
    have hy : y ∈ lotsN w.1 := by rw [he]; simp
    have hsub := lots_ok hy
    rw [wp_forF (by rfl)]
    simp [wss_cons]
    refine hS.call fun φ hφ => ?_
    simp
    refine (hφ w ps y hc (fun h hh => ?_) ?_).wp3 ?_
    · have := hsub.subset hh
      rw [List.mem_range] at this
      omega
    · have := hsub.length_le
      rw [List.length_range] at this
      omega
    · simp
      have hnn := num_neg (q := altS w ps y)
      by_cases hlt : altS w ps y < 0
      · rw [decide_eq_true hlt] at hnn
        have h3 := of_decide_eq_true hnn
        simp [h3, wss_cons]
        have ef : faultO w ps = some y := by
          unfold faultO
          rw [he, List.find?_append, find_none ha, Option.none_or, List.find?_cons, decide_eq_true hlt]
        rw [ef]
        exact ⟨rfl, rfl⟩
      · rw [decide_eq_false hlt] at hnn
        have h3 := of_decide_eq_false hnn
        simp [h3]
        rw [hI]
        refine ⟨_, rfl, rfl, fun x hx => ?_⟩
        rcases List.mem_append.mp hx with hx | hx
        · exact ha x hx
        · rw [List.mem_singleton] at hx
          subst hx
          exact decide_eq_false hlt
  · rw [hI] at h
    obtain ⟨t, rfl, rfl, ha⟩ := h
    simp [wss_cons]
    have ef : faultO w ps = none := find_none ha
    rw [ef]
    exact ⟨rfl, rfl⟩
def setM (ms : List Nat) (h m : Nat) : List Nat := ms.take h ++ [m] ++ ms.drop (h + 1)
theorem chOk_inv {ms : List Nat} (h : ∀ m ∈ ms, 0 < m ∧ m ≤ 2 ^ 100) : ChOk (ms.map inv) := by
  constructor
  · intro p hp
    obtain ⟨m, hm, rfl⟩ := List.mem_map.mp hp
    have := h m hm
    rw [inv_num this.1, inv_den this.1]
    omega
  · intro p hp
    obtain ⟨m, hm, rfl⟩ := List.mem_map.mp hp
    have := h m hm
    rw [inv_den this.1]
    omega
def MkOk (n : Nat) (ms : List Nat) : Prop := ms.length = n ∧ ∀ m ∈ ms, 0 < m ∧ m ≤ 100000
theorem MkOk.ch {n : Nat} {ms : List Nat} (h : MkOk n ms) : ChOk (ms.map inv) := chOk_inv fun m hm => ⟨(h.2 m hm).1, Nat.le_trans (h.2 m hm).2 (by decide)⟩
theorem MkOk.pos {n : Nat} {ms : List Nat} (h : MkOk n ms) : ∀ m ∈ ms, 0 < m := fun m hm => (h.2 m hm).1
theorem setM_ok {n : Nat} {ms : List Nat} (h : MkOk n ms) {k m : Nat} (hk : k < n) (hm : 0 < m ∧ m ≤ 100000) : MkOk n (setM ms k m) := by
  obtain ⟨h1, h2⟩ := h
  refine ⟨?_, fun x hx => ?_⟩
  · unfold setM
    simp
    omega
  · unfold setM at hx
    rw [List.append_assoc] at hx
    rcases List.mem_append.mp hx with hx | hx
    · exact h2 x (List.mem_of_mem_take hx)
    · rcases List.mem_append.mp hx with hx | hx
      · rw [List.mem_singleton] at hx
        subst hx; exact hm
      · exact h2 x (List.mem_of_mem_drop hx)
theorem cut_take {xs : List D} {k : Nat} : cutD xs none (some (k : Int)) = xs.take k := by
  unfold cutD
  rw [HT.sIx_none, HT.sIx_nat, List.drop_zero, Nat.sub_zero]
  by_cases h : k ≤ xs.length
  · rw [Nat.min_eq_left h]
  · rw [Nat.min_eq_right (by omega), List.take_of_length_le (Nat.le_refl _), List.take_of_length_le (by omega)]
theorem cut_drop {xs : List D} {k : Nat} : cutD xs (some (k : Int)) none = xs.drop k := by
  unfold cutD
  rw [HT.sIx_none, HT.sIx_nat]
  by_cases h : k ≤ xs.length
  · rw [Nat.min_eq_left h, List.take_of_length_le]
    rw [List.length_drop]
    omega
  · rw [Nat.min_eq_right (by omega), Nat.sub_self, List.take_zero, List.drop_eq_nil_of_le (by omega)]
theorem cut_drop1 {xs : List D} {k : Nat} : cutD xs (some ((k : Int) + 1)) none = xs.drop (k + 1) := by
  have e : (k : Int) + 1 = ((k + 1 : Nat) : Int) := by omega
  rw [e, cut_drop]
def faultM (w : Web) (ms : List Nat) : Option (List Nat) := faultO w (ms.map inv)
def enoughO (w : Web) (ms : List Nat) (h : Nat) : Option Nat := ((List.range 200).map (· + 1)).find? fun m => decide (faultM w (setM ms h m) = none)
def optN (o : Option Nat) : D := match o with
  | some l => nD l
  | none => .none
def EnoughSp (φ : Fn) : Prop := ∀ (w : Web) (ms : List Nat) (h : Nat), MkOk w.1 ms → w.1 ≤ 12 → h < w.1 → Ev φ [webD w, lotD ms, nD h] (optN (enoughO w ms h))
theorem optD_none {o : Option (List Nat)} : Co.isNone (.d (optD o)) = decide (o = none) := by
  cases o <;> rfl
theorem enough_sp {Γ : Gam} (hC : Has Γ "_law_chances" ChanSp) (hF : Has Γ "_law_fault" FaultSp) : EnoughSp (den Γ 3 4 b_Lenough_for) := by
  intro w ms h hm hw hh
  refine den_run ⟨rfl, by decide⟩ ?_
  simp [b_Lenough_for, initE, initS, wss_cons]
  obtain ⟨I, hI⟩ : ∃ I : Nat → Env → Store → Prop, I = fun i e T => ∃ t : Option Sl, e = [some (.d (webD w)), some (.d (lotD ms)), some (.d (nD h)), t] ∧ T = [] ∧ ∀ x ∈ (List.range i).map (· + 1), decide (faultM w (setM ms h x) = none) = false := ⟨_, rfl⟩
  refine wp_for_rng I (by rw [hI]; exact ⟨none, rfl, rfl, by simp⟩) (fun i e T hi h => ?_) fun e T h => ?_
  · rw [hI] at h
    obtain ⟨t, rfl, rfl, ha⟩ := h
    have hi' : i < 200 := by omega
    rw [wp_forF (by rfl)]
    have e1 : (1 : Int) + (i : Int) = ((i + 1 : Nat) : Int) := by omega
    have e2 : (h : Int) + 1 = ((h + 1 : Nat) : Int) := by omega
    rw [e1]
    have hso := setM_ok hm hh (m := i + 1) ⟨by omega, by omega⟩
    simp [wss_cons]
    refine hF.call fun φ hφ => ?_
    simp
    refine hC.call fun φ2 hφ2 => ?_
    simp
    rw [cut_take, e2, cut_drop]
    have e3 : PyData.tuple ((ms.map nD).take h ++ PyData.int ((i : Int) + 1) :: (ms.map nD).drop (h + 1)) = lotD (setM ms h (i + 1)) := by
      unfold setM lotD
      rw [List.map_append, List.map_append, List.map_take, List.map_drop, List.append_assoc]
      rfl
    simp [szL_eq]
    rw [e3]
    have hml := hm.1
    refine ⟨by omega, by omega, ?_⟩
    refine (hφ2 _ hso.pos).wp1 ?_
    simp
    refine Ev.wp2 (hφ w _ hso.ch (by rw [List.length_map, hso.1]; omega) hw) ?_
    simp [optD_none]
    have hst : decide (faultM w (setM ms h (i + 1)) = none) = decide (faultO w ((setM ms h (i + 1)).map inv) = none) := rfl
    by_cases hf : faultO w ((setM ms h (i + 1)).map inv) = none
    · simp [hf, wss_cons]
      have ef : enoughO w ms h = some (i + 1) := by
        unfold enoughO
        have e4 : (List.range 200).map (· + 1) = (List.range i).map (· + 1) ++ (i + 1) :: ((List.range 200).drop (i + 1)).map (· + 1) := by
          have e5 : List.range 200 = List.range i ++ i :: (List.range 200).drop (i + 1) := by
            have h1 : (List.range 200).take i = List.range i := by rw [List.take_range, Nat.min_eq_left (by omega)]
            have h2 : (List.range 200).drop i = i :: (List.range 200).drop (i + 1) := by
              rw [List.drop_eq_getElem_cons (by rw [List.length_range]; exact hi'), List.getElem_range]
            rw [← h1, ← h2, List.take_append_drop]
          conv => lhs; rw [e5]
          rw [List.map_append, List.map_cons]
        rw [e4, List.find?_append, find_none ha, Option.none_or, List.find?_cons, hst, decide_eq_true hf]
      rw [ef]
      exact ⟨by simp [optN], rfl⟩
    · simp [hf]
      rw [hI]
      refine ⟨_, rfl, rfl, fun x hx => ?_⟩
      rw [List.range_succ, List.map_append] at hx
      rcases List.mem_append.mp hx with hx | hx
      · exact ha x hx
      · rw [List.map_cons, List.map_nil, List.mem_singleton] at hx
        subst hx
        rw [hst]
        exact decide_eq_false hf
  · rw [hI] at h
    obtain ⟨t, rfl, rfl, ha⟩ := h
    simp [wss_cons]
    have ef : enoughO w ms h = none := find_none ha
    rw [ef]
    exact ⟨rfl, rfl⟩
def MarksP (n : Nat) (r : RV) (o : Store) : Prop := ∃ (ms : List Nat) (b' : Bx), MkOk n ms ∧ r = .imm (lotD ms) ∧ o = [.own b'.ob]
def MarksSp (φ : Fn) : Prop := ∀ (b : Bx) (w : Web) (way : Nat), 0 < w.1 → w.1 ≤ 12 → Rn φ [.mut b.ob, .imm (webD w), .imm (nD way)] (MarksP w.1)
def grow (m : Nat) : Nat := m + 1 + m / 2
theorem grow_le {m c : Nat} (h : 0 < m ∧ m ≤ c) (hc : 1 < c) : 0 < grow m ∧ grow m ≤ 2 * c := by
  unfold grow
  omega
theorem rngD_nat {n : Nat} : rngD 0 (n : Int) = (List.range n).map nD := by
  unfold rngD
  rw [Int.sub_zero, Int.toNat_natCast]
  refine List.map_congr_left fun i _ => ?_
  rw [Int.zero_add]
def McP (c : Nat) (n : Nat) (ds : List D) (T : Store) : Prop := ∃ (ms : List Nat) (b' : Bx), ds = ms.map nD ∧ ms.length = n ∧ (∀ m ∈ ms, 0 < m ∧ m ≤ c) ∧ T = [.own b'.ob]
theorem optN_none {o : Option Nat} : Co.isNone (.d (optN o)) = decide (o = none) := by
  cases o <;> rfl
theorem marks_tail {Γ : Gam} (hT : Has Γ "_law_take" TakeSp) (hE : Has Γ "_law_enough_for" EnoughSp) {b : Bx} {w : Web} {way : Nat} {ms : List Nat} {t4 t5 t6 t7 : Option Sl} (h0 : 0 < w.1) (hw : w.1 ≤ 12) (hm : MkOk w.1 ms) :
    Wp (evSs Γ (b_Lmarks.drop 4) [some (.p 0), some (.d (webD w)), some (.d (nD way)), some (.d (lotD ms)), t4, t5, t6, t7]) [.own b.ob] (finQ 1 (MarksP w.1)) := by
  simp [b_Lmarks, wss_cons]
  by_cases h2 : way = 2
  · subst h2
    simp [wss_cons]
    refine hT.call fun φ hφ => ?_
    simp
    refine hφ.wp (b := b) (by rfl) (by omega) (by omega) fun k b' hk => ?_
    have hk' : k < w.1 := by omega
    simp [wss_cons]
    refine hE.call fun φ hφ => ?_
    simp
    refine (hφ w ms k hm hw hk').wp3 ?_
    simp [wss_cons, cut_take, cut_drop1, optN_none, szL_eq]
    have hml := hm.1
    have add : ∀ m : Nat, (0 < m ∧ m ≤ 100000) → MarksP w.1 (.imm (.tuple ((ms.map nD).take k ++ nD m :: (ms.map nD).drop (k + 1)))) [.own b'.ob] := fun m hmm => by
      refine ⟨setM ms k m, b', setM_ok hm hk' hmm, ?_, rfl⟩
      unfold setM lotD
      rw [List.map_append, List.map_append, List.map_take, List.map_drop, List.append_assoc]
      rfl
    cases he : enoughO w ms k with
    | none =>
      have ek : L2.atI (ms.map nD) (k : Int) = some (nD (ms[k]'(by omega))) := by rw [at_nat, List.getElem?_map, List.getElem?_eq_getElem (by omega)]; rfl
      rw [if_pos rfl, ek]
      simp [wss_cons, cut_drop1, szL_eq]
      exact ⟨by omega, by omega, add _ (hm.2 _ (List.getElem_mem _))⟩
    | some m =>
      rw [if_neg (by simp)]
      refine ⟨by omega, by omega, add m ?_⟩
      have := List.mem_of_find?_eq_some he
      obtain ⟨i, hi, rfl⟩ := List.mem_map.mp this
      rw [List.mem_range] at hi
      omega
  · have h2' : ¬ (way : Int) = 2 := by omega
    simp [h2', wss_cons]
    exact ⟨ms, b, hm, rfl, rfl⟩
theorem marks_sp {Γ : Gam} (hP : Has Γ "_law_pick" PickSp) (hT : Has Γ "_law_take" TakeSp) (hC : Has Γ "_law_chances" ChanSp) (hF : Has Γ "_law_fault" FaultSp) (hE : Has Γ "_law_enough_for" EnoughSp) : MarksSp (den Γ 3 8 b_Lmarks) := by
  intro b w way h0 hw
  refine den_run ⟨rfl, by decide⟩ ?_
  simp [b_Lmarks, initE, initS, wss_cons]
  refine ⟨by omega, ?_⟩
  rw [rngD_nat]
  obtain ⟨I, hI⟩ : ∃ I : List Nat → List D → Store → Prop, I = fun l ds T => McP 12 l.length ds T := ⟨_, rfl⟩
  refine wp_lc I (by rw [hI]; exact ⟨[], b, rfl, rfl, by simp, rfl⟩) (fun l y r ds T he h => ?_) fun ds T h => ?_
  · rw [hI] at h
    obtain ⟨ms, b', rfl, hlen, hms, rfl⟩ := h
    rw [wp_lcF (by rfl)]
    simp
    refine hP.call fun φ hφ => ?_
    have add : ∀ (m : Nat) (b'' : Bx), (0 < m ∧ m ≤ 12) → I (l ++ [y]) (ms.map nD ++ [nD m]) [.own b''.ob] := fun m b'' hm => by
      rw [hI]
      refine ⟨ms ++ [m], b'', by simp, by simp [hlen], fun x hx => ?_, rfl⟩
      rcases List.mem_append.mp hx with hx | hx
      · exact hms x hx
      · rw [List.mem_singleton] at hx
        subst hx; exact hm
    by_cases h1 : way = 1
    · subst h1
      simp
      refine hφ.wp_new (b := b') (by rfl) (by simp) (by simp) fun d b'' hd => ?_
      simp
      simp at hd
      rcases hd with rfl | rfl | rfl | rfl | rfl | rfl
      · exact add 4 b'' (by omega)
      · exact add 5 b'' (by omega)
      · exact add 6 b'' (by omega)
      · exact add 8 b'' (by omega)
      · exact add 9 b'' (by omega)
      · exact add 12 b'' (by omega)
    · have h1' : ¬ (way : Int) = 1 := by omega
      simp [h1']
      refine hφ.wp_new (b := b') (by rfl) (by simp) (by simp) fun d b'' hd => ?_
      simp
      simp at hd
      rcases hd with rfl | rfl | rfl | rfl | rfl | rfl
      · exact add 2 b'' (by omega)
      · exact add 3 b'' (by omega)
      · exact add 4 b'' (by omega)
      · exact add 5 b'' (by omega)
      · exact add 6 b'' (by omega)
      · exact add 8 b'' (by omega)
  · rw [hI] at h
    obtain ⟨ms, b, rfl, hlen, hms, rfl⟩ := h
    rw [List.length_range] at hlen
    simp [wss_cons]
    by_cases h3 : way = 3
    · subst h3
      simp [wss_cons]
      obtain ⟨I, hI⟩ : ∃ I : List Nat → List D → Store → Prop, I = fun l ds T => McP 12 l.length ds T := ⟨_, rfl⟩
      refine wp_lc I (by rw [hI]; exact ⟨[], b, rfl, rfl, by simp, rfl⟩) (fun l y r ds T he h => ?_) fun ds T h => ?_
      · rw [hI] at h
        obtain ⟨ms', b', rfl, hlen', hms', rfl⟩ := h
        rw [wp_lcF (by rfl)]
        simp
        refine hT.call fun φ hφ => ?_
        simp
        refine hφ.wp (b := b') (by rfl) (by decide) (by decide) fun k b'' hk => ?_
        simp
        have hy := hms y (by rw [he]; simp)
        have add : ∀ (m : Nat), (0 < m ∧ m ≤ 12) → I (l ++ [y]) (ms'.map nD ++ [nD m]) [.own b''.ob] := fun m hm => by
          rw [hI]
          refine ⟨ms' ++ [m], b'', by simp, by simp [hlen'], fun x hx => ?_, rfl⟩
          rcases List.mem_append.mp hx with hx | hx
          · exact hms' x hx
          · rw [List.mem_singleton] at hx
            subst hx; exact hm
        by_cases hgt : 1 < (y : Int) - k
        · rw [if_pos hgt]
          have := add (y - k) (by omega)
          have e : ((y - k : Nat) : Int) = (y : Int) - k := by omega
          rw [show nD (y - k) = .int ((y : Int) - k) from by rw [← e]] at this
          exact this
        · rw [if_neg hgt]
          exact add 1 (by omega)
      · rw [hI] at h
        obtain ⟨ms', b', rfl, hlen', hms', rfl⟩ := h
        simp
        exact ⟨ms', b', ⟨by omega, fun m hm => ⟨(hms' m hm).1, Nat.le_trans (hms' m hm).2 (by decide)⟩⟩, rfl, rfl⟩
    · have h3' : ¬ (way : Int) = 3 := by omega
      simp [h3', wss_cons]
      by_cases hz : way = 0
      · subst hz
        simp [wss_cons]
        exact ⟨ms, b, ⟨by omega, fun m hm => ⟨(hms m hm).1, Nat.le_trans (hms m hm).2 (by decide)⟩⟩, rfl, rfl⟩
      · have hz' : ¬ (way : Int) = 0 := by omega
        simp [hz, wss_cons]
        obtain ⟨I, hI⟩ : ∃ I : Nat → Env → Store → Prop, I = fun i e T => ∃ (ms : List Nat) (t4 : Option Sl), e = [some (.p 0), some (.d (webD w)), some (.d (nD way)), some (.d (lotD ms)), t4, none, none, none] ∧ T = [.own b.ob] ∧ ms.length = w.1 ∧ ∀ m ∈ ms, 0 < m ∧ m ≤ 12 * 2 ^ i := ⟨_, rfl⟩
        have ok : ∀ (ms : List Nat) (i : Nat), i ≤ 12 → ms.length = w.1 → (∀ m ∈ ms, 0 < m ∧ m ≤ 12 * 2 ^ i) → MkOk w.1 ms := fun ms i hi h1 h2 => ⟨h1, fun m hm => by
          have h3 := h2 m hm
          have h4 : 2 ^ i ≤ 2 ^ 12 := Nat.pow_le_pow_right (by decide) hi
          omega⟩
        refine wp_for_rng I (by rw [hI]; exact ⟨ms, none, rfl, rfl, hlen, by simpa using hms⟩) (fun i e T hi h => ?_) fun e T h => ?_
        · rw [hI] at h
          obtain ⟨ms, t4, rfl, rfl, hlen, hms⟩ := h
          have hi' : i < 12 := by omega
          have hok := ok ms i (by omega) hlen hms
          rw [wp_forF (by rfl)]
          simp [wss_cons]
          refine hF.call fun φ hφ => ?_
          simp
          refine hC.call fun φ2 hφ2 => ?_
          simp
          refine (hφ2 ms hok.pos).wp1 ?_
          simp
          refine Ev.wp2 (hφ w (ms.map inv) hok.ch (by rw [List.length_map, hlen]; omega) hw) ?_
          simp [optD_none]
          by_cases hf : faultO w (ms.map inv) = none
          · simp [hf, wss_cons]
            have q := marks_tail (Γ := Γ) (b := b) (way := way) (t4 := some (.d (nD i))) (t5 := none) (t6 := none) (t7 := none) hT hE h0 hw hok
            simpa [b_Lmarks, wss_cons] using q
          · simp [hf, wss_cons]
            refine wp_lc_map (fun m => nD (grow m)) (fun m hm => ?_) ?_
            · rw [wp_lcF (by rfl)]
              simp [divOk_of]
              unfold grow
              simp
            · simp
              rw [hI]
              refine ⟨ms.map grow, _, by rw [lotD, List.map_map]; rfl, rfl, by rw [List.length_map, hlen], fun m hm => ?_⟩
              obtain ⟨m', hm', rfl⟩ := List.mem_map.mp hm
              have := grow_le (hms m' hm') (by have := Nat.pow_pos (n := i) (show 0 < 2 by decide); omega)
              rw [Nat.pow_succ]
              omega
        · rw [hI] at h
          obtain ⟨ms, t4, rfl, rfl, hlen, hms⟩ := h
          exact marks_tail hT hE h0 hw (ok ms 12 (by decide) hlen (by simpa using hms))
end Th
end
section
set_option Elab.async false
set_option linter.all false
set_option maxRecDepth 100000
set_option maxHeartbeats 4000000
namespace Th
open PySem PySem.W
theorem leD_nat {a b : Nat} : leD (nD a) (nD b) = decide (a ≤ b) := by
  have h := congrFun (congrFun (dataLe_int (β := Nat) fun n => (n : Int)) a) b
  refine Eq.trans h ?_
  rw [decide_eq_decide]
  omega
theorem sortN_sorted {ns : List Nat} : (sortN ns).Pairwise (· ≤ ·) := by
  have h := List.pairwise_mergeSort (le := fun a b => leD (nD a) (nD b)) (fun a b c h1 h2 => by rw [leD_nat, decide_eq_true_eq] at *; omega) (fun a b => by rw [leD_nat, leD_nat, Bool.or_eq_true, decide_eq_true_eq, decide_eq_true_eq]; omega) ns
  exact h.imp fun {a b} hab => by rw [leD_nat, decide_eq_true_eq] at hab; exact hab
theorem sortN_lt {ns : List Nat} (h : ns.Nodup) : (sortN ns).Pairwise (· < ·) := by
  have h2 : (sortN ns).Nodup := (sortN_perm.nodup_iff).mpr h
  refine (sortN_sorted.and h2).imp fun {a b} hab => ?_
  have := hab.1
  have := hab.2
  omega
structure BOk (n : Nat) (ts : List (List Nat)) : Prop where
  rng : ∀ l ∈ ts, ∀ h ∈ l, h < n
  nd : ∀ l ∈ ts, l.Nodup
  ne : ∀ l ∈ ts, l ≠ []
  cov : ∀ h, h < n → ∃ l ∈ ts, h ∈ l
structure WOk (w : Web) : Prop where
  pos : 0 < w.1
  rng : ∀ l ∈ w.2, ∀ h ∈ l, h < w.1
  asc : ∀ l ∈ w.2, l.Pairwise (· < ·)
  ne : ∀ l ∈ w.2, l ≠ []
  cov : ∀ h, h < w.1 → ∃ l ∈ w.2, h ∈ l
def renL (σ : List Nat) (l : List Nat) : List Nat := sortN (l.map fun h => σ.getD h 0)
def ren (σ : List Nat) (ts : List (List Nat)) : List (List Nat) := sortLs (ts.map (renL σ))
section
variable {n : Nat} {σ : List Nat} {ts : List (List Nat)}
theorem perm_at (p : σ.Perm (List.range n)) : σ.length = n ∧ σ.Nodup ∧ ∀ h, h < n → σ.getD h 0 < n := by
  have hl : σ.length = n := by rw [p.length_eq, List.length_range]
  refine ⟨hl, p.nodup_iff.mpr List.nodup_range, fun h hh => ?_⟩
  rw [List.getD_eq_getElem?_getD, List.getElem?_eq_getElem (by omega)]
  have := p.subset (List.getElem_mem (show h < σ.length by omega))
  rw [List.mem_range] at this
  exact this
theorem getD_inj (p : σ.Perm (List.range n)) {a b : Nat} (ha : a < n) (hb : b < n) (h : σ.getD a 0 = σ.getD b 0) : a = b := by
  obtain ⟨hl, hnd, _⟩ := perm_at p
  rw [List.getD_eq_getElem?_getD, List.getD_eq_getElem?_getD, List.getElem?_eq_getElem (by omega), List.getElem?_eq_getElem (by omega)] at h
  exact (List.getElem_inj hnd).mp h
theorem mem_ren {l : List Nat} : l ∈ ren σ ts ↔ ∃ l' ∈ ts, renL σ l' = l := by
  unfold ren
  rw [sortLs_perm.mem_iff, List.mem_map]
theorem mem_renL {l : List Nat} {h : Nat} : h ∈ renL σ l ↔ ∃ h' ∈ l, σ.getD h' 0 = h := by
  unfold renL
  rw [sortN_perm.mem_iff, List.mem_map]
theorem ren_length : (ren σ ts).length = ts.length := by
  unfold ren
  rw [sortLs_perm.length_eq, List.length_map]
theorem ren_ok (hn : 0 < n) (p : σ.Perm (List.range n)) (b : BOk n ts) : WOk (n, ren σ ts) := by
  obtain ⟨hl, hnd, hlt⟩ := perm_at p
  refine ⟨hn, fun l h1 h h2 => ?_, fun l h1 => ?_, fun l h1 => ?_, fun h hh => ?_⟩
  · obtain ⟨l', m, rfl⟩ := mem_ren.mp h1
    obtain ⟨h', m', rfl⟩ := mem_renL.mp h2
    exact hlt h' (b.rng l' m h' m')
  · obtain ⟨l', m, rfl⟩ := mem_ren.mp h1
    refine sortN_lt ?_
    refine List.Pairwise.map _ (fun a c hac => hac) ?_
    refine (List.pairwise_iff_forall_sublist.mpr fun {a c} hs => ?_)
    intro e
    have ha : a ∈ l' := hs.subset (by simp)
    have hc : c ∈ l' := hs.subset (by simp)
    have := getD_inj p (b.rng l' m a ha) (b.rng l' m c hc) e
    subst this
    have := (b.nd l' m).sublist hs
    simp at this
  · obtain ⟨l', m, rfl⟩ := mem_ren.mp h1
    intro e
    have := b.ne l' m
    have h3 : (renL σ l').length = l'.length := by unfold renL; rw [sortN_perm.length_eq, List.length_map]
    rw [e] at h3
    exact this (List.length_eq_zero_iff.mp h3.symm)
  · have hm : h ∈ σ := p.mem_iff.mpr (List.mem_range.mpr hh)
    obtain ⟨k, hk, e⟩ := List.getElem_of_mem hm
    obtain ⟨l, m, hkl⟩ := b.cov k (by omega)
    refine ⟨renL σ l, mem_ren.mpr ⟨l, m, rfl⟩, mem_renL.mpr ⟨k, hkl, ?_⟩⟩
    rw [List.getD_eq_getElem?_getD, List.getElem?_eq_getElem hk, e]; rfl
end
def NamedP (n : Nat) (ts : List (List Nat)) (r : RV) (o : Store) : Prop := ∃ (σ : List Nat) (b' : Bx), σ.Perm (List.range n) ∧ r = .imm (webD (n, ren σ ts)) ∧ o = [.own b'.ob, .own (.lst (ts.map lotD))]
def NamedSp (φ : Fn) : Prop := ∀ (b : Bx) (n : Nat) (ts : List (List Nat)), n ≤ 1000 → (∀ l ∈ ts, ∀ h ∈ l, h < n) → (∀ l ∈ ts, l ≠ []) → Rn φ [.mut b.ob, .imm (nD n), .mut (.lst (ts.map lotD))] (NamedP n ts)
def unN : D → Nat
  | .int i => i.toNat
  | _ => 0
theorem perm_nats {ds : List D} {ns : List Nat} (p : ds.Perm (ns.map nD)) : ∃ σ : List Nat, σ.Perm ns ∧ ds = σ.map nD := by
  refine ⟨ds.map unN, ?_, ?_⟩
  · have := p.map unN
    rw [List.map_map] at this
    have e : ns.map (unN ∘ nD) = ns := by
      conv => rhs; rw [← List.map_id ns]
      exact List.map_congr_left fun n _ => rfl
    rw [e] at this
    exact this
  · rw [List.map_map]
    conv => lhs; rw [← List.map_id ds]
    refine List.map_congr_left fun d hd => ?_
    obtain ⟨n, _, rfl⟩ := List.mem_map.mp (p.subset hd)
    rfl
theorem named_sp {Γ : Gam} (hS : Has Γ "_law_shuffled" ShufSp) : NamedSp (den Γ 3 6 b_Lnamed) := by
  intro b n ts hn hr hne
  refine den_run ⟨rfl, by decide⟩ ?_
  simp [b_Lnamed, initE, initS, wss_cons]
  refine hS.call fun φ hφ => ?_
  simp
  refine ⟨by omega, ?_⟩
  rw [rngD_nat]
  refine wp_call (as := [.mut b.ob, .mut (.lst ((List.range n).map nD))]) (by simp [mkArgs, mkArg]) (by simp [ownPtrs]) ((hφ b _ (by simp; omega)).mono fun r o ⟨ds, b', hp, hr', ho⟩ => ?_)
  subst hr' ho
  obtain ⟨σ, hσ, rfl⟩ := perm_nats hp
  refine ⟨rfl, _, rfl, ?_⟩
  obtain ⟨hl, hnd, hlt⟩ := perm_at hσ
  simp [wss_cons]
  refine wp_lc_map (fun l => lotD (renL σ l)) (fun l hm => ?_) ?_
  · rw [wp_lcF (by rfl)]
    simp
    refine wp_lc_map (fun h => nD (σ.getD h 0)) (fun h hh => ?_) ?_
    · rw [wp_lcF (by rfl)]
      have e : L2.atI (σ.map nD) (h : Int) = some (nD (σ.getD h 0)) := by
        have := hr l hm h hh
        rw [at_nat, List.getElem?_map, List.getElem?_eq_getElem (by omega), List.getD_eq_getElem?_getD, List.getElem?_eq_getElem (by omega)]; rfl
      simp [e]
    · simp
      have e1 : (l.map fun h => nD (σ.getD h 0)) = (l.map fun h => σ.getD h 0).map nD := by rw [List.map_map]; rfl
      have e2 : sortOk (l.map fun h => nD (σ.getD h 0)) := by rw [e1]; exact sortOk_nat
      have e3 : sortD (l.map fun h => nD (σ.getD h 0)) = (renL σ l).map nD := by rw [e1, sortD_nat]; rfl
      simp [List.getD_eq_getElem?_getD] at e2 e3
      simp [e2, e3]
  · simp
    have e1 : (ts.map fun l => lotD (renL σ l)) = (ts.map (renL σ)).map lotD := by rw [List.map_map]; rfl
    have e2 : sortOk (ts.map fun l => lotD (renL σ l)) := by
      rw [e1]
      refine sortOk_lots fun l hl => ?_
      obtain ⟨l', m, rfl⟩ := List.mem_map.mp hl
      intro e
      have h3 : (renL σ l').length = l'.length := by unfold renL; rw [sortN_perm.length_eq, List.length_map]
      rw [e] at h3
      exact hne l' m (List.length_eq_zero_iff.mp h3.symm)
    have e3 : sortD (ts.map fun l => lotD (renL σ l)) = (ren σ ts).map lotD := by rw [e1, sortD_lots]; rfl
    refine ⟨e2, ?_⟩
    rw [e3]
    exact ⟨σ, b', hσ, rfl, rfl⟩
theorem NamedSp.wp {φ : Fn} (hφ : NamedSp φ) {S : Store} {k : Nat} {b : Bx} {n : Nat} {ts : List (List Nat)} {Q : RV → Store → Prop} (hb : S[0]? = some (.own b.ob)) (hk : S[k]? = some (.own (.lst (ts.map lotD)))) (h0 : k ≠ 0)
    (hn : n ≤ 1000) (hr : ∀ l ∈ ts, ∀ h ∈ l, h < n) (hne : ∀ l ∈ ts, l ≠ [])
    (q : ∀ (σ : List Nat) (b' : Bx), σ.Perm (List.range n) → Q (.imm (webD (n, ren σ ts))) ((S.set 0 (.own b'.ob)).set k (.own (.lst (ts.map lotD))))) : Wp (callM φ [.ptr 0, .imm (nD n), .ptr k]) S Q := by
  refine wp_call (as := [.mut b.ob, .imm (nD n), .mut (.lst (ts.map lotD))]) (by simp [mkArgs, mkArg, hb, hk]) (by simp [ownPtrs, hb, hk]; omega) ((hφ b n ts hn hr hne).mono fun r o ⟨σ, b', hp, hr', ho⟩ => ?_)
  subst hr' ho
  exact ⟨rfl, _, by simp [backArgs, hb, hk], q σ b' hp⟩
inductive Grown : Nat → List (List Nat) → Prop
  | one {n : Nat} : 0 < n → Grown n [List.range n]
  | hang {n s h : Nat} {ts : List (List Nat)} : Grown n ts → h < n → 0 < s → Grown (n + s) (ts ++ [h :: List.range' n s])
  | apart {n s : Nat} {ts : List (List Nat)} : Grown n ts → 0 < s → Grown (n + s) (ts ++ [List.range' n s])
inductive Grown1 : Nat → List (List Nat) → Prop
  | base {n : Nat} {ts : List (List Nat)} : Grown n ts → Grown1 n ts
  | more {n h : Nat} {ts : List (List Nat)} : Grown n ts → h < n → Grown1 n (ts ++ [[h]])
theorem Grown.ok {n : Nat} {ts : List (List Nat)} (g : Grown n ts) : 0 < n ∧ BOk n ts := by
  induction g with
  | @one n h =>
    refine ⟨h, ⟨?_, ?_, ?_, ?_⟩⟩
    · intro l hl x hx
      rw [List.mem_singleton] at hl; subst hl
      exact List.mem_range.mp hx
    · intro l hl
      rw [List.mem_singleton] at hl; subst hl
      exact List.nodup_range
    · intro l hl
      rw [List.mem_singleton] at hl; subst hl
      intro e
      have := congrArg List.length e
      simp at this; omega
    · intro x hx
      exact ⟨_, List.mem_singleton.mpr rfl, List.mem_range.mpr hx⟩
  | @hang n s h ts g hh hs ih =>
    obtain ⟨i0, i1, i2, i3, i4⟩ := ih
    refine ⟨by omega, ⟨?_, ?_, ?_, ?_⟩⟩
    · intro l hl x hx
      rcases List.mem_append.mp hl with hl | hl
      · have := i1 l hl x hx; omega
      · rw [List.mem_singleton] at hl; subst hl
        rcases List.mem_cons.mp hx with rfl | hx
        · omega
        · rw [List.mem_range'_1] at hx; omega
    · intro l hl
      rcases List.mem_append.mp hl with hl | hl
      · exact i2 l hl
      · rw [List.mem_singleton] at hl; subst hl
        refine List.nodup_cons.mpr ⟨fun z => ?_, List.nodup_range'⟩
        rw [List.mem_range'_1] at z; omega
    · intro l hl
      rcases List.mem_append.mp hl with hl | hl
      · exact i3 l hl
      · rw [List.mem_singleton] at hl; subst hl
        simp
    · intro x hx
      by_cases hlt : x < n
      · obtain ⟨l, m, hm⟩ := i4 x hlt
        exact ⟨l, List.mem_append_left _ m, hm⟩
      · exact ⟨_, List.mem_append_right _ (List.mem_singleton.mpr rfl), List.mem_cons_of_mem _ (List.mem_range'_1.mpr (by omega))⟩
  | @apart n s ts g hs ih =>
    obtain ⟨i0, i1, i2, i3, i4⟩ := ih
    refine ⟨by omega, ⟨?_, ?_, ?_, ?_⟩⟩
    · intro l hl x hx
      rcases List.mem_append.mp hl with hl | hl
      · have := i1 l hl x hx; omega
      · rw [List.mem_singleton] at hl; subst hl
        rw [List.mem_range'_1] at hx; omega
    · intro l hl
      rcases List.mem_append.mp hl with hl | hl
      · exact i2 l hl
      · rw [List.mem_singleton] at hl; subst hl
        exact List.nodup_range'
    · intro l hl
      rcases List.mem_append.mp hl with hl | hl
      · exact i3 l hl
      · rw [List.mem_singleton] at hl; subst hl
        intro e
        have := congrArg List.length e
        simp at this; omega
    · intro x hx
      by_cases hlt : x < n
      · obtain ⟨l, m, hm⟩ := i4 x hlt
        exact ⟨l, List.mem_append_left _ m, hm⟩
      · exact ⟨_, List.mem_append_right _ (List.mem_singleton.mpr rfl), List.mem_range'_1.mpr (by omega)⟩
theorem Grown1.ok {n : Nat} {ts : List (List Nat)} (g : Grown1 n ts) : 0 < n ∧ BOk n ts := by
  cases g with
  | base g => exact g.ok
  | @more h ts g hh =>
    obtain ⟨i0, i1, i2, i3, i4⟩ := g.ok
    refine ⟨i0, ⟨?_, ?_, ?_, ?_⟩⟩
    · intro l hl x hx
      rcases List.mem_append.mp hl with hl | hl
      · exact i1 l hl x hx
      · rw [List.mem_singleton] at hl; subst hl
        rw [List.mem_singleton] at hx; omega
    · intro l hl
      rcases List.mem_append.mp hl with hl | hl
      · exact i2 l hl
      · rw [List.mem_singleton] at hl; subst hl
        simp
    · intro l hl
      rcases List.mem_append.mp hl with hl | hl
      · exact i3 l hl
      · rw [List.mem_singleton] at hl; subst hl
        simp
    · intro x hx
      obtain ⟨l, m, hm⟩ := i4 x hx
      exact ⟨l, List.mem_append_left _ m, hm⟩
def WebPw (P : Web → Prop) (r : RV) (o : Store) : Prop := ∃ (w : Web) (b' : Bx), P w ∧ r = .imm (webD w) ∧ o = [.own b'.ob]
def IsForest (most : Nat) (w : Web) : Prop := ∃ (ts : List (List Nat)) (σ : List Nat), Grown1 w.1 ts ∧ σ.Perm (List.range w.1) ∧ w.2 = ren σ ts ∧ w.1 ≤ max 3 most ∧ ts.length ≤ 5 ∧ (1 < most → 1 < w.1)
def ForestSp (φ : Fn) : Prop := ∀ (b : Bx) (most : Nat), 0 < most → most ≤ 100 → Rn φ [.mut b.ob, .imm (nD most)] (WebPw (IsForest most))
theorem rngD_two {n s : Nat} : rngD (n : Int) ((n : Int) + (s : Int)) = (List.range' n s).map nD := by
  unfold rngD
  have e : ((n : Int) + s - n).toNat = s := by omega
  rw [e, List.range'_eq_map_range, List.map_map]
  refine List.map_congr_left fun i _ => ?_
  simp
theorem Grown.le {n : Nat} {ts : List (List Nat)} (g : Grown n ts) : (∀ l ∈ ts, ∀ h ∈ l, h < n) ∧ (∀ l ∈ ts, l ≠ []) := ⟨g.ok.2.rng, g.ok.2.ne⟩
theorem forest_tail {Γ : Gam} (hT : Has Γ "_law_take" TakeSp) (hN : Has Γ "_law_named" NamedSp) {most n k : Nat} {ts : List (List Nat)} {b : Bx} {T : Store} {t2 t5 t6 : Option Sl} (g : Grown n ts) (hl : ts.length ≤ 4) (hn : n ≤ max 3 most) (hm : most ≤ 100) (h1 : 1 < most → 1 < n)
    (hb : T[0]? = some (.own b.ob)) (hk : T[k]? = some (.own (.lst (ts.map lotD)))) (h0 : k ≠ 0) :
    Wp (evSs Γ (b_Lforest.drop 4) [some (.p 0), some (.d (nD most)), t2, some (.d (nD n)), some (.p k), t5, t6]) T (finQ 1 (WebPw (IsForest most))) := by
  have hpos := g.ok.1
  have fin : ∀ (ts' : List (List Nat)) (b : Bx) (T : Store), Grown1 n ts' → ts'.length ≤ 5 → T[0]? = some (.own b.ob) → T[k]? = some (.own (.lst (ts'.map lotD))) →
      Wp (evSs Γ (b_Lforest.drop 5) [some (.p 0), some (.d (nD most)), t2, some (.d (nD n)), some (.p k), t5, t6]) T (finQ 1 (WebPw (IsForest most))) := by
    intro ts' b T g' hl' hb hk
    simp [b_Lforest, wss_cons]
    refine hN.call fun φ hφ => ?_
    simp
    refine hφ.wp (b := b) (n := n) hb hk h0 (by omega) g'.ok.2.rng g'.ok.2.ne fun σ b' hσ => ?_
    simp
    refine ⟨(n, ren σ ts'), b', ⟨ts', σ, g', hσ, rfl, hn, hl', h1⟩, rfl, ?_⟩
    have hlen := (List.getElem?_eq_some_iff.mp hb).1
    have hT : ∃ T', T = .own b.ob :: T' := by
      cases T with
      | nil => simp at hb
      | cons x T' => simp at hb; exact ⟨T', by rw [hb]⟩
    obtain ⟨T', rfl⟩ := hT
    cases k with
    | zero => exact absurd rfl h0
    | succ k => simp
  have e4 : b_Lforest.drop 4 = b_Lforest[4]'(by decide) :: b_Lforest.drop 5 := rfl
  rw [e4, wss_cons]
  simp [b_Lforest]
  refine hT.call fun φ hφ => ?_
  simp
  refine hφ.wp (b := b) hb (by decide) (by decide) fun q b' hq => ?_
  have hb' : (T.set 0 (.own b'.ob))[0]? = some (.own b'.ob) := by
    rw [List.getElem?_set_self (List.getElem?_eq_some_iff.mp hb).1]
  have hk' : (T.set 0 (.own b'.ob))[k]? = some (.own (.lst (ts.map lotD))) := by
    rw [List.getElem?_set_ne (fun e => h0 e.symm)]; exact hk
  simp
  by_cases hq0 : q = 0
  · subst hq0
    simp [wss_cons, hk']
    refine hT.call fun φ hφ => ?_
    simp
    refine hφ.wp (b := b') hb' (by omega) (by omega) fun h b2 hh => ?_
    have hk2 : ((T.set 0 (.own b'.ob)).set 0 (.own b2.ob))[k]? = some (.own (.lst (ts.map lotD))) := by
      rw [List.getElem?_set_ne (fun e => h0 e.symm)]; exact hk'
    have hb2 : ((T.set 0 (.own b'.ob)).set 0 (.own b2.ob))[0]? = some (.own b2.ob) := by
      rw [List.getElem?_set_self (List.getElem?_eq_some_iff.mp hb').1]
    generalize (T.set 0 (.own b'.ob)).set 0 (.own b2.ob) = T2 at *
    simp [hk2, szL_eq]
    refine ⟨by omega, ?_⟩
    have q := fin (ts ++ [[h]]) b2 (T2.set k (.own (.lst ((ts ++ [[h]]).map lotD)))) (.more g (by omega)) (by simp; omega) (by rw [List.getElem?_set_ne h0]; exact hb2) (by rw [List.getElem?_set_self (List.getElem?_eq_some_iff.mp hk2).1])
    simp [b_Lforest] at q
    exact q
  · have hq0' : ¬ (q : Int) = 0 := by omega
    simp [hq0]
    have q := fin ts b' (T.set 0 (.own b'.ob)) (.base g) (by omega) hb' hk'
    simpa [b_Lforest] using q
theorem forest_sp {Γ : Gam} (hT : Has Γ "_law_take" TakeSp) (hN : Has Γ "_law_named" NamedSp) : ForestSp (den Γ 2 7 b_Lforest) := by
  intro b most hm0 hm
  refine den_run ⟨rfl, by decide⟩ ?_
  simp [b_Lforest, initE, initS, wss_cons]
  refine hT.call fun φ hφ => ?_
  simp
  refine hφ.wp (b := b) (by rfl) (by decide) (by decide) fun k b1 hk => ?_
  have e1 : (1 : Int) + (k : Int) = ((1 + k : Nat) : Int) := by omega
  simp only [kO_ap, wp_bin_int, wp_int_add]
  rw [e1]
  generalize hn : 1 + k = n
  simp [wss_cons, szL_eq]
  refine ⟨by omega, ?_⟩
  rw [rngD_nat]
  refine hT.call fun φ hφ => ?_
  simp
  refine hφ.wp (b := b1) (by rfl) (by decide) (by decide) fun k2 b2 hk2 => ?_
  simp [wss_cons]
  refine ⟨by omega, ?_⟩
  obtain ⟨I, hI⟩ : ∃ I : Nat → Env → Store → Prop, I = fun i e T => ∃ (n : Nat) (ts : List (List Nat)) (b' : Bx) (t2 t5 t6 : Option Sl), e = [some (.p 0), some (.d (nD most)), t2, some (.d (nD n)), some (.p 1), t5, t6] ∧ T = [.own b'.ob, .own (.lst (ts.map lotD))] ∧ Grown n ts ∧ n ≤ max 3 most ∧ ts.length ≤ 1 + i := ⟨_, rfl⟩
  refine wp_for_rng I (by rw [hI]; exact ⟨n, [List.range n], b2, none, none, none, rfl, rfl, .one (by omega), by omega, by simp⟩) (fun i e T hi h => ?_) fun e T h => ?_
  · rw [hI] at h
    obtain ⟨n, ts, b', t2, t5, t6, rfl, rfl, g, hnm, hl⟩ := h
    rw [wp_forF (by rfl)]
    simp [wss_cons]
    by_cases hlt : n < most
    · simp [hlt, wss_cons]
      refine hT.call fun φ hφ => ?_
      simp
      refine hφ.wp (b := b') (by rfl) (by decide) (by decide) fun k3 b3 hk3 => ?_
      obtain ⟨s, hs, hs0, hs1⟩ : ∃ s : Nat, (if (most : Int) - n < 1 + (k3 : Int) then (most : Int) - n else 1 + (k3 : Int)) = (s : Int) ∧ 0 < s ∧ n + s ≤ most := by
        split
        · exact ⟨most - n, by omega, by omega, by omega⟩
        · exact ⟨1 + k3, by omega, by omega, by omega⟩
      simp
      rw [hs]
      simp [wss_cons]
      refine hT.call fun φ hφ => ?_
      simp
      refine hφ.wp (b := b3) (by rfl) (by decide) (by decide) fun k4 b4 hk4 => ?_
      have go : ∀ (t5 t6 : Option Sl) (b5 : Bx) (new : List Nat), Grown (n + s) (ts ++ [new]) → I (i + 1) [some (.p 0), some (.d (nD most)), some (.d (nD i)), some (.d (.int ((n : Int) + s))), some (.p 1), t5, t6] [.own b5.ob, .own (.lst (ts.map lotD ++ [lotD new]))] := fun t5 t6 b5 new gg => by
        rw [hI]
        exact ⟨n + s, ts ++ [new], b5, some (.d (nD i)), t5, t6, by simp, by simp, gg, by omega, by simp; omega⟩
      by_cases h4 : k4 = 0
      · subst h4
        simp [wss_cons, szL_eq, rngD_two]
        exact ⟨by omega, by omega, by omega, go _ _ b4 _ (.apart g hs0)⟩
      · have h4' : ¬ (k4 : Int) = 0 := by omega
        simp [h4]
        refine hT.call fun φ hφ => ?_
        simp
        refine hφ.wp (b := b4) (by rfl) (by have := g.ok.1; omega) (by omega) fun k5 b5 hk5 => ?_
        simp [wss_cons, szL_eq, rngD_two]
        exact ⟨by omega, by omega, by omega, go _ _ b5 (k5 :: List.range' n s) (.hang g (by omega) hs0)⟩
    · simp [hlt, wss_cons]
      rw [hI]
      exact ⟨n, ts, b', _, t5, t6, rfl, rfl, g, hnm, by omega⟩
  · rw [hI] at h
    obtain ⟨n, ts, b', t2, t5, t6, rfl, rfl, g, hnm, hl⟩ := h
    have hl4 : ts.length ≤ 4 := by omega
    have hpos := g.ok.1
    by_cases hc : n = 1 ∧ 1 < most
    · obtain ⟨rfl, hm1⟩ := hc
      have q := forest_tail (Γ := Γ) (most := most) (n := 2) (k := 2) (ts := [[0, 1]]) (b := b') (T := [.own b'.ob, .own (.lst (ts.map lotD)), .own (.lst [lotD [0, 1]])]) (t2 := t2) (t5 := t5) (t6 := t6) hT hN (.one (by decide)) (by simp) (by omega) hm (by omega) rfl rfl (by decide)
      have hm1' : (1 : Int) < (most : Int) := by omega
      simp [hm1', wss_cons, b_Lforest] at q ⊢
      exact q
    · have q := forest_tail (Γ := Γ) (most := most) (n := n) (k := 1) (ts := ts) (b := b') (T := [.own b'.ob, .own (.lst (ts.map lotD))]) (t2 := t2) (t5 := t5) (t6 := t6) hT hN g hl4 hnm hm (by omega) rfl rfl (by decide)
      by_cases hn1 : n = 1
      · have hm1 : ¬ 1 < most := fun z => hc ⟨hn1, z⟩
        subst hn1
        have hm1' : ¬ (1 : Int) < (most : Int) := by omega
        simp [hm1', wss_cons, b_Lforest] at q ⊢
        exact q
      · have hn1' : ¬ (n : Int) = 1 := by omega
        simp [hn1', wss_cons, b_Lforest] at q ⊢
        exact q
inductive Ringed : Nat → List (List Nat) → Prop
  | two : Ringed 2 [[0, 1], [0, 1]]
  | round {n : Nat} : 2 < n → Ringed n ((List.range n).map fun h => sortN [h, (h + 1) % n])
  | more {n k : Nat} {l : List Nat} : 3 < n → k < n → l.Pairwise (· < ·) → (∀ h, h ∈ l ↔ h = 0 ∨ h = 1 ∨ h = k) → Ringed n (((List.range n).map fun h => sortN [h, (h + 1) % n]).set 0 l)
def IsRing (most : Nat) (w : Web) : Prop := ∃ (ts : List (List Nat)) (σ : List Nat), Ringed w.1 ts ∧ σ.Perm (List.range w.1) ∧ w.2 = ren σ ts ∧ w.1 ≤ most
theorem sortN_mem {ns : List Nat} {h : Nat} : h ∈ sortN ns ↔ h ∈ ns := sortN_perm.mem_iff
theorem Ringed.ok {n : Nat} {ts : List (List Nat)} (g : Ringed n ts) : 1 < n ∧ BOk n ts ∧ ts.length = n := by
  have round : ∀ n : Nat, 2 < n → BOk n ((List.range n).map fun h => sortN [h, (h + 1) % n]) := fun n hn => by
    refine ⟨?_, ?_, ?_, ?_⟩
    · intro l hl h hh
      obtain ⟨x, hx, rfl⟩ := List.mem_map.mp hl
      rw [List.mem_range] at hx
      rw [sortN_mem] at hh
      have := Nat.mod_lt (x + 1) (show n > 0 by omega)
      simp at hh
      omega
    · intro l hl
      obtain ⟨x, hx, rfl⟩ := List.mem_map.mp hl
      rw [List.mem_range] at hx
      refine (sortN_perm.nodup_iff).mpr ?_
      simp
      by_cases h : x + 1 = n
      · rw [h, Nat.mod_self]; omega
      · rw [Nat.mod_eq_of_lt (by omega)]; omega
    · intro l hl e
      obtain ⟨x, hx, rfl⟩ := List.mem_map.mp hl
      have := (sortN_perm (ns := [x, (x + 1) % n])).length_eq
      rw [e] at this
      simp at this
    · intro h hh
      exact ⟨_, List.mem_map.mpr ⟨h, List.mem_range.mpr hh, rfl⟩, sortN_mem.mpr (by simp)⟩
  cases g with
  | two =>
    refine ⟨by decide, ⟨?_, ?_, ?_, ?_⟩, rfl⟩
    · intro l hl h hh
      simp at hl; subst hl; simp at hh; omega
    · intro l hl
      simp at hl; subst hl; decide
    · intro l hl
      simp at hl; subst hl; simp
    · intro h hh
      exact ⟨[0, 1], by simp, by simp; omega⟩
  | round hn => exact ⟨by omega, round n hn, by simp⟩
  | @more _ k l0 hn hk hs hmm =>
    obtain ⟨r1, r2, r3, r4⟩ := round n (by omega)
    have hmem : ∀ l, l ∈ ((List.range n).map fun h => sortN [h, (h + 1) % n]).set 0 l0 → l ∈ ((List.range n).map fun h => sortN [h, (h + 1) % n]) ∨ l = l0 := fun l hl => List.mem_or_eq_of_mem_set hl
    refine ⟨by omega, ⟨?_, ?_, ?_, ?_⟩, by simp⟩
    · intro l hl h hh
      rcases hmem l hl with hl | rfl
      · exact r1 l hl h hh
      · have := (hmm h).mp hh
        omega
    · intro l hl
      rcases hmem l hl with hl | rfl
      · exact r2 l hl
      · exact hs.imp fun h => Nat.ne_of_lt h
    · intro l hl e
      rcases hmem l hl with hl | rfl
      · exact r3 l hl e
      · have := (hmm 0).mpr (.inl rfl)
        rw [e] at this
        simp at this
    · intro h hh
      by_cases h0 : h = 0
      · subst h0
        refine ⟨l0, ?_, (hmm 0).mpr (.inl rfl)⟩
        refine List.mem_iff_getElem.mpr ⟨0, by simp; omega, by simp⟩
      · refine ⟨sortN [h, (h + 1) % n], ?_, sortN_mem.mpr (by simp)⟩
        refine List.mem_iff_getElem.mpr ⟨h, by simp; omega, ?_⟩
        rw [List.getElem_set_ne (by omega)]
        simp
theorem sortN_id {ns : List Nat} (h : ns.Pairwise (· ≤ ·)) : sortN ns = ns :=
  List.mergeSort_of_pairwise (h.imp fun {a b} hab => by rw [leD_nat]; exact decide_eq_true hab)
def RingSp (φ : Fn) : Prop := ∀ (b : Bx) (most : Nat), 1 < most → most ≤ 100 → Rn φ [.mut b.ob, .imm (nD most)] (WebPw (IsRing most))
theorem sortI_nat {ns : List Nat} : sortI (ns.map fun n : Nat => (n : Int)) = (sortN ns).map fun n : Nat => (n : Int) := by
  unfold sortI
  refine (List.map_mergeSort (f := fun n : Nat => (n : Int)) (r := fun a b => leD (nD a) (nD b)) (s := fun a b => decide (a ≤ b)) fun a _ b _ => ?_).symm
  rw [leD_nat, decide_eq_decide]
  omega
theorem set_three {k : Nat} : ∃ l : List Nat, sortI (dedup [0, 1, (k : Int)]) = l.map (fun n : Nat => (n : Int)) ∧ l.Pairwise (· < ·) ∧ ∀ h, h ∈ l ↔ h = 0 ∨ h = 1 ∨ h = k := by
  have one : ∀ ns : List Nat, ns.Nodup → (∀ h, h ∈ ns ↔ h = 0 ∨ h = 1 ∨ h = k) → dedup [0, 1, (k : Int)] = ns.map (fun n : Nat => (n : Int)) → ∃ l : List Nat, sortI (dedup [0, 1, (k : Int)]) = l.map (fun n : Nat => (n : Int)) ∧ l.Pairwise (· < ·) ∧ ∀ h, h ∈ l ↔ h = 0 ∨ h = 1 ∨ h = k := fun ns h1 h2 h3 => by
    refine ⟨sortN ns, ?_, sortN_lt h1, fun h => by rw [sortN_mem]; exact h2 h⟩
    rw [h3, sortI_nat]
  by_cases h0 : k = 0
  · subst h0
    exact one [1, 0] (by decide) (fun h => by simp; omega) (by decide)
  · by_cases h1 : k = 1
    · subst h1
      exact one [0, 1] (by decide) (fun h => by simp) (by decide)
    · refine one [0, 1, k] (by simp; omega) (fun h => by simp) ?_
      have e1 : ¬ (0 : Int) ∈ [1, (k : Int)] := by simp; omega
      have e2 : ¬ (1 : Int) ∈ [(k : Int)] := by simp; omega
      have e3 : ¬ (k : Int) ∈ ([] : List Int) := by simp
      unfold dedup
      rw [if_neg e1]
      unfold dedup
      rw [if_neg e2]
      unfold dedup
      rw [if_neg e3]
      rfl
theorem ring_end {Γ : Gam} (hN : Has Γ "_law_named" NamedSp) {most n : Nat} {ts : List (List Nat)} {b : Bx} {t4 : Option Sl} (g : Ringed n ts) (hn : n ≤ most) (hm : most ≤ 100) :
    Wp (evSs Γ (b_Lring.drop 3) [some (.p 0), some (.d (nD most)), some (.d (nD n)), some (.p 1), t4]) [.own b.ob, .own (.lst (ts.map lotD))] (finQ 1 (WebPw (IsRing most))) := by
  obtain ⟨h1, hb, hl⟩ := g.ok
  simp [b_Lring, wss_cons]
  refine hN.call fun φ hφ => ?_
  simp
  refine hφ.wp (b := b) (n := n) (ts := ts) rfl rfl (by decide) (by omega) hb.rng hb.ne fun σ b' hσ => ?_
  simp
  exact ⟨(n, ren σ ts), b', ⟨ts, σ, g, hσ, rfl, hn⟩, rfl, rfl⟩
theorem ring_sp {Γ : Gam} (hT : Has Γ "_law_take" TakeSp) (hN : Has Γ "_law_named" NamedSp) : RingSp (den Γ 2 5 b_Lring) := by
  intro b most hm0 hm
  refine den_run ⟨rfl, by decide⟩ ?_
  simp [b_Lring, initE, initS, wss_cons]
  refine hT.call fun φ hφ => ?_
  simp
  refine hφ.wp (b := b) (by rfl) (by omega) (by omega) fun k b1 hk => ?_
  have e1 : (2 : Int) + (k : Int) = ((2 + k : Nat) : Int) := by omega
  simp only [kO_ap, wp_bin_int, wp_int_add]
  rw [e1]
  generalize hn : 2 + k = n
  have hnm : n ≤ most := by omega
  simp [wss_cons]
  by_cases h2 : n = 2
  · subst h2
    have q := ring_end (Γ := Γ) (b := b1) (t4 := none) hN .two hnm hm
    simp [wss_cons, b_Lring] at q ⊢
    exact q
  · have h2' : ¬ (n : Int) = 2 := by omega
    simp [h2', h2]
    refine ⟨by omega, ?_⟩
    rw [rngD_nat]
    refine wp_lc_map (fun h => lotD (sortN [h, (h + 1) % n])) (fun h hh => ?_) ?_
    · rw [wp_lcF (by rfl)]
      simp
      have e1 : [PyData.int (h : Int), PyData.int (((h : Int) + 1) % (n : Int))] = [h, (h + 1) % n].map nD := by simp
      have e2 : sortOk [PyData.int (h : Int), PyData.int (((h : Int) + 1) % (n : Int))] := by rw [e1]; exact sortOk_nat
      have e3 : sortD [PyData.int (h : Int), PyData.int (((h : Int) + 1) % (n : Int))] = (sortN [h, (h + 1) % n]).map nD := by rw [e1, sortD_nat]
      refine ⟨by omega, e2, ?_⟩
      rw [e3]
    · have e4 : ((List.range n).map fun h => lotD (sortN [h, (h + 1) % n])) = ((List.range n).map fun h => sortN [h, (h + 1) % n]).map lotD := by rw [List.map_map]; rfl
      rw [e4]
      generalize hts : ((List.range n).map fun h => sortN [h, (h + 1) % n]) = ts
      have gr : Ringed n ts := by rw [← hts]; exact .round (by omega)
      have q0 := fun b1 => ring_end (Γ := Γ) (b := b1) (t4 := none) hN gr hnm hm
      simp [wss_cons]
      by_cases h3 : 3 < n
      · have h3' : (3 : Int) < (n : Int) := by omega
        simp [h3']
        refine hT.call fun φ hφ => ?_
        simp
        refine hφ.wp (b := b1) (by rfl) (by decide) (by decide) fun k2 b2 hk2 => ?_
        simp
        by_cases hk0 : k2 = 0
        · subst hk0
          simp [wss_cons]
          have e5 : ts[0]? = some [0, 1] := by
            rw [← hts, List.getElem?_map, List.getElem?_range (by omega)]
            have : (0 + 1) % n = 1 := Nat.mod_eq_of_lt (by omega)
            show some (sortN [0, (0 + 1) % n]) = _
            rw [this, sortN_id (by simp)]
          simp [e5]
          refine hT.call fun φ hφ => ?_
          simp
          refine hφ.wp (b := b2) (by rfl) (by omega) (by omega) fun k3 b3 hk3 => ?_
          obtain ⟨l, hl1, hl2, hl3⟩ := set_three (k := k3)
          simp [szL_eq]
          refine (wp_sortset (ns := [0, 1, (k3 : Int)])).mpr ?_
          rw [hl1]
          simp [wss_cons]
          have gr2 : Ringed n (ts.set 0 l) := by rw [← hts]; exact .more (k := k3) h3 (by omega) hl2 hl3
          have q := ring_end (Γ := Γ) (b := b3) (t4 := none) hN gr2 hnm hm
          have e7 : L2.ixN ts.length 0 = some 0 := ix_nat (m := 0) (by rw [← hts]; simp; omega)
          simp [b_Lring, wss_cons, e7] at q ⊢
          exact q
        · have hk0' : ¬ (k2 : Int) = 0 := by omega
          simp [hk0]
          have q := q0 b2
          simp [b_Lring] at q
          exact q
      · have h3' : ¬ (3 : Int) < (n : Int) := by omega
        simp [h3']
        have q := q0 b1
        simp [b_Lring, wss_cons] at q
        exact q
def IsAny (most : Nat) (w : Web) : Prop := ∃ (ts : List (List Nat)) (σ : List Nat), BOk w.1 ts ∧ σ.Perm (List.range w.1) ∧ w.2 = ren σ ts ∧ 0 < w.1 ∧ w.1 ≤ most
def AnySp (φ : Fn) : Prop := ∀ (b : Bx) (most : Nat), 0 < most → most ≤ 100 → Rn φ [.mut b.ob, .imm (nD most)] (WebPw (IsAny most))
theorem canAll_nat {ns : List Nat} : PyData.canLayAll0 (ns.map nD) = true := by
  induction ns with
  | nil => rfl
  | cons n ns ih => rw [List.map_cons]; unfold PyData.canLayAll0; rw [ih]; rfl
theorem shaped_lot {ns : List Nat} : SeqAt.shaped (lotD ns) = true := by
  unfold SeqAt.shaped PyData.canLay0 PyData.depth
  rw [canAll_nat, depthAll_nat]
  rfl
theorem wp_ne_tnil {ns : List Nat} {S : Store} {Q : RV → Store → Prop} : Wp (cmpOp .ne (.imm (lotD ns)) (.imm (.tuple []))) S Q ↔ Q (.imm (.bool (!ns.isEmpty))) S := by
  rw [wp_ne]
  have h0 : SeqAt.shaped (.tuple []) = true := rfl
  have h1 := shaped_lot (ns := ns)
  simp [eqv_tnil, h0]
  intro _
  exact h1
def AnyL (n m : Nat) (ds : List D) (T : Store) : Prop := ∃ (ls : List (List Nat)) (b' : Bx), ds = ls.map lotD ∧ ls.length = m ∧ (∀ l ∈ ls, l.Sublist (List.range n)) ∧ T = [.own b'.ob]
def AnyH (n : Nat) (done : List Nat) (ds : List D) (T : Store) : Prop := ∃ (l : List Nat) (b' : Bx), ds = l.map nD ∧ l.Sublist done ∧ T = [.own b'.ob]
theorem any_sp {Γ : Gam} (hT : Has Γ "_law_take" TakeSp) (hN : Has Γ "_law_named" NamedSp) : AnySp (den Γ 2 7 b_Lany_web) := by
  intro b most hm0 hm
  refine den_run ⟨rfl, by decide⟩ ?_
  simp [b_Lany_web, initE, initS, wss_cons]
  refine hT.call fun φ hφ => ?_
  simp
  refine hφ.wp (b := b) (by rfl) (by omega) (by omega) fun k b1 hk => ?_
  have e1 : (1 : Int) + (k : Int) = ((1 + k : Nat) : Int) := by omega
  simp only [kO_ap, wp_bin_int, wp_int_add]
  rw [e1]
  generalize hn : 1 + k = n
  have hnm : n ≤ most := by omega
  simp [wss_cons]
  refine hT.call fun φ hφ => ?_
  simp
  have comb : ∀ (c : Prop) [Decidable c] (A : Int → Prop), (if c then A 4 else A 3) ↔ A (if c then 4 else 3) := fun c _ A => by split <;> rfl
  refine (comb _ fun q => Wp (callM φ [.ptr 0, .imm (.int q)]) _ _).mpr ?_
  obtain ⟨q, hq, hq0, hq1⟩ : ∃ q : Int, (if (n : Int) < 6 then (4 : Int) else 3) = q ∧ 0 < q ∧ q ≤ 4 := ⟨_, rfl, by split <;> decide, by split <;> decide⟩
  rw [hq]
  refine hφ.wp (b := b1) (by rfl) hq0 (by omega) fun k2 b2 hk2 => ?_
  have e2 : (1 : Int) + (k2 : Int) = ((1 + k2 : Nat) : Int) := by omega
  simp only [kO_ap, wp_bin_int, wp_int_add]
  rw [e2]
  generalize hm2 : 1 + k2 = m2
  simp [wss_cons]
  refine ⟨by omega, ?_⟩
  rw [rngD_nat]
  obtain ⟨I, hI⟩ : ∃ I : List Nat → List D → Store → Prop, I = fun l ds T => AnyL n l.length ds T := ⟨_, rfl⟩
  refine wp_lc I (by rw [hI]; exact ⟨[], b2, rfl, rfl, by simp, rfl⟩) (fun l y r ds T he h => ?_) fun ds T h => ?_
  · rw [hI] at h
    obtain ⟨ls, b3, rfl, hln, hls, rfl⟩ := h
    rw [wp_lcF (by rfl)]
    simp
    refine ⟨by omega, ?_⟩
    rw [rngD_nat]
    obtain ⟨J, hJ⟩ : ∃ J : List Nat → List D → Store → Prop, J = fun l ds T => AnyH n l ds T := ⟨_, rfl⟩
    refine wp_lc J (by rw [hJ]; exact ⟨[], b3, rfl, List.Sublist.refl _, rfl⟩) (fun l y r ds T he h => ?_) fun ds T h => ?_
    · rw [hJ] at h
      obtain ⟨hs, b4, rfl, hsub, rfl⟩ := h
      rw [wp_lcF (by rfl)]
      simp
      refine hT.call fun φ hφ => ?_
      simp
      refine hφ.wp (b := b4) (by rfl) (by decide) (by decide) fun k5 b5 hk5 => ?_
      by_cases h0 : k5 = 0
      · subst h0
        simp
        rw [hJ]
        exact ⟨hs ++ [y], b5, by simp, List.Sublist.append hsub (List.Sublist.refl _), rfl⟩
      · have h0' : ¬ (k5 : Int) = 0 := by omega
        simp [h0]
        rw [hJ]
        exact ⟨hs, b5, rfl, hsub.trans (List.sublist_append_left _ _), rfl⟩
    · rw [hJ] at h
      obtain ⟨hs, b4, rfl, hsub, rfl⟩ := h
      simp
      rw [hI]
      refine ⟨ls ++ [hs], b4, by simp, by simp [hln], fun l hl => ?_, rfl⟩
      rcases List.mem_append.mp hl with hl | hl
      · exact hls l hl
      · rw [List.mem_singleton] at hl; subst hl; exact hsub
  · rw [hI] at h
    obtain ⟨ls, b3, rfl, hln, hls, rfl⟩ := h
    rw [List.length_range] at hln
    simp [wss_cons]
    obtain ⟨p, hp⟩ : ∃ p : List Nat → Bool, p = fun l => !l.isEmpty := ⟨_, rfl⟩
    refine wp_lc_filter p lotD (fun l hl => ?_) ?_
    · rw [wp_lcF (by rfl)]
      simp
      refine wp_ne_tnil.mpr ?_
      have e : (!l.isEmpty) = p l := by rw [hp]
      rw [e]
      cases p l <;> simp
    · generalize hl2 : ls.filter p = l2
      have hne : ∀ l ∈ l2, l.Sublist (List.range n) ∧ l ≠ [] := fun l hl => by
        rw [← hl2] at hl
        obtain ⟨h1, h2⟩ := List.mem_filter.mp hl
        refine ⟨hls l h1, fun e => ?_⟩
        subst e
        rw [hp] at h2
        simp at h2
      simp [wss_cons]
      refine ⟨by omega, ?_⟩
      rw [rngD_nat]
      obtain ⟨c, hc⟩ : ∃ c : Nat → Bool, c = fun h => (l2.filter fun l => decide (h ∈ l)).isEmpty := ⟨_, rfl⟩
      refine wp_lc_filter c (fun h => lotD [h]) (fun h hh => ?_) ?_
      · rw [wp_lcF (by rfl)]
        simp
        refine wp_lc_filter (fun l => decide (h ∈ l)) (fun _ => .int 1) (fun l hl => ?_) ?_
        · rw [wp_lcF (by rfl)]
          simp [wp_in_lot]
        · simp
          refine (wp_eq_ints (l := l2.filter fun l => decide (h ∈ l)) (f := fun _ => 1)).mpr ?_
          have e : (l2.filter fun l => decide (h ∈ l)).isEmpty = c h := by rw [hc]
          rw [e]
          cases c h <;> simp
      · have e8 : (((List.range n).filter c).map fun h => lotD [h]) = (((List.range n).filter c).map fun h => [h]).map lotD := by rw [List.map_map]; rfl
        rw [e8]
        generalize hl3 : ((List.range n).filter c).map (fun h => [h]) = l3
        have h3 : ∀ l ∈ l3, ∃ h, h < n ∧ l = [h] := fun l hl => by
          rw [← hl3] at hl
          obtain ⟨h, hh, rfl⟩ := List.mem_map.mp hl
          exact ⟨h, List.mem_range.mp (List.mem_filter.mp hh).1, rfl⟩
        have bok : BOk n (l2 ++ l3) := by
          refine ⟨fun l hl h hh => ?_, fun l hl => ?_, fun l hl => ?_, fun h hh => ?_⟩
          · rcases List.mem_append.mp hl with hl | hl
            · exact List.mem_range.mp ((hne l hl).1.subset hh)
            · obtain ⟨x, hx, rfl⟩ := h3 l hl
              rw [List.mem_singleton] at hh; subst hh; exact hx
          · rcases List.mem_append.mp hl with hl | hl
            · exact List.nodup_range.sublist (hne l hl).1
            · obtain ⟨x, hx, rfl⟩ := h3 l hl
              simp
          · rcases List.mem_append.mp hl with hl | hl
            · exact (hne l hl).2
            · obtain ⟨x, hx, rfl⟩ := h3 l hl
              simp
          · by_cases hch : c h = true
            · refine ⟨[h], List.mem_append_right _ ?_, by simp⟩
              rw [← hl3]
              exact List.mem_map.mpr ⟨h, List.mem_filter.mpr ⟨List.mem_range.mpr hh, hch⟩, rfl⟩
            · rw [hc] at hch
              have hch : ¬ (l2.filter fun l => decide (h ∈ l)).isEmpty = true := hch
              rw [isEmpty_filter] at hch
              simp at hch
              obtain ⟨l, hl, hh⟩ := hch
              exact ⟨l, List.mem_append_left _ hl, hh⟩
        simp [wss_cons]
        have hlen2 : l2.length ≤ ls.length := by rw [← hl2]; exact List.length_filter_le _ _
        have hlen3 : l3.length ≤ n := by
          rw [← hl3, List.length_map]
          have := List.length_filter_le c (List.range n)
          rwa [List.length_range] at this
        refine ⟨by rw [szL_eq]; omega, ?_⟩
        rw [← List.map_append]
        refine hN.call fun φ hφ => ?_
        simp only [wes_cons, wes_nil, we_var, List.getElem?_cons_succ, List.getElem?_cons_zero, vQ_ap, rv_p, rv_d, kL1_ap, kL2_ap, kOs_ap]
        refine hφ.wp (b := b3) (n := n) (ts := l2 ++ l3) rfl rfl (by decide) (by omega) bok.rng bok.ne fun σ b' hσ => ?_
        simp
        exact ⟨(n, ren σ (l2 ++ l3)), b', ⟨l2 ++ l3, σ, bok, hσ, rfl, by omega, hnm⟩, rfl, rfl⟩
def WebKind (most : Nat) (w : Web) : Prop := IsForest most w ∨ IsRing most w ∨ (1 < w.1 ∧ w.1 ≤ most ∧ w.2 = [List.range w.1]) ∨ IsAny most w
theorem WebKind.ok {most : Nat} {w : Web} (h : WebKind most w) : WOk w ∧ w.1 ≤ max 3 most := by
  rcases h with ⟨ts, σ, g, hσ, he, hn, _, _⟩ | ⟨ts, σ, g, hσ, he, hn⟩ | ⟨h1, h2, he⟩ | ⟨ts, σ, g, hσ, he, h0, hn⟩
  · obtain ⟨h0, hb⟩ := g.ok
    have := ren_ok h0 hσ hb
    rw [← he] at this
    exact ⟨this, hn⟩
  · obtain ⟨h0, hb, _⟩ := g.ok
    have := ren_ok (by omega) hσ hb
    rw [← he] at this
    exact ⟨this, by omega⟩
  · refine ⟨⟨by omega, ?_, ?_, ?_, ?_⟩, by omega⟩
    · intro l hl h hh
      rw [he, List.mem_singleton] at hl; subst hl
      exact List.mem_range.mp hh
    · intro l hl
      rw [he, List.mem_singleton] at hl; subst hl
      exact List.pairwise_lt_range
    · intro l hl e
      rw [he, List.mem_singleton] at hl; subst hl
      have := congrArg List.length e
      simp at this; omega
    · intro h hh
      exact ⟨_, by rw [he]; exact List.mem_singleton.mpr rfl, List.mem_range.mpr hh⟩
  · have := ren_ok h0 hσ g
    rw [← he] at this
    exact ⟨this, by omega⟩
theorem WebPw.mono {P P' : Web → Prop} {r : RV} {o : Store} (h : WebPw P r o) (k : ∀ w, P w → P' w) : WebPw P' r o := by
  obtain ⟨w, b, p, e, e2⟩ := h
  exact ⟨w, b, k w p, e, e2⟩
def WebSp (φ : Fn) : Prop := ∀ (b : Bx) (most : Nat), 1 < most → most ≤ 100 → Rn φ [.mut b.ob, .imm (nD most)] (WebPw (WebKind most))
theorem wp_web {φ : Fn} {P : Web → Prop} {b : Bx} {d : D} {S : Store} {Q : RV → Store → Prop} (h : Rn φ [.mut b.ob, .imm d] (WebPw P)) (hb : S[0]? = some (.own b.ob)) (q : ∀ (w : Web) (b' : Bx), P w → Q (.imm (webD w)) (S.set 0 (.own b'.ob))) : Wp (callM φ [.ptr 0, .imm d]) S Q := by
  refine wp_call (as := [.mut b.ob, .imm d]) (by simp [mkArgs, mkArg, hb]) (by simp [ownPtrs, hb]) (h.mono fun r o ⟨w, b', p, hr, ho⟩ => ?_)
  subst hr ho
  exact ⟨rfl, _, by simp [backArgs, hb], q w b' p⟩
theorem web_sp {Γ : Gam} (hT : Has Γ "_law_take" TakeSp) (hF : Has Γ "_law_forest" ForestSp) (hR : Has Γ "_law_ring" RingSp) (hA : Has Γ "_law_any_web" AnySp) : WebSp (den Γ 2 4 b_Lweb) := by
  intro b most hm0 hm
  refine den_run ⟨rfl, by decide⟩ ?_
  simp [b_Lweb, initE, initS, wss_cons]
  refine hT.call fun φ hφ => ?_
  simp
  refine hφ.wp (b := b) (by rfl) (by decide) (by decide) fun k b1 hk => ?_
  simp [wss_cons]
  by_cases h1 : k < 3
  · have h1' : (k : Int) < 3 := by omega
    simp [h1']
    refine hF.call fun φ hφ => ?_
    simp
    refine wp_web (hφ b1 most (by omega) hm) rfl fun w b' p => ?_
    simp
    exact ⟨w, b', .inl p, rfl, rfl⟩
  · have h1' : ¬ (k : Int) < 3 := by omega
    simp [h1', wss_cons]
    by_cases h2 : k < 5
    · have h2' : (k : Int) < 5 := by omega
      simp [h2', wss_cons]
      refine hR.call fun φ hφ => ?_
      simp
      refine wp_web (hφ b1 most hm0 hm) rfl fun w b' p => ?_
      simp
      exact ⟨w, b', .inr (.inl p), rfl, rfl⟩
    · have h2' : ¬ (k : Int) < 5 := by omega
      simp [h2', wss_cons]
      by_cases h3 : k = 5
      · subst h3
        simp [wss_cons]
        refine hT.call fun φ hφ => ?_
        simp
        refine hφ.wp (b := b1) (by rfl) (by omega) (by omega) fun k2 b2 hk2 => ?_
        have e1 : (2 : Int) + (k2 : Int) = ((2 + k2 : Nat) : Int) := by omega
        simp only [kO_ap, wp_bin_int, wp_int_add]
        rw [e1]
        generalize hn : 2 + k2 = n
        simp [wss_cons]
        refine ⟨by omega, ?_⟩
        rw [rngD_nat]
        exact ⟨(n, [List.range n]), b2, .inr (.inr (.inl ⟨by show 1 < n; omega, by show n ≤ most; omega, rfl⟩)), rfl, rfl⟩
      · have h3' : ¬ (k : Int) = 5 := by omega
        simp [h3', wss_cons]
        refine hA.call fun φ hφ => ?_
        simp
        refine wp_web (hφ b1 most (by omega) hm) rfl fun w b' p => ?_
        simp
        exact ⟨w, b', .inr (.inr (.inr p)), rfl, rfl⟩
def SmallP (most things : Nat) (w : Web) : Prop := (WebKind most w ∧ w.2.length ≤ things) ∨ w = (3, [[0, 1], [0, 2], [1, 2]])
def SmallSp (φ : Fn) : Prop := ∀ (b : Bx) (most things : Nat), 1 < most → most ≤ 100 → Rn φ [.mut b.ob, .imm (nD most), .imm (nD things)] (WebPw (SmallP most things))
theorem small_sp {Γ : Gam} (hW : Has Γ "_law_web" WebSp) : SmallSp (den Γ 3 5 b_Lsmall_web) := by
  intro b most things hm0 hm
  refine den_run ⟨rfl, by decide⟩ ?_
  simp [b_Lsmall_web, initE, initS, wss_cons]
  obtain ⟨I, hI⟩ : ∃ I : Nat → Env → Store → Prop, I = fun i e T => ∃ (b' : Bx) (t3 t4 : Option Sl), e = [some (.p 0), some (.d (nD most)), some (.d (nD things)), t3, t4] ∧ T = [.own b'.ob] := ⟨_, rfl⟩
  refine wp_for_rng I (by rw [hI]; exact ⟨b, none, none, rfl, rfl⟩) (fun i e T hi h => ?_) fun e T h => ?_
  · rw [hI] at h
    obtain ⟨b', t3, t4, rfl, rfl⟩ := h
    rw [wp_forF (by rfl)]
    simp [wss_cons]
    refine hW.call fun φ hφ => ?_
    simp
    refine wp_web (hφ b' most hm0 hm) rfl fun w b2 p => ?_
    simp [wss_cons]
    by_cases hl : w.2.length ≤ things
    · have hl' : (w.2.length : Int) ≤ (things : Int) := by omega
      simp [hl, wss_cons]
      exact ⟨w, b2, .inl ⟨p, hl⟩, rfl, rfl⟩
    · have hl' : ¬ (w.2.length : Int) ≤ (things : Int) := by omega
      simp [hl]
      rw [hI]
      exact ⟨b2, _, _, rfl, rfl⟩
  · rw [hI] at h
    obtain ⟨b', t3, t4, rfl, rfl⟩ := h
    simp [wss_cons]
    exact ⟨_, b', .inr rfl, rfl, rfl⟩
theorem SmallP.ok {most things : Nat} {w : Web} (h : SmallP most things w) : WOk w ∧ w.1 ≤ max 3 most := by
  rcases h with ⟨h, _⟩ | rfl
  · exact h.ok
  · refine ⟨⟨by decide, ?_, ?_, ?_, ?_⟩, by show 3 ≤ _; omega⟩
    · intro l hl h hh
      have hl : l ∈ [[0, 1], [0, 2], [1, 2]] := hl
      simp at hl
      rcases hl with rfl | rfl | rfl <;> simp at hh <;> (show h < 3; omega)
    · intro l hl
      have hl : l ∈ [[0, 1], [0, 2], [1, 2]] := hl
      simp at hl
      rcases hl with rfl | rfl | rfl <;> simp
    · intro l hl
      have hl : l ∈ [[0, 1], [0, 2], [1, 2]] := hl
      simp at hl
      rcases hl with rfl | rfl | rfl <;> simp
    · intro h hh
      have hh : h < 3 := hh
      by_cases h2 : h = 2
      · exact ⟨[0, 2], by simp, by simp [h2]⟩
      · exact ⟨[0, 1], by simp, by simp; omega⟩
end Th
end
section
set_option Elab.async false
set_option linter.all false
set_option maxRecDepth 100000
set_option maxHeartbeats 4000000
namespace Th
open PySem PySem.W
theorem sum_cast {ns : List Nat} : (ns.map fun n : Nat => (n : Int)).sum = ((ns.sum : Nat) : Int) := by
  induction ns with
  | nil => rfl
  | cons n ns ih => rw [List.map_cons, List.sum_cons, List.sum_cons, ih]; omega
theorem wp_sum_nat {ns : List Nat} {S : Store} {Q : RV → Store → Prop} : Wp (biOp .sum [.new (.lst (ns.map nD))]) S Q ↔ Q (.imm (nD ns.sum)) S := by
  have e : ns.map nD = (ns.map fun n : Nat => (n : Int)).map .int := by rw [List.map_map]; rfl
  rw [e, wp_sum_new, sum_cast]
theorem wp_sum_lot {ns : List Nat} {S : Store} {Q : RV → Store → Prop} : Wp (biOp .sum [.imm (lotD ns)]) S Q ↔ Q (.imm (nD ns.sum)) S := by
  have e : lotD ns = .tuple ((ns.map fun n : Nat => (n : Int)).map .int) := by unfold lotD; rw [List.map_map]; rfl
  rw [e, wp_sum_tup, sum_cast]
theorem at_lot {ns : List Nat} {k : Nat} (h : k < ns.length) : L2.atI (ns.map nD) (k : Int) = some (nD (ns.getD k 0)) := by
  rw [at_nat, List.getElem?_map, List.getElem?_eq_getElem h, List.getD_eq_getElem?_getD, List.getElem?_eq_getElem h]; rfl
theorem at_lot' {ns : List Nat} {k : Nat} (h : k < ns.length) : L2.atI (ns.map nD) (k : Int) = some (nD (ns[k]?.getD 0)) := by
  rw [at_lot h, List.getD_eq_getElem?_getD]
section
variable (ms ws : List Nat)
def wt (h : Nat) : Nat := ws.getD h 0
def whole (lot : List Nat) : Nat := (lot.map (wt ws)).sum
def top1 (l : List (Nat × Nat)) : Nat := prodN (fun p => ms.getD p.2 0 ^ p.1) l
def top2 (lot : List Nat) : Nat := prodN (fun h => wt ws h ^ wt ws h) lot
def bot2 (v : Nat) (lot : List Nat) : Nat := prodN (fun h => v ^ wt ws h) lot
def top3 (ls : List (List Nat)) : Nat := prodN (top2 ws) ls
def bot3 (ls : List (List Nat)) : Nat := prodN (fun lot => bot2 ws (whole ws lot) lot) ls
end
structure WtOk (w : Web) (ms ws : List Nat) : Prop where
  web : WOk w
  ms : MkOk w.1 ms
  len : ws.length = w.1
  le : ∀ x ∈ ws, x ≤ 60
  n : w.1 ≤ 12
def WeighSp (φ : Fn) : Prop := ∀ (w : Web) (ms ws : List Nat), WtOk w ms ws → Ev φ [webD w, lotD ms, lotD ws] (.tuple [nD (top1 ms ws.zipIdx * top3 ws w.2), nD (bot3 ws w.2)])
theorem sum_le {ns : List Nat} {c : Nat} (h : ∀ n ∈ ns, n ≤ c) : ns.sum ≤ ns.length * c := by
  induction ns with
  | nil => simp
  | cons n ns ih =>
    have h1 := h n List.mem_cons_self
    have h2 := ih fun m hm => h m (List.mem_cons_of_mem _ hm)
    rw [List.sum_cons, List.length_cons, Nat.succ_mul]
    omega
theorem wt_le {ws : List Nat} (h : ∀ x ∈ ws, x ≤ 60) (k : Nat) : wt ws k ≤ 60 := by
  unfold wt
  rw [List.getD_eq_getElem?_getD]
  cases e : ws[k]? with
  | none => simp
  | some x => exact h x (List.mem_of_getElem? e)
theorem asc_length {l : List Nat} {n : Nat} (h : l.Pairwise (· < ·)) (hn : ∀ x ∈ l, x < n) : l.length ≤ n := by
  have h1 : l.Nodup := h.imp fun h => Nat.ne_of_lt h
  have h2 : l ⊆ List.range n := fun x hx => List.mem_range.mpr (hn x hx)
  have := h1.length_le_of_subset h2
  rwa [List.length_range] at this
theorem weigh_sp (Γ : Gam) : WeighSp (den Γ 3 10 b_weighed) := by
  intro w ms ws ok
  refine den_run ⟨rfl, by decide⟩ ?_
  simp [b_weighed, initE, initS, wss_cons]
  rw [enum_map]
  have hm1 : ∀ k, ms.getD k 0 ≤ 100000 := fun k => by
    rw [List.getD_eq_getElem?_getD]
    cases e : ms[k]? with
    | none => simp
    | some x => exact (ok.ms.2 x (List.mem_of_getElem? e)).2
  obtain ⟨I, hI⟩ : ∃ I : List (Nat × Nat) → Env → Store → Prop, I = fun l e T => ∃ t6 t7 t8 : Option Sl, e = [some (.d (webD w)), some (.d (lotD ms)), some (.d (lotD ws)), none, some (.d (nD (top1 ms l))), some (.d (nD 1)), t6, t7, t8, none] ∧ T = [] := ⟨_, rfl⟩
  refine wp_for I (by rw [hI]; exact ⟨none, none, none, rfl, rfl⟩) (fun l y r e T he h => ?_) fun e T h => ?_
  · rw [hI] at h
    obtain ⟨t6, t7, t8, rfl, rfl⟩ := h
    have hy : y ∈ ws.zipIdx := by rw [he]; simp
    obtain ⟨hy1, hy2⟩ : y.2 < ws.length ∧ y.1 ∈ ws := by
      have := List.mem_zipIdx' hy
      exact ⟨this.1, by rw [this.2]; exact List.getElem_mem _⟩
    have hyl := ok.le _ hy2
    have hlen := ok.len
    have hml := ok.ms.1
    rw [wp_forF (by rfl)]
    simp [wss_cons]
    refine ⟨by omega, ?_⟩
    obtain ⟨J, hJ⟩ : ∃ J : Nat → Env → Store → Prop, J = fun i e T => ∃ t8 : Option Sl, e = [some (.d (webD w)), some (.d (lotD ms)), some (.d (lotD ws)), none, some (.d (nD (top1 ms l * ms.getD y.2 0 ^ i))), some (.d (nD 1)), some (.d (nD y.2)), some (.d (nD y.1)), t8, none] ∧ T = [] := ⟨_, rfl⟩
    refine wp_for_rng J (by rw [hJ]; exact ⟨t8, by simp, rfl⟩) (fun i e T hi h => ?_) fun e T h => ?_
    · rw [hJ] at h
      obtain ⟨t8, rfl, rfl⟩ := h
      rw [wp_forF (by rfl)]
      have e1 := at_lot (ns := ms) (k := y.2) (by omega)
      simp [wss_cons, e1]
      refine ⟨mulOk_r (by have := hm1 y.2; rw [List.getD_eq_getElem?_getD] at this; omega), ?_⟩
      rw [hJ]
      refine ⟨some (.d (nD i)), ?_, rfl⟩
      rw [Nat.pow_succ, ← Nat.mul_assoc]
      simp
    · rw [hJ] at h
      obtain ⟨t8, rfl, rfl⟩ := h
      have e2 : ((y.1 : Int) - 0).toNat = y.1 := by omega
      rw [e2]
      simp
      rw [hI]
      refine ⟨some (.d (nD y.2)), some (.d (nD y.1)), t8, ?_, rfl⟩
      unfold top1
      rw [prodN_snoc]
      simp [List.getD_eq_getElem?_getD]
  · rw [hI] at h
    obtain ⟨t6, t7, t8, rfl, rfl⟩ := h
    generalize hT1 : top1 ms ws.zipIdx = T1
    simp [wss_cons]
    obtain ⟨I, hI⟩ : ∃ I : List (List Nat) → Env → Store → Prop, I = fun l e T => ∃ t3 t6 t8 t9 : Option Sl, e = [some (.d (webD w)), some (.d (lotD ms)), some (.d (lotD ws)), t3, some (.d (nD (T1 * top3 ws l))), some (.d (nD (bot3 ws l))), t6, t7, t8, t9] ∧ T = [] := ⟨_, rfl⟩
    refine wp_for I (by rw [hI]; exact ⟨none, t6, t8, none, by simp [top3, bot3, prodN], rfl⟩) (fun l lot r e T he h => ?_) fun e T h => ?_
    · rw [hI] at h
      obtain ⟨t3, t6, t8, t9, rfl, rfl⟩ := h
      have hlot : lot ∈ w.2 := by rw [he]; simp
      have hlr := ok.web.rng lot hlot
      have hll := asc_length (ok.web.asc lot hlot) hlr
      have hlen := ok.len
      have hn := ok.n
      rw [wp_forF (by rfl)]
      simp [wss_cons]
      refine wp_lc_map (fun h => nD (wt ws h)) (fun h hh => ?_) ?_
      · rw [wp_lcF (by rfl)]
        have e1 := at_lot (ns := ws) (k := h) (by have := hlr h hh; omega)
        simp [e1, wt]
      · simp
        have e2 : (lot.map fun h => nD (wt ws h)) = (lot.map (wt ws)).map nD := by rw [List.map_map]; rfl
        rw [e2, wp_sum_nat]
        have hw : (lot.map (wt ws)).sum = whole ws lot := rfl
        rw [hw]
        have hwl : whole ws lot ≤ 720 := by
          have := sum_le (ns := lot.map (wt ws)) (c := 60) fun n hn => by
            obtain ⟨h, _, rfl⟩ := List.mem_map.mp hn
            exact wt_le ok.le h
          rw [List.length_map] at this
          have h2 : lot.length * 60 ≤ 12 * 60 := Nat.mul_le_mul_right _ (by omega)
          exact Nat.le_trans this h2
        generalize hv : whole ws lot = v at *
        simp [wss_cons]
        obtain ⟨J, hJ⟩ : ∃ J : List Nat → Env → Store → Prop, J = fun l2 e T => ∃ t6 t8 : Option Sl, e = [some (.d (webD w)), some (.d (lotD ms)), some (.d (lotD ws)), some (.d (lotD lot)), some (.d (nD (T1 * top3 ws l * top2 ws l2))), some (.d (nD (bot3 ws l * bot2 ws v l2))), t6, t7, t8, some (.d (nD v))] ∧ T = [] := ⟨_, rfl⟩
        refine wp_for J (by rw [hJ]; exact ⟨t6, t8, by simp [top2, bot2, prodN], rfl⟩) (fun l2 h r2 e T he2 hh => ?_) fun e T hh => ?_
        · rw [hJ] at hh
          obtain ⟨t6, t8, rfl, rfl⟩ := hh
          have hhm : h ∈ lot := by rw [he2]; simp
          have e1 := at_lot (ns := ws) (k := h) (by have := hlr h hhm; omega)
          have hwt := wt_le ok.le h
          have e3 : L2.atI (ws.map nD) (h : Int) = some (nD (wt ws h)) := e1
          generalize hx : wt ws h = x at *
          rw [wp_forF (by rfl)]
          simp [wss_cons, e3]
          refine ⟨by omega, ?_⟩
          obtain ⟨K, hK⟩ : ∃ K : Nat → Env → Store → Prop, K = fun i e T => ∃ t8 : Option Sl, e = [some (.d (webD w)), some (.d (lotD ms)), some (.d (lotD ws)), some (.d (lotD lot)), some (.d (nD (T1 * top3 ws l * top2 ws l2 * x ^ i))), some (.d (nD (bot3 ws l * bot2 ws v l2 * v ^ i))), some (.d (nD h)), t7, t8, some (.d (nD v))] ∧ T = [] := ⟨_, rfl⟩
          refine wp_for_rng K (by rw [hK]; exact ⟨t8, by simp, rfl⟩) (fun i e T hi hh => ?_) fun e T hh => ?_
          · rw [hK] at hh
            obtain ⟨t8, rfl, rfl⟩ := hh
            rw [wp_forF (by rfl)]
            simp [wss_cons, e3]
            refine ⟨mulOk_r (by omega), mulOk_r (by omega), ?_⟩
            rw [hK]
            refine ⟨some (.d (nD i)), ?_, rfl⟩
            rw [Nat.pow_succ, Nat.pow_succ, ← Nat.mul_assoc, ← Nat.mul_assoc]
            rfl
          · rw [hK] at hh
            obtain ⟨t8, rfl, rfl⟩ := hh
            have e2 : ((x : Int) - 0).toNat = x := by omega
            rw [e2]
            simp
            rw [hJ]
            refine ⟨some (.d (nD h)), t8, ?_, rfl⟩
            unfold top2 bot2
            rw [prodN_snoc, prodN_snoc, hx, ← Nat.mul_assoc, ← Nat.mul_assoc]
        · rw [hJ] at hh
          obtain ⟨t6, t8, rfl, rfl⟩ := hh
          simp
          rw [hI]
          refine ⟨some (.d (lotD lot)), t6, t8, some (.d (nD v)), ?_, rfl⟩
          unfold top3 bot3
          rw [prodN_snoc, prodN_snoc, hv, ← Nat.mul_assoc]
    · rw [hI] at h
      obtain ⟨t3, t6, t8, t9, rfl, rfl⟩ := h
      simp [wss_cons]
      exact ⟨by simp, rfl⟩
structure WtSm (w : Web) (ms ws : List Nat) : Prop where
  ok : WtOk w ms ws
  sm : ∀ x ∈ ws, x ≤ 4
  n : w.1 ≤ 8
  things : w.2.length ≤ 6
theorem wt_sm {ws : List Nat} (h : ∀ x ∈ ws, x ≤ 4) (k : Nat) : wt ws k ≤ 4 := by
  unfold wt
  rw [List.getD_eq_getElem?_getD]
  cases e : ws[k]? with
  | none => simp
  | some x => exact h x (List.mem_of_getElem? e)
theorem mk_sz {T B X : Nat} (hB : 0 < B) (h1 : T ≤ X) (h2 : B ≤ X) : (mkRat T B).num.natAbs ≤ X ∧ (mkRat T B).den ≤ X := by
  have h : Bd B T (mkRat T B) := ⟨T, rfl, by simp⟩
  exact ⟨Nat.le_trans (h.num hB) h1, Nat.le_trans (h.den hB) h2⟩
theorem frD_nat {n : Nat} : frD (mkRat n 1) = .tuple [nD n, nD 1] := by
  unfold frD
  rw [Rat.num_mkRat, Rat.den_mkRat]
  simp
theorem le_sum {ns : List Nat} {n : Nat} (h : n ∈ ns) : n ≤ ns.sum := by
  induction ns with
  | nil => simp at h
  | cons m ns ih =>
    rw [List.sum_cons]
    rcases List.mem_cons.mp h with rfl | h
    · omega
    · have := ih h; omega
theorem wt_whole {ws lot : List Nat} {h : Nat} (hh : h ∈ lot) : wt ws h ≤ whole ws lot := le_sum (List.mem_map.mpr ⟨h, hh, rfl⟩)
theorem bot2_pos {ws lot l : List Nat} (h : ∀ x ∈ l, x ∈ lot) : 0 < bot2 ws (whole ws lot) l := prodN_pos fun x hx => by
  have := wt_whole (ws := ws) (h x hx)
  by_cases h0 : wt ws x = 0
  · rw [h0]; exact Nat.one_pos
  · exact Nat.pow_pos (by omega)
theorem bot3_pos {ws : List Nat} {ls : List (List Nat)} : 0 < bot3 ws ls := prodN_pos fun l _ => bot2_pos fun x hx => hx
theorem pow_two_le {a b c : Nat} (h : a ≤ 2 ^ b) (hc : c ≤ 4) : a ^ c ≤ 2 ^ (b * 4) := by
  rw [Nat.pow_mul]
  by_cases h0 : a = 0
  · subst h0
    have := Nat.pow_pos (n := 4) (show 0 < 2 ^ b from Nat.pow_pos (by decide))
    cases c with
    | zero => rw [Nat.pow_zero]; omega
    | succ c => rw [Nat.zero_pow (by omega)]; omega
  · exact Nat.le_trans (Nat.pow_le_pow_right (by omega) hc) (Nat.pow_le_pow_left h 4)
theorem prodN_two {α : Type} {f : α → Nat} {l : List α} {b n : Nat} (h : ∀ x ∈ l, f x ≤ 2 ^ b) (hn : l.length ≤ n) : prodN f l ≤ 2 ^ (b * n) := by
  refine Nat.le_trans (prodN_le h) ?_
  rw [← Nat.pow_mul]
  exact Nat.pow_le_pow_right (by decide) (Nat.mul_le_mul_left _ hn)
def LprodSp (φ : Fn) : Prop := ∀ (w : Web) (ms ws : List Nat), WtSm w ms ws → Ev φ [webD w, lotD ms, lotD ws] (frD (mkRat (top1 ms ws.zipIdx * top3 ws w.2 : Nat) (bot3 ws w.2)))
theorem Bd2 {X : Nat} (hX : X = 2 ^ 2000) : X < big ∧ X * X < big ∧ 2 ^ 544 ≤ X ∧ X * 100 < big := by
  subst hX
  refine ⟨pow_lt_big (by decide), ?_, Nat.pow_le_pow_right (by decide) (by decide), ?_⟩
  · rw [← Nat.pow_add]; exact pow_lt_big (by decide)
  · refine Nat.lt_of_le_of_lt (Nat.mul_le_mul_left _ (show 100 ≤ 2 ^ 7 by decide)) ?_
    rw [← Nat.pow_add]; exact pow_lt_big (by decide)
theorem lprod_sp {Γ : Gam} (hT : Has Γ "_law_times" TimesSp) (hP : Has Γ "_law_part" PartSp) : LprodSp (den Γ 3 9 b_Lproduct) := by
  intro w ms ws sm
  have ok := sm.ok
  refine den_run ⟨rfl, by decide⟩ ?_
  simp [b_Lproduct, initE, initS, wss_cons]
  rw [enum_map]
  have hm1 : ∀ k, ms.getD k 0 ≤ 100000 := fun k => by
    rw [List.getD_eq_getElem?_getD]
    cases e : ms[k]? with
    | none => simp
    | some x => exact (ok.ms.2 x (List.mem_of_getElem? e)).2
  have hlen := ok.len
  have hml := ok.ms.1
  have hn := sm.n
  obtain ⟨X, hX⟩ : ∃ X : Nat, X = 2 ^ 2000 := ⟨_, rfl⟩
  obtain ⟨x1, x2, x3, x4⟩ := Bd2 hX
  have turn : ∀ {φ : Fn}, TimesSp φ → ∀ {T B t b : Nat} {S : Store} {Q : RV → Store → Prop}, 0 < B → 0 < b → T ≤ X → B ≤ X → t ≤ 100000 → b ≤ 100 → Q (.imm (frD (mkRat (T * t : Nat) (B * b)))) S → Wp (callM φ [.imm (frD (mkRat T B)), .imm (frD (mkRat t b))]) S Q := by
    intro φ hφ T B t b S Q h1 h2 h3 h4 h5 h6 q
    obtain ⟨s1, s2⟩ := mk_sz h1 h3 h4
    have hb : Bd b t (mkRat t b) := ⟨t, rfl, by simp⟩
    have hbig : 100000 < big := Nat.lt_of_lt_of_le (show 100000 < 2 ^ 20 by decide) (Nat.pow_le_pow_right (by decide) (by decide))
    refine (hφ _ _ (Nat.lt_of_le_of_lt s1 x1) (Nat.lt_of_le_of_lt (Nat.le_trans (hb.num h2) h5) hbig) ?_).wp2 ?_
    · exact Nat.lt_of_le_of_lt (Nat.mul_le_mul s2 (Nat.le_trans (hb.den h2) h6)) x4
    · rw [Rat.mkRat_mul_mkRat, ← Int.natCast_mul]; exact q
  have top1_le : ∀ l : List (Nat × Nat), l.Sublist ws.zipIdx → top1 ms l ≤ 2 ^ 544 := fun l hl => by
    have := prodN_two (f := fun p : Nat × Nat => ms.getD p.2 0 ^ p.1) (l := l) (b := 17 * 4) (n := 8) (fun p hp => ?_) (by have := hl.length_le; rw [List.length_zipIdx] at this; omega)
    · exact this
    · obtain ⟨_, e⟩ := List.mem_zipIdx' (hl.subset hp)
      exact pow_two_le (Nat.le_trans (hm1 p.2) (by decide)) (by rw [e]; exact sm.sm _ (List.getElem_mem _))
  have wsm := wt_sm sm.sm
  have top2_le : ∀ l : List Nat, l.length ≤ 8 → top2 ws l ≤ 2 ^ 64 := fun l hl =>
    prodN_two (b := 8) (n := 8) (fun h _ => by exact pow_two_le (b := 2) (wsm h) (wsm h)) hl
  have bot2_le : ∀ (v : Nat) (l : List Nat), v ≤ 32 → l.length ≤ 8 → bot2 ws v l ≤ 2 ^ 160 := fun v l hv hl =>
    prodN_two (b := 20) (n := 8) (fun h _ => by exact pow_two_le (b := 5) hv (wsm h)) hl
  have whole_le : ∀ l : List Nat, l.length ≤ 8 → whole ws l ≤ 32 := fun l hl => by
    have := sum_le (ns := l.map (wt ws)) (c := 4) fun n hn => by
      obtain ⟨h, _, rfl⟩ := List.mem_map.mp hn
      exact wsm h
    rw [List.length_map] at this
    exact Nat.le_trans this (Nat.mul_le_mul_right 4 hl)
  obtain ⟨I, hI⟩ : ∃ I : List (Nat × Nat) → Env → Store → Prop, I = fun l e T => ∃ t5 t6 t7 : Option Sl, e = [some (.d (webD w)), some (.d (lotD ms)), some (.d (lotD ws)), some (.d (frD (mkRat (top1 ms l : Nat) 1))), none, t5, t6, t7, none] ∧ T = [] := ⟨_, rfl⟩
  refine wp_for I (by rw [hI]; exact ⟨none, none, none, by rw [show PyData.tuple [.int 1, .int 1] = frD (mkRat ((top1 ms [] : Nat) : Int) 1) from frD_nat.symm], rfl⟩) (fun l y r e T he h => ?_) fun e T h => ?_
  · rw [hI] at h
    obtain ⟨t5, t6, t7, rfl, rfl⟩ := h
    have hy : y ∈ ws.zipIdx := by rw [he]; simp
    obtain ⟨hy1, hy2⟩ : y.2 < ws.length ∧ y.1 ∈ ws := by
      have := List.mem_zipIdx' hy
      exact ⟨this.1, by rw [this.2]; exact List.getElem_mem _⟩
    have hyl := sm.sm _ hy2
    have hsub : (l ++ [y]).Sublist ws.zipIdx := by
      rw [he]
      exact List.Sublist.append (List.Sublist.refl l) (List.singleton_sublist.mpr List.mem_cons_self)
    have hb1 := top1_le l ((List.sublist_append_left l [y]).trans hsub)
    have hmy := hm1 y.2
    rw [wp_forF (by rfl)]
    simp [wss_cons]
    refine ⟨by omega, ?_⟩
    obtain ⟨J, hJ⟩ : ∃ J : Nat → Env → Store → Prop, J = fun i e T => ∃ t7 : Option Sl, e = [some (.d (webD w)), some (.d (lotD ms)), some (.d (lotD ws)), some (.d (frD (mkRat (top1 ms l * ms.getD y.2 0 ^ i : Nat) 1))), none, some (.d (nD y.2)), some (.d (nD y.1)), t7, none] ∧ T = [] := ⟨_, rfl⟩
    refine wp_for_rng J (by rw [hJ]; exact ⟨t7, by simp, rfl⟩) (fun i e T hi h => ?_) fun e T h => ?_
    · rw [hJ] at h
      obtain ⟨t7, rfl, rfl⟩ := h
      rw [wp_forF (by rfl)]
      have e1 := at_lot (ns := ms) (k := y.2) (by omega)
      generalize ms.getD y.2 0 = m at *
      simp [wss_cons]
      refine hT.call fun φ hφ => ?_
      simp [e1]
      rw [show PyData.tuple [nD m, PyData.int 1] = frD (mkRat m 1) from frD_nat.symm]
      refine turn hφ (by decide) (by decide) ?_ (by omega) hmy (by decide) ?_
      · have h5 := pow_two_le (a := m) (b := 17) (c := i) (by omega) (by omega)
        have h6 := Nat.mul_le_mul hb1 h5
        have h7 : 2 ^ 544 * 2 ^ (17 * 4) ≤ X := by rw [hX, ← Nat.pow_add]; exact Nat.pow_le_pow_right (by decide) (by decide)
        exact Nat.le_trans h6 h7
      · simp
        rw [hJ]
        refine ⟨some (.d (nD i)), ?_, rfl⟩
        rw [Nat.pow_succ, ← Nat.mul_assoc]
        simp
    · rw [hJ] at h
      obtain ⟨t7, rfl, rfl⟩ := h
      have e2 : ((y.1 : Int) - 0).toNat = y.1 := by omega
      rw [e2]
      simp
      rw [hI]
      refine ⟨some (.d (nD y.2)), some (.d (nD y.1)), t7, ?_, rfl⟩
      unfold top1
      rw [prodN_snoc]
      simp [List.getD_eq_getElem?_getD]
  · rw [hI] at h
    obtain ⟨t5, t6, t7, rfl, rfl⟩ := h
    have hT1b := top1_le _ (List.Sublist.refl _)
    generalize hT1 : top1 ms ws.zipIdx = T1 at *
    simp [wss_cons]
    obtain ⟨I, hI⟩ : ∃ I : List (List Nat) → Env → Store → Prop, I = fun l e T => ∃ t4 t5 t7 t8 : Option Sl, e = [some (.d (webD w)), some (.d (lotD ms)), some (.d (lotD ws)), some (.d (frD (mkRat (T1 * top3 ws l : Nat) (bot3 ws l)))), t4, t5, t6, t7, t8] ∧ T = [] := ⟨_, rfl⟩
    refine wp_for I (by rw [hI]; exact ⟨none, t5, t7, none, by simp [top3, bot3, prodN], rfl⟩) (fun l lot r e T he h => ?_) fun e T h => ?_
    · rw [hI] at h
      obtain ⟨t4, t5, t7, t8, rfl, rfl⟩ := h
      have hlot : lot ∈ w.2 := by rw [he]; simp
      have hlr := ok.web.rng lot hlot
      have hll := asc_length (ok.web.asc lot hlot) hlr
      have hlen6 : l.length ≤ 6 := by
        have h1 := congrArg List.length he
        have h2 := sm.things
        rw [List.length_append] at h1
        omega
      have hlw : ∀ x ∈ l, x.length ≤ 8 := fun x hx => by
        have hx2 : x ∈ w.2 := by rw [he]; exact List.mem_append_left _ hx
        have := asc_length (ok.web.asc x hx2) (ok.web.rng x hx2)
        omega
      have ht3 : top3 ws l ≤ 2 ^ 384 := prodN_two (b := 64) (n := 6) (fun x hx => top2_le x (hlw x hx)) hlen6
      have hb3 : bot3 ws l ≤ 2 ^ 960 := prodN_two (b := 160) (n := 6) (fun x hx => bot2_le _ x (whole_le x (hlw x hx)) (hlw x hx)) hlen6
      have hb3p : 0 < bot3 ws l := bot3_pos
      rw [wp_forF (by rfl)]
      simp [wss_cons]
      refine wp_lc_map (fun h => nD (wt ws h)) (fun h hh => ?_) ?_
      · rw [wp_lcF (by rfl)]
        have e1 := at_lot (ns := ws) (k := h) (by have := hlr h hh; omega)
        simp [e1, wt]
      · simp
        have e2 : (lot.map fun h => nD (wt ws h)) = (lot.map (wt ws)).map nD := by rw [List.map_map]; rfl
        rw [e2, wp_sum_nat]
        have hw : (lot.map (wt ws)).sum = whole ws lot := rfl
        rw [hw]
        have hwl := whole_le lot (by omega)
        have hwt2 : ∀ h, h ∈ lot → wt ws h ≤ whole ws lot := fun h hh => wt_whole hh
        have hbp : ∀ l2 : List Nat, (∀ x ∈ l2, x ∈ lot) → 0 < bot2 ws (whole ws lot) l2 := fun l2 h => bot2_pos h
        generalize hv : whole ws lot = v at *
        simp [wss_cons]
        obtain ⟨J, hJ⟩ : ∃ J : List Nat → Env → Store → Prop, J = fun l2 e T => ∃ t5 t7 : Option Sl, e = [some (.d (webD w)), some (.d (lotD ms)), some (.d (lotD ws)), some (.d (frD (mkRat (T1 * top3 ws l * top2 ws l2 : Nat) (bot3 ws l * bot2 ws v l2)))), some (.d (lotD lot)), t5, t6, t7, some (.d (nD v))] ∧ T = [] := ⟨_, rfl⟩
        refine wp_for J (by rw [hJ]; exact ⟨t5, t7, by simp [top2, bot2, prodN], rfl⟩) (fun l2 h r2 e T he2 hh => ?_) fun e T hh => ?_
        · rw [hJ] at hh
          obtain ⟨t5, t7, rfl, rfl⟩ := hh
          have hhm : h ∈ lot := by rw [he2]; simp
          have e1 := at_lot (ns := ws) (k := h) (by have := hlr h hhm; omega)
          have hl2 : l2.length ≤ 8 := by
            have h1 := congrArg List.length he2
            rw [List.length_append] at h1
            omega
          have c1 := top2_le l2 hl2
          have c2 := bot2_le v l2 (by omega) hl2
          have c3 := hbp l2 fun x hx => by rw [he2]; exact List.mem_append_left _ hx
          have hwv := hwt2 h hhm
          have hxs := wsm h
          have e3 : L2.atI (ws.map nD) (h : Int) = some (nD (wt ws h)) := e1
          generalize hx : wt ws h = x at *
          rw [wp_forF (by rfl)]
          simp [wss_cons, e3]
          refine ⟨by omega, ?_⟩
          obtain ⟨K, hK⟩ : ∃ K : Nat → Env → Store → Prop, K = fun i e T => ∃ t7 : Option Sl, e = [some (.d (webD w)), some (.d (lotD ms)), some (.d (lotD ws)), some (.d (frD (mkRat (T1 * top3 ws l * top2 ws l2 * x ^ i : Nat) (bot3 ws l * bot2 ws v l2 * v ^ i)))), some (.d (lotD lot)), some (.d (nD h)), t6, t7, some (.d (nD v))] ∧ T = [] := ⟨_, rfl⟩
          refine wp_for_rng K (by rw [hK]; exact ⟨t7, by simp, rfl⟩) (fun i e T hi hh => ?_) fun e T hh => ?_
          · rw [hK] at hh
            obtain ⟨t7, rfl, rfl⟩ := hh
            have hi' : i < x := by omega
            rw [wp_forF (by rfl)]
            simp [wss_cons]
            refine hT.call fun φ hφ => ?_
            simp
            refine hP.call fun φ2 hφ2 => ?_
            simp [e3]
            have hvb : (v : Int).natAbs < big := by
              rw [Int.natAbs_natCast]
              exact Nat.lt_of_lt_of_le (show v < 2 ^ 6 by omega) (Nat.pow_le_pow_right (by decide) (by decide))
            refine (hφ2 (x : Int) (v : Int) (by omega) hvb).wp2 ?_
            simp
            have c4 := pow_two_le (a := x) (b := 2) (c := i) (by omega) (by omega)
            have c5 := pow_two_le (a := v) (b := 5) (c := i) (by omega) (by omega)
            refine turn hφ ?_ (by omega) ?_ ?_ (by omega) (by omega) ?_
            · exact Nat.mul_pos (Nat.mul_pos hb3p c3) (Nat.pow_pos (by omega))
            · refine Nat.le_trans (Nat.mul_le_mul (Nat.mul_le_mul (Nat.mul_le_mul hT1b ht3) c1) c4) ?_
              rw [hX, ← Nat.pow_add, ← Nat.pow_add, ← Nat.pow_add]
              exact Nat.pow_le_pow_right (by decide) (by decide)
            · refine Nat.le_trans (Nat.mul_le_mul (Nat.mul_le_mul hb3 c2) c5) ?_
              rw [hX, ← Nat.pow_add, ← Nat.pow_add]
              exact Nat.pow_le_pow_right (by decide) (by decide)
            · simp
              rw [hK]
              refine ⟨some (.d (nD i)), ?_, rfl⟩
              rw [Nat.pow_succ, Nat.pow_succ, ← Nat.mul_assoc, ← Nat.mul_assoc]
              simp
          · rw [hK] at hh
            obtain ⟨t7, rfl, rfl⟩ := hh
            have e2 : ((x : Int) - 0).toNat = x := by omega
            rw [e2]
            simp
            rw [hJ]
            refine ⟨some (.d (nD h)), t7, ?_, rfl⟩
            unfold top2 bot2
            rw [prodN_snoc, prodN_snoc, hx, ← Nat.mul_assoc, ← Nat.mul_assoc]
            simp
        · rw [hJ] at hh
          obtain ⟨t5, t7, rfl, rfl⟩ := hh
          simp
          rw [hI]
          refine ⟨some (.d (lotD lot)), t5, t7, some (.d (nD v)), ?_, rfl⟩
          unfold top3 bot3
          rw [prodN_snoc, prodN_snoc, hv, ← Nat.mul_assoc]
          simp
    · rw [hI] at h
      obtain ⟨t4, t5, t7, t8, rfl, rfl⟩ := h
      simp [wss_cons]
      exact ⟨by simp, rfl⟩
end Th
end
section
set_option Elab.async false
set_option linter.all false
set_option maxRecDepth 100000
set_option maxHeartbeats 4000000
namespace Th
open PySem PySem.W
def barB (w : Web) (ms ws : List Nat) : Bool := decide (top1 ms ws.zipIdx * top3 ws w.2 < bot3 ws w.2)
def BarsSp (φ : Fn) : Prop := ∀ (w : Web) (ms ws : List Nat), WtOk w ms ws → Ev φ [webD w, lotD ms, lotD ws] (.bool (barB w ms ws))
theorem bars_sp {Γ : Gam} (hW : Has Γ "weighed" WeighSp) : BarsSp (den Γ 3 5 b_bars) := by
  intro w ms ws ok
  refine den_run ⟨rfl, by decide⟩ ?_
  simp [b_bars, initE, initS, wss_cons]
  refine hW.call fun φ hφ => ?_
  simp
  refine (hφ w ms ws ok).wp3 ?_
  unfold barB
  generalize top1 ms ws.zipIdx * top3 ws w.2 = a
  generalize bot3 ws w.2 = b
  simp [wss_cons]
  exact ⟨rfl, rfl⟩
theorem rngD_nn {a b : Nat} : rngD (a : Int) (b : Int) = (List.range' a (b - a)).map nD := by
  unfold rngD
  have e : ((b : Int) - (a : Int)).toNat = b - a := by omega
  rw [e, List.range'_eq_map_range, List.map_map]
  refine List.map_congr_left fun i _ => ?_
  simp
def rowStep (many total most place : Nat) (rows : List (List Nat)) : List (List Nat) :=
  rows.flatMap fun row => (List.range' (total - row.sum - (many - place - 1) * most) (min most (total - row.sum) + 1 - (total - row.sum - (many - place - 1) * most))).map fun n => row ++ [n]
def rowsUp (many total most : Nat) : Nat → List (List Nat)
  | 0 => [[]]
  | n + 1 => rowStep many total most n (rowsUp many total most n)
def rowsTo (many total most : Nat) : List (List Nat) := rowsUp many total most many
structure RowOk (total most n : Nat) (row : List Nat) : Prop where
  len : row.length = n
  sum : row.sum ≤ total
  le : ∀ x ∈ row, x ≤ most
theorem rowStep_ok {many total most n : Nat} {rows : List (List Nat)} (h : ∀ r ∈ rows, RowOk total most n r) : ∀ r ∈ rowStep many total most n rows, RowOk total most (n + 1) r := by
  intro r hr
  obtain ⟨row, h1, h2⟩ := List.mem_flatMap.mp hr
  obtain ⟨x, hx, rfl⟩ := List.mem_map.mp h2
  obtain ⟨a, b, c⟩ := h row h1
  rw [List.mem_range'_1] at hx
  refine ⟨by simp [a], by simp; omega, fun y hy => ?_⟩
  rcases List.mem_append.mp hy with hy | hy
  · exact c y hy
  · rw [List.mem_singleton] at hy
    omega
theorem rowsUp_ok {many total most : Nat} : ∀ n, ∀ r ∈ rowsUp many total most n, RowOk total most n r
  | 0, r, hr => by
    rw [rowsUp, List.mem_singleton] at hr
    subst hr
    exact ⟨rfl, by simp, by simp⟩
  | n + 1, r, hr => rowStep_ok (rowsUp_ok n) r hr
theorem rowStep_length {many total most n : Nat} {rows : List (List Nat)} : (rowStep many total most n rows).length ≤ rows.length * (most + 1) := by
  unfold rowStep
  induction rows with
  | nil => simp
  | cons r rows ih =>
    rw [List.flatMap_cons, List.length_append, List.length_map, List.length_range', List.length_cons, Nat.succ_mul]
    omega
theorem rowsUp_length {many total most : Nat} : ∀ n, (rowsUp many total most n).length ≤ (most + 1) ^ n
  | 0 => by simp [rowsUp]
  | n + 1 => by
    refine Nat.le_trans (rowStep_length (many := many) (total := total) (n := n)) ?_
    rw [Nat.pow_succ]
    exact Nat.mul_le_mul_right _ (rowsUp_length n)
def RowsToSp (φ : Fn) : Prop := ∀ many total most : Nat, many ≤ 8 → most ≤ 4 → total ≤ 1000 → En φ [nD many, nD total, nD most] ((rowsTo many total most).map lotD)
theorem rows_to_sp (Γ : Gam) : RowsToSp (den Γ 3 10 b_rows_to) := by
  intro many total most h1 h2 h3
  refine den_run ⟨rfl, by decide⟩ ?_
  simp [b_rows_to, initE, initS, wss_cons]
  refine ⟨by omega, ?_⟩
  have hsz : ∀ n, n ≤ 8 → (rowsUp many total most n).length ≤ 390625 := fun n hn => by
    refine Nat.le_trans (rowsUp_length n) ?_
    refine Nat.le_trans (Nat.pow_le_pow_left (show most + 1 ≤ 5 by omega) n) ?_
    exact Nat.le_trans (Nat.pow_le_pow_right (by decide) hn) (by decide)
  obtain ⟨I, hI⟩ : ∃ I : Nat → Env → Store → Prop, I = fun i e T => ∃ (k : Nat) (t4 t5 t6 t7 t8 t9 : Option Sl), e = [some (.d (nD many)), some (.d (nD total)), some (.d (nD most)), some (.p k), t4, t5, t6, t7, t8, t9] ∧ T[k]? = some (.own (.lst ((rowsUp many total most i).map lotD))) := ⟨_, rfl⟩
  refine wp_for_rng I (by rw [hI]; exact ⟨0, none, none, none, none, none, none, rfl, rfl⟩) (fun i e T hi h => ?_) fun e T h => ?_
  · rw [hI] at h
    obtain ⟨k, t4, t5, t6, t7, t8, t9, rfl, hk⟩ := h
    have hi' : i < many := by omega
    have hkl := (List.getElem?_eq_some_iff.mp hk).1
    have hk2 : (T ++ [Ent.own (.lst [])])[k]? = some (.own (.lst ((rowsUp many total most i).map lotD))) := by
      rw [List.getElem?_append_left hkl]; exact hk
    rw [wp_forF (by rfl)]
    simp [wss_cons, hk2]
    obtain ⟨J, hJ⟩ : ∃ J : List (List Nat) → Env → Store → Prop, J = fun l e T' => ∃ (t6 t7 t8 t9 : Option Sl), e = [some (.d (nD many)), some (.d (nD total)), some (.d (nD most)), some (.p k), some (.d (nD i)), some (.p T.length), t6, t7, t8, t9] ∧ T'[k]? = some (.own (.lst ((rowsUp many total most i).map lotD))) ∧ T'[T.length]? = some (.own (.lst ((rowStep many total most i l).map lotD))) := ⟨_, rfl⟩
    refine wp_for J (by rw [hJ]; exact ⟨t6, t7, t8, t9, rfl, hk2, by simp [rowStep]⟩) (fun l row r e T' he hh => ?_) fun e T' hh => ?_
    · rw [hJ] at hh
      obtain ⟨t6, t7, t8, t9, rfl, hk3, hk4⟩ := hh
      have hrow := rowsUp_ok (many := many) (total := total) (most := most) i row (by rw [he]; simp)
      have hkl4 := (List.getElem?_eq_some_iff.mp hk4).1
      rw [wp_forF (by rfl)]
      simp only [wss_cons, ws_par, wes_cons, we_bin, we_var, List.getElem?_cons_succ, List.getElem?_cons_zero, List.set_cons_succ, List.set_cons_zero]
      simp [wss_cons, wp_sum_lot]
      have e1 : (total : Int) - (row.sum : Int) = ((total - row.sum : Nat) : Int) := by have := hrow.sum; omega
      have e2 : ((many : Int) - (i : Int) - 1) * (most : Int) = (((many - i - 1) * most : Nat) : Int) := by
        rw [Int.natCast_mul]
        congr 1
        omega
      rw [e1, e2]
      generalize hL : total - row.sum = L
      generalize hR : (many - i - 1) * most = R
      have hRl : R ≤ 32 := by
        rw [← hR]
        exact Nat.le_trans (Nat.mul_le_mul (show many - i - 1 ≤ 8 by omega) h2) (by decide)
      refine ⟨mulOk_r (by omega), ?_⟩
      simp [wss_cons, hk4]
      have e3 : (if R < L then (L : Int) - (R : Int) else 0) = ((L - R : Nat) : Int) := by split <;> omega
      have e4 : (if L < most then (L : Int) else (most : Int)) + 1 = ((min most L + 1 : Nat) : Int) := by split <;> omega
      rw [e3, e4, rngD_nn]
      refine ⟨by omega, ?_⟩
      refine wp_lc_map (fun n => lotD (row ++ [n])) (fun n hn => ?_) ?_
      · rw [wp_lcF (by rfl)]
        have := hrow.len
        simp [szL_eq]
        omega
      · simp [hk4, szL_eq]
        have g1 : (rowStep many total most i (l ++ [row])) = rowStep many total most i l ++ (List.range' (L - R) (min most L + 1 - (L - R))).map (fun n => row ++ [n]) := by
          unfold rowStep
          rw [List.flatMap_append, List.flatMap_cons, List.flatMap_nil, List.append_nil, hL, hR]
        have g2 : (rowStep many total most i (l ++ [row])).length ≤ 390625 * 5 := by
          refine Nat.le_trans (rowStep_length (n := i)) ?_
          have h4 : (l ++ [row]).length ≤ (rowsUp many total most i).length := by rw [he]; simp
          exact Nat.mul_le_mul (Nat.le_trans h4 (hsz i (by omega))) (by omega)
        have g3 : (rowStep many total most i l).length + (min most L + 1 - (L - R)) = (rowStep many total most i (l ++ [row])).length := by rw [g1]; simp
        refine ⟨by omega, ?_, ?_⟩
        · rw [List.getElem?_set_ne (by omega), hk3, hk2]
        · rw [hJ]
          refine ⟨_, _, _, t9, rfl, by rw [List.getElem?_set_ne (by omega)]; exact hk3, ?_⟩
          rw [List.getElem?_set_self hkl4, g1, List.map_append, List.map_map]
          rfl
    · rw [hJ] at hh
      obtain ⟨t6, t7, t8, t9, rfl, hk3, hk4⟩ := hh
      simp [wss_cons]
      rw [hI]
      exact ⟨T.length, _, _, _, _, _, _, rfl, hk4⟩
  · rw [hI] at h
    obtain ⟨k, t4, t5, t6, t7, t8, t9, rfl, hk⟩ := h
    have e0 : ((many : Int) - 0).toNat = many := by omega
    rw [e0] at hk
    simp [wss_cons]
    rw [finQ_ptr hk (by simp)]
    exact ⟨rfl, by simp⟩
def barWO (w : Web) (ms : List Nat) (most : Nat) : Option (List Nat) := ((List.range' 1 (w.1 * most)).flatMap fun total => rowsTo w.1 total most).find? (barB w ms)
structure WebMs (w : Web) (ms : List Nat) : Prop where
  web : WOk w
  ms : MkOk w.1 ms
  n : w.1 ≤ 8
theorem WebMs.wt {w : Web} {ms row : List Nat} {total most : Nat} (h : WebMs w ms) (hm : most ≤ 4) (r : RowOk total most w.1 row) : WtOk w ms row :=
  ⟨h.web, h.ms, r.len, fun x hx => by have := r.le x hx; omega, by have := h.n; omega⟩
def BarWSp (φ : Fn) : Prop := ∀ (w : Web) (ms : List Nat) (most : Nat), WebMs w ms → most ≤ 4 → Ev φ [webD w, lotD ms, nD most] (optD (barWO w ms most))
theorem bar_w_sp {Γ : Gam} (hR : Has Γ "rows_to" RowsToSp) (hB : Has Γ "bars" BarsSp) : BarWSp (den Γ 3 5 b_bar_weights) := by
  intro w ms most ok hm
  have hn := ok.n
  have hwm : w.1 * most ≤ 32 := Nat.le_trans (Nat.mul_le_mul hn hm) (by decide)
  refine den_run ⟨rfl, by decide⟩ ?_
  simp [b_bar_weights, initE, initS, wss_cons]
  refine ⟨mulOk_r (by omega), ?_⟩
  have e1 : (w.1 : Int) * (most : Int) = ((w.1 * most : Nat) : Int) := by simp
  rw [e1]
  have hst : barWO w ms most = ((List.range' 1 (w.1 * most)).flatMap fun total => rowsTo w.1 total most).find? (barB w ms) := rfl
  generalize hN : w.1 * most = N at *
  refine ⟨by omega, ?_⟩
  obtain ⟨I, hI⟩ : ∃ I : Nat → Env → Store → Prop, I = fun i e T => ∃ (t3 t4 : Option Sl), e = [some (.d (webD w)), some (.d (lotD ms)), some (.d (nD most)), t3, t4] ∧ T = [] ∧ ∀ x ∈ (List.range' 1 i).flatMap (fun total => rowsTo w.1 total most), barB w ms x = false := ⟨_, rfl⟩
  refine wp_for_rng I (by rw [hI]; exact ⟨none, none, rfl, rfl, by simp⟩) (fun i e T hi h => ?_) fun e T h => ?_
  · rw [hI] at h
    obtain ⟨t3, t4, rfl, rfl, ha⟩ := h
    have hi' : i < N := by omega
    rw [wp_forF (by rfl)]
    simp [wss_cons]
    refine hR.call fun φ hφ => ?_
    simp
    refine En.wp3 (b := .int (1 + (i : Int))) (d := (rowsTo w.1 (1 + i) most).map lotD) (by
      have := hφ w.1 (1 + i) most hn hm (by omega)
      rw [show nD (1 + i) = .int (1 + (i : Int)) from by simp] at this
      exact this) ?_
    simp
    obtain ⟨J, hJ⟩ : ∃ J : List (List Nat) → Env → Store → Prop, J = fun l e T => ∃ (t4 : Option Sl), e = [some (.d (webD w)), some (.d (lotD ms)), some (.d (nD most)), some (.d (.int (1 + (i : Int)))), t4] ∧ T = [] ∧ ∀ x ∈ l, barB w ms x = false := ⟨_, rfl⟩
    refine wp_for J (by rw [hJ]; exact ⟨t4, rfl, rfl, by simp⟩) (fun l row r e T he hh => ?_) fun e T hh => ?_
    · rw [hJ] at hh
      obtain ⟨t4, rfl, rfl, hb⟩ := hh
      have hrow := rowsUp_ok (many := w.1) (total := 1 + i) (most := most) w.1 row (by show row ∈ rowsTo w.1 (1 + i) most; rw [he]; simp)
      rw [wp_forF (by rfl)]
      simp [wss_cons]
      refine hB.call fun φ hφ => ?_
      simp
      refine (hφ w ms row (ok.wt hm hrow)).wp3 ?_
      simp
      cases hbr : barB w ms row with
      | true =>
        simp [wss_cons]
        have ef : barWO w ms most = some row := by
          rw [hst]
          have e5 : List.range' 1 N = List.range' 1 i ++ (1 + i) :: List.range' (1 + i + 1) (N - i - 1) := by
            have h1 : N = i + (1 + (N - i - 1)) := by omega
            conv => lhs; rw [h1, ← List.range'_append_1]
            rw [Nat.add_comm 1 (N - i - 1), List.range'_succ]
          rw [e5, List.flatMap_append, List.flatMap_cons, he, List.find?_append, find_none ha, Option.none_or, List.append_assoc, List.find?_append, find_none hb, Option.none_or, List.cons_append, List.find?_cons, hbr]
        rw [ef]
        exact ⟨rfl, rfl⟩
      | false =>
        simp
        rw [hJ]
        refine ⟨_, rfl, rfl, fun x hx => ?_⟩
        rcases List.mem_append.mp hx with hx | hx
        · exact hb x hx
        · rw [List.mem_singleton] at hx; subst hx; exact hbr
    · rw [hJ] at hh
      obtain ⟨t4, rfl, rfl, hb⟩ := hh
      simp
      rw [hI]
      refine ⟨_, _, rfl, rfl, fun x hx => ?_⟩
      rw [← List.range'_append_1, List.flatMap_append] at hx
      rcases List.mem_append.mp hx with hx | hx
      · exact ha x hx
      · simp at hx
        exact hb x hx
  · rw [hI] at h
    obtain ⟨t3, t4, rfl, rfl, ha⟩ := h
    have e0 : ((N : Int) + 1 - 1).toNat = N := by omega
    rw [e0] at ha
    simp [wss_cons]
    rw [hst, find_none ha]
    exact ⟨rfl, rfl⟩
section
variable {f : D → M (Option D)} {ks : List Nat} {S0 S : Store} {Q : List D → Store → Prop}
theorem wp_lc_mapD (g : D → D) {ys : List D} (h : ∀ y ∈ ys, Wp (f y) S fun o T => T = S ∧ o = some (g y)) (q : Q (ys.map g) S) : Wp (lcL f ks S ys) S Q := by
  have := wp_lc_map (f := f) (ks := ks) (S := S) (Q := Q) (enc := id) (ys := ys) g h q
  rwa [List.map_id] at this
theorem wp_lc_filterD (p : D → Bool) (g : D → D) {ys : List D} (h : ∀ y ∈ ys, Wp (f y) S fun o T => T = S ∧ o = if p y = true then some (g y) else none) (q : Q ((ys.filter p).map g) S) : Wp (lcL f ks S ys) S Q := by
  have := wp_lc_filter (f := f) (ks := ks) (S := S) (Q := Q) (enc := id) (ys := ys) p g h q
  rwa [List.map_id] at this
end
def noDic (d : D) : Prop := (Co.d d).noDict = true
def intB (d : D) : Bool := match d with
  | .int _ => true
  | _ => false
def okW (d : D) : Bool := match d with
  | .int i => decide (0 ≤ i) && decide (i ≤ 60)
  | _ => false
def IsIntSp (φ : Fn) : Prop := ∀ d : D, noDic d → Ev φ [d] (.bool (intB d))
theorem is_int_sp (Γ : Gam) : IsIntSp (den Γ 1 1 b_is_integer) := by
  intro d hd
  refine den_run ⟨rfl, by decide⟩ ?_
  have hd' : (Co.d d).noDict = true := hd
  simp [b_is_integer, initE, initS, wss_cons, hd']
  cases d <;> simp [intB] <;> first | exact ⟨rfl, rfl⟩ | (cases hd)
def IsNumSp (φ : Fn) : Prop := ∀ d : D, noDic d → Ev φ [d] (.bool (match d with | .int i => decide (0 ≤ i) | _ => false))
theorem is_num_sp {Γ : Gam} (h : Has Γ "is_integer" IsIntSp) : IsNumSp (den Γ 1 1 b_is_number) := by
  intro d hd
  refine den_run ⟨rfl, by decide⟩ ?_
  simp [b_is_number, initE, initS, wss_cons]
  refine h.call fun φ hφ => ?_
  simp
  refine (hφ d hd).wp1 ?_
  cases d <;> simp [intB] <;> first | exact ⟨rfl, rfl⟩ | (cases hd)
def IsWithinSp (φ : Fn) : Prop := ∀ (d : D) (a b : Int), noDic d → Ev φ [d, .int a, .int b] (.bool (match d with | .int i => decide (a ≤ i) && decide (i ≤ b) | _ => false))
theorem is_within_sp {Γ : Gam} (h : Has Γ "is_integer" IsIntSp) : IsWithinSp (den Γ 3 3 b_is_within) := by
  intro d a b hd
  refine den_run ⟨rfl, by decide⟩ ?_
  simp [b_is_within, initE, initS, wss_cons]
  refine h.call fun φ hφ => ?_
  simp
  refine (hφ d hd).wp1 ?_
  cases d <;> simp [intB] <;> try first | exact ⟨rfl, rfl⟩ | (cases hd; done)
  rename_i i
  by_cases h1 : a ≤ i
  · simp [h1]
    exact ⟨rfl, rfl⟩
  · simp [h1]
    exact ⟨rfl, rfl⟩
def unW (d : D) : Nat := match d with
  | .int i => i.toNat
  | _ => 0
def shownB (w : Web) (ms : List Nat) (d : D) : Bool := match d with
  | .tuple ds => decide (ds.length = w.1) && ds.all okW && barB w ms (ds.map unW)
  | _ => false
theorem okW_map {ds : List D} (h : ds.all okW = true) : ds = (ds.map unW).map nD ∧ ∀ x ∈ ds.map unW, x ≤ 60 := by
  induction ds with
  | nil => exact ⟨rfl, by simp⟩
  | cons d ds ih =>
    rw [List.all_cons, Bool.and_eq_true] at h
    obtain ⟨h1, h2⟩ := ih h.2
    cases d with
    | int i =>
      have h3 : 0 ≤ i ∧ i ≤ 60 := by
        have := h.1
        simp [okW] at this
        exact this
      refine ⟨?_, fun x hx => ?_⟩
      · rw [List.map_cons, List.map_cons, ← h1]
        congr 1
        show PyData.int i = .int ((i.toNat : Nat) : Int)
        congr 1
        omega
      · rcases List.mem_cons.mp hx with rfl | hx
        · show i.toNat ≤ 60
          omega
        · exact h2 x hx
    | _ => simp [okW] at h
structure ValOk (d : D) : Prop where
  top : noDic d
  items : ∀ ds, d = .tuple ds → ∀ x ∈ ds, noDic x
def ShowsSp (φ : Fn) : Prop := ∀ (w : Web) (ms : List Nat) (d : D), WebMs w ms → ValOk d → Ev φ [webD w, lotD ms, d] (.bool (shownB w ms d))
theorem shows_sp {Γ : Gam} (hN : Has Γ "is_number" IsNumSp) (hW : Has Γ "is_within" IsWithinSp) (hB : Has Γ "bars" BarsSp) : ShowsSp (den Γ 3 4 b_bar_shows) := by
  intro w ms d ok hv
  refine den_run ⟨rfl, by decide⟩ ?_
  have hd' : (Co.d d).noDict = true := hv.top
  simp [b_bar_shows, initE, initS, wss_cons, hd']
  cases d with
  | tuple ds =>
    simp
    by_cases hl : ds.length = w.1
    · have hl' : (ds.length : Int) = (w.1 : Int) := by omega
      simp [hl', wss_cons]
      have hitems := hv.items ds rfl
      refine wp_lc_mapD (fun x => .bool (okW x)) (fun x hx => ?_) ?_
      · rw [wp_lcF (by rfl)]
        simp
        refine hN.call fun φ hφ => ?_
        simp
        refine (hφ x (hitems x hx)).wp1 ?_
        have go : ∀ {Q : RV → Store → Prop}, Q (.imm (.bool (okW x))) [] → Wp (evE Γ (ME.call (Str.ofString "is_within") [ME.var 3, ME.cst (PyData.int 0), ME.cst (PyData.int 60)]) [some (.d (webD w)), some (.d (lotD ms)), some (.d (.tuple ds)), some (.d x)]) [] Q := fun {Q} q => by
          refine hW.call fun φ hφ => ?_
          simp
          refine (hφ x 0 60 (hitems x hx)).wp3 ?_
          cases x <;> exact q
        cases x with
        | int i =>
          by_cases h0 : 0 ≤ i
          · simp [h0]
            exact go (by simp)
          · simp [h0, okW]
        | _ => simp [okW]
      · simp
        have e2 : (ds.map fun x => PyData.bool (okW x)) = (ds.map okW).map .bool := by rw [List.map_map]; rfl
        rw [e2, wp_all_new]
        have e3 : (ds.map okW).all id = ds.all okW := by rw [List.all_map]; rfl
        rw [e3]
        cases hall : ds.all okW with
        | false =>
          simp
          exact ⟨by simp [shownB, hall], rfl⟩
        | true =>
          simp
          refine hB.call fun φ hφ => ?_
          simp
          obtain ⟨h1, h2⟩ := okW_map hall
          refine Ev.wp3 (c := .tuple ds) (d := .bool (barB w ms (ds.map unW))) ?_ ?_
          · have := hφ w ms (ds.map unW) ⟨ok.web, ok.ms, by rw [List.length_map]; exact hl, h2, by have := ok.n; omega⟩
            rw [show lotD (ds.map unW) = .tuple ds from congrArg PyData.tuple h1.symm] at this
            exact this
          · simp
            exact ⟨by simp [shownB, hall, hl], rfl⟩
    · have hl' : ¬ (ds.length : Int) = (w.1 : Int) := by omega
      simp [hl', wss_cons]
      exact ⟨by simp [shownB, hl], rfl⟩
  | dict kvs => cases hd'
  | _ => exact ⟨rfl, rfl⟩
def SmallV (w : Web) (d : D) : Prop := ∀ ds, d = .tuple ds → ds.length = w.1 → ds.all okW = true → ∀ x ∈ ds.map unW, x ≤ 4
def LshownSp (φ : Fn) : Prop := ∀ (w : Web) (ms : List Nat) (d : D), WebMs w ms → w.2.length ≤ 6 → ValOk d → SmallV w d → Ev φ [webD w, lotD ms, d] (.bool (shownB w ms d))
theorem mk_lt {T B : Nat} (hB : 0 < B) : decide ((mkRat T B).num < ((mkRat T B).den : Int)) = decide (T < B) := by
  obtain ⟨p1, p2⟩ := part_pos (T : Int) B hB
  rw [p1, p2, Int.natAbs_natCast]
  have hg : 0 < Nat.gcd T B := Nat.gcd_pos_of_pos_right _ hB
  obtain ⟨a, ha⟩ := Nat.gcd_dvd_left T B
  obtain ⟨b, hb⟩ := Nat.gcd_dvd_right T B
  generalize Nat.gcd T B = g at *
  subst ha hb
  rw [decide_eq_decide, ← Int.natCast_ediv, ← Int.natCast_ediv, Nat.mul_div_cancel_left _ hg, Nat.mul_div_cancel_left _ hg]
  constructor
  · intro h
    have h : a < b := by omega
    exact (Nat.mul_lt_mul_left hg).mpr h
  · intro h
    have := (Nat.mul_lt_mul_left hg).mp h
    omega
theorem lshown_sp {Γ : Gam} (hP : Has Γ "_law_product" LprodSp) : LshownSp (den Γ 3 4 b_Lshown) := by
  intro w ms d ok ht hv hs
  refine den_run ⟨rfl, by decide⟩ ?_
  have hd' : (Co.d d).noDict = true := hv.top
  simp [b_Lshown, initE, initS, wss_cons, hd']
  cases d with
  | tuple ds =>
    simp
    by_cases hl : ds.length = w.1
    · have hl' : (ds.length : Int) = (w.1 : Int) := by omega
      simp [hl', wss_cons]
      have hitems := hv.items ds rfl
      obtain ⟨p, hp⟩ : ∃ p : D → Bool, p = fun x => !okW x := ⟨_, rfl⟩
      refine wp_lc_filterD p (fun _ => .int 1) (fun x hx => ?_) ?_
      · rw [wp_lcF (by rfl)]
        have e : p x = !okW x := by rw [hp]
        have hxn : (Co.d x).noDict = true := hitems x hx
        rw [e]
        cases x with
        | int i =>
          by_cases h0 : i < 0
          · have h1 : ¬ 0 ≤ i := by omega
            simp [h0, okW, h1]
          · have h1 : 0 ≤ i := by omega
            by_cases h2 : 60 < i
            · have h3 : ¬ i ≤ 60 := by omega
              simp [h0, h2, h1, okW, h3]
            · have h3 : i ≤ 60 := by omega
              simp [h0, h2, h1, okW, h3]
        | dict kvs => cases hxn
        | _ => simp [okW]
      · simp
        refine (wp_ne_ints (l := ds.filter p) (f := fun _ => 1)).mpr ?_
        rw [isEmpty_filter]
        have e2 : (ds.all fun x => !p x) = ds.all okW := by
          rw [hp]
          congr 1
          funext x
          simp
        rw [e2]
        cases hall : ds.all okW with
        | false =>
          simp [wss_cons]
          exact ⟨by simp [shownB, hall], rfl⟩
        | true =>
          simp [wss_cons]
          refine hP.call fun φ hφ => ?_
          simp
          obtain ⟨h1, h2⟩ := okW_map hall
          have hsm := hs ds rfl hl hall
          have ok2 : WtSm w ms (ds.map unW) := ⟨⟨ok.web, ok.ms, by rw [List.length_map]; exact hl, h2, by have := ok.n; omega⟩, hsm, ok.n, ht⟩
          have q := hφ w ms (ds.map unW) ok2
          rw [show lotD (ds.map unW) = .tuple ds from congrArg PyData.tuple h1.symm] at q
          refine q.wp3 ?_
          have hB : 0 < bot3 (ds.map unW) w.2 := bot3_pos
          have e4 := mk_lt (T := top1 ms (ds.map unW).zipIdx * top3 (ds.map unW) w.2) hB
          have e5 : barB w ms (ds.map unW) = decide (top1 ms (ds.map unW).zipIdx * top3 (ds.map unW) w.2 < bot3 (ds.map unW) w.2) := rfl
          rw [← e4] at e5
          have e6 : shownB w ms (.tuple ds) = barB w ms (ds.map unW) := by simp [shownB, hall, hl]
          rw [e6, e5]
          generalize (top1 ms (ds.map unW).zipIdx * top3 (ds.map unW) w.2) = T at *
          generalize bot3 (ds.map unW) w.2 = B at *
          generalize mkRat T B = q at *
          simp [wss_cons]
          exact ⟨rfl, rfl⟩
    · have hl' : ¬ (ds.length : Int) = (w.1 : Int) := by omega
      simp [hl', wss_cons]
      exact ⟨by simp [shownB, hl], rfl⟩
  | dict kvs => cases hd'
  | _ => exact ⟨rfl, rfl⟩
def LikeBSp (φ : Fn) : Prop := ∀ b : Bool, Ev φ [.bool b, .bool b] (.bool true)
theorem shaped_pairs {b c : Bool} : SeqAt.shaped (.list [.tuple [.bool b, .bool c]]) = true := by cases b <;> cases c <;> decide
theorem like_b {Γ : Gam} : LikeBSp (den Γ 2 6 b_Llike) := by
  intro b
  refine den_run ⟨rfl, by decide⟩ ?_
  simp [b_Llike, initE, initS, wss_cons]
  obtain ⟨I, hI⟩ : ∃ I : Nat → Env → Store → Prop, I = fun i e T => ∃ (t3 t4 t5 : Option Sl), e = [some (.d (.bool b)), some (.d (.bool b)), some (.p 0), t3, t4, t5] ∧ ((i = 0 ∧ T = [.own (.lst [.tuple [.bool b, .bool b]])]) ∨ (i = 1 ∧ T = [.own (.lst [])])) := ⟨_, rfl⟩
  refine wp_for_rng I (by rw [hI]; exact ⟨none, none, none, rfl, .inl ⟨rfl, rfl⟩⟩) (fun i e T hi h => ?_) fun e T h => ?_
  · rw [hI] at h
    obtain ⟨t3, t4, t5, rfl, h⟩ := h
    rw [wp_forF (by rfl)]
    rcases h with ⟨rfl, rfl⟩ | ⟨rfl, rfl⟩
    · simp [wss_cons, wp_eq, shaped_pairs, eqv_nil]
      refine ⟨rfl, ?_⟩
      rw [hI]
      exact ⟨_, _, _, rfl, .inr ⟨rfl, rfl⟩⟩
    · simp [wss_cons, wp_eq, eqv_nil]
      exact ⟨rfl, rfl, rfl⟩
  · rw [hI] at h
    obtain ⟨t3, t4, t5, rfl, h⟩ := h
    rcases h with ⟨h, rfl⟩ | ⟨h, rfl⟩ <;> simp at h
end Th
end
section
set_option Elab.async false
set_option linter.all false
set_option maxRecDepth 100000
set_option maxHeartbeats 4000000
namespace Th
open PySem PySem.W
mutual
def plainB : D → Bool
  | .none => true
  | .bool _ => true
  | .int _ => true
  | .tuple ds => plainBs ds
  | _ => false
def plainBs : List D → Bool
  | [] => true
  | d :: ds => plainB d && plainBs ds
end
mutual
def nodesN : D → Nat
  | .tuple ds => 1 + nodesNs ds
  | _ => 1
def nodesNs : List D → Nat
  | [] => 0
  | d :: ds => nodesN d + nodesNs ds
end
mutual
theorem plain_can : ∀ d : D, plainB d = true → d.canLay0 = true
  | .none, _ => rfl
  | .bool _, _ => rfl
  | .int _, _ => rfl
  | .tuple ds, h => by unfold plainB at h; unfold PyData.canLay0; exact plains_can ds h
  | .str _, h => by cases h
  | .list _, h => by cases h
  | .dict _, h => by cases h
theorem plains_can : ∀ ds : List D, plainBs ds = true → PyData.canLayAll0 ds = true
  | [], _ => rfl
  | d :: ds, h => by
    unfold plainBs at h
    rw [Bool.and_eq_true] at h
    unfold PyData.canLayAll0
    rw [plain_can d h.1, plains_can ds h.2]; rfl
end
theorem plainBs_mem {ds : List D} (h : plainBs ds = true) : ∀ d ∈ ds, plainB d = true := by
  induction ds with
  | nil => simp
  | cons x xs ih =>
    unfold plainBs at h
    rw [Bool.and_eq_true] at h
    intro d hd
    rcases List.mem_cons.mp hd with rfl | hd
    · exact h.1
    · exact ih h.2 d hd
theorem depth_mem {ds : List D} {d : D} (h : d ∈ ds) : d.depth ≤ PyData.depthAll ds := by
  induction ds with
  | nil => simp at h
  | cons x xs ih =>
    unfold PyData.depthAll
    rcases List.mem_cons.mp h with rfl | h
    · exact Nat.le_max_left _ _
    · exact Nat.le_trans (ih h) (Nat.le_max_right _ _)
theorem depthAll_le {ds : List D} {c : Nat} (h : ∀ d ∈ ds, d.depth ≤ c) : PyData.depthAll ds ≤ c := by
  induction ds with
  | nil => exact Nat.zero_le _
  | cons x xs ih =>
    unfold PyData.depthAll
    exact Nat.max_le.mpr ⟨h x List.mem_cons_self, ih fun d hd => h d (List.mem_cons_of_mem _ hd)⟩
theorem canAll_of {ds : List D} (h : ∀ d ∈ ds, d.canLay0 = true) : PyData.canLayAll0 ds = true := by
  induction ds with
  | nil => rfl
  | cons x xs ih =>
    unfold PyData.canLayAll0
    rw [h x List.mem_cons_self, ih fun d hd => h d (List.mem_cons_of_mem _ hd)]; rfl
theorem nodesNs_append {xs ys : List D} : nodesNs (xs ++ ys) = nodesNs xs + nodesNs ys := by
  induction xs with
  | nil => simp [nodesNs]
  | cons x xs ih => simp only [List.cons_append, nodesNs, ih, Nat.add_assoc]
theorem nodes_pos (d : D) : 0 < nodesN d := by
  cases d <;> simp [nodesN] <;> omega
abbrev twinD (d : D) : D := .tuple [d, d]
theorem twin_shaped {ds : List D} (h : ∀ d ∈ ds, plainB d = true ∧ d.depth ≤ 40) : SeqAt.shaped (.list (ds.map twinD)) = true := by
  unfold SeqAt.shaped
  rw [Bool.and_eq_true]
  constructor
  · unfold PyData.canLay0
    refine canAll_of fun d hd => ?_
    obtain ⟨x, hx, rfl⟩ := List.mem_map.mp hd
    have := plain_can x (h x hx).1
    simp [PyData.canLay0, PyData.canLayAll0, this]
  · unfold PyData.depth
    refine decide_eq_true ?_
    have : PyData.depthAll (ds.map twinD) ≤ 41 := depthAll_le fun d hd => by
      obtain ⟨x, hx, rfl⟩ := List.mem_map.mp hd
      have := (h x hx).2
      simp [PyData.depth, PyData.depthAll]
      omega
    omega
theorem zip_twin : ∀ ds : List D, zipD ds ds = ds.map twinD
  | [] => rfl
  | d :: ds => by
    have := zip_twin ds
    unfold zipD at this ⊢
    rw [List.zipWith_cons_cons, this]; rfl
structure PlainD (d : D) : Prop where
  plain : plainB d = true
  depth : d.depth ≤ 40
  nodes : nodesN d ≤ 900000
def LikeSp (φ : Fn) : Prop := ∀ d : D, PlainD d → Ev φ [d, d] (.bool true)
theorem like_sp (Γ : Gam) : LikeSp (den Γ 2 6 b_Llike) := by
  intro d0 hp
  refine den_run ⟨rfl, by decide⟩ ?_
  simp [b_Llike, initE, initS, wss_cons]
  obtain ⟨I, hI⟩ : ∃ I : Nat → Env → Store → Prop, I = fun i e T => ∃ (t3 t4 t5 : Option Sl) (ds : List D), e = [some (.d d0), some (.d d0), some (.p 0), t3, t4, t5] ∧ T = [.own (.lst (ds.map twinD))] ∧ (∀ d ∈ ds, plainB d = true ∧ d.depth ≤ 40) ∧ nodesNs ds + i ≤ 900000 := ⟨_, rfl⟩
  refine wp_for_rng I (by rw [hI]; exact ⟨none, none, none, [d0], rfl, rfl, fun d hd => by rw [List.mem_singleton] at hd; subst hd; exact ⟨hp.plain, hp.depth⟩, by simp [nodesNs]; exact hp.nodes⟩) (fun i e T hi h => ?_) fun e T h => ?_
  · rw [hI] at h
    obtain ⟨t3, t4, t5, ds, rfl, rfl, hds, hn⟩ := h
    rw [wp_forF (by rfl)]
    have hsh := twin_shaped hds
    rcases List.eq_nil_or_concat ds with rfl | ⟨ds', d, rfl⟩
    · simp [wss_cons, wp_eq, eqv_nil]
      exact ⟨rfl, rfl, rfl⟩
    · rw [List.concat_eq_append] at hds hsh hn ⊢
      have hd := hds d (by simp)
      have hds' : ∀ d ∈ ds', plainB d = true ∧ d.depth ≤ 40 := fun d hd => hds d (List.mem_append_left _ hd)
      rw [nodesNs_append] at hn
      have hnd : nodesNs [d] = nodesN d := by simp [nodesNs]
      rw [hnd] at hn
      have hpos := nodes_pos d
      simp at hsh
      have h0 : SeqAt.shaped (.list []) = true := rfl
      have go : ∀ t4 t5 : Option Sl, I (i + 1) [some (.d d0), some (.d d0), some (.p 0), some (.d (.int (i : Int))), t4, t5] [.own (.lst (ds'.map twinD))] := fun t4 t5 => by
        rw [hI]
        exact ⟨_, t4, t5, ds', rfl, rfl, hds', by omega⟩
      simp [wss_cons, wp_eq, eqv_nil, hsh, h0]
      cases d with
      | none => simp; exact go _ _
      | bool b => simp; exact go _ _
      | int j => simp [wss_cons]; exact go _ _
      | tuple es =>
        simp [wss_cons]
        rw [zip_twin]
        have hn2 : nodesN (.tuple es) = 1 + nodesNs es := by simp [nodesN]
        have hes : ∀ d ∈ es, plainB d = true ∧ d.depth ≤ 40 := fun d hdm => by
          have h1 := hd.1
          unfold plainB at h1
          refine ⟨plainBs_mem h1 d hdm, ?_⟩
          have h2 := hd.2
          unfold PyData.depth at h2
          have := depth_mem hdm
          omega
        have hlen : ∀ l : List D, l.length ≤ nodesNs l := fun l => by
          induction l with
          | nil => simp
          | cons x xs ih => have := nodes_pos x; simp [nodesNs]; omega
        have l1 := hlen ds'
        have l2 := hlen es
        simp [szL_eq]
        refine ⟨by omega, ?_⟩
        rw [hI]
        refine ⟨some (.d (.int (i : Int))), some (.d (.tuple es)), some (.d (.tuple es)), ds' ++ es, rfl, by simp, fun d hdm => ?_, ?_⟩
        · rcases List.mem_append.mp hdm with hdm | hdm
          · exact hds' d hdm
          · exact hes d hdm
        · rw [nodesNs_append]; omega
      | str x => cases hd.1
      | list xs => cases hd.1
      | dict kvs => cases hd.1
  · rw [hI] at h
    obtain ⟨t3, t4, t5, ds, rfl, rfl, hds, hn⟩ := h
    have : ((1000000 : Int) - 0).toNat = 1000000 := by omega
    omega
end Th
end
section
set_option Elab.async false
set_option linter.all false
set_option maxRecDepth 100000
set_option maxHeartbeats 4000000
namespace Th
open PySem PySem.W
def subl : List Nat → List (List Nat)
  | [] => [[]]
  | x :: xs => subl xs ++ (subl xs).map fun l => x :: l
theorem subl_sub : ∀ {L A : List Nat}, A ∈ subl L → A.Sublist L
  | [], A, h => by
    rw [subl, List.mem_singleton] at h
    subst h; exact List.Sublist.refl _
  | x :: xs, A, h => by
    rw [subl, List.mem_append] at h
    rcases h with h | h
    · exact (subl_sub h).trans (List.sublist_cons_self _ _)
    · obtain ⟨l, hl, rfl⟩ := List.mem_map.mp h
      exact (subl_sub hl).cons_cons x
section
variable {α β : Type} {f g : α → Rat} {l : List α}
theorem sumL_congr (h : ∀ x ∈ l, f x = g x) : sumL f l = sumL g l := by
  induction l with
  | nil => rfl
  | cons x xs ih => rw [sumL, sumL, h x List.mem_cons_self, ih fun y hy => h y (List.mem_cons_of_mem _ hy)]
theorem sumL_add : sumL (fun x => f x + g x) l = sumL f l + sumL g l := by
  induction l with
  | nil => simp [sumL, Rat.add_zero]
  | cons x xs ih => rw [sumL, sumL, sumL, ih]; grind
theorem sumL_mul {c : Rat} : sumL (fun x => c * f x) l = c * sumL f l := by
  induction l with
  | nil => simp [sumL]
  | cons x xs ih => rw [sumL, sumL, ih]; grind
theorem sumL_map {h : β → α} {m : List β} : sumL f (m.map h) = sumL (fun x => f (h x)) m := by
  induction m with
  | nil => rfl
  | cons x xs ih => rw [List.map_cons, sumL, sumL, ih]
theorem sumL_zero : sumL (fun _ : α => (0 : Rat)) l = 0 := by
  induction l with
  | nil => rfl
  | cons x xs ih => rw [sumL, ih]; simp [Rat.add_zero]
theorem sumL_swap {F : α → β → Rat} {m : List β} : sumL (fun x => sumL (fun y => F x y) m) l = sumL (fun y => sumL (fun x => F x y) l) m := by
  induction l with
  | nil => simp [sumL, sumL_zero]
  | cons x xs ih => rw [sumL, ih, ← sumL_add]; rfl
theorem sumL_nonneg (h : ∀ x ∈ l, 0 ≤ f x) : 0 ≤ sumL f l := by
  induction l with
  | nil => exact Rat.le_refl
  | cons x xs ih =>
    rw [sumL]
    exact Rat.add_nonneg (h x List.mem_cons_self) (ih fun y hy => h y (List.mem_cons_of_mem _ hy))
theorem prodL_congr (h : ∀ x ∈ l, f x = g x) : prodL f l = prodL g l := by
  induction l with
  | nil => rfl
  | cons x xs ih => rw [prodL, prodL, h x List.mem_cons_self, ih fun y hy => h y (List.mem_cons_of_mem _ hy)]
theorem prodL_zero {x : α} (h : x ∈ l) (h0 : f x = 0) : prodL f l = 0 := by
  induction l with
  | nil => simp at h
  | cons y ys ih =>
    rw [prodL]
    rcases List.mem_cons.mp h with rfl | h
    · rw [h0]; simp
    · rw [ih h]; simp
theorem prodL_nonneg (h : ∀ x ∈ l, 0 ≤ f x) : 0 ≤ prodL f l := by
  induction l with
  | nil => show (0 : Rat) ≤ 1; decide
  | cons x xs ih =>
    rw [prodL]
    exact Rat.mul_nonneg (h x List.mem_cons_self) (ih fun y hy => h y (List.mem_cons_of_mem _ hy))
end
theorem sum_double {f : Nat → Rat} : ∀ n, sumL f (List.range (2 * n)) = sumL (fun j => f (2 * j) + f (2 * j + 1)) (List.range n)
  | 0 => rfl
  | n + 1 => by
    have e : 2 * (n + 1) = 2 * n + 1 + 1 := by omega
    rw [e, List.range_succ, List.range_succ, sumL_snoc, sumL_snoc, sum_double n, List.range_succ, sumL_snoc]
    grind
theorem sel_even {j x : Nat} {xs : List Nat} : sel (2 * j) (x :: xs) = sel j xs ∧ sel (2 * j + 1) (x :: xs) = x :: sel j xs := by
  have key : ∀ (p q : Nat) (ys : List Nat) (s : Nat), (∀ i, p.testBit (s + 1 + i) = q.testBit (s + i)) → ((ys.zipIdx (s + 1)).filter fun r => p.testBit r.2).map (·.1) = ((ys.zipIdx s).filter fun r => q.testBit r.2).map (·.1) := by
    intro p q ys
    induction ys with
    | nil => intro s _; rfl
    | cons y ys ih =>
      intro s h
      have h0 := h 0
      have hr := ih (s + 1) fun i => by
        have := h (i + 1)
        have e1 : s + 1 + 1 + i = s + 1 + (i + 1) := by omega
        have e2 : s + 1 + i = s + (i + 1) := by omega
        rw [e1, e2]; exact this
      simp only [Nat.add_zero] at h0
      rw [List.zipIdx_cons, List.zipIdx_cons, List.filter_cons, List.filter_cons]
      simp only [h0]
      split
      · rw [List.map_cons, List.map_cons, hr]
      · exact hr
  unfold sel
  rw [List.zipIdx_cons, List.filter_cons]
  constructor
  · have h0 : (2 * j).testBit 0 = false := by simp [Nat.testBit_zero]
    simp only [h0, Bool.false_eq_true, if_false]
    refine key (2 * j) j xs 0 fun i => ?_
    rw [Nat.zero_add, Nat.zero_add, Nat.add_comm 1 i, Nat.testBit_succ]
    congr 1
    omega
  · rw [List.filter_cons]
    have h0 : (2 * j + 1).testBit 0 = true := by simp [Nat.testBit_zero]
    simp only [h0, if_true, List.map_cons]
    congr 1
    refine key (2 * j + 1) j xs 0 fun i => ?_
    rw [Nat.zero_add, Nat.zero_add, Nat.add_comm 1 i, Nat.testBit_succ]
    congr 1
    omega
theorem sel_sum {f : List Nat → Rat} : ∀ L : List Nat, sumL (fun place => f (sel place L)) (List.range (2 ^ L.length)) = sumL f (subl L)
  | [] => by
    show f (sel 0 []) + 0 = f [] + 0
    rfl
  | x :: xs => by
    rw [List.length_cons, Nat.pow_succ, Nat.mul_comm, sum_double, subl, sumL_append, sumL_map, ← sumL_add, ← sel_sum xs]
    refine sumL_congr fun j _ => ?_
    rw [sel_even.1, sel_even.2]
theorem altS_subl {w : Web} {ps : List Rat} {L : List Nat} : altS w ps L = sumL (fun A => if apartB w A = true then part ps A else 0) (subl L) :=
  sel_sum (f := fun A => if apartB w A = true then part ps A else 0) L
abbrev Dial := List Nat × (Nat → Rat)
def yv (d : Dial) (h : Nat) : Rat := if h ∈ d.1 then d.2 h else 1
def chn (ds : List Dial) (h : Nat) : Rat := prodL (fun d => yv d h) ds
def termC (c : Nat → Rat) (ds : List Dial) (A : List Nat) : Rat := prodL (fun h => -(c h * chn ds h)) A
def sumC (w : Web) (L : List Nat) (c : Nat → Rat) (ds : List Dial) : Rat := sumL (fun A => if apartB w A = true then termC c ds A else 0) (subl L)
def c0 (lot : List Nat) (c : Nat → Rat) (h : Nat) : Rat := if h ∈ lot then 0 else c h
def cg (lot : List Nat) (g : Nat) (c : Nat → Rat) (h : Nat) : Rat := if h ∈ lot ∧ h ≠ g then 0 else c h
structure DialOk (d : Dial) : Prop where
  nd : d.1.Nodup
  pos : ∀ h ∈ d.1, 0 ≤ d.2 h
  sum : sumL d.2 d.1 ≤ 1
theorem prodL_scale {f f' : Nat → Rat} {k : Rat} {g : Nat} : ∀ {A : List Nat}, A.Nodup → g ∈ A → (∀ h ∈ A, h ≠ g → f h = f' h) → f g = k * f' g → prodL f A = k * prodL f' A
  | [], _, h, _, _ => by simp at h
  | x :: xs, nd, hg, hf, hk => by
    rw [List.nodup_cons] at nd
    rw [prodL, prodL]
    by_cases hx : x = g
    · subst hx
      have e : prodL f xs = prodL f' xs := prodL_congr fun h hh => hf h (List.mem_cons_of_mem _ hh) fun z => nd.1 (by rw [← z]; exact hh)
      rw [e, hk]; grind
    · have hg' : g ∈ xs := by
        rcases List.mem_cons.mp hg with z | z
        · exact absurd z.symm hx
        · exact z
      rw [hf x List.mem_cons_self hx, prodL_scale nd.2 hg' (fun h hh => hf h (List.mem_cons_of_mem _ hh)) hk]; grind
theorem sumL_pick {x : Nat → Rat} {T : Rat} {g : Nat} : ∀ {l : List Nat}, l.Nodup → g ∈ l → sumL (fun h => x h * (if h = g then T else 0)) l = x g * T
  | [], _, h => by simp at h
  | y :: ys, nd, hg => by
    rw [List.nodup_cons] at nd
    rw [sumL]
    by_cases hy : y = g
    · subst hy
      have e : sumL (fun h => x h * (if h = y then T else 0)) ys = 0 := by
        refine Eq.trans (sumL_congr fun h hh => ?_) (sumL_zero (l := ys))
        rw [if_neg fun z => nd.1 (by rw [← z]; exact hh)]; grind
      rw [e, if_pos rfl]; grind
    · have hg' : g ∈ ys := by
        rcases List.mem_cons.mp hg with z | z
        · exact absurd z.symm hy
        · exact z
      rw [sumL_pick nd.2 hg', if_neg hy]; grind
theorem apart_one {w : Web} {A lot : List Nat} (ha : apartB w A = true) (hl : lot ∈ w.2) {h g : Nat} (h1 : h ∈ A) (h2 : g ∈ A) (h3 : h ∈ lot) (h4 : g ∈ lot) : h = g := by
  have key : ∀ a b : Nat, a ∈ A → b ∈ A → a ∈ lot → b ∈ lot → ¬ a < b := by
    intro a b ha1 hb1 ha2 hb2 hlt
    unfold apartB at ha
    rw [List.all_eq_true] at ha
    have q := ha a ha1
    rw [List.all_eq_true] at q
    have q2 := q b hb1
    have t : touchB w a b = true := by
      unfold touchB
      rw [Bool.or_eq_true]
      right
      rw [List.any_eq_true]
      exact ⟨lot, hl, by simp [ha2, hb2]⟩
    rw [t] at q2
    simp at q2
    omega
  have := key h g h1 h2 h3 h4
  have := key g h h2 h1 h4 h3
  omega
theorem term_split {w : Web} {A : List Nat} {c : Nat → Rat} {d : Dial} {ds : List Dial} (nd : A.Nodup) (ok : DialOk d) (ha : apartB w A = true) (hl : d.1 ∈ w.2) :
    termC c (d :: ds) A = (1 - sumL d.2 d.1) * termC (c0 d.1 c) ds A + sumL (fun g => d.2 g * termC (cg d.1 g c) ds A) d.1 := by
  by_cases hx : ∃ g ∈ A, g ∈ d.1
  · obtain ⟨g, hgA, hgl⟩ := hx
    have one : ∀ h ∈ A, h ≠ g → h ∉ d.1 := fun h hh hne hhl => hne (apart_one ha hl hh hgA hhl hgl)
    have e1 : termC c (d :: ds) A = d.2 g * termC c ds A := by
      refine prodL_scale nd hgA (fun h hh hne => ?_) ?_
      · show -(c h * (yv d h * chn ds h)) = -(c h * chn ds h)
        have : yv d h = 1 := if_neg (one h hh hne)
        rw [this]; grind
      · show -(c g * (yv d g * chn ds g)) = d.2 g * -(c g * chn ds g)
        have : yv d g = d.2 g := if_pos hgl
        rw [this]; grind
    have e2 : termC (c0 d.1 c) ds A = 0 := prodL_zero hgA (by show -(c0 d.1 c g * chn ds g) = 0; unfold c0; rw [if_pos hgl]; grind)
    have e3 : sumL (fun h => d.2 h * termC (cg d.1 h c) ds A) d.1 = sumL (fun h => d.2 h * (if h = g then termC c ds A else 0)) d.1 := by
      refine sumL_congr fun h hh => ?_
      by_cases hhg : h = g
      · rw [if_pos hhg]
        congr 1
        refine prodL_congr fun k hk => ?_
        have : cg d.1 h c k = c k := by
          unfold cg
          by_cases hkg : k = g
          · rw [if_neg (fun z => z.2 (by rw [hkg, hhg]))]
          · rw [if_neg (fun z => one k hk hkg z.1)]
        rw [this]
      · rw [if_neg hhg]
        have : termC (cg d.1 h c) ds A = 0 := prodL_zero hgA (by
          show -(cg d.1 h c g * chn ds g) = 0
          unfold cg
          rw [if_pos ⟨hgl, fun z => hhg z.symm⟩]; grind)
        rw [this]
    rw [e1, e2, e3, sumL_pick ok.nd hgl]; grind
  · have none : ∀ h ∈ A, h ∉ d.1 := fun h hh hhl => hx ⟨h, hh, hhl⟩
    have e1 : termC c (d :: ds) A = termC c ds A := by
      refine prodL_congr fun h hh => ?_
      show -(c h * (yv d h * chn ds h)) = -(c h * chn ds h)
      have : yv d h = 1 := if_neg (none h hh)
      rw [this]; grind
    have e2 : termC (c0 d.1 c) ds A = termC c ds A := by
      refine prodL_congr fun h hh => ?_
      have : c0 d.1 c h = c h := if_neg (none h hh)
      rw [this]
    have e3 : sumL (fun g => d.2 g * termC (cg d.1 g c) ds A) d.1 = termC c ds A * sumL d.2 d.1 := by
      rw [← sumL_mul]
      refine sumL_congr fun g _ => ?_
      have : termC (cg d.1 g c) ds A = termC c ds A := by
        refine prodL_congr fun h hh => ?_
        have : cg d.1 g c h = c h := if_neg fun z => none h hh z.1
        rw [this]
      rw [this]; grind
    rw [e1, e2, e3]; grind
theorem sumC_split {w : Web} {L : List Nat} {c : Nat → Rat} {d : Dial} {ds : List Dial} (nd : L.Nodup) (ok : DialOk d) (hl : d.1 ∈ w.2) :
    sumC w L c (d :: ds) = (1 - sumL d.2 d.1) * sumC w L (c0 d.1 c) ds + sumL (fun g => d.2 g * sumC w L (cg d.1 g c) ds) d.1 := by
  unfold sumC
  have e : sumL (fun g => d.2 g * sumL (fun A => if apartB w A = true then termC (cg d.1 g c) ds A else 0) (subl L)) d.1
      = sumL (fun A => sumL (fun g => d.2 g * (if apartB w A = true then termC (cg d.1 g c) ds A else 0)) d.1) (subl L) := by
    rw [← sumL_swap]
    exact sumL_congr fun g _ => sumL_mul.symm
  rw [e, ← sumL_mul, ← sumL_add]
  refine sumL_congr fun A hA => ?_
  cases ha : apartB w A with
  | true => simp only [if_true]; exact term_split (nd.sublist (subl_sub hA)) ok ha hl
  | false =>
    simp only [Bool.false_eq_true, if_false]
    have : sumL (fun g => d.2 g * (0 : Rat)) d.1 = 0 := by
      exact Eq.trans (sumL_congr fun _ _ => by grind) (sumL_zero (l := d.1))
    rw [this]; grind
theorem sum_signs {c : Nat → Rat} : ∀ L : List Nat, sumL (fun A => prodL (fun h => -(c h)) A) (subl L) = prodL (fun h => 1 - c h) L
  | [] => by simp [subl, sumL, prodL, Rat.add_zero]
  | x :: xs => by
    rw [subl, sumL_append, sumL_map, prodL, ← sum_signs xs]
    have : sumL (fun A => prodL (fun h => -(c h)) (x :: A)) (subl xs) = -(c x) * sumL (fun A => prodL (fun h => -(c h)) A) (subl xs) := by
      rw [← sumL_mul]; rfl
    rw [this]; grind
theorem dials_pos {w : Web} {L : List Nat} (nd : L.Nodup) : ∀ (ds : List Dial) (c : Nat → Rat), (∀ d ∈ ds, DialOk d ∧ d.1 ∈ w.2) → (∀ h, 0 ≤ c h ∧ c h ≤ 1) →
    (∀ lot ∈ w.2, (∃ d ∈ ds, d.1 = lot) ∨ ∀ h ∈ lot, ∀ g ∈ lot, h ≠ g → c h = 0 ∨ c g = 0) → 0 ≤ sumC w L c ds
  | [], c, _, h01, hlot => by
    have e : sumC w L c [] = prodL (fun h => 1 - c h) L := by
      rw [← sum_signs]
      unfold sumC
      refine sumL_congr fun A hA => ?_
      have et : termC c [] A = prodL (fun h => -(c h)) A := prodL_congr fun h _ => by show -(c h * 1) = -(c h); grind
      cases ha : apartB w A with
      | true => simp only [if_true]; exact et
      | false =>
        simp only [Bool.false_eq_true, if_false]
        have : ∃ a ∈ A, ∃ b ∈ A, a < b ∧ touchB w a b = true := by
          refine Classical.byContradiction fun hn => ?_
          have : apartB w A = true := List.all_eq_true.mpr fun a ha1 => List.all_eq_true.mpr fun b hb1 => by
            cases ht : (decide (a < b) && touchB w a b) with
            | false => rfl
            | true =>
              rw [Bool.and_eq_true] at ht
              exact absurd ⟨a, ha1, b, hb1, of_decide_eq_true ht.1, ht.2⟩ hn
          rw [this] at ha
          cases ha
        obtain ⟨a, ha1, b, hb1, hlt, ht⟩ := this
        unfold touchB at ht
        rw [Bool.or_eq_true] at ht
        rcases ht with ht | ht
        · have := of_decide_eq_true ht; omega
        · rw [List.any_eq_true] at ht
          obtain ⟨lot, hl, hab⟩ := ht
          simp at hab
          rcases hlot lot hl with ⟨d, hd, _⟩ | q
          · simp at hd
          · rcases q a hab.1 b hab.2 (by omega) with z | z
            · exact (prodL_zero ha1 (by rw [z]; grind)).symm
            · exact (prodL_zero hb1 (by rw [z]; grind)).symm
    rw [e]
    refine prodL_nonneg fun h _ => ?_
    have := h01 h
    grind
  | d :: ds, c, hds, h01, hlot => by
    obtain ⟨ok, hl⟩ := hds d List.mem_cons_self
    rw [sumC_split nd ok hl]
    have rest : ∀ c' : Nat → Rat, (∀ h, c' h = 0 ∨ c' h = c h) → (∀ h ∈ d.1, ∀ g ∈ d.1, h ≠ g → c' h = 0 ∨ c' g = 0) → 0 ≤ sumC w L c' ds := by
      intro c' h1 h2
      refine dials_pos nd ds c' (fun d' hd' => hds d' (List.mem_cons_of_mem _ hd')) (fun h => ?_) fun lot hlw => ?_
      · rcases h1 h with z | z
        · rw [z]; grind
        · rw [z]; exact h01 h
      · rcases hlot lot hlw with ⟨d', hd', e⟩ | q
        · rcases List.mem_cons.mp hd' with rfl | hd'
          · rw [← e]; exact .inr h2
          · exact .inl ⟨d', hd', e⟩
        · refine .inr fun h hh g hg hne => ?_
          rcases q h hh g hg hne with z | z
          · rcases h1 h with y | y
            · exact .inl y
            · rw [y]; exact .inl z
          · rcases h1 g with y | y
            · exact .inr y
            · rw [y]; exact .inr z
    refine Rat.add_nonneg (Rat.mul_nonneg (by have := ok.sum; grind) (rest _ (fun h => ?_) fun h hh g hg _ => ?_)) (sumL_nonneg fun g hg => Rat.mul_nonneg (ok.pos g hg) (rest _ (fun h => ?_) fun h hh k hk hne => ?_))
    · unfold c0; split <;> simp
    · unfold c0; rw [if_pos hh]; exact .inl rfl
    · unfold cg; split <;> simp
    · by_cases hhg : h = g
      · right; unfold cg; rw [if_pos ⟨hk, fun z => hne (by rw [hhg, z])⟩]
      · left; unfold cg; rw [if_pos ⟨hh, hhg⟩]
theorem alt_dials {w : Web} {ps : List Rat} {L : List Nat} {ds : List Dial} {c : Nat → Rat} (nd : L.Nodup) (hd : ∀ d ∈ ds, DialOk d) (hw : ds.map (·.1) = w.2) (hc : ∀ h, 0 ≤ c h ∧ c h ≤ 1) (hp : ∀ h ∈ L, ps.getD h 0 = c h * chn ds h) : 0 ≤ altS w ps L := by
  have e : altS w ps L = sumC w L c ds := by
    rw [altS_subl]
    refine sumL_congr fun A hA => ?_
    have : part ps A = termC c ds A := prodL_congr fun h hh => by rw [hp h ((subl_sub hA).subset hh)]
    rw [this]
  rw [e]
  refine dials_pos nd ds c (fun d hd' => ⟨hd d hd', by rw [← hw]; exact List.mem_map.mpr ⟨d, hd', rfl⟩⟩) hc fun lot hl => ?_
  rw [← hw] at hl
  obtain ⟨d, hd', e⟩ := List.mem_map.mp hl
  exact .inl ⟨d, hd', e⟩
theorem no_fault {w : Web} {ms : List Nat} {ds : List Dial} (hm : MkOk w.1 ms) (hd : ∀ d ∈ ds, DialOk d) (hw : ds.map (·.1) = w.2) (hs : ∀ h, h < w.1 → inv (ms.getD h 0) ≤ chn ds h) : faultM w ms = none := by
  have hpos : ∀ h, h < w.1 → 0 < ms.getD h 0 := fun h hh => by
    have hl : h < ms.length := by rw [hm.1]; exact hh
    rw [List.getD_eq_getElem?_getD, List.getElem?_eq_getElem hl]
    exact (hm.2 _ (List.getElem_mem hl)).1
  have ipos : ∀ m : Nat, 0 < m → 0 < inv m := fun m h => by
    unfold inv
    rw [Rat.mkRat_eq_div]
    have : (0 : Rat) < (m : Rat) := by exact_mod_cast h
    rw [Rat.div_def]
    exact Rat.mul_pos (by decide) (Rat.inv_pos.mpr this)
  refine find_none fun L hL => decide_eq_false (Rat.not_lt.mpr ?_)
  have hsub := lots_ok hL
  refine alt_dials (c := fun h => if h < w.1 then inv (ms.getD h 0) * (chn ds h)⁻¹ else 0) (List.nodup_range.sublist hsub) hd hw (fun h => ?_) fun h hh => ?_
  · by_cases hh : h < w.1
    · simp only [hh, if_true]
      have h1 := ipos _ (hpos h hh)
      have h2 := hs h hh
      have h3 : 0 < chn ds h := by grind
      have h4 : 0 < (chn ds h)⁻¹ := Rat.inv_pos.mpr h3
      have h5 : chn ds h * (chn ds h)⁻¹ = 1 := Rat.mul_inv_cancel _ (by grind)
      refine ⟨Rat.mul_nonneg (by grind) (by grind), ?_⟩
      rw [← h5]
      exact Rat.mul_le_mul_of_nonneg_right h2 (by grind)
    · simp only [hh, if_false]
      grind
  · have hlt : h < w.1 := List.mem_range.mp (hsub.subset hh)
    simp only [hlt, if_true]
    have hl : h < ms.length := by rw [hm.1]; exact hlt
    have e : (ms.map inv).getD h 0 = inv (ms.getD h 0) := by
      rw [List.getD_eq_getElem?_getD, List.getD_eq_getElem?_getD, List.getElem?_map, List.getElem?_eq_getElem hl]; rfl
    rw [e]
    have h1 := ipos _ (hpos h hlt)
    have h2 := hs h hlt
    have h3 : 0 < chn ds h := by grind
    rw [Rat.mul_assoc, Rat.inv_mul_cancel _ (by grind), Rat.mul_one]
end Th
end
section
set_option Elab.async false
set_option linter.all false
set_option maxRecDepth 100000
set_option maxHeartbeats 4000000
namespace Th
open PySem PySem.W
theorem idx_lot {ns : List Nat} {h : Nat} (hh : h ∈ ns) : idxD (ns.map nD) (nD h) = some (ns.idxOf h) := by
  unfold idxD
  induction ns with
  | nil => simp at hh
  | cons n ns ih =>
    rw [List.map_cons, List.findIdx?_cons]
    by_cases e : n = h
    · subst e
      simp [PyData.eqv]
    · have e1 : PyData.eqv (nD n) (nD h) = false := by
        have : ¬ (n : Int) = h := by omega
        simp [PyData.eqv, this]
      have e2 : h ∈ ns := by
        rcases List.mem_cons.mp hh with z | z
        · exact absurd z.symm e
        · exact z
      rw [e1]
      simp only [Bool.false_eq_true, if_false]
      rw [ih e2, List.idxOf_cons, (show (n == h) = false from by simp [e])]
      rfl
section
variable {S : Store} {R : RV → Store → Prop} {Q : List D × List Nat → Store → Prop} {xs ys : List D} {k : Nat}
theorem wp_index {ns : List Nat} {h : Nat} (hh : h ∈ ns) : Wp (meOp .index (.imm (lotD ns)) [.imm (nD h)]) S R ↔ R (.imm (nD (ns.idxOf h))) S := by
  unfold meOp
  have h1 : flatD (nD h) = true := rfl
  simp only [wp_bind, wp_co_imm, co_items_t, wp_lift_some, co_dat_d, wp_chk, all_flat_nat, idx_lot hh, wp_pure, h1]
  simp
def zipQ (xs : List D) (k : Nat) (Q : List D × List Nat → Store → Prop) (S : Store) : Option Ent → Prop
  | some (.own (.lst ys)) => Q (zipD xs ys, [k]) S
  | some (.frz (.list ys)) => Q (zipD xs ys, [k]) S
  | some (.frz (.tuple ys)) => Q (zipD xs ys, [k]) S
  | _ => False
@[simp] theorem zipQ_own : zipQ xs k Q S (some (.own (.lst ys))) = Q (zipD xs ys, [k]) S := rfl
@[simp] theorem wp_zip_tp : Wp (zipOp (.imm (.tuple xs)) (.ptr k)) S Q ↔ zipQ xs k Q S S[k]? := by
  unfold zipOp itemsOf
  simp only [wp_bind, wp_co_imm, co_items_t, wp_lift_some, wp_co_ptr]
  cases h : S[k]? with
  | none => exact Iff.rfl
  | some e =>
    rw [coQ_some]
    cases e with
    | own o => cases o <;> simp [zipQ, chks]
    | frz d => cases d <;> simp [zipQ, chks]
@[simp] theorem wp_zip_tl : Wp (zipOp (.imm (.tuple xs)) (.imm (.list ys))) S Q ↔ Q (zipD xs ys, []) S := by unfold zipOp itemsOf; simp; rfl
theorem zip_lots {as bs : List (List Nat)} : zipD (as.map lotD) (bs.map lotD) = (as.zip bs).map fun p => pairD (lotD p.1) (lotD p.2) := by
  unfold zipD
  rw [List.zipWith_map, List.zip_eq_zipWith, List.map_zipWith]
end
def topR (h : Nat) (l : List (List Nat × List Nat)) : Nat := prodN (fun p => if h ∈ p.1 then p.2.getD (p.1.idxOf h) 0 else 1) l
def botR (bottom h : Nat) (l : List (List Nat × List Nat)) : Nat := prodN (fun p => if h ∈ p.1 then bottom else 1) l
def servB (w : Web) (ms : List Nat) (rows : List (List Nat)) (bottom h : Nat) : Bool := decide (botR bottom h (w.2.zip rows) ≤ ms.getD h 0 * topR h (w.2.zip rows))
def RowsOk (bottom : Nat) (l : List (List Nat × List Nat)) : Prop := ∀ p ∈ l, p.2.length = p.1.length ∧ ∀ x ∈ p.2, 0 < x ∧ x ≤ bottom
def ServedSp (φ : Fn) : Prop := ∀ (w : Web) (ms : List Nat) (rows : List (List Nat)) (bottom h : Nat) (a : Arg) (o : Store), SeqA a (rows.map lotD) o → h < ms.length → bottom ≤ 1000 → RowsOk bottom (w.2.zip rows) →
  Rn φ [.imm (webD w), .imm (lotD ms), a, .imm (nD bottom), .imm (nD h)] fun r o' => r = .imm (.bool (servB w ms rows bottom h)) ∧ o' = o
theorem served_sp (Γ : Gam) : ServedSp (den Γ 5 9 b_is_served) := by
  intro w ms rows bottom h a o hs hh hb hr
  refine den_run ⟨rfl, by decide⟩ ?_
  obtain ⟨P, hP⟩ : ∃ P : RV → Store → Prop, P = fun r o' => r = .imm (.bool (servB w ms rows bottom h)) ∧ o' = o := ⟨_, rfl⟩
  rw [← hP]
  have e1 := at_lot (ns := ms) (k := h) hh
  have core : ∀ (s2 : Sl) (ks : List Nat) (S1 : Store) (m : Nat), S1.take m = o → Wp (forL (forF Γ (.tup [.name 7, .name 8]) [MS.ifs (.cmp .inn (.var 4) (.var 7)) [.par [5, 6] [(.bin .mul (.var 5) (.sub (.var 8) (.met .index (.var 7) [(.var 4)]))), (.bin .mul (.var 6) (.var 3))]] []]) ks S1 ((w.2.zip rows).map fun p => pairD (lotD p.1) (lotD p.2))
      [some (.d (webD w)), some (.d (lotD ms)), some s2, some (.d (nD bottom)), some (.d (nD h)), some (.d (nD (ms.getD h 0))), some (.d (nD 1)), none, none]) S1 (aft Γ [.ret (.cmp .ge (.var 5) (.var 6))] (finQ m P)) := by
    intro s2 ks S1 m hS1
    obtain ⟨I, hI⟩ : ∃ I : List (List Nat × List Nat) → Env → Store → Prop, I = fun l e T => ∃ t7 t8 : Option Sl, e = [some (.d (webD w)), some (.d (lotD ms)), some s2, some (.d (nD bottom)), some (.d (nD h)), some (.d (nD (ms.getD h 0 * topR h l))), some (.d (nD (botR bottom h l))), t7, t8] ∧ T = S1 := ⟨_, rfl⟩
    refine wp_for I (by rw [hI]; exact ⟨none, none, by simp [topR, botR, prodN], rfl⟩) (fun l y r e T he hh => ?_) fun e T hh => ?_
    · rw [hI] at hh
      obtain ⟨t7, t8, rfl, rfl⟩ := hh
      obtain ⟨h1, h2⟩ := hr y (by rw [he]; simp)
      rw [wp_forF (by rfl)]
      have add : ∀ (a b : Nat) (t7 t8 : Option Sl), a = ms.getD h 0 * topR h (l ++ [y]) → b = botR bottom h (l ++ [y]) → I (l ++ [y]) [some (.d (webD w)), some (.d (lotD ms)), some s2, some (.d (nD bottom)), some (.d (nD h)), some (.d (nD a)), some (.d (nD b)), t7, t8] T := fun a b t7 t8 ha hb => by
        rw [hI]
        exact ⟨t7, t8, by rw [ha, hb], rfl⟩
      unfold topR botR at add
      rw [prodN_snoc, prodN_snoc] at add
      by_cases hin : h ∈ y.1
      · simp only [hin, if_true] at add
        have hidx : y.1.idxOf h < y.2.length := by rw [h1]; exact List.idxOf_lt_length_iff.mpr hin
        have e2 := at_lot (ns := y.2) (k := y.1.idxOf h) hidx
        have hle : y.2.getD (y.1.idxOf h) 0 ≤ bottom := by
          rw [List.getD_eq_getElem?_getD, List.getElem?_eq_getElem hidx]
          exact (h2 _ (List.getElem_mem hidx)).2
        have m1 : ∀ a : Int, mulOk a ((y.2[y.1.idxOf h]?.getD 0 : Nat) : Int) := fun a => mulOk_r (by rw [← List.getD_eq_getElem?_getD]; omega)
        have m2 : ∀ a : Int, mulOk a (bottom : Int) := fun a => mulOk_r (by omega)
        have this := add _ _ (some (.d (lotD y.1))) (some (.d (lotD y.2))) rfl rfl
        rw [← Nat.mul_assoc] at this
        simp only [List.getD_eq_getElem?_getD, nD, Int.natCast_mul] at this
        simp [wss_cons, wp_in_lot, hin, wp_index]
        simp [e2]
        refine ⟨m1 _, m2 _, ?_⟩
        simpa [nD, topR, botR] using this
      · simp only [hin, if_false, Nat.mul_one] at add
        have this := add _ _ (some (.d (lotD y.1))) (some (.d (lotD y.2))) rfl rfl
        simp [wss_cons, wp_in_lot, hin]
        simpa [nD, topR, botR] using this
    · rw [hI] at hh
      obtain ⟨t7, t8, rfl, rfl⟩ := hh
      simp [wss_cons]
      rw [hP, hS1]
      refine ⟨?_, rfl⟩
      unfold servB
      simp only [List.getD_eq_getElem?_getD]
      congr 2
      refine decide_eq_decide.mpr ?_
      rw [← Int.natCast_mul]
      exact Int.ofNat_le
  simp only [List.getD_eq_getElem?_getD] at core
  cases hs with
  | lst =>
    simp [b_is_served, initE, initS, wss_cons, e1]
    rw [zip_lots]
    exact core (m := 1) _ _ _ rfl
  | dl =>
    simp [b_is_served, initE, initS, wss_cons, e1]
    rw [zip_lots]
    exact core (m := 0) _ _ _ rfl
  | dt =>
    simp [b_is_served, initE, initS, wss_cons, e1]
    rw [zip_lots]
    exact core (m := 0) _ _ _ rfl
def spStep (bottom many i : Nat) (l : List (List Nat)) : List (List Nat) := l.flatMap fun row => (List.range' 1 (bottom - row.sum - (many - i - 1))).map fun n => row ++ [n]
def spUp (bottom many : Nat) : Nat → List (List Nat)
  | 0 => [[]]
  | i + 1 => spStep bottom many i (spUp bottom many i)
def spl (many bottom : Nat) : List (List Nat) := spUp bottom many many
theorem spStep_length {bottom many i : Nat} {l : List (List Nat)} : (spStep bottom many i l).length ≤ l.length * bottom := by
  unfold spStep
  induction l with
  | nil => simp
  | cons r l ih =>
    rw [List.flatMap_cons, List.length_append, List.length_cons, Nat.succ_mul]
    have : ((List.range' 1 (bottom - r.sum - (many - i - 1))).map fun n => r ++ [n]).length ≤ bottom := by
      rw [List.length_map, List.length_range']; omega
    omega
theorem spUp_length {bottom many : Nat} (i : Nat) : (spUp bottom many i).length ≤ bottom ^ i := by
  induction i with
  | zero => simp [spUp]
  | succ i ih =>
    rw [spUp]
    refine Nat.le_trans spStep_length ?_
    rw [Nat.pow_succ]
    exact Nat.mul_le_mul_right _ ih
structure SpOk (bottom many i : Nat) (row : List Nat) : Prop where
  len : row.length = i
  sum : row.sum ≤ bottom
  pos : ∀ x ∈ row, 0 < x ∧ x ≤ bottom
theorem spUp_ok {bottom many : Nat} (i : Nat) : ∀ row ∈ spUp bottom many i, SpOk bottom many i row := by
  induction i with
  | zero => intro row h; simp [spUp] at h; subst h; exact ⟨rfl, by simp, by simp⟩
  | succ i ih =>
    intro row h
    rw [spUp] at h
    unfold spStep at h
    obtain ⟨r, hr, h⟩ := List.mem_flatMap.mp h
    obtain ⟨n, hn, rfl⟩ := List.mem_map.mp h
    rw [List.mem_range'_1] at hn
    have := ih r hr
    refine ⟨by simp [this.len], ?_, ?_⟩
    · rw [List.sum_append]; simp; have := this.sum; omega
    · intro x hx
      rcases List.mem_append.mp hx with h | h
      · exact this.pos x h
      · rw [List.mem_singleton.mp h]; omega
theorem rngD_one {x : Int} : rngD 1 (x + 1) = (List.range' 1 x.toNat).map nD := by
  unfold rngD
  rw [List.range'_eq_map_range, List.map_map, show x + 1 - 1 = x from by omega]
  refine List.map_congr_left fun i _ => ?_
  simp [nD]
def SplitsSp (φ : Fn) : Prop := ∀ many bottom : Nat, many ≤ 4 → bottom ≤ 6 → En φ [nD many, nD bottom] ((spl many bottom).map lotD)
theorem splits_sp (Γ : Gam) : SplitsSp (den Γ 2 8 b_splits) := by
  intro many bottom h1 h2
  refine den_run ⟨rfl, by decide⟩ ?_
  simp [b_splits, initE, initS, wss_cons]
  refine ⟨by omega, ?_⟩
  have hsz : ∀ n, n ≤ 4 → (spUp bottom many n).length ≤ 1296 := fun n hn => by
    refine Nat.le_trans (spUp_length n) ?_
    refine Nat.le_trans (Nat.pow_le_pow_left (show bottom ≤ 6 by omega) n) ?_
    exact Nat.le_trans (Nat.pow_le_pow_right (by decide) hn) (by decide)
  obtain ⟨I, hI⟩ : ∃ I : Nat → Env → Store → Prop, I = fun i e T => ∃ (k : Nat) (t4 t5 t6 t7 t8 : Option Sl), e = [some (.d (nD many)), some (.d (nD bottom)), some (.p k), t4, t5, t6, t7, t8] ∧ T[k]? = some (.own (.lst ((spUp bottom many i).map lotD))) := ⟨_, rfl⟩
  refine wp_for_rng I (by rw [hI]; exact ⟨0, none, none, none, none, none, rfl, rfl⟩) (fun i e T hi h => ?_) fun e T h => ?_
  · rw [hI] at h
    obtain ⟨k, t4, t5, t6, t7, t8, rfl, hk⟩ := h
    have hi' : i < many := by omega
    have hkl := (List.getElem?_eq_some_iff.mp hk).1
    have hk2 : (T ++ [Ent.own (.lst [])])[k]? = some (.own (.lst ((spUp bottom many i).map lotD))) := by
      rw [List.getElem?_append_left hkl]; exact hk
    rw [wp_forF (by rfl)]
    simp [wss_cons, hk2]
    obtain ⟨J, hJ⟩ : ∃ J : List (List Nat) → Env → Store → Prop, J = fun l e T' => ∃ (t6 t7 t8 : Option Sl), e = [some (.d (nD many)), some (.d (nD bottom)), some (.p k), some (.d (nD i)), some (.p T.length), t6, t7, t8] ∧ T'[k]? = some (.own (.lst ((spUp bottom many i).map lotD))) ∧ T'[T.length]? = some (.own (.lst ((spStep bottom many i l).map lotD))) := ⟨_, rfl⟩
    refine wp_for J (by rw [hJ]; exact ⟨t6, t7, t8, rfl, hk2, by simp [spStep]⟩) (fun l row r e T' he hh => ?_) fun e T' hh => ?_
    · rw [hJ] at hh
      obtain ⟨t6, t7, t8, rfl, hk3, hk4⟩ := hh
      have hrow := spUp_ok (bottom := bottom) (many := many) i row (by rw [he]; simp)
      have hkl4 := (List.getElem?_eq_some_iff.mp hk4).1
      rw [wp_forF (by rfl)]
      simp [wss_cons, wp_sum_lot]
      have hx : ∃ x : Int, (bottom : Int) - (row.sum : Int) - ((many : Int) - (i : Int) - 1) = x ∧ x.toNat = bottom - row.sum - (many - i - 1) ∧ -100 ≤ x ∧ x ≤ 6 := by
        refine ⟨_, rfl, ?_, ?_, ?_⟩
        · have := hrow.sum; omega
        · have := hrow.sum; omega
        · omega
      obtain ⟨x, hx, hx1, hx2, hx3⟩ := hx
      rw [hx]
      simp [wss_cons, hk4]
      rw [rngD_one]
      refine ⟨by omega, ?_⟩
      refine wp_lc_map (fun n => lotD (row ++ [n])) (fun n hn => ?_) ?_
      · rw [wp_lcF (by rfl)]
        have := hrow.len
        simp [szL_eq]
        omega
      · simp [hk4, szL_eq]
        rw [hx1]
        have g1 : (spStep bottom many i (l ++ [row])) = spStep bottom many i l ++ (List.range' 1 (bottom - row.sum - (many - i - 1))).map (fun n => row ++ [n]) := by
          unfold spStep
          rw [List.flatMap_append, List.flatMap_cons, List.flatMap_nil, List.append_nil]
        have g2 : (spStep bottom many i (l ++ [row])).length ≤ 1296 * 6 := by
          refine Nat.le_trans spStep_length ?_
          have h4 : (l ++ [row]).length ≤ (spUp bottom many i).length := by rw [he]; simp
          exact Nat.mul_le_mul (Nat.le_trans h4 (hsz i (by omega))) (by omega)
        have g3 : (spStep bottom many i l).length + (bottom - row.sum - (many - i - 1)) = (spStep bottom many i (l ++ [row])).length := by rw [g1]; simp
        refine ⟨by omega, ?_, ?_⟩
        · rw [List.getElem?_set_ne (by omega), hk3, hk2]
        · rw [hJ]
          refine ⟨_, _, _, rfl, by rw [List.getElem?_set_ne (by omega)]; exact hk3, ?_⟩
          rw [List.getElem?_set_self hkl4, g1, List.map_append, List.map_map]
          rfl
    · rw [hJ] at hh
      obtain ⟨t6, t7, t8, rfl, hk3, hk4⟩ := hh
      simp [wss_cons]
      rw [hI]
      exact ⟨T.length, _, _, _, _, _, rfl, hk4⟩
  · rw [hI] at h
    obtain ⟨k, t4, t5, t6, t7, t8, rfl, hk⟩ := h
    have e0 : ((many : Int) - 0).toNat = many := by omega
    rw [e0] at hk
    simp [wss_cons]
    rw [finQ_ptr hk (by simp)]
    exact ⟨rfl, by simp⟩
end Th
end
section
set_option Elab.async false
set_option linter.all false
set_option maxRecDepth 100000
set_option maxHeartbeats 4000000
namespace Th
open PySem PySem.W
def LeastSp (φ : Fn) : Prop := ∀ t b : Nat, 0 < b → b < 1000 → Ev φ [nD t, nD b] (frD (mkRat (t : Int) b))
theorem least_sp (Γ : Gam) : LeastSp (den Γ 2 4 b_least) := by
  intro t b hb hb2
  refine den_run ⟨rfl, by decide⟩ ?_
  simp [b_least, initE, initS, wss_cons]
  obtain ⟨I, hI⟩ : ∃ I : Nat × Nat → Env → Store → Prop, I = fun s e T => e = [some (.d (nD t)), some (.d (nD b)), some (.d (nD s.1)), some (.d (nD s.2))] ∧ T = [] ∧ Nat.gcd s.1 s.2 = Nat.gcd t b := ⟨_, rfl⟩
  refine wp_whl I (fun s => s.2) (s := (t, b)) (by rw [hI]; exact ⟨rfl, rfl, rfl⟩) fun s e T h => ?_
  rw [hI] at h
  obtain ⟨rfl, rfl, hg⟩ := h
  obtain ⟨x, y⟩ := s
  by_cases hy : y = 0
  · subst hy
    have hg' : x = Nat.gcd t b := by rw [← hg]; simp
    have hgp : 0 < x := by rw [hg']; exact Nat.gcd_pos_of_pos_right _ hb
    have hgl : x ≤ b := by rw [hg']; exact Nat.gcd_le_right _ hb
    have hbig : (1000 : Nat) < big := by
      refine Nat.lt_of_lt_of_le (show 1000 < 2 ^ 10 by decide) ?_
      unfold big
      exact Nat.pow_le_pow_right (by decide) (by decide)
    have hk : ∀ z : Int, divOk z (x : Nat) := fun z => ⟨by omega, by rw [Int.natAbs_natCast]; omega⟩
    obtain ⟨p1, p2⟩ := part_pos t b hb
    rw [Int.natAbs_natCast, ← hg'] at p1 p2
    simp [wss_cons]
    exact ⟨hk _, hk _, by rw [← p1, ← p2], rfl⟩
  · have hy' : ¬ (y : Int) = 0 := by omega
    have hy2 : 0 < y := by omega
    simp [wss_cons, hy, hy2]
    refine ⟨y, x % y, ?_, Nat.mod_lt _ hy2⟩
    rw [hI]
    exact ⟨by simp, rfl, by rw [← hg]; exact gcd_step⟩
def rwStep (c : Nat) (l : List (List Nat)) : List (List Nat) := l.flatMap fun row => (List.range (c + 1)).map fun n => row ++ [n]
def rowsN (c : Nat) : Nat → List (List Nat)
  | 0 => [[]]
  | i + 1 => rwStep c (rowsN c i)
theorem rwStep_length {c : Nat} {l : List (List Nat)} : (rwStep c l).length = l.length * (c + 1) := by
  unfold rwStep
  induction l with
  | nil => simp
  | cons r l ih => rw [List.flatMap_cons, List.length_append, List.length_cons, Nat.succ_mul, ih]; simp; omega
theorem rowsN_length {c : Nat} (i : Nat) : (rowsN c i).length = (c + 1) ^ i := by
  induction i with
  | zero => simp [rowsN]
  | succ i ih => rw [rowsN, rwStep_length, ih, Nat.pow_succ]
theorem rowsN_ok {c : Nat} (i : Nat) : ∀ row ∈ rowsN c i, row.length = i ∧ row.sum ≤ i * c := by
  induction i with
  | zero => intro row h; simp [rowsN] at h; subst h; simp
  | succ i ih =>
    intro row h
    rw [rowsN] at h
    unfold rwStep at h
    obtain ⟨r, hr, h⟩ := List.mem_flatMap.mp h
    obtain ⟨n, hn, rfl⟩ := List.mem_map.mp h
    rw [List.mem_range] at hn
    have := ih r hr
    rw [List.sum_append, Nat.succ_mul]
    simp
    omega
theorem rngD_suc {c : Nat} : rngD 0 ((c : Int) + 1) = (List.range (c + 1)).map nD := by
  rw [show (c : Int) + 1 = ((c + 1 : Nat) : Int) from by omega, rngD_nat]
def AllRowsSp (φ : Fn) : Prop := ∀ many c : Nat, many ≤ 4 → c ≤ 6 → En φ [nD many, nD c] ((rowsN c many).map lotD)
theorem all_rows_sp (Γ : Gam) : AllRowsSp (den Γ 2 7 b_Lall_rows) := by
  intro many c h1 h2
  refine den_run ⟨rfl, by decide⟩ ?_
  simp [b_Lall_rows, initE, initS, wss_cons]
  refine ⟨by omega, ?_⟩
  have hsz : ∀ n, n ≤ 4 → (rowsN c n).length ≤ 2401 := fun n hn => by
    rw [rowsN_length]
    refine Nat.le_trans (Nat.pow_le_pow_left (show c + 1 ≤ 7 by omega) n) ?_
    exact Nat.le_trans (Nat.pow_le_pow_right (by decide) hn) (by decide)
  obtain ⟨I, hI⟩ : ∃ I : Nat → Env → Store → Prop, I = fun i e T => ∃ (k : Nat) (t4 t5 t6 t7 : Option Sl), e = [some (.d (nD many)), some (.d (nD c)), some (.p k), t4, t5, t6, t7] ∧ T[k]? = some (.own (.lst ((rowsN c i).map lotD))) := ⟨_, rfl⟩
  refine wp_for_rng I (by rw [hI]; exact ⟨0, none, none, none, none, rfl, rfl⟩) (fun i e T hi h => ?_) fun e T h => ?_
  · rw [hI] at h
    obtain ⟨k, t4, t5, t6, t7, rfl, hk⟩ := h
    have hi' : i < many := by omega
    have hkl := (List.getElem?_eq_some_iff.mp hk).1
    have hk2 : (T ++ [Ent.own (.lst [])])[k]? = some (.own (.lst ((rowsN c i).map lotD))) := by
      rw [List.getElem?_append_left hkl]; exact hk
    rw [wp_forF (by rfl)]
    simp [wss_cons, hk2]
    obtain ⟨J, hJ⟩ : ∃ J : List (List Nat) → Env → Store → Prop, J = fun l e T' => ∃ (k4 : Nat) (t6 t7 : Option Sl), e = [some (.d (nD many)), some (.d (nD c)), some (.p k), some (.d (nD i)), some (.p k4), t6, t7] ∧ T'[k]? = some (.own (.lst ((rowsN c i).map lotD))) ∧ T'[k4]? = some (.own (.lst ((rwStep c l).map lotD))) := ⟨_, rfl⟩
    refine wp_for J (by rw [hJ]; exact ⟨_, t6, t7, rfl, hk2, by simp [rwStep]⟩) (fun l row r e T' he hh => ?_) fun e T' hh => ?_
    · rw [hJ] at hh
      obtain ⟨k4, t6, t7, rfl, hk3, hk4⟩ := hh
      have hrow := rowsN_ok (c := c) i row (by rw [he]; simp)
      have hkl3 := (List.getElem?_eq_some_iff.mp hk3).1
      rw [wp_forF (by rfl)]
      simp [wss_cons, hk4]
      rw [rngD_suc]
      refine ⟨by omega, ?_⟩
      refine wp_lc_map (fun n => lotD (row ++ [n])) (fun n hn => ?_) ?_
      · rw [wp_lcF (by rfl)]
        simp [szL_eq]
        omega
      · simp [hk4, szL_eq]
        have g1 : rwStep c (l ++ [row]) = rwStep c l ++ (List.range (c + 1)).map (fun n => row ++ [n]) := by
          unfold rwStep
          rw [List.flatMap_append, List.flatMap_cons, List.flatMap_nil, List.append_nil]
        have g2 : (rwStep c (l ++ [row])).length ≤ 2401 * 7 := by
          rw [rwStep_length]
          have h4 : (l ++ [row]).length ≤ (rowsN c i).length := by rw [he]; simp
          exact Nat.mul_le_mul (Nat.le_trans h4 (hsz i (by omega))) (by omega)
        have g3 : (rwStep c l).length + (c + 1) = (rwStep c (l ++ [row])).length := by rw [g1]; simp
        refine ⟨by omega, ?_, ?_⟩
        · rw [List.getElem?_append_left hkl3, hk3, hk2]
        · rw [hJ]
          refine ⟨_, _, _, rfl, by rw [List.getElem?_append_left hkl3]; exact hk3, ?_⟩
          rw [List.getElem?_append_right (Nat.le_refl _), Nat.sub_self, g1, List.map_append, List.map_map]
          rfl
    · rw [hJ] at hh
      obtain ⟨k4, t6, t7, rfl, hk3, hk4⟩ := hh
      simp [wss_cons]
      rw [hI]
      exact ⟨k4, _, _, _, _, rfl, hk4⟩
  · rw [hI] at h
    obtain ⟨k, t4, t5, t6, t7, rfl, hk⟩ := h
    have e0 : ((many : Int) - 0).toNat = many := by omega
    rw [e0] at hk
    simp [wss_cons]
    rw [finQ_ptr hk (by simp)]
    exact ⟨rfl, by simp⟩
def lspl (many bottom : Nat) : List (List Nat) := ((rowsN (bottom - many) many).filter fun r => decide ((r.sum : Int) ≤ (bottom : Int) - many)).map (List.map (· + 1))
theorem range_filter_le {s c : Nat} (m : Nat) : (List.range m).filter (fun n => decide (s + n ≤ c)) = List.range (min m (c + 1 - s)) := by
  induction m with
  | zero => simp
  | succ m ih =>
    rw [List.range_succ, List.filter_append, ih]
    by_cases h : s + m ≤ c
    · rw [List.filter_cons_of_pos (by simpa using h), show min (m + 1) (c + 1 - s) = m + 1 from by omega, show min m (c + 1 - s) = m from by omega, List.range_succ]
      rfl
    · rw [List.filter_cons_of_neg (by simpa using h), show min (m + 1) (c + 1 - s) = min m (c + 1 - s) from by omega]
      simp
theorem flatMap_filter_of {α β : Type} {q : α → Bool} {A B : α → List β} {l : List α} (h : ∀ r ∈ l, if q r = true then A r = B r else B r = []) : (l.filter q).flatMap A = l.flatMap B := by
  induction l with
  | nil => rfl
  | cons r l ih =>
    have h1 := h r (by simp)
    have h2 := ih fun x hx => h x (by simp [hx])
    rw [List.flatMap_cons, ← h2]
    by_cases e : q r = true
    · rw [if_pos e] at h1
      rw [List.filter_cons_of_pos e, List.flatMap_cons, h1]
    · rw [if_neg e] at h1
      rw [List.filter_cons_of_neg e, h1]
      rfl
theorem sum_suc (r : List Nat) : (r.map (· + 1)).sum = r.sum + r.length := by
  induction r with
  | nil => rfl
  | cons x r ih => simp [ih]; omega
theorem spUp_eq {many bottom : Nat} (h : many ≤ bottom) (i : Nat) (hi : i ≤ many) : spUp bottom many i = ((rowsN (bottom - many) i).filter fun r => decide (r.sum ≤ bottom - many)).map (List.map (· + 1)) := by
  induction i with
  | zero => simp [spUp, rowsN]
  | succ i ih =>
    rw [spUp, ih (by omega), rowsN]
    unfold spStep rwStep
    rw [List.flatMap_map, List.filter_flatMap, List.map_flatMap]
    refine flatMap_filter_of fun r hr => ?_
    obtain ⟨h1, _⟩ := rowsN_ok i r hr
    have e1 : (fun n => decide (r.sum + n ≤ bottom - many)) = (fun r_1 : List Nat => decide (r_1.sum ≤ bottom - many)) ∘ fun n => r ++ [n] := by
      funext n
      simp
    rw [List.filter_map, ← e1, range_filter_le]
    by_cases hs : r.sum ≤ bottom - many
    · rw [if_pos (by simpa using hs), sum_suc, h1, List.range'_eq_map_range, List.map_map, List.map_map, show bottom - (r.sum + i) - (many - i - 1) = min (bottom - many + 1) (bottom - many + 1 - r.sum) from by omega]
      refine List.map_congr_left fun n _ => ?_
      simp
      omega
    · rw [if_neg (by simpa using hs), show min (bottom - many + 1) (bottom - many + 1 - r.sum) = 0 from by omega]
      rfl
theorem spStep_nil {bottom many i : Nat} : spStep bottom many i [] = [] := rfl
theorem spUp_nil {many bottom : Nat} (h : bottom < many) (i : Nat) : spUp bottom many (i + 1) = [] := by
  induction i with
  | zero =>
    rw [spUp, spUp]
    unfold spStep
    simp
    omega
  | succ i ih => rw [spUp, ih, spStep_nil]
theorem lspl_eq (many bottom : Nat) : lspl many bottom = spl many bottom := by
  unfold lspl spl
  by_cases h : many ≤ bottom
  · rw [spUp_eq h many (Nat.le_refl _)]
    congr 2
    funext r
    refine decide_eq_decide.mpr ?_
    omega
  · obtain ⟨i, rfl⟩ : ∃ i, many = i + 1 := ⟨many - 1, by omega⟩
    rw [spUp_nil (by omega)]
    rw [List.filter_eq_nil_iff.mpr]
    · rfl
    · intro r _
      simp
      omega
theorem lsplits_sp {Γ : Gam} (hA : Has Γ "_law_all_rows" AllRowsSp) : SplitsSp (den Γ 2 4 b_Lsplits) := by
  intro many bottom h1 h2
  refine den_run ⟨rfl, by decide⟩ ?_
  simp [b_Lsplits, initE, initS, wss_cons]
  refine hA.call fun φ hφ => ?_
  simp
  have e1 : (if many < bottom then (bottom : Int) - (many : Int) else 0) = ((bottom - many : Nat) : Int) := by split <;> omega
  rw [e1]
  refine (hφ many (bottom - many) h1 (by omega)).wp2 ?_
  simp
  refine wp_lc_filter (fun r : List Nat => decide ((r.sum : Int) ≤ (bottom : Int) - many)) (fun r => lotD (r.map (· + 1))) (fun r hr => ?_) ?_
  · obtain ⟨r1, r2⟩ := rowsN_ok many r hr
    rw [wp_lcF (by rfl)]
    simp [wp_sum_lot]
    by_cases hs : (r.sum : Int) ≤ (bottom : Int) - (many : Int)
    · simp [hs]
      refine wp_lc_map (fun n => nD (n + 1)) (fun n hn => ?_) ?_
      · rw [wp_lcF (by rfl)]
        simp
      · simp
    · simp [hs]
      omega
  · rw [← lspl_eq]
    unfold lspl
    simp
    exact ⟨rfl, rfl⟩
end Th
end
section
set_option Elab.async false
set_option linter.all false
set_option maxRecDepth 100000
set_option maxHeartbeats 4000000
namespace Th
open PySem PySem.W
section
variable {ok : List (List Nat) → List Nat → Bool} {rw : List Nat → List (List Nat)}
def leaves (ok : List (List Nat) → List Nat → Bool) (rw : List Nat → List (List Nat)) : List (List Nat) → List (List Nat) → List (List (List Nat))
  | [], pre => [pre]
  | lot :: ls, pre => (rw lot).flatMap fun r => if ok (pre ++ [r]) lot = true then leaves ok rw ls (pre ++ [r]) else []
def twig (ok : List (List Nat) → List Nat → Bool) (rw : List Nat → List (List Nat)) (lot : List Nat) (ls : List (List Nat)) (pre : List (List Nat)) (r : List Nat) : List (List (List Nat)) :=
  if ok (pre ++ [r]) lot = true then leaves ok rw ls (pre ++ [r]) else []
theorem flatMap_cg {α β : Type} {f g : α → List β} {l : List α} (h : ∀ x ∈ l, f x = g x) : l.flatMap f = l.flatMap g := by
  rw [List.flatMap_def, List.flatMap_def, List.map_congr_left h]
theorem leaves_append (a b : List (List Nat)) (pre : List (List Nat)) : leaves ok rw (a ++ b) pre = (leaves ok rw a pre).flatMap (leaves ok rw b) := by
  induction a generalizing pre with
  | nil => simp [leaves]
  | cons lot ls ih =>
    rw [List.cons_append, leaves, leaves, List.flatMap_assoc]
    refine flatMap_cg fun r _ => ?_
    split
    · exact ih _
    · rfl
theorem leaves_one (lot : List Nat) (pre : List (List Nat)) : leaves ok rw [lot] pre = ((rw lot).filter fun r => ok (pre ++ [r]) lot).map fun r => pre ++ [r] := by
  rw [leaves]
  induction rw lot with
  | nil => rfl
  | cons r l ih =>
    rw [List.flatMap_cons, ih]
    by_cases h : ok (pre ++ [r]) lot = true
    · rw [if_pos h, List.filter_cons_of_pos (p := fun r => ok (pre ++ [r]) lot) h]; rfl
    · rw [if_neg h, List.filter_cons_of_neg (p := fun r => ok (pre ++ [r]) lot) h]; rfl
def rem (ok : List (List Nat) → List Nat → Bool) (rw : List Nat → List (List Nat)) : List (List Nat) → List (Nat × List Nat) → Nat → List (List Nat) → List (List (List Nat))
  | [], _, _, _ => []
  | lot :: ls, [], s, pre => ((rw lot).drop s).flatMap (twig ok rw lot ls pre)
  | lot :: ls, (s0, t) :: st, s, pre => rem ok rw ls st s (pre ++ [t]) ++ ((rw lot).drop (s0 + 1)).flatMap (twig ok rw lot ls pre)
def full (rw : List Nat → List (List Nat)) : List (List Nat) → Nat
  | [] => 0
  | lot :: ls => (rw lot).length * (1 + full rw ls)
def wtS (rw : List Nat → List (List Nat)) : List (List Nat) → List (Nat × List Nat) → Nat → Nat
  | [], _, _ => 0
  | lot :: ls, [], s => ((rw lot).length - s) * (1 + full rw ls)
  | lot :: ls, (s0, _) :: st, s => wtS rw ls st s + ((rw lot).length - (s0 + 1)) * (1 + full rw ls)
theorem rem_start {L : List (List Nat)} (h : 0 < L.length) : rem ok rw L [] 0 [] = leaves ok rw L [] := by
  cases L with
  | nil => exact absurd h (by simp)
  | cons l ls => rfl
theorem rem_pop {lot lot' t : List Nat} {ls : List (List Nat)} {s0 s : Nat} (a : List (List Nat)) (st : List (Nat × List Nat)) (pre : List (List Nat)) (h : a.length = st.length) (hs : (rw lot').length ≤ s) :
    rem ok rw (a ++ lot :: lot' :: ls) (st ++ [(s0, t)]) s pre = rem ok rw (a ++ lot :: lot' :: ls) st (s0 + 1) pre ∧ wtS rw (a ++ lot :: lot' :: ls) (st ++ [(s0, t)]) s = wtS rw (a ++ lot :: lot' :: ls) st (s0 + 1) := by
  induction st generalizing a pre with
  | nil =>
    obtain rfl := List.length_eq_zero_iff.mp h
    simp only [List.nil_append, rem, wtS]
    rw [List.drop_eq_nil_of_le hs, List.flatMap_nil, List.nil_append, show (rw lot').length - s = 0 from by omega, Nat.zero_mul, Nat.zero_add]
    exact ⟨rfl, rfl⟩
  | cons x st ih =>
    obtain ⟨sx, tx⟩ := x
    cases a with
    | nil => simp at h
    | cons a0 a =>
      obtain ⟨h1, h2⟩ := ih a (pre ++ [tx]) (by simpa using h)
      simp only [List.cons_append, rem, wtS]
      rw [h1, h2]
      exact ⟨rfl, rfl⟩
theorem rem_step {lot r : List Nat} {ls : List (List Nat)} {s : Nat} (a : List (List Nat)) (st : List (Nat × List Nat)) (pre : List (List Nat)) (h : a.length = st.length) (hr : (rw lot)[s]? = some r) :
    (ok (pre ++ st.map Prod.snd ++ [r]) lot = false → rem ok rw (a ++ lot :: ls) st s pre = rem ok rw (a ++ lot :: ls) st (s + 1) pre) ∧ wtS rw (a ++ lot :: ls) st (s + 1) < wtS rw (a ++ lot :: ls) st s ∧
    (ok (pre ++ st.map Prod.snd ++ [r]) lot = true → (ls = [] → (rem ok rw (a ++ lot :: ls) st s pre).head? = some (pre ++ st.map Prod.snd ++ [r])) ∧ (ls ≠ [] → rem ok rw (a ++ lot :: ls) st s pre = rem ok rw (a ++ lot :: ls) (st ++ [(s, r)]) 0 pre ∧ wtS rw (a ++ lot :: ls) (st ++ [(s, r)]) 0 < wtS rw (a ++ lot :: ls) st s)) := by
  induction st generalizing a pre with
  | nil =>
    obtain rfl := List.length_eq_zero_iff.mp h
    have hl := (List.getElem?_eq_some_iff.mp hr).1
    have e1 : (rw lot).drop s = r :: (rw lot).drop (s + 1) := by
      rw [← (List.getElem?_eq_some_iff.mp hr).2]
      exact List.drop_eq_getElem_cons hl
    have e2 : (rw lot).length - s = ((rw lot).length - (s + 1)) + 1 := by omega
    simp only [List.nil_append, rem, wtS, List.map_nil, List.append_nil]
    rw [e1, List.flatMap_cons, e2, Nat.add_mul]
    refine ⟨fun h => ?_, by omega, fun h => ⟨fun hl => ?_, fun hl => ?_⟩⟩
    · unfold twig
      rw [if_neg (by simp [h])]
      rfl
    · subst hl
      unfold twig
      rw [if_pos h]
      rfl
    · cases ls with
      | nil => exact absurd rfl hl
      | cons l2 ls =>
        simp only [rem, wtS, List.drop_zero, Nat.sub_zero, full]
        refine ⟨?_, by omega⟩
        congr 1
        conv => lhs; unfold twig
        rw [if_pos h]
        rfl
  | cons x st ih =>
    obtain ⟨sx, tx⟩ := x
    cases a with
    | nil => simp at h
    | cons a0 a =>
      obtain ⟨h1, h2, h3⟩ := ih a (pre ++ [tx]) (by simpa using h)
      simp only [List.cons_append, rem, wtS, List.map_cons] at h1 h2 h3 ⊢
      rw [show pre ++ tx :: st.map Prod.snd ++ [r] = pre ++ [tx] ++ st.map Prod.snd ++ [r] from by simp]
      refine ⟨fun h => by rw [h1 h], by omega, fun h => ⟨fun hl => ?_, fun hl => ?_⟩⟩
      · rw [List.head?_append, (h3 h).1 hl]
        simp
      · obtain ⟨g1, g2⟩ := (h3 h).2 hl
        exact ⟨by rw [g1], by omega⟩
end
theorem split2 {α : Type} {L : List α} {n : Nat} (h : n + 1 < L.length) : ∃ a x y ls, L = a ++ x :: y :: ls ∧ a.length = n ∧ L[n + 1]? = some y := by
  refine ⟨L.take n, L[n], L[n + 1], L.drop (n + 2), ?_, ?_, List.getElem?_eq_getElem h⟩
  · have h1 := List.drop_eq_getElem_cons (show n < L.length by omega)
    have h2 := List.drop_eq_getElem_cons h
    rw [← h2, ← h1, List.take_append_drop]
  · rw [List.length_take]; omega
theorem mem_zip_app {α β : Type} {l : List α} {a b : List β} {p : α × β} (h : p ∈ l.zip a) : p ∈ l.zip (a ++ b) := by
  induction l generalizing a with
  | nil => simp at h
  | cons x l ih =>
    cases a with
    | nil => simp at h
    | cons y a =>
      rw [List.zip_cons_cons] at h
      rw [List.cons_append, List.zip_cons_cons]
      rcases List.mem_cons.mp h with e | e
      · rw [e]; exact List.mem_cons_self
      · exact List.mem_cons_of_mem _ (ih e)
theorem mem_zip_snoc {α β : Type} {l : List α} {a : List β} {x : α} {y : β} {p : α × β} (hx : l[a.length]? = some x) (h : p ∈ l.zip (a ++ [y])) : p ∈ l.zip a ∨ p = (x, y) := by
  induction l generalizing a with
  | nil => simp at h
  | cons z l ih =>
    cases a with
    | nil =>
      simp at hx h
      exact .inr (by rw [h, hx])
    | cons b a =>
      rw [List.cons_append, List.zip_cons_cons] at h
      rw [List.zip_cons_cons]
      rcases List.mem_cons.mp h with e | e
      · exact .inl (by rw [e]; exact List.mem_cons_self)
      · rcases ih (by simpa using hx) e with e | e
        · exact .inl (List.mem_cons_of_mem _ e)
        · exact .inr e
section
variable {S : Store} {Q : Int → Store → Prop} {xs : List D} {j x : Int} {k : Nat}
theorem wp_item (h : S[k]? = some (.own (.lst xs))) (hx : L2.atI xs j = some (.int x)) (q : Q x S) : Wp (itemI (.ptr k) (.imm (.int j))) S Q := by
  unfold itemI
  simp only [wp_bind, wp_co_ptr, h, coQ_some, co_own, wp_co_imm, co_int_i, wp_lift_some]
  rw [show (Co.o (.lst xs)).lits = some xs from rfl]
  simp only [wp_lift_some, wp_bind, wp_co_imm, co_int_i, hx]
  exact q
theorem ix_neg {n : Nat} : L2.ixN (n + 1) (-1) = some n := by
  unfold L2.ixN
  rw [if_neg (by omega), if_pos (by omega)]
  congr 1
  omega
end
def okB (w : Web) (ms : List Nat) (bottom : Nat) (told : List (List Nat)) (lot : List Nat) : Bool := lot.all (servB w ms told bottom)
def rwB (bottom : Nat) (lot : List Nat) : List (List Nat) := spl lot.length bottom
def leavesB (w : Web) (ms : List Nat) (bottom : Nat) : List (List (List Nat)) := leaves (okB w ms bottom) (rwB bottom) w.2 []
def arcsD (bottom : Nat) (told : List (List Nat)) : D := .tuple (told.map fun r => .tuple (r.map fun n : Nat => frD (mkRat (n : Int) bottom)))
def arcsOD (bottom : Nat) : Option (List (List Nat)) → D
  | none => .none
  | some t => arcsD bottom t
structure ArcIn (w : Web) (ms : List Nat) (bottom : Nat) : Prop where
  web : WOk w
  ms : ms.length = w.1
  few : ∀ lot ∈ w.2, lot.length ≤ 4
  things : w.2.length ≤ 4
  some_thing : w.2 ≠ []
  bot : 0 < bottom ∧ bottom ≤ 6
def ArcsSp (φ : Fn) : Prop := ∀ (w : Web) (ms : List Nat) (bottom : Nat), ArcIn w ms bottom → Ev φ [webD w, lotD ms, nD bottom] (arcsOD bottom (leavesB w ms bottom).head?)
def mu (bottom : Nat) (w : Web) : Option (List (Nat × List Nat) × Nat) → Nat
  | none => 0
  | some (st, s) => 2 * wtS (rwB bottom) w.2 st s + st.length + 1
theorem mu_some {bottom : Nat} {w : Web} {st : List (Nat × List Nat)} {s : Nat} : mu bottom w (some (st, s)) = 2 * wtS (rwB bottom) w.2 st s + st.length + 1 := rfl
theorem ServedSp.wp {φ : Fn} (h : ServedSp φ) {S : Store} {k bottom x : Nat} {w : Web} {ms : List Nat} {rows : List (List Nat)} {Q : RV → Store → Prop} (hk : S[k]? = some (.own (.lst (rows.map lotD)))) (hx : x < ms.length) (hb : bottom ≤ 1000) (hr : RowsOk bottom (w.2.zip rows))
    (q : Q (.imm (.bool (servB w ms rows bottom x))) S) : Wp (callM φ [.imm (webD w), .imm (lotD ms), .ptr k, .imm (nD bottom), .imm (nD x)]) S Q := by
  refine wp_call (as := [.imm (webD w), .imm (lotD ms), .mut (.lst (rows.map lotD)), .imm (nD bottom), .imm (nD x)]) (by simp [mkArgs, mkArg, hk]) (by simp [ownPtrs, hk]) ((h w ms rows bottom x _ _ (.lst _) hx hb hr).mono fun r o ⟨hr, ho⟩ => ?_)
  subst hr ho
  have hkl := (List.getElem?_eq_some_iff.mp hk).1
  have e : S.set k (.own (.lst (rows.map lotD))) = S := by
    rw [← (List.getElem?_eq_some_iff.mp hk).2]
    exact List.set_getElem_self hkl
  exact ⟨rfl, _, by simp [backArgs, hk, e], q⟩
theorem ServedSp.wp_t {φ : Fn} (h : ServedSp φ) {S : Store} {bottom x : Nat} {w : Web} {ms : List Nat} {rows : List (List Nat)} {Q : RV → Store → Prop} (hx : x < ms.length) (hb : bottom ≤ 1000) (hr : RowsOk bottom (w.2.zip rows))
    (q : Q (.imm (.bool (servB w ms rows bottom x))) S) : Wp (callM φ [.imm (webD w), .imm (lotD ms), .imm (.tuple (rows.map lotD)), .imm (nD bottom), .imm (nD x)]) S Q := by
  refine wp_call (as := [.imm (webD w), .imm (lotD ms), .imm (.tuple (rows.map lotD)), .imm (nD bottom), .imm (nD x)]) (by simp [mkArgs, mkArg]) (by simp [ownPtrs]) ((h w ms rows bottom x _ _ (.dt _) hx hb hr).mono fun r o ⟨hr, ho⟩ => ?_)
  subst hr ho
  exact ⟨rfl, _, by simp [backArgs], q⟩
theorem arcs_sp {Γ : Gam} (hS : Has Γ "splits" SplitsSp) (hI : Has Γ "is_served" ServedSp) (hL : Has Γ "least" LeastSp) : ArcsSp (den Γ 3 12 b_arcs_found) := by
  intro w ms bottom ok
  have hb := ok.bot
  refine den_run ⟨rfl, by decide⟩ ?_
  simp [b_arcs_found, initE, initS, wss_cons]
  obtain ⟨P, hP⟩ : ∃ P : RV → Store → Prop, P = EvP (arcsOD bottom (leavesB w ms bottom).head?) := ⟨_, rfl⟩
  rw [← hP]
  refine wp_lc_map (enc := lotD) (fun l => .list ((rwB bottom l).map lotD)) (fun l hl => ?_) ?_
  · rw [wp_lcF (by rfl)]
    simp
    refine hS.call fun φ hφ => ?_
    simp
    refine (hφ l.length bottom (ok.few l hl) hb.2).wp2 ?_
    simp [rwB]
  · simp [wss_cons]
    obtain ⟨K, hK⟩ : ∃ K : Ent, K = Ent.own (Ob.lst (w.2.map fun l => PyData.list ((rwB bottom l).map lotD))) := ⟨_, rfl⟩
    rw [← hK]
    obtain ⟨I, hI'⟩ : ∃ I : Option (List (Nat × List Nat) × Nat) → Env → Store → Prop, I = fun σ e T => ∃ (t7 t8 t9 t10 t11 : Option Sl), e = [some (.d (webD w)), some (.d (lotD ms)), some (.d (nD bottom)), some (.d (nD w.2.length)), some (.p 0), some (.p 1), some (.p 2), t7, t8, t9, t10, t11] ∧
      (match σ with
      | none => T = [K, .own (.lst []), .own (.lst [])] ∧ (leavesB w ms bottom).head? = none
      | some (st, s) => T = [K, .own (.lst (st.map (fun p => nD p.1) ++ [nD s])), .own (.lst (st.map fun p => lotD p.2))] ∧ st.length < w.2.length ∧ (∀ p ∈ w.2.zip (st.map Prod.snd), p.2 ∈ rwB bottom p.1) ∧ (rem (okB w ms bottom) (rwB bottom) w.2 st s []).head? = (leavesB w ms bottom).head?) := ⟨_, rfl⟩
    have hwl : 0 < w.2.length := List.length_pos_iff.mpr ok.some_thing
    refine wp_whl I (mu bottom w) (s := some ([], 0)) (by
      rw [hI']
      refine ⟨none, none, none, none, none, rfl, by simp [hK], hwl, by simp, ?_⟩
      congr 1
      exact rem_start hwl) fun σ e T h => ?_
    rw [hI'] at h
    obtain ⟨t7, t8, t9, t10, t11, rfl, h⟩ := h
    cases σ with
    | none =>
      obtain ⟨rfl, h⟩ := h
      simp [wss_cons, hK]
      rw [hP, h]
      exact ⟨rfl, rfl⟩
    | some p =>
      obtain ⟨st, s⟩ := p
      obtain ⟨rfl, hl, hrow, hrem⟩ := h
      have a1 : L2.atI (st.map (fun p => nD p.1) ++ [nD s]) (st.length : Int) = some (nD s) := by
        rw [at_nat, List.getElem?_append_right (by simp)]; simp
      obtain ⟨lot, hlot⟩ : ∃ lot, w.2[st.length]? = some lot := ⟨w.2[st.length], List.getElem?_eq_getElem hl⟩
      have a2 : L2.atI (w.2.map fun l => PyData.list ((rwB bottom l).map lotD)) (st.length : Int) = some (.list ((rwB bottom lot).map lotD)) := by
        rw [at_nat, List.getElem?_map, hlot]; rfl
      have a3 : L2.atI (w.2.map lotD) (st.length : Int) = some (lotD lot) := by
        rw [at_nat, List.getElem?_map, hlot]; rfl
      have hsp : w.2 = w.2.take st.length ++ lot :: w.2.drop (st.length + 1) := by
        have := List.drop_eq_getElem_cons hl
        rw [(List.getElem?_eq_some_iff.mp hlot).2] at this
        rw [← this, List.take_append_drop]
      have htl : (w.2.take st.length).length = st.length := by rw [List.length_take]; omega
      simp [wss_cons, a1, a2, hK]
      by_cases hs : (rwB bottom lot).length ≤ s
      · rw [if_pos hs]
        rcases List.eq_nil_or_concat st with e | ⟨st', ⟨s0, t⟩, e⟩
        · subst e
          simp
          refine ⟨none, ?_, by simp [mu]⟩
          rw [hI']
          refine ⟨_, _, _, _, _, rfl, by simp [hK], ?_⟩
          rw [← hrem]
          simp at hsp
          rw [hsp]
          simp [rem, List.drop_eq_nil_of_le hs]
        · subst e
          simp [wss_cons]
          refine wp_item (by rfl) (show _ = some (PyData.int (s0 : Nat)) from by rw [at_neg]; simp) ?_
          simp [wss_cons, ix_neg]
          simp only [List.concat_eq_append, List.length_append, List.length_singleton] at hl hlot hrem hrow
          obtain ⟨a, x, y, ls, f1, f2, f3⟩ := split2 hl
          obtain rfl : y = lot := by rw [hlot] at f3; exact (Option.some.inj f3).symm
          obtain ⟨g1, g2⟩ := rem_pop (ok := okB w ms bottom) (rw := rwB bottom) (t := t) (s0 := s0) (lot := x) (ls := ls) a st' [] f2 hs
          rw [← f1] at g1 g2
          refine ⟨some (st', s0 + 1), ?_, ?_⟩
          · rw [hI']
            refine ⟨_, _, _, _, _, rfl, by rw [hK]; rfl, by omega, fun p hp => hrow p (by rw [List.map_append]; exact mem_zip_app hp), ?_⟩
            rw [← hrem, g1]
          · rw [mu_some, mu_some, g2]
            simp
      · rw [if_neg hs]
        have hs' : s < (rwB bottom lot).length := by omega
        have hr := List.getElem?_eq_getElem hs'
        generalize hrr : (rwB bottom lot)[s] = r at hr
        have a4 : L2.atI ((rwB bottom lot).map lotD) (s : Int) = some (lotD r) := by
          rw [at_nat, List.getElem?_map, hr]; rfl
        simp [a4, wss_cons, a3]
        have hlm : lot ∈ w.2 := List.mem_of_getElem? hlot
        have hrm : r ∈ rwB bottom lot := List.mem_of_getElem? hr
        have hrow2 : ∀ p ∈ w.2.zip (st.map Prod.snd ++ [r]), p.2 ∈ rwB bottom p.1 := fun p hp => by
          rcases mem_zip_snoc (x := lot) (by rw [List.length_map]; exact hlot) hp with e | e
          · exact hrow p e
          · rw [e]; exact hrm
        have hro : RowsOk bottom (w.2.zip (st.map Prod.snd ++ [r])) := fun p hp => by
          have := spUp_ok _ _ (hrow2 p hp)
          exact ⟨this.len, fun x hx => this.pos x hx⟩
        have etold : st.map (fun p => lotD p.2) ++ [lotD r] = (st.map Prod.snd ++ [r]).map lotD := by simp
        rw [etold]
        refine ⟨?_, ?_⟩
        · have := ok.things
          have : 100 ≤ sizeL := by decide
          omega
        have hd1 : (st.map Prod.snd ++ [r]).map lotD = st.map (fun p => lotD p.2) ++ [lotD r] := etold.symm
        obtain ⟨told, htd⟩ : ∃ told, told = st.map Prod.snd ++ [r] := ⟨_, rfl⟩
        obtain ⟨N1, hN1⟩ : ∃ N1, N1 = st.map (fun p => nD p.1) ++ [nD s] := ⟨_, rfl⟩
        rw [← htd] at hro ⊢
        rw [← hN1]
        refine wp_lc_map (enc := nD) (fun h => .bool (servB w ms told bottom h)) (fun h hh => ?_) ?_
        · rw [wp_lcF (by rfl)]
          simp
          refine hI.call fun φ hφ => ?_
          simp
          refine hφ.wp (by rfl) (by rw [ok.ms]; exact ok.web.rng lot hlm h hh) (by omega) hro ?_
          simp
        · simp [wss_cons]
          have e5 : lot.map (fun h => PyData.bool (servB w ms told bottom h)) = (lot.map (servB w ms told bottom)).map .bool := by rw [List.map_map]; rfl
          rw [e5, wp_all_new]
          have e6 : (lot.map (servB w ms told bottom)).all id = okB w ms bottom told lot := by
            unfold okB
            rw [List.all_map]; rfl
          rw [e6]
          obtain ⟨h1, h2, h3⟩ := rem_step (ok := okB w ms bottom) (rw := rwB bottom) (ls := w.2.drop (st.length + 1)) (w.2.take st.length) st [] htl hr
          rw [← hsp] at h1 h2 h3
          rw [List.nil_append] at h1 h3
          rw [← htd] at h1 h3
          cases hB : okB w ms bottom told lot with
          | false =>
            have hgl : told.getLast? = some r := by rw [htd]; simp
            have hdl : (told.map lotD).dropLast = st.map fun p => lotD p.2 := by rw [htd, ← etold]; simp
            simp [wss_cons, hgl]
            rw [hdl]
            refine wp_item (by rfl) (show _ = some (PyData.int (s : Nat)) from by rw [hN1]; exact a1) ?_
            have hix : L2.ixN N1.length (st.length : Int) = some st.length := ix_nat (by rw [hN1]; simp)
            simp [wss_cons, hix]
            refine ⟨some (st, s + 1), ?_, by rw [mu_some, mu_some]; omega⟩
            rw [hI']
            refine ⟨_, _, _, _, _, rfl, ?_, hl, hrow, by rw [← hrem, h1 hB]⟩
            rw [hK, hN1, List.set_append_right _ _ (by simp)]
            simp
          | true =>
            obtain ⟨h4, h5⟩ := h3 hB
            simp [wss_cons]
            by_cases hlast : st.length + 1 < w.2.length
            · rw [if_pos (by omega)]
              obtain ⟨g1, g2⟩ := h5 (by intro e; have := List.drop_eq_nil_iff.mp e; omega)
              refine ⟨?_, some (st ++ [(s, r)], 0), ?_, ?_⟩
              · have := ok.things
                have : 100 ≤ sizeL := by decide
                rw [hN1]
                simp
                omega
              · rw [hI']
                refine ⟨_, _, _, _, _, rfl, ?_, by simpa using hlast, ?_, by rw [← hrem, g1]⟩
                · rw [hK, hN1, htd]
                  simp
                · rw [List.map_append]
                  exact hrow2
              · rw [mu_some, mu_some]
                simp
                omega
            · rw [if_neg (by omega)]
              have hls : w.2.drop (st.length + 1) = [] := List.drop_eq_nil_of_le (by omega)
              have h6 := h4 hls
              refine wp_lc_map (enc := lotD) (fun l => PyData.tuple (l.map fun n : Nat => frD (mkRat (n : Int) bottom))) (fun l hl2 => ?_) ?_
              · rw [wp_lcF (by rfl)]
                simp
                refine wp_lc_map (enc := nD) (fun n : Nat => frD (mkRat (n : Int) bottom)) (fun n hn => ?_) ?_
                · rw [wp_lcF (by rfl)]
                  simp
                  refine hL.call fun φ hφ => ?_
                  simp
                  refine (hφ n bottom hb.1 (by omega)).wp2 ?_
                  simp
                · simp
              · simp [wss_cons]
                rw [hP, ← hrem, h6]
                exact ⟨rfl, rfl⟩
end Th
end
section
set_option Elab.async false
set_option linter.all false
set_option maxRecDepth 100000
set_option maxHeartbeats 4000000
namespace Th
open PySem PySem.W
abbrev lotsD (t : List (List Nat)) : D := .tuple (t.map lotD)
theorem spl_few : ∀ many : Nat, many < 5 → ∀ bottom : Nat, bottom < 7 → (spl many bottom).length ≤ 20 := by decide
theorem leaves_snoc {ok : List (List Nat) → List Nat → Bool} {rw : List Nat → List (List Nat)} (l : List (List Nat)) (lot : List Nat) : leaves ok rw (l ++ [lot]) [] = (leaves ok rw l []).flatMap fun t => ((rw lot).filter fun r => ok (t ++ [r]) lot).map fun r => t ++ [r] := by
  rw [leaves_append]
  refine flatMap_cg fun t _ => ?_
  exact leaves_one lot t
theorem leaves_mem {ok : List (List Nat) → List Nat → Bool} {rw : List Nat → List (List Nat)} (L : List (List Nat)) (pre : List (List Nat)) : ∀ t ∈ leaves ok rw L pre, ∃ s, t = pre ++ s ∧ s.length = L.length ∧ ∀ p ∈ L.zip s, p.2 ∈ rw p.1 := by
  induction L generalizing pre with
  | nil =>
    intro t h
    simp [leaves] at h
    exact ⟨[], by simp [h], rfl, by simp⟩
  | cons lot L ih =>
    intro t h
    rw [leaves] at h
    obtain ⟨r, hr, h⟩ := List.mem_flatMap.mp h
    split at h
    · obtain ⟨s, e1, e2, e3⟩ := ih _ t h
      refine ⟨r :: s, by rw [e1]; simp, by simp [e2], fun p hp => ?_⟩
      rw [List.zip_cons_cons] at hp
      rcases List.mem_cons.mp hp with e | e
      · rw [e]; exact hr
      · exact e3 p e
    · simp at h
theorem leaves_few {ok : List (List Nat) → List Nat → Bool} {rw : List Nat → List (List Nat)} (L : List (List Nat)) (h : ∀ l ∈ L, (rw l).length ≤ 20) (pre : List (List Nat)) : (leaves ok rw L pre).length ≤ 20 ^ L.length := by
  induction L generalizing pre with
  | nil => simp [leaves]
  | cons lot L ih =>
    have h1 := h lot (by simp)
    have h2 := ih fun l hl => h l (by simp [hl])
    rw [leaves, List.length_cons, Nat.pow_succ, Nat.mul_comm]
    refine Nat.le_trans ?_ (Nat.mul_le_mul_right _ h1)
    generalize rw lot = rs
    clear h1 h
    induction rs with
    | nil => simp
    | cons r rs ih2 =>
      rw [List.flatMap_cons, List.length_append, List.length_cons, Nat.succ_mul]
      have : (if ok (pre ++ [r]) lot = true then leaves ok rw L (pre ++ [r]) else []).length ≤ 20 ^ L.length := by
        split
        · exact h2 _
        · simp
      omega
theorem shaped_lots {xs : List (List (List Nat))} : SeqAt.shaped (.list (xs.map lotsD)) = true := by
  unfold SeqAt.shaped
  rw [Bool.and_eq_true]
  constructor
  · unfold PyData.canLay0
    refine canAll_of fun d hd => ?_
    obtain ⟨x, hx, rfl⟩ := List.mem_map.mp hd
    unfold lotsD PyData.canLay0
    refine canAll_of fun d hd => ?_
    obtain ⟨y, hy, rfl⟩ := List.mem_map.mp hd
    unfold lotD PyData.canLay0
    exact canAll_nat
  · unfold PyData.depth
    refine decide_eq_true ?_
    have : PyData.depthAll (xs.map lotsD) ≤ 2 := depthAll_le fun d hd => by
      obtain ⟨x, hx, rfl⟩ := List.mem_map.mp hd
      unfold lotsD PyData.depth
      have : PyData.depthAll (x.map lotD) ≤ 1 := depthAll_le fun d hd => by
        obtain ⟨y, hy, rfl⟩ := List.mem_map.mp hd
        rw [depth_lot]
        exact Nat.le_refl _
      omega
    omega
theorem wp_eq_pnil {S : Store} {k : Nat} {Q : RV → Store → Prop} {xs : List D} (hk : S[k]? = some (.own (.lst xs))) (h : SeqAt.shaped (.list xs) = true) : Wp (cmpOp .eq (.ptr k) (.new (.lst []))) S Q ↔ Q (.imm (.bool xs.isEmpty)) S := by
  rw [wp_eq]
  have h0 : SeqAt.shaped (.list []) = true := rfl
  simp [eqv_nil, h0, h, hk]
theorem lfirst_sp {Γ : Gam} (hS : Has Γ "_law_splits" SplitsSp) (hH : Has Γ "_law_has" ServedSp) (hP : Has Γ "_law_part" PartSp) : ArcsSp (den Γ 3 12 b_Lfirst_arcs) := by
  intro w ms bottom ok
  have hb := ok.bot
  refine den_run ⟨rfl, by decide⟩ ?_
  simp [b_Lfirst_arcs, initE, initS, wss_cons]
  rw [enum_map]
  obtain ⟨lv, hlv⟩ : ∃ lv, lv = fun l : List (List Nat × Nat) => leaves (okB w ms bottom) (rwB bottom) (l.map Prod.fst) [] := ⟨_, rfl⟩
  obtain ⟨I, hI⟩ : ∃ I : List (List Nat × Nat) → Env → Store → Prop, I = fun l e T => ∃ (k3 : Nat) (t4 t5 t6 t7 t8 t9 t10 t11 : Option Sl), e = [some (.d (webD w)), some (.d (lotD ms)), some (.d (nD bottom)), some (.p k3), t4, t5, t6, t7, t8, t9, t10, t11] ∧ T[k3]? = some (.own (.lst ((lv l).map lotsD))) := ⟨_, rfl⟩
  refine wp_for I (by rw [hI, hlv]; exact ⟨0, none, none, none, none, none, none, none, none, rfl, rfl⟩) (fun l y r e T he h => ?_) fun e T h => ?_
  · rw [hI] at h
    obtain ⟨k3, t4, t5, t6, t7, t8, t9, t10, t11, rfl, hk⟩ := h
    obtain ⟨lot, i⟩ := y
    have hkl := (List.getElem?_eq_some_iff.mp hk).1
    have hk2 : (T ++ [Ent.own (.lst [])])[k3]? = some (.own (.lst ((lv l).map lotsD))) := by
      rw [List.getElem?_append_left hkl]; exact hk
    rw [wp_forF (by rfl)]
    simp [wss_cons, hk2]
    have hw : w.2 = l.map Prod.fst ++ lot :: r.map Prod.fst := by
      have := congrArg (List.map Prod.fst) he
      rw [List.zipIdx_map_fst] at this
      rw [this]
      simp
    have hlot : lot ∈ w.2 := by rw [hw]; simp
    have hfew : ∀ l ∈ w.2, (rwB bottom l).length ≤ 20 := fun l hl => spl_few _ (by have := ok.few l hl; omega) _ (by omega)
    have hll : l.length + 1 ≤ 4 := by
      have := ok.things
      rw [hw] at this
      simp at this
      omega
    have hlvl : (lv l).length ≤ 8000 := by
      rw [hlv]
      refine Nat.le_trans (leaves_few _ (fun x hx => hfew x (by rw [hw]; exact List.mem_append_left _ hx)) _) ?_
      rw [List.length_map]
      exact Nat.le_trans (Nat.pow_le_pow_right (by decide) (show l.length ≤ 3 by omega)) (by decide)
    have hmem : ∀ t ∈ lv l, t.length = l.length ∧ ∀ row ∈ rwB bottom lot, RowsOk bottom (w.2.zip (t ++ [row])) := fun t ht => by
      rw [hlv] at ht
      obtain ⟨s, e1, e2, e3⟩ := leaves_mem _ _ t ht
      rw [List.nil_append] at e1
      subst e1
      rw [List.length_map] at e2
      refine ⟨e2, fun row hrow p hp => ?_⟩
      have : p ∈ (l.map Prod.fst).zip t ++ [(lot, row)] := by
        rw [hw, List.zip_append (by simp [e2])] at hp
        simpa using hp
      have hh : p.2 ∈ rwB bottom p.1 := by
        rcases List.mem_append.mp this with e | e
        · exact e3 p e
        · rw [List.mem_singleton.mp e]; exact hrow
      have := spUp_ok _ _ hh
      exact ⟨this.len, fun x hx => this.pos x hx⟩
    obtain ⟨stp, hstp⟩ : ∃ stp, stp = fun (t : List (List Nat)) (rs : List (List Nat)) => ((rs.filter fun r => okB w ms bottom (t ++ [r]) lot).map fun r => t ++ [r]) := ⟨_, rfl⟩
    obtain ⟨J, hJ⟩ : ∃ J : List (List (List Nat)) → Env → Store → Prop, J = fun tl e T' => ∃ (t7 t8 t9 t10 t11 : Option Sl), e = [some (.d (webD w)), some (.d (lotD ms)), some (.d (nD bottom)), some (.p k3), some (.d (nD i)), some (.d (lotD lot)), some (.p T.length), t7, t8, t9, t10, t11] ∧ T'[k3]? = some (.own (.lst ((lv l).map lotsD))) ∧ T'[T.length]? = some (.own (.lst ((tl.flatMap fun t => stp t (rwB bottom lot)).map lotsD))) := ⟨_, rfl⟩
    refine wp_for (enc := lotsD) J (by rw [hJ]; exact ⟨t7, t8, t9, t10, t11, rfl, hk2, by simp⟩) (fun tl t r2 e T' he2 hh => ?_) fun e T' hh => ?_
    · rw [hJ] at hh
      obtain ⟨t7, t8, t9, t10, t11, rfl, hk3, hk4⟩ := hh
      obtain ⟨m1, m2⟩ := hmem t (by rw [he2]; simp)
      rw [wp_forF (by rfl)]
      simp [wss_cons]
      refine hS.call fun φ hφ => ?_
      simp
      refine (hφ lot.length bottom (ok.few _ hlot) hb.2).wp2 ?_
      simp
      obtain ⟨N, hN⟩ : ∃ N : List (List Nat) → Env → Store → Prop, N = fun rs e T2 => ∃ (t8 t9 t10 t11 : Option Sl), e = [some (.d (webD w)), some (.d (lotD ms)), some (.d (nD bottom)), some (.p k3), some (.d (nD i)), some (.d (lotD lot)), some (.p T.length), some (.d (lotsD t)), t8, t9, t10, t11] ∧ T2[k3]? = some (.own (.lst ((lv l).map lotsD))) ∧ T2[T.length]? = some (.own (.lst (((tl.flatMap fun t => stp t (rwB bottom lot)) ++ stp t rs).map lotsD))) := ⟨_, rfl⟩
      refine wp_for (enc := lotD) N (by rw [hN]; exact ⟨t8, t9, t10, t11, rfl, hk3, by rw [hstp]; simpa [hstp] using hk4⟩) (fun rs row r3 e T2 he3 hh => ?_) fun e T2 hh => ?_
      · rw [hN] at hh
        obtain ⟨t8, t9, t10, t11, rfl, hk5, hk6⟩ := hh
        rw [wp_forF (by rfl)]
        have hrow : row ∈ rwB bottom lot := by
          show row ∈ spl _ _
          rw [he3]; simp
        have hro := m2 row hrow
        simp [wss_cons]
        refine ⟨?_, ?_⟩
        · have : 100 ≤ sizeL := by decide
          omega
        refine wp_lc_filter (enc := nD) (fun h => !servB w ms (t ++ [row]) bottom h) (fun h => PyData.int 1) (fun h hh => ?_) ?_
        · rw [wp_lcF (by rfl)]
          simp
          refine hH.call fun φ hφ => ?_
          simp
          have e7 : t.map lotD ++ [lotD row] = (t ++ [row]).map lotD := by simp
          rw [e7]
          refine hφ.wp_t (by rw [ok.ms]; exact ok.web.rng lot hlot h hh) (by omega) hro ?_
          cases servB w ms (t ++ [row]) bottom h <;> simp
        · have hsz : ((tl.flatMap fun t => stp t (rwB bottom lot)) ++ stp t rs).length < sizeL := by
            have h1 : ∀ (t : List (List Nat)) (rs : List (List Nat)), (stp t rs).length ≤ rs.length := fun t rs => by
              rw [hstp]
              simp only [List.length_map]
              exact List.length_filter_le _ _
            have h2 : ∀ tl : List (List (List Nat)), (tl.flatMap fun t => stp t (rwB bottom lot)).length ≤ tl.length * 20 := fun tl => by
              induction tl with
              | nil => simp
              | cons a tl ih =>
                rw [List.flatMap_cons, List.length_append, List.length_cons, Nat.succ_mul]
                have := Nat.le_trans (h1 a _) (hfew lot hlot)
                omega
            have h3 := h2 tl
            have h4 := h1 t rs
            have h5 : rs.length ≤ 20 := by
              refine Nat.le_trans ?_ (hfew lot hlot)
              show rs.length ≤ (spl _ _).length
              rw [he3]; simp
            have h6 : tl.length ≤ 8000 := by
              refine Nat.le_trans ?_ hlvl
              rw [he2]; simp
            have : 1000000 ≤ sizeL := by decide
            rw [List.length_append]
            omega
          have hkk : T.length < T2.length := (List.getElem?_eq_some_iff.mp hk6).1
          have e8 : (lot.filter fun h => !servB w ms (t ++ [row]) bottom h).isEmpty = okB w ms bottom (t ++ [row]) lot := by
            unfold okB
            rw [Bool.eq_iff_iff, List.isEmpty_iff, List.filter_eq_nil_iff, List.all_eq_true]
            simp
          simp
          refine (wp_eq_ints (l := lot.filter fun h => !servB w ms (t ++ [row]) bottom h) (f := fun _ => 1)).mpr ?_
          rw [e8]
          cases hB : okB w ms bottom (t ++ [row]) lot with
          | true =>
            simp [wss_cons, hk6]
            refine ⟨by rw [List.length_append, List.length_flatMap] at hsz; exact hsz, ?_⟩
            rw [hN]
            have hne : k3 ≠ T.length := by omega
            refine ⟨_, _, _, _, rfl, by rw [List.getElem?_set_ne (by omega)]; exact hk5, ?_⟩
            rw [List.getElem?_set_self hkk]
            have e9 : stp t (rs ++ [row]) = stp t rs ++ [t ++ [row]] := by
              rw [hstp]
              simp [hB]
            rw [e9]
            simp
          | false =>
            simp [wss_cons]
            rw [hN]
            refine ⟨_, _, _, _, rfl, hk5, ?_⟩
            rw [hk6]
            simp [hstp, hB]
      · rw [hN] at hh
        obtain ⟨t8, t9, t10, t11, rfl, hk5, hk6⟩ := hh
        simp [wss_cons, hk5, hk2]
        rw [hJ]
        refine ⟨_, _, _, _, _, rfl, hk5, ?_⟩
        rw [hk6]
        simp [rwB]
    · rw [hJ] at hh
      obtain ⟨t7, t8, t9, t10, t11, rfl, hk3, hk4⟩ := hh
      simp [wss_cons]
      rw [hI]
      refine ⟨_, _, _, _, _, _, _, _, _, rfl, ?_⟩
      rw [hk4, hlv, hstp]
      simp only [List.map_append, List.map_cons, List.map_nil, leaves_snoc]
  · rw [hI] at h
    obtain ⟨k3, t4, t5, t6, t7, t8, t9, t10, t11, rfl, hk⟩ := h
    have e0 : lv w.2.zipIdx = leavesB w ms bottom := by
      rw [hlv]
      unfold leavesB
      simp only [List.zipIdx_map_fst]
    rw [e0] at hk
    simp [wss_cons]
    rw [wp_eq_pnil hk shaped_lots]
    cases hL : leavesB w ms bottom with
    | nil =>
      simp [wss_cons]
      exact ⟨rfl, rfl⟩
    | cons t ts =>
      rw [hL] at hk
      simp [wss_cons, hk]
      have e9 : ∀ n : Nat, Rat.divInt (n : Int) (bottom : Int) = mkRat (n : Int) bottom := fun n => Rat.divInt_ofNat _ _
      have hbb : bottom < big := by
        refine Nat.lt_of_lt_of_le (show bottom < 2 ^ 10 by omega) ?_
        unfold big
        exact Nat.pow_le_pow_right (by decide) (by decide)
      refine wp_lc_map (enc := lotD) (fun l => PyData.tuple (l.map fun n : Nat => frD (mkRat (n : Int) bottom))) (fun l hl2 => ?_) ?_
      · rw [wp_lcF (by rfl)]
        simp
        refine wp_lc_map (enc := nD) (fun n : Nat => frD (mkRat (n : Int) bottom)) (fun n hn => ?_) ?_
        · rw [wp_lcF (by rfl)]
          simp
          refine hP.call fun φ hφ => ?_
          simp
          refine (hφ n bottom (by omega) (by simpa using hbb)).wp2 ?_
          rw [e9]
          simp
        · simp
      · simp [wss_cons]
        exact ⟨rfl, rfl⟩
end Th
end
section
set_option Elab.async false
set_option linter.all false
set_option maxRecDepth 100000
set_option maxHeartbeats 4000000
namespace Th
open PySem PySem.W
def arcR (as : List Rat) : D := .tuple (as.map frD)
def arcsR (as : List (List Rat)) : D := .tuple (as.map arcR)
theorem zip_maps {α β : Type} {f : α → D} {g : β → D} {as : List α} {bs : List β} : zipD (as.map f) (bs.map g) = (as.zip bs).map fun p => pairD (f p.1) (g p.2) := by
  unfold zipD
  rw [List.zipWith_map, List.zip_eq_zipWith, List.map_zipWith]
def facQ (h : Nat) (p : List Nat × List Rat) : Rat := if h ∈ p.1 then p.2.getD (p.1.idxOf h) 0 else 1
def metQ (l : List (List Nat × List Rat)) (h : Nat) : Rat := prodL (facQ h) l
structure ArcR (D : Nat) (w : Web) (as : List (List Rat)) : Prop where
  len : as.length = w.2.length
  each : ∀ p ∈ w.2.zip as, p.2.length = p.1.length ∧ ∀ q ∈ p.2, Bd D D q
  few : w.2.length ≤ 12
  lots : ∀ l ∈ w.2, l.length ≤ 100
  dpos : 0 < D
  small : D ≤ 1024
theorem pow_big {D i : Nat} (hD : D ≤ 1024) (hi : i ≤ 24) : D ^ i < big := by
  refine Nat.lt_of_le_of_lt (Nat.pow_le_pow_left hD i) ?_
  rw [show (1024 : Nat) = 2 ^ 10 from rfl, ← Nat.pow_mul]
  exact pow_lt_big (by omega)
theorem fac_bd {D h : Nat} {p : List Nat × List Rat} (hD : 0 < D) (h1 : p.2.length = p.1.length) (h2 : ∀ q ∈ p.2, Bd D D q) : Bd D D (facQ h p) := by
  unfold facQ
  split
  · rename_i hin
    have hidx : p.1.idxOf h < p.2.length := by rw [h1]; exact List.idxOf_lt_length_iff.mpr hin
    rw [List.getD_eq_getElem?_getD, List.getElem?_eq_getElem hidx]
    exact h2 _ (List.getElem_mem hidx)
  · have := Bd.one.scale D hD
    rwa [Nat.one_mul] at this
theorem met_bd {D h : Nat} : ∀ {l : List (List Nat × List Rat)}, 0 < D → (∀ p ∈ l, p.2.length = p.1.length ∧ ∀ q ∈ p.2, Bd D D q) → Bd (D ^ l.length) (D ^ l.length) (metQ l h)
  | [], _, _ => Bd.one
  | p :: l, hD, hl => by
    have h1 := fac_bd (h := h) hD (hl p (by simp)).1 (hl p (by simp)).2
    have h2 := met_bd (h := h) (l := l) hD fun q hq => hl q (by simp [hq])
    have := h1.mul h2
    rw [List.length_cons, Nat.pow_succ, Nat.mul_comm]
    exact this
def MetSp (φ : Fn) : Prop := ∀ (w : Web) (as : List (List Rat)) (D : Nat), ArcR D w as → w.1 ≤ 100 → Ev φ [webD w, arcsR as] (.tuple ((List.range w.1).map fun h => frD (metQ (w.2.zip as) h)))
theorem met_sp {Γ : Gam} (hT : Has Γ "_law_times" TimesSp) : MetSp (den Γ 2 7 b_Lmet) := by
  intro w as D ok hn
  refine den_run ⟨rfl, by decide⟩ ?_
  simp [b_Lmet, initE, initS, wss_cons]
  refine ⟨by omega, ?_⟩
  obtain ⟨I, hI⟩ : ∃ I : Nat → Env → Store → Prop, I = fun i e T => ∃ (t3 t4 t5 t6 : Option Sl), e = [some (.d (webD w)), some (.d (arcsR as)), some (.p 0), t3, t4, t5, t6] ∧ T = [.own (.lst ((List.range i).map fun h => frD (metQ (w.2.zip as) h)))] := ⟨_, rfl⟩
  refine wp_for_rng I (by rw [hI]; exact ⟨none, none, none, none, rfl, rfl⟩) (fun i e T hi h => ?_) fun e T h => ?_
  · rw [hI] at h
    obtain ⟨t3, t4, t5, t6, rfl, rfl⟩ := h
    rw [wp_forF (by rfl)]
    simp [wss_cons, arcsR]
    rw [zip_maps]
    obtain ⟨J, hJ⟩ : ∃ J : List (List Nat × List Rat) → Env → Store → Prop, J = fun l e T' => ∃ (t5 t6 : Option Sl), e = [some (.d (webD w)), some (.d (arcsR as)), some (.p 0), some (.d (nD i)), some (.d (frD (metQ l i))), t5, t6] ∧ T' = [.own (.lst ((List.range i).map fun h => frD (metQ (w.2.zip as) h)))] := ⟨_, rfl⟩
    refine wp_for J (by rw [hJ]; exact ⟨t5, t6, rfl, rfl⟩) (fun l y r e T' he hh => ?_) fun e T' hh => ?_
    · rw [hJ] at hh
      obtain ⟨t5, t6, rfl, rfl⟩ := hh
      obtain ⟨h1, h2⟩ := ok.each y (by rw [he]; simp)
      have b1 := met_bd (h := i) (l := l) ok.dpos fun p hp => ok.each p (by rw [he]; simp [hp])
      have b2 := fac_bd (h := i) ok.dpos h1 h2
      have hl12 : l.length < 12 := by
        have := congrArg List.length he
        rw [List.length_zip, ok.len, List.length_append, List.length_cons] at this
        have := ok.few
        omega
      rw [wp_forF (by rfl)]
      by_cases hin : i ∈ y.1
      · have hidx : y.1.idxOf i < y.2.length := by rw [h1]; exact List.idxOf_lt_length_iff.mpr hin
        have e2 : L2.atI (y.2.map frD) (y.1.idxOf i : Int) = some (frD (facQ i y)) := by
          rw [at_nat, List.getElem?_map, List.getElem?_eq_getElem hidx]
          unfold facQ
          rw [if_pos hin, List.getD_eq_getElem?_getD, List.getElem?_eq_getElem hidx]; rfl
        have e3 : metQ (l ++ [y]) i = metQ l i * facQ i y := by
          unfold metQ
          rw [prodL_snoc]
        have c1 := pow_big (i := l.length) ok.small (by omega)
        have c2 : D < big := by have := pow_big (i := 1) ok.small (by omega); rwa [Nat.pow_one] at this
        have c3 := pow_big (i := l.length + 1) ok.small (by omega)
        have hDp : 0 < D ^ l.length := Nat.pow_pos ok.dpos
        simp [wss_cons, wp_in_lot, hin, arcR]
        refine hT.call fun φ hφ => ?_
        simp [wp_index, hin, e2]
        refine (hφ (metQ l i) (facQ i y) (Nat.lt_of_le_of_lt (b1.num hDp) c1) (Nat.lt_of_le_of_lt (b2.num ok.dpos) c2) ?_).wp2 ?_
        · refine Nat.lt_of_le_of_lt (Nat.mul_le_mul (b1.den hDp) (b2.den ok.dpos)) ?_
          rwa [← Nat.pow_succ]
        · simp [wss_cons]
          rw [hJ]
          simp only [e3]
          exact ⟨_, _, rfl, trivial⟩
      · simp [wss_cons, wp_in_lot, hin, arcR]
        rw [hJ]
        have e3 : metQ (l ++ [y]) i = metQ l i := by
          unfold metQ
          rw [prodL_snoc, show facQ i y = 1 from if_neg hin, Rat.mul_one]
        simp only [e3]
        exact ⟨_, _, rfl, trivial⟩
    · rw [hJ] at hh
      obtain ⟨t5, t6, rfl, rfl⟩ := hh
      simp [wss_cons]
      refine ⟨?_, ?_⟩
      · have : 1000 ≤ sizeL := by decide
        omega
      · rw [hI]
        refine ⟨_, _, _, _, rfl, ?_⟩
        rw [List.range_succ, List.map_append]
        rfl
  · rw [hI] at h
    obtain ⟨t3, t4, t5, t6, rfl, rfl⟩ := h
    simp [wss_cons]
    exact ⟨rfl, rfl⟩
def Lies (w : Web) (as : List (List Rat)) : Prop := ∀ p ∈ w.2.zip as, (∀ q ∈ p.2, 0 < q) ∧ sumL id p.2 ≤ 1
def Serves (w : Web) (ms : List Nat) (as : List (List Rat)) : Prop := ∀ h, h < w.1 → ((metQ (w.2.zip as) h).den : Int) ≤ (metQ (w.2.zip as) h).num * (ms.getD h 0 : Nat)
theorem sum_bd {D : Nat} {l : List Rat} (hD : 0 < D) (h : ∀ q ∈ l, Bd D D q) : Bd D (l.length * D) (sumL id l) := by
  induction l with
  | nil =>
    have := Bd.zero (D := D) hD
    simpa [sumL] using this
  | cons q l ih =>
    have h1 := h q (by simp)
    have h2 := ih fun x hx => h x (by simp [hx])
    rw [List.length_cons, Nat.succ_mul, Nat.add_comm]
    exact h1.add h2 hD
theorem rat_den_le {q : Rat} (h : q ≤ 1) : q.num ≤ q.den := by
  rw [Rat.le_iff] at h
  simpa using h
theorem pos_num {q : Rat} (h : 0 < q) : 0 < q.num := by
  rw [Rat.lt_iff] at h
  simpa using h
theorem range_idx {n : Nat} : (List.range n).zipIdx = (List.range n).map fun h => (h, h) := by
  refine List.ext_getElem (by simp) fun i h1 h2 => ?_
  simp
def ServeSp (φ : Fn) : Prop := ∀ (w : Web) (ms : List Nat) (as : List (List Rat)) (D : Nat), ArcR D w as → w.1 ≤ 100 → MkOk w.1 ms → Lies w as → Serves w ms as → Ev φ [webD w, lotD ms, arcsR as] (.bool true)
theorem serve_sp {Γ : Gam} (hG : Has Γ "_law_gcd" GcdSp) (hP : Has Γ "_law_plus" PlusSp) (hM : Has Γ "_law_met" MetSp) : ServeSp (den Γ 3 10 b_Lserve) := by
  intro w ms as D ok hn hm hl hs
  refine den_run ⟨rfl, by decide⟩ ?_
  have hlen : (as.length : Int) = w.2.length := by rw [ok.len]
  simp [b_Lserve, initE, initS, wss_cons, arcsR, ok.len]
  rw [zip_maps]
  obtain ⟨I, hI⟩ : ∃ I : List (List Nat × List Rat) → Env → Store → Prop, I = fun l e T => ∃ (t3 t4 t5 t6 t7 t8 t9 : Option Sl), e = [some (.d (webD w)), some (.d (lotD ms)), some (.d (arcsR as)), t3, t4, t5, t6, t7, t8, t9] ∧ T = [] := ⟨_, rfl⟩
  refine wp_for I (by rw [hI]; exact ⟨none, none, none, none, none, none, none, rfl, rfl⟩) (fun l y r e T he h => ?_) fun e T h => ?_
  · rw [hI] at h
    obtain ⟨t3, t4, t5, t6, t7, t8, t9, rfl, rfl⟩ := h
    obtain ⟨h1, h2⟩ := ok.each y (by rw [he]; simp)
    obtain ⟨h3, h4⟩ := hl y (by rw [he]; simp)
    rw [wp_forF (by rfl)]
    simp [wss_cons, arcR, h1]
    obtain ⟨J, hJ⟩ : ∃ J : List Rat → Env → Store → Prop, J = fun l e T' => ∃ (t5 t6 t7 t8 t9 : Option Sl), e = [some (.d (webD w)), some (.d (lotD ms)), some (.d (arcsR as)), some (.d (lotD y.1)), some (.d (arcR y.2)), t5, t6, t7, t8, t9] ∧ T' = [] := ⟨_, rfl⟩
    refine wp_for J (by rw [hJ]; exact ⟨t5, t6, t7, t8, t9, rfl, rfl⟩) (fun l2 q r2 e T' he2 hh => ?_) fun e T' hh => ?_
    · rw [hJ] at hh
      obtain ⟨t5, t6, t7, t8, t9, rfl, rfl⟩ := hh
      rw [wp_forF (by rfl)]
      simp [wss_cons]
      have hq : 0 < q := h3 q (by rw [he2]; simp)
      have hn1 := pos_num hq
      have hd1 := q.den_pos
      rw [show [PyData.int q.num, nD q.den] = ([q.num, (q.den : Int)]).map PyData.int from rfl]
      refine wp_lc_filter (fun n : Int => decide (n < 1)) (fun n => PyData.int 1) (fun n hn => ?_) ?_
      · rw [wp_lcF (by rfl)]
        by_cases hlt : n < 1 <;> simp [hlt]
      · have hf : ([q.num, (q.den : Int)]).filter (fun n : Int => decide (n < 1)) = [] := by
          rw [List.filter_eq_nil_iff]
          intro x hx
          simp at hx ⊢
          omega
        rw [hf]
        simp [wss_cons]
        refine (wp_ne_ints (l := ([] : List Int)) (f := fun _ => 1)).mpr ?_
        simp [wss_cons]
        refine hG.call fun φ hφ => ?_
        simp
        rw [show PyData.int q.num = nD q.num.natAbs from by unfold nD; congr 1; omega]
        refine (hφ q.num.natAbs q.den).wp2 ?_
        have hg : Nat.gcd q.num.natAbs q.den = 1 := q.reduced
        rw [hg]
        simp [wss_cons]
        rw [hJ]
        exact ⟨_, _, _, _, _, rfl, rfl⟩
    · rw [hJ] at hh
      obtain ⟨t5, t6, t7, t8, t9, rfl, rfl⟩ := hh
      simp [wss_cons, arcR]
      obtain ⟨N, hN⟩ : ∃ N : List Rat → Env → Store → Prop, N = fun l e T' => ∃ (t5 t7 t8 t9 : Option Sl), e = [some (.d (webD w)), some (.d (lotD ms)), some (.d (arcsR as)), some (.d (lotD y.1)), some (.d (arcR y.2)), t5, some (.d (frD (sumL id l))), t7, t8, t9] ∧ T' = [] := ⟨_, rfl⟩
      refine wp_for N (by rw [hN]; exact ⟨t5, t7, t8, t9, rfl, rfl⟩) (fun l2 q r2 e T' he2 hh => ?_) fun e T' hh => ?_
      · rw [hN] at hh
        obtain ⟨t5, t7, t8, t9, rfl, rfl⟩ := hh
        have hyl : y.1 ∈ w.2 := (List.of_mem_zip (show (y.1, y.2) ∈ w.2.zip as by rw [he]; simp)).1
        have hl100 := ok.lots _ hyl
        have hl2 : l2.length < 100 := by
          have := congrArg List.length he2
          rw [h1, List.length_append, List.length_cons] at this
          omega
        have b1 := sum_bd (l := l2) ok.dpos fun x hx => h2 x (by rw [he2]; simp [hx])
        have b2 := h2 q (by rw [he2]; simp)
        have c1 : 100 * 1024 * 1024 < big := by
          refine Nat.lt_of_lt_of_le (show 100 * 1024 * 1024 < 2 ^ 30 by decide) ?_
          rw [big_eq]
          exact Nat.pow_le_pow_right (by decide) (by decide)
        have hs := ok.small
        have d1 := b1.num ok.dpos
        have d2 := b2.num ok.dpos
        have d3 := b1.den ok.dpos
        have d4 := b2.den ok.dpos
        rw [wp_forF (by rfl)]
        simp [wss_cons]
        refine hP.call fun φ hφ => ?_
        simp
        refine (hφ (sumL id l2) q ?_ ?_ ?_).wp2 ?_
        · have : l2.length * D ≤ 100 * 1024 := Nat.mul_le_mul (by omega) hs
          omega
        · omega
        · have : (sumL id l2).den * q.den ≤ 1024 * 1024 := Nat.mul_le_mul (by omega) (by omega)
          omega
        · simp [wss_cons]
          rw [hN]
          have e3 : sumL id (l2 ++ [q]) = sumL id l2 + q := by rw [sumL_snoc]; rfl
          simp only [e3]
          exact ⟨_, _, _, _, rfl, trivial⟩
      · rw [hN] at hh
        obtain ⟨t5, t7, t8, t9, rfl, rfl⟩ := hh
        have := rat_den_le h4
        have hng : ¬ ((sumL id y.2).den : Int) < (sumL id y.2).num := by omega
        simp [wss_cons, hng]
        rw [hI]
        exact ⟨_, _, _, _, _, _, _, rfl, rfl⟩
  · rw [hI] at h
    obtain ⟨t3, t4, t5, t6, t7, t8, t9, rfl, rfl⟩ := h
    simp [wss_cons]
    refine hM.call fun φ hφ => ?_
    simp
    refine (hφ w as D ok hn).wp2 ?_
    simp
    rw [enum_map, range_idx, List.map_map]
    refine wp_lc_filter (enc := (fun p : Nat × Nat => pairD (nD p.2) (frD (metQ (w.2.zip as) p.1))) ∘ fun h => (h, h)) (fun h => false) (fun h => PyData.int 1) (fun h hh => ?_) ?_
    · have hh' : h < w.1 := List.mem_range.mp hh
      have hml : h < ms.length := by rw [hm.1]; exact hh'
      have hmm := hm.2 _ (List.getElem_mem hml)
      have e1 := at_lot (ns := ms) (k := h) hml
      have e2 : ms.getD h 0 = ms[h] := by rw [List.getD_eq_getElem?_getD, List.getElem?_eq_getElem hml]; rfl
      have h5 := hs h hh'
      rw [e2] at e1 h5
      rw [wp_lcF (by rfl)]
      simp [e1]
      have h6 : ¬ (metQ (w.2.zip as) h).num * (ms[h] : Int) < ((metQ (w.2.zip as) h).den : Int) := by omega
      exact ⟨mulOk_r (by omega), h5⟩
    · rw [show (List.range w.1).filter (fun _ => false) = [] from by simp]
      simp
      refine (wp_eq_ints (l := ([] : List Nat)) (f := fun _ => 1)).mpr ?_
      simp [wss_cons]
      exact ⟨rfl, rfl⟩
end Th
end
section
set_option Elab.async false
set_option linter.all false
set_option maxRecDepth 100000
set_option maxHeartbeats 4000000
namespace Th
open PySem PySem.W
section
variable {T0 xs ys : Store} {i : Nat} {v : Ent}
@[simp] theorem app_get0 : (T0 ++ xs)[T0.length]? = xs[0]? := by
  rw [List.getElem?_append_right (Nat.le_refl _), Nat.sub_self]
@[simp] theorem app_get : (T0 ++ xs)[T0.length + i]? = xs[i]? := by
  rw [List.getElem?_append_right (Nat.le_add_right _ _), Nat.add_sub_cancel_left]
@[simp] theorem app_set0 : (T0 ++ xs).set T0.length v = T0 ++ xs.set 0 v := by
  rw [List.set_append_right _ _ (Nat.le_refl _), Nat.sub_self]
@[simp] theorem app_set : (T0 ++ xs).set (T0.length + i) v = T0 ++ xs.set i v := by
  rw [List.set_append_right _ _ (Nat.le_add_right _ _), Nat.add_sub_cancel_left]
end
theorem wp_web2 {φ : Fn} {P : Web → Prop} {b : Bx} {d d2 : D} {k : Nat} {S : Store} {Q : RV → Store → Prop} (h : Rn φ [.mut b.ob, .imm d, .imm d2] (WebPw P)) (hb : S[k]? = some (.own b.ob)) (q : ∀ (w : Web) (b' : Bx), P w → Q (.imm (webD w)) (S.set k (.own b'.ob))) : Wp (callM φ [.ptr k, .imm d, .imm d2]) S Q := by
  refine wp_call (as := [.mut b.ob, .imm d, .imm d2]) (by simp [mkArgs, mkArg, hb]) (by simp [ownPtrs, hb]) (h.mono fun r o ⟨w, b', p, hr, ho⟩ => ?_)
  subst hr ho
  exact ⟨rfl, _, by simp [backArgs, hb], q w b' p⟩
theorem MarksSp.wp {φ : Fn} (h : MarksSp φ) {b : Bx} {w : Web} {way : Nat} {k : Nat} {S : Store} {Q : RV → Store → Prop} (h0 : 0 < w.1) (h1 : w.1 ≤ 12) (hb : S[k]? = some (.own b.ob)) (q : ∀ (ms : List Nat) (b' : Bx), MkOk w.1 ms → Q (.imm (lotD ms)) (S.set k (.own b'.ob))) : Wp (callM φ [.ptr k, .imm (webD w), .imm (nD way)]) S Q := by
  refine wp_call (as := [.mut b.ob, .imm (webD w), .imm (nD way)]) (by simp [mkArgs, mkArg, hb]) (by simp [ownPtrs, hb]) ((h b w way h0 h1).mono fun r o ⟨ms, b', p, hr, ho⟩ => ?_)
  subst hr ho
  exact ⟨rfl, _, by simp [backArgs, hb], q ms b' p⟩
theorem BoxSp.wp {φ : Fn} (h : BoxSp φ) {ns : List Int} {k : Nat} {S : Store} {Q : RV → Store → Prop} (h1 : ns.length ≤ 1000) (h2 : k ≤ 1000) (q : ∀ b : Bx, Q (.new b.ob) S) : Wp (callM φ [.imm (.list (ns.map .int)), .imm (nD k)]) S Q := by
  refine wp_call (as := [.imm (.list (ns.map .int)), .imm (nD k)]) (by simp [mkArgs, mkArg]) (by simp [ownPtrs]) ((h ns k h1 h2).mono fun r o ⟨b, hr, ho⟩ => ?_)
  subst hr ho
  exact ⟨rfl, S, by simp [backArgs], q b⟩
def bodyOf : MS → List MS
  | .forr _ _ b => b
  | _ => []
def LawP (r : RV) (o : Store) : Prop := r = .imm (.bool true)
def LawSp (φ : Fn) : Prop := ∀ ns : List Int, ns.length ≤ 63 → Rn φ [.imm (.list (ns.map .int))] LawP
end Th
end
section
set_option Elab.async false
set_option linter.all false
set_option maxRecDepth 100000
set_option maxHeartbeats 4000000
namespace Th
open PySem PySem.W
def ratsB (bottom : Nat) (t : List (List Nat)) : List (List Rat) := t.map fun r => r.map fun n : Nat => mkRat (n : Int) bottom
theorem arcsD_eq (bottom : Nat) (t : List (List Nat)) : arcsD bottom t = arcsR (ratsB bottom t) := by
  unfold arcsD arcsR arcR ratsB
  simp [List.map_map, Function.comp_def]
theorem zip_short {A L : List (List Nat)} {pre : List (List Nat)} (h : pre.length = A.length) : (A ++ L).zip pre = A.zip pre := by
  have := List.zip_append (l₁ := A) (r₁ := L) (l₂ := pre) (r₂ := ([] : List (List Nat))) h.symm
  simpa using this
theorem prodN_mid {α : Type} {f : α → Nat} {a : List α} {x : α} (h : f x = 1) : prodN f (a ++ [x]) = prodN f a := by
  rw [prodN_snoc, h, Nat.mul_one]
theorem serv_leaf {w : Web} {ms : List Nat} {bottom h : Nat} : ∀ (L A : List (List Nat)) (pre : List (List Nat)), w.2 = A ++ L → pre.length = A.length → ((∃ l ∈ A, h ∈ l) → servB w ms pre bottom h = true) →
    ∀ t ∈ leaves (okB w ms bottom) (rwB bottom) L pre, (∃ l ∈ w.2, h ∈ l) → servB w ms t bottom h = true
  | [], A, pre, hw, hp, h0, t, ht, hl => by
    simp [leaves] at ht
    subst ht
    rw [hw, List.append_nil] at hl
    exact h0 hl
  | lot :: L, A, pre, hw, hp, h0, t, ht, hl => by
    rw [leaves] at ht
    obtain ⟨r, hr, ht⟩ := List.mem_flatMap.mp ht
    split at ht
    · rename_i hok
      refine serv_leaf L (A ++ [lot]) (pre ++ [r]) (by rw [hw]; simp) (by simp [hp]) (fun ⟨l, hlA, hhl⟩ => ?_) t ht hl
      by_cases hin : h ∈ lot
      · unfold okB at hok
        exact List.all_eq_true.mp hok h hin
      · have h1 : ∃ l ∈ A, h ∈ l := by
          rcases List.mem_append.mp hlA with e | e
          · exact ⟨l, e, hhl⟩
          · rw [List.mem_singleton.mp e] at hhl; exact absurd hhl hin
        have h2 := h0 h1
        have e1 : w.2.zip (pre ++ [r]) = A.zip pre ++ [(lot, r)] := by
          rw [hw, show A ++ lot :: L = (A ++ [lot]) ++ L from by simp, zip_short (by simp [hp]), List.zip_append hp.symm]
          rfl
        have e2 : w.2.zip pre = A.zip pre := by rw [hw, zip_short hp]
        unfold servB topR botR at h2 ⊢
        rw [e1, prodN_mid (by simp [hin]), prodN_mid (by simp [hin])]
        rw [e2] at h2
        exact h2
    · simp at ht
structure LeafOk (w : Web) (ms : List Nat) (bottom : Nat) (t : List (List Nat)) : Prop where
  len : t.length = w.2.length
  rows : ∀ p ∈ w.2.zip t, SpOk bottom p.1.length p.1.length p.2
  serv : ∀ h, (∃ l ∈ w.2, h ∈ l) → servB w ms t bottom h = true
theorem leaf_ok {w : Web} {ms : List Nat} {bottom : Nat} {t : List (List Nat)} (h : t ∈ leavesB w ms bottom) : LeafOk w ms bottom t := by
  obtain ⟨s, e1, e2, e3⟩ := leaves_mem _ _ t h
  rw [List.nil_append] at e1
  subst e1
  exact ⟨e2, fun p hp => spUp_ok _ _ (e3 p hp), fun h1 hl => serv_leaf w.2 [] [] rfl rfl (by simp) t h hl⟩
theorem zip_rats {bottom : Nat} {L t : List (List Nat)} : L.zip (ratsB bottom t) = (L.zip t).map fun p => (p.1, p.2.map fun n : Nat => mkRat (n : Int) bottom) := by
  unfold ratsB
  rw [List.zip_map_right]
  rfl
theorem met_rats {bottom h : Nat} (l : List (List Nat × List Nat)) : metQ (l.map fun p => (p.1, p.2.map fun n : Nat => mkRat (n : Int) bottom)) h = mkRat (topR h l : Nat) (botR bottom h l) := by
  induction l with
  | nil => simp [metQ, prodL, topR, botR, prodN]; rfl
  | cons p l ih =>
    have e1 : metQ ((p :: l).map fun p => (p.1, p.2.map fun n : Nat => mkRat (n : Int) bottom)) h = facQ h (p.1, p.2.map fun n : Nat => mkRat (n : Int) bottom) * metQ (l.map fun p => (p.1, p.2.map fun n : Nat => mkRat (n : Int) bottom)) h := rfl
    have e2 : topR h (p :: l) = (if h ∈ p.1 then p.2.getD (p.1.idxOf h) 0 else 1) * topR h l := rfl
    have e3 : botR bottom h (p :: l) = (if h ∈ p.1 then bottom else 1) * botR bottom h l := rfl
    rw [e1, ih, e2, e3]
    unfold facQ
    by_cases hin : h ∈ p.1
    · simp only [hin, if_true]
      have : (p.2.map fun n : Nat => mkRat (n : Int) bottom).getD (p.1.idxOf h) 0 = mkRat ((p.2.getD (p.1.idxOf h) 0 : Nat) : Int) bottom := by
        rw [List.getD_eq_getElem?_getD, List.getD_eq_getElem?_getD, List.getElem?_map]
        cases p.2[p.1.idxOf h]? with
        | none => simp
        | some v => rfl
      rw [this, Rat.mkRat_mul_mkRat, Int.natCast_mul]
    · simp only [hin, if_false, Rat.one_mul, Nat.one_mul]
theorem botR_pos {bottom h : Nat} (hb : 0 < bottom) (l : List (List Nat × List Nat)) : 0 < botR bottom h l := by
  induction l with
  | nil => exact Nat.one_pos
  | cons p l ih =>
    have e3 : botR bottom h (p :: l) = (if h ∈ p.1 then bottom else 1) * botR bottom h l := rfl
    rw [e3]
    refine Nat.mul_pos ?_ ih
    split <;> omega
theorem mk_serves {t b m : Nat} (hb : 0 < b) (h : b ≤ m * t) : ((mkRat (t : Int) b).den : Int) ≤ (mkRat (t : Int) b).num * (m : Int) := by
  have e := Rat.mkRat_self (mkRat (t : Int) b)
  have hd := (mkRat (t : Int) b).den_pos
  have e2 := (Rat.mkRat_eq_iff (by omega) (by omega)).mp e
  generalize (mkRat (t : Int) b).num = n at *
  generalize (mkRat (t : Int) b).den = d at *
  have h' : (b : Int) ≤ m * t := by exact_mod_cast h
  have h1 : (d : Int) * b ≤ n * m * b := by
    have h2 : (d : Int) * b ≤ d * (m * t) := Int.mul_le_mul_of_nonneg_left h' (by omega)
    have h3 : (d : Int) * (m * t) = n * m * b := by
      rw [show n * (m : Int) * b = (n * b) * m from by rw [Int.mul_right_comm], e2]
      rw [Int.mul_comm (m : Int), ← Int.mul_assoc, Int.mul_comm (d : Int)]
    omega
  exact Int.le_of_mul_le_mul_right h1 (by omega)
theorem idx_sum {f : Nat → Rat} : ∀ {l : List Nat} {r : List Rat}, l.Nodup → r.length = l.length → sumL (fun h => r.getD (l.idxOf h) 0) l = sumL id r
  | [], r, _, hl => by
    obtain rfl := List.length_eq_zero_iff.mp hl
    rfl
  | x :: l, r, hn, hl => by
    cases r with
    | nil => simp at hl
    | cons q r =>
      have hn' := List.nodup_cons.mp hn
      have ih := idx_sum (f := f) (l := l) (r := r) hn'.2 (by simpa using hl)
      have e1 : sumL (fun h => (q :: r).getD ((x :: l).idxOf h) 0) (x :: l) = (q :: r).getD ((x :: l).idxOf x) 0 + sumL (fun h => (q :: r).getD ((x :: l).idxOf h) 0) l := rfl
      have e2 : sumL id (q :: r) = q + sumL id r := rfl
      rw [e1, e2, ← ih]
      congr 1
      · simp
      · refine sumL_congr fun h hh => ?_
        have hne : x ≠ h := fun e => hn'.1 (e ▸ hh)
        rw [List.idxOf_cons, (show (x == h) = false from by simp [hne])]
        rfl
theorem mk_pos {n b : Nat} (hn : 0 < n) (hb : 0 < b) : 0 < mkRat (n : Int) b := by
  rw [Rat.mkRat_eq_div]
  have h1 : (0 : Rat) < (n : Rat) := by exact_mod_cast hn
  have h2 : (0 : Rat) < (b : Rat) := by exact_mod_cast hb
  rw [Rat.div_def]
  exact Rat.mul_pos (by exact_mod_cast h1) (Rat.inv_pos.mpr h2)
theorem sum_mk {b : Nat} (hb : 0 < b) (l : List Nat) : sumL id (l.map fun n : Nat => mkRat (n : Int) b) = mkRat (l.sum : Nat) b := by
  induction l with
  | nil => simp [sumL]
  | cons n l ih =>
    have e1 : sumL id ((n :: l).map fun n : Nat => mkRat (n : Int) b) = mkRat (n : Int) b + sumL id (l.map fun n : Nat => mkRat (n : Int) b) := rfl
    rw [e1, ih, List.sum_cons, Rat.mkRat_add_mkRat _ _ (by omega) (by omega), ← Int.add_mul, Rat.mkRat_mul_right (by omega)]
    push_cast
    rfl
theorem mk_le_one {n b : Nat} (hb : 0 < b) (h : n ≤ b) : mkRat (n : Int) b ≤ 1 := by
  rw [Rat.mkRat_eq_div, Rat.div_def]
  have h2 : (0 : Rat) < (b : Rat) := by exact_mod_cast hb
  have h3 : ((n : Int) : Rat) ≤ (b : Rat) := by exact_mod_cast h
  have h4 : (b : Rat) * (b : Rat)⁻¹ = 1 := Rat.mul_inv_cancel _ (by grind)
  have h5 : 0 < (b : Rat)⁻¹ := Rat.inv_pos.mpr h2
  have := Rat.mul_le_mul_of_nonneg_right h3 (show 0 ≤ (b : Rat)⁻¹ by grind)
  have e : ((b : Nat) : Int) = (b : Int) := rfl
  grind
structure BotIn (w : Web) (ms : List Nat) (bottom : Nat) : Prop where
  arc : ArcIn w ms bottom
  ms : MkOk w.1 ms
  few : w.1 ≤ 12
theorem leaf_arcR {w : Web} {ms : List Nat} {bottom : Nat} {t : List (List Nat)} (ok : BotIn w ms bottom) (h : LeafOk w ms bottom t) : ArcR bottom w (ratsB bottom t) := by
  have hb := ok.arc.bot
  refine ⟨by unfold ratsB; rw [List.length_map]; exact h.len, fun p hp => ?_, by have := ok.arc.things; omega, fun l hl => by have := ok.arc.few l hl; omega, hb.1, by omega⟩
  rw [zip_rats] at hp
  obtain ⟨p, hp2, rfl⟩ := List.mem_map.mp hp
  have := h.rows p hp2
  refine ⟨by simpa using this.len, fun q hq => ?_⟩
  obtain ⟨n, hn, rfl⟩ := List.mem_map.mp hq
  exact ⟨n, rfl, by simpa using (this.pos n hn).2⟩
theorem leaf_lies {w : Web} {ms : List Nat} {bottom : Nat} {t : List (List Nat)} (ok : BotIn w ms bottom) (h : LeafOk w ms bottom t) : Lies w (ratsB bottom t) := by
  have hb := ok.arc.bot
  intro p hp
  rw [zip_rats] at hp
  obtain ⟨p, hp2, rfl⟩ := List.mem_map.mp hp
  have := h.rows p hp2
  refine ⟨fun q hq => ?_, ?_⟩
  · obtain ⟨n, hn, rfl⟩ := List.mem_map.mp hq
    exact mk_pos (this.pos n hn).1 hb.1
  · show sumL id (p.2.map fun n : Nat => mkRat (n : Int) bottom) ≤ 1
    rw [sum_mk hb.1]
    exact mk_le_one hb.1 this.sum
theorem leaf_met {w : Web} {bottom h : Nat} {t : List (List Nat)} : metQ (w.2.zip (ratsB bottom t)) h = mkRat (topR h (w.2.zip t) : Nat) (botR bottom h (w.2.zip t)) := by
  rw [zip_rats, met_rats]
theorem leaf_serves {w : Web} {ms : List Nat} {bottom : Nat} {t : List (List Nat)} (ok : BotIn w ms bottom) (h : LeafOk w ms bottom t) : Serves w ms (ratsB bottom t) := by
  intro x hx
  have h1 := h.serv x (ok.arc.web.cov x hx)
  unfold servB at h1
  rw [leaf_met]
  exact mk_serves (botR_pos ok.arc.bot.1 _) (by simpa using h1)
theorem served_fault {w : Web} {ms : List Nat} {as : List (List Rat)} (web : WOk w) (hm : MkOk w.1 ms) (hl : as.length = w.2.length) (he : ∀ p ∈ w.2.zip as, p.2.length = p.1.length) (hs : Lies w as) (hv : Serves w ms as) : faultM w ms = none := by
  refine no_fault (ds := (w.2.zip as).map fun p => (p.1, fun h => p.2.getD (p.1.idxOf h) 0)) hm (fun d hd => ?_) ?_ fun h hh => ?_
  · obtain ⟨p, hp, rfl⟩ := List.mem_map.mp hd
    have hpw : p.1 ∈ w.2 := (List.of_mem_zip (show (p.1, p.2) ∈ w.2.zip as from hp)).1
    have hnd : p.1.Nodup := (web.asc p.1 hpw).imp fun h => by omega
    obtain ⟨h1, h2⟩ := hs p hp
    refine ⟨hnd, fun h hh => ?_, ?_⟩
    · have hidx : p.1.idxOf h < p.2.length := by rw [he p hp]; exact List.idxOf_lt_length_iff.mpr hh
      show 0 ≤ p.2.getD (p.1.idxOf h) 0
      rw [List.getD_eq_getElem?_getD, List.getElem?_eq_getElem hidx]
      have := h1 _ (List.getElem_mem hidx)
      exact Rat.le_of_lt this
    · show sumL (fun h => p.2.getD (p.1.idxOf h) 0) p.1 ≤ 1
      rw [idx_sum (f := fun _ => 0) hnd (he p hp)]
      exact h2
  · rw [List.map_map]
    have : ((fun d : Dial => d.1) ∘ fun p : List Nat × List Rat => ((p.1, fun h => p.2.getD (p.1.idxOf h) 0) : Dial)) = Prod.fst := rfl
    rw [this, List.map_fst_zip (by omega)]
  · have e1 : chn ((w.2.zip as).map fun p => ((p.1, fun h => p.2.getD (p.1.idxOf h) 0) : Dial)) h = metQ (w.2.zip as) h := by
      unfold metQ
      generalize w.2.zip as = l
      induction l with
      | nil => rfl
      | cons p l ih =>
        show yv _ h * chn _ h = facQ h p * prodL (facQ h) l
        rw [ih]
        rfl
    rw [e1]
    have h1 := hv h hh
    have hml : h < ms.length := by rw [hm.1]; exact hh
    have hmm := (hm.2 _ (List.getElem_mem hml)).1
    have e2 : ms.getD h 0 = ms[h] := by rw [List.getD_eq_getElem?_getD, List.getElem?_eq_getElem hml]; rfl
    rw [e2] at h1 ⊢
    rw [Rat.le_iff, inv_num hmm, inv_den hmm]
    omega
theorem plainBs_of {ds : List D} (h : ∀ d ∈ ds, plainB d = true) : plainBs ds = true := by
  induction ds with
  | nil => rfl
  | cons d ds ih =>
    unfold plainBs
    rw [h d (by simp), ih fun x hx => h x (by simp [hx])]
    rfl
theorem nodesNs_le {ds : List D} {c : Nat} (h : ∀ d ∈ ds, nodesN d ≤ c) : nodesNs ds ≤ ds.length * c := by
  induction ds with
  | nil => simp [nodesNs]
  | cons d ds ih =>
    have h1 := h d (by simp)
    have h2 := ih fun x hx => h x (by simp [hx])
    rw [List.length_cons, Nat.succ_mul]
    simp only [nodesNs]
    omega
theorem plain_arcR {r : List Rat} (h : r.length ≤ 100) : plainB (arcR r) = true ∧ (arcR r).depth ≤ 2 ∧ nodesN (arcR r) ≤ 301 := by
  refine ⟨?_, ?_, ?_⟩
  · unfold arcR plainB
    refine plainBs_of fun d hd => ?_
    obtain ⟨q, _, rfl⟩ := List.mem_map.mp hd
    rfl
  · unfold arcR PyData.depth
    have : PyData.depthAll (r.map frD) ≤ 1 := depthAll_le fun d hd => by
      obtain ⟨q, _, rfl⟩ := List.mem_map.mp hd
      simp [PyData.depth, PyData.depthAll]
    omega
  · have : nodesNs (r.map frD) ≤ (r.map frD).length * 3 := nodesNs_le fun d hd => by
      obtain ⟨q, _, rfl⟩ := List.mem_map.mp hd
      simp [nodesN, nodesNs]
    rw [List.length_map] at this
    unfold arcR
    simp only [nodesN]
    omega
theorem plain_arcsR {as : List (List Rat)} (h : as.length ≤ 100) (h2 : ∀ r ∈ as, r.length ≤ 100) : PlainD (arcsR as) := by
  refine ⟨?_, ?_, ?_⟩
  · unfold arcsR plainB
    refine plainBs_of fun d hd => ?_
    obtain ⟨r, hr, rfl⟩ := List.mem_map.mp hd
    exact (plain_arcR (h2 r hr)).1
  · unfold arcsR PyData.depth
    have : PyData.depthAll (as.map arcR) ≤ 2 := depthAll_le fun d hd => by
      obtain ⟨r, hr, rfl⟩ := List.mem_map.mp hd
      exact (plain_arcR (h2 r hr)).2.1
    omega
  · have : nodesNs (as.map arcR) ≤ (as.map arcR).length * 301 := nodesNs_le fun d hd => by
      obtain ⟨r, hr, rfl⟩ := List.mem_map.mp hd
      exact (plain_arcR (h2 r hr)).2.2
    rw [List.length_map] at this
    unfold arcsR
    simp only [nodesN]
    omega
theorem plain_arcs {w : Web} {ms : List Nat} {bottom : Nat} (ok : ArcIn w ms bottom) : PlainD (arcsOD bottom (leavesB w ms bottom).head?) := by
  cases h : (leavesB w ms bottom).head? with
  | none =>
    show PlainD .none
    exact ⟨rfl, by decide, by decide⟩
  | some t =>
    have hl := leaf_ok (List.mem_of_mem_head? h)
    show PlainD (arcsD bottom t)
    rw [arcsD_eq]
    have hth := ok.things
    refine plain_arcsR (by unfold ratsB; rw [List.length_map, hl.len]; omega) fun r hr => ?_
    unfold ratsB at hr
    obtain ⟨row, hrow, rfl⟩ := List.mem_map.mp hr
    obtain ⟨i, hi, rfl⟩ := List.getElem_of_mem hrow
    have hi2 : i < w.2.length := by rw [← hl.len]; exact hi
    have hz : (w.2[i], t[i]) ∈ w.2.zip t := by
      have hlt : i < (w.2.zip t).length := by rw [List.length_zip]; omega
      have : (w.2.zip t)[i] = (w.2[i], t[i]) := List.getElem_zip
      rw [← this]
      exact List.getElem_mem hlt
    have := (hl.rows _ hz).len
    have h4 := ok.few _ (List.getElem_mem hi2)
    rw [List.length_map]
    simp only at this
    omega
theorem small_arcs {w : Web} (h : SmallP 4 4 w) {ms : List Nat} (hm : MkOk w.1 ms) {bottom : Nat} (hb : 0 < bottom ∧ bottom ≤ 6) : BotIn w ms bottom := by
  obtain ⟨hok, hw⟩ := h.ok
  refine ⟨⟨hok, hm.1, fun l hl => ?_, ?_, ?_, hb⟩, hm, by omega⟩
  · have := asc_length (hok.asc l hl) (hok.rng l hl)
    omega
  · rcases h with h | rfl
    · exact h.2
    · decide
  · intro e
    obtain ⟨l, hl, _⟩ := hok.cov 0 hok.pos
    rw [e] at hl
    simp at hl
theorem tri_leaf : (leavesB (3, [[0, 1], [0, 2], [1, 2]]) [4, 4, 4] 2).head? = some [[1, 1], [1, 1], [1, 1]] := by decide
theorem tri_ok : WOk (3, [[0, 1], [0, 2], [1, 2]]) := (SmallP.ok (most := 3) (things := 3) (.inr rfl)).1
theorem law_k69 {Γ : Gam} (hB : Has Γ "_law_box" BoxSp) (hW : Has Γ "_law_small_web" SmallSp) (hT : Has Γ "_law_take" TakeSp) (hM : Has Γ "_law_marks" MarksSp) (hF : Has Γ "_law_first_arcs" ArcsSp) (hA : Has Γ "arcs_found" ArcsSp) (hL : Has Γ "_law_like" LikeSp) (hS : Has Γ "_law_serve" ServeSp) (hC : Has Γ "_law_chances" ChanSp) (hU : Has Γ "_law_fault" FaultSp) : LawSp (den Γ 1 8 b_law_k69) := by
  intro ns hns
  refine den_run ⟨rfl, by decide⟩ ?_
  simp [b_law_k69, initE, initS, wss_cons]
  obtain ⟨N, hN, hN1, hN2⟩ : ∃ N : Nat, (if (3 : Int) < if (6 : Int) < (ns.length : Int) then 6 else (ns.length : Int) then if (6 : Int) < (ns.length : Int) then 6 else (ns.length : Int) else 3) = (N : Int) ∧ 3 ≤ N ∧ N ≤ 6 := by
    refine ⟨max 3 (min ns.length 6), ?_, by omega, by omega⟩
    split <;> split <;> omega
  rw [hN]
  refine ⟨by omega, ?_⟩
  obtain ⟨I, hI⟩ : ∃ I : Nat → Env → Store → Prop, I = fun i e T => ∃ (t1 t2 t3 t4 t5 t6 t7 : Option Sl), e = [some (.d (.list (ns.map .int))), t1, t2, t3, t4, t5, t6, t7] := ⟨_, rfl⟩
  refine wp_for_rng I (by rw [hI]; exact ⟨_, _, _, _, _, _, _, rfl⟩) (fun i e T hi h => ?_) fun e T h => ?_
  · rw [hI] at h
    obtain ⟨t1, t2, t3, t4, t5, t6, t7, rfl⟩ := h
    have hi' : i < 6 := by omega
    rw [wp_forF (by rfl)]
    simp [wss_cons]
    refine hB.call fun φ hφ => ?_
    simp
    refine hφ.wp (by omega) (by omega) fun b => ?_
    simp [wss_cons]
    refine hW.call fun φ hφ => ?_
    simp
    refine wp_web2 (b := b) (hφ b 4 4 (by decide) (by decide)) (by simp) fun w b2 hw => ?_
    obtain ⟨hok, hw5⟩ := hw.ok
    have hw4 : w.1 ≤ 4 := by omega
    have hw0 := hok.pos
    simp [wss_cons]
    refine hM.call fun φ hφ => ?_
    simp
    rw [show (i : Int) % 4 = ((i % 4 : Nat) : Int) from by omega]
    refine hφ.wp (b := b2) hw0 (by omega) (by simp) fun ms b3 hms => ?_
    simp [wss_cons]
    refine hT.call fun φ hφ => ?_
    simp
    refine hφ.wp (b := b3) (by simp) (by decide) (by decide) fun k b4 hk => ?_
    have e5 : (1 : Int) + (k : Int) = ((1 + k : Nat) : Int) := by omega
    simp only [kO_ap, wp_bin_int, wp_int_add]
    rw [e5]
    generalize hbt : 1 + k = bottom
    have ok : BotIn w ms bottom := small_arcs hw hms (by omega)
    simp [wss_cons]
    refine hF.call fun φ hφ => ?_
    simp
    refine (hφ w ms bottom ok.arc).wp3 ?_
    simp [wss_cons]
    refine hA.call fun φ hφ => ?_
    simp
    refine (hφ w ms bottom ok.arc).wp3 ?_
    simp [wss_cons]
    refine hL.call fun φ hφ => ?_
    simp
    refine (hφ _ (plain_arcs ok.arc)).wp2 ?_
    simp [wss_cons]
    cases hh : (leavesB w ms bottom).head? with
    | none =>
      simp [arcsOD, wss_cons]
      rw [hI]
      exact ⟨_, _, _, _, _, _, _, rfl⟩
    | some t =>
      have hlf := leaf_ok (List.mem_of_mem_head? hh)
      have ea : arcsOD bottom (some t) = arcsR (ratsB bottom t) := arcsD_eq bottom t
      have en : Co.isNone (.d (arcsR (ratsB bottom t))) = false := rfl
      rw [ea]
      simp [en, wss_cons]
      refine hS.call fun φ hφ => ?_
      simp
      refine (hφ w ms (ratsB bottom t) bottom (leaf_arcR ok hlf) (by omega) hms (leaf_lies ok hlf) (leaf_serves ok hlf)).wp3 ?_
      simp [wss_cons]
      refine hU.call fun φ hφ => ?_
      simp
      refine hC.call fun φ2 hφ2 => ?_
      simp
      refine (hφ2 ms hms.pos).wp1 ?_
      simp
      refine (hφ w (ms.map inv) hms.ch (by rw [List.length_map, hms.1]; exact Nat.le_refl _) ok.few).wp2 ?_
      rw [show faultO w (ms.map inv) = none from served_fault hok hms (by unfold ratsB; rw [List.length_map]; exact hlf.len) (fun p hp => ((leaf_arcR ok hlf).each p hp).1) (leaf_lies ok hlf) (leaf_serves ok hlf)]
      simp [optD, wss_cons]
      rw [hI]
      exact ⟨_, _, _, _, _, _, _, rfl⟩
  · rw [hI] at h
    obtain ⟨t1, t2, t3, t4, t5, t6, t7, rfl⟩ := h
    simp [wss_cons]
    refine hL.call fun φ hφ => ?_
    simp
    refine hA.call fun φ2 hφ2 => ?_
    simp
    have ok := small_arcs (w := (3, [[0, 1], [0, 2], [1, 2]])) (.inr rfl) (ms := [4, 4, 4]) ⟨rfl, by decide⟩ (bottom := 2) (by decide)
    have q := hφ2 _ _ _ ok.arc
    have pl := plain_arcs ok.arc
    rw [tri_leaf] at q pl
    refine Ev.wp3 q ?_
    simp
    have e : arcsOD 2 (some [[1, 1], [1, 1], [1, 1]]) = .tuple [.tuple [.tuple [.int 1, .int 2], .tuple [.int 1, .int 2]], .tuple [.tuple [.int 1, .int 2], .tuple [.int 1, .int 2]], .tuple [.tuple [.int 1, .int 2], .tuple [.int 1, .int 2]]] := by rfl
    rw [← e]
    refine (hφ _ pl).wp2 ?_
    simp [wss_cons]
    exact rfl
end Th
end
section
open PySem PySem.Spec PyProof.Rows L2
set_option Elab.async false
set_option linter.all false
set_option maxRecDepth 100000
set_option maxHeartbeats 0
namespace Th.k69
def topS (i : Nat) : Stmt := PySem.Challenge.pw_thingsapart_k69_arcs_found_by_a_bottom.main.body.getD i (.Pass ⟨0, 0, 0, 0⟩)
def par : Par := fun x => if x = "splits" then ["many", "bottom"] else if x = "is_served" then ["web", "marks", "rows", "bottom", "hand"] else if x = "least" then ["top", "bottom"] else if x = "arcs_found" then ["web", "marks", "bottom"] else if x = "_law_box" then ["script", "k"] else if x = "_law_take" then ["box", "many"] else if x = "_law_pick" then ["box", "some"] else if x = "_law_like" then ["told", "due"] else if x = "_law_shuffled" then ["box", "some"] else if x = "_law_lots" then ["many"] else if x = "_law_named" then ["box", "many", "things"] else if x = "_law_forest" then ["box", "most"] else if x = "_law_ring" then ["box", "most"] else if x = "_law_any_web" then ["box", "most"] else if x = "_law_web" then ["box", "most"] else if x = "_law_touch" then ["web", "one", "two"] else if x = "_law_apart" then ["web", "lot"] else if x = "_law_gcd" then ["one", "two"] else if x = "_law_part" then ["top", "bottom"] else if x = "_law_plus" then ["one", "two"] else if x = "_law_times" then ["one", "two"] else if x = "_law_chances" then ["marks"] else if x = "_law_sum_of" then ["web", "chances", "lot"] else if x = "_law_fault" then ["web", "chances"] else if x = "_law_enough_for" then ["web", "marks", "hand"] else if x = "_law_marks" then ["box", "web", "way"] else if x = "_law_met" then ["web", "arcs"] else if x = "_law_serve" then ["web", "marks", "told"] else if x = "_law_all_rows" then ["many", "most"] else if x = "_law_small_web" then ["box", "most", "things"] else if x = "_law_splits" then ["many", "bottom"] else if x = "_law_has" then ["web", "marks", "rows", "bottom", "hand"] else if x = "_law_first_arcs" then ["web", "marks", "bottom"] else if x = "law" then ["script"] else []
def Γ0 : Gam := fun _ => none
def N1 : List Str := ["many", "bottom", "rows", "place", "later", "row", "left", "number"]
theorem c1 : (defBody (topS 1)).map (cS ⟨N1, defScope (topS 1), fun _ => true, par⟩ 40) = b_splits := by rfl
theorem s1 : FnScope N1 ["many", "bottom"] (defScope (topS 1)) := ⟨rfl, rfl, rfl, by decide +kernel, rfl, by decide +kernel, by decide +kernel⟩
noncomputable def f1 : Fn := den Γ0 2 8 b_splits
theorem t1 : SplitsSp f1 := splits_sp Γ0
noncomputable def Γ1 : Gam := Γ0.add "splits" (.fn f1)
def N2 : List Str := ["web", "marks", "rows", "bottom", "hand", "top", "below", "lot", "row"]
theorem c2 : (defBody (topS 2)).map (cS ⟨N2, defScope (topS 2), fun _ => true, par⟩ 40) = b_is_served := by rfl
theorem s2 : FnScope N2 ["web", "marks", "rows", "bottom", "hand"] (defScope (topS 2)) := ⟨rfl, rfl, rfl, by decide +kernel, rfl, by decide +kernel, by decide +kernel⟩
noncomputable def f2 : Fn := den Γ1 5 9 b_is_served
theorem t2 : ServedSp f2 := served_sp Γ1
noncomputable def Γ2 : Gam := Γ1.add "is_served" (.fn f2)
def N4 : List Str := ["top", "bottom", "one", "two"]
theorem c4 : (defBody (topS 4)).map (cS ⟨N4, defScope (topS 4), fun _ => true, par⟩ 40) = b_least := by rfl
theorem s4 : FnScope N4 ["top", "bottom"] (defScope (topS 4)) := ⟨rfl, rfl, rfl, by decide +kernel, rfl, by decide +kernel, by decide +kernel⟩
noncomputable def f4 : Fn := den Γ2 2 4 b_least
theorem t4 : LeastSp f4 := least_sp Γ2
noncomputable def Γ4 : Gam := Γ2.add "least" (.fn f4)
def N3 : List Str := ["web", "marks", "bottom", "many", "choices", "spots", "rows", "place", "lot", "hand", "row", "number"]
theorem c3 : (defBody (topS 3)).map (cS ⟨N3, defScope (topS 3), fun _ => true, par⟩ 40) = b_arcs_found := by rfl
theorem s3 : FnScope N3 ["web", "marks", "bottom"] (defScope (topS 3)) := ⟨rfl, rfl, rfl, by decide +kernel, rfl, by decide +kernel, by decide +kernel⟩
noncomputable def f3 : Fn := den Γ4 3 12 b_arcs_found
theorem t3 : ArcsSp f3 := arcs_sp ⟨f1, by rfl, t1⟩ ⟨f2, by rfl, t2⟩ ⟨f4, by rfl, t4⟩
noncomputable def Γ3 : Gam := Γ4.add "arcs_found" (.fn f3)
def N6 : List Str := ["script", "k", "cell", "great"]
theorem c6 : (defBody (topS 6)).map (cS ⟨N6, defScope (topS 6), fun _ => true, par⟩ 40) = b_Lbox := by rfl
theorem s6 : FnScope N6 ["script", "k"] (defScope (topS 6)) := ⟨rfl, rfl, rfl, by decide +kernel, rfl, by decide +kernel, by decide +kernel⟩
noncomputable def f6 : Fn := den Γ3 2 4 b_Lbox
theorem t6 : BoxSp f6 := box_sp Γ3
noncomputable def Γ6 : Gam := Γ3.add "_law_box" (.fn f6)
def N7 : List Str := ["box", "many", "raw", "digit"]
theorem c7 : (defBody (topS 7)).map (cS ⟨N7, defScope (topS 7), fun _ => true, par⟩ 40) = b_Ltake := by rfl
theorem s7 : FnScope N7 ["box", "many"] (defScope (topS 7)) := ⟨rfl, rfl, rfl, by decide +kernel, rfl, by decide +kernel, by decide +kernel⟩
noncomputable def f7 : Fn := den Γ6 2 4 b_Ltake
theorem t7 : TakeSp f7 := take_sp Γ6
noncomputable def Γ7 : Gam := Γ6.add "_law_take" (.fn f7)
def N8 : List Str := ["box", "some"]
theorem c8 : (defBody (topS 8)).map (cS ⟨N8, defScope (topS 8), fun _ => true, par⟩ 40) = b_Lpick := by rfl
theorem s8 : FnScope N8 ["box", "some"] (defScope (topS 8)) := ⟨rfl, rfl, rfl, by decide +kernel, rfl, by decide +kernel, by decide +kernel⟩
noncomputable def f8 : Fn := den Γ7 2 2 b_Lpick
theorem t8 : PickSp f8 := pick_sp ⟨f7, by rfl, t7⟩
noncomputable def Γ8 : Gam := Γ7.add "_law_pick" (.fn f8)
def N9 : List Str := ["told", "due", "left", "turn", "one", "two"]
theorem c9 : (defBody (topS 9)).map (cS ⟨N9, defScope (topS 9), fun _ => true, par⟩ 40) = b_Llike := by rfl
theorem s9 : FnScope N9 ["told", "due"] (defScope (topS 9)) := ⟨rfl, rfl, rfl, by decide +kernel, rfl, by decide +kernel, by decide +kernel⟩
noncomputable def f9 : Fn := den Γ8 2 6 b_Llike
theorem t9 : LikeSp f9 := like_sp Γ8
noncomputable def Γ9 : Gam := Γ8.add "_law_like" (.fn f9)
def N10 : List Str := ["box", "some", "turn", "left", "found"]
theorem c10 : (defBody (topS 10)).map (cS ⟨N10, defScope (topS 10), fun _ => true, par⟩ 40) = b_Lshuffled := by rfl
theorem s10 : FnScope N10 ["box", "some"] (defScope (topS 10)) := ⟨rfl, rfl, rfl, by decide +kernel, rfl, by decide +kernel, by decide +kernel⟩
noncomputable def f10 : Fn := den Γ9 2 5 b_Lshuffled
theorem t10 : ShufSp f10 := shuf_sp ⟨f7, by rfl, t7⟩
noncomputable def Γ10 : Gam := Γ9.add "_law_shuffled" (.fn f10)
def N11 : List Str := ["many", "found", "hand", "row", "lot"]
theorem c11 : (defBody (topS 11)).map (cS ⟨N11, defScope (topS 11), fun _ => true, par⟩ 40) = b_Llots := by rfl
theorem s11 : FnScope N11 ["many"] (defScope (topS 11)) := ⟨rfl, rfl, rfl, by decide +kernel, rfl, by decide +kernel, by decide +kernel⟩
noncomputable def f11 : Fn := den Γ10 1 5 b_Llots
theorem t11 : LotsSp f11 := lots_sp Γ10
noncomputable def Γ11 : Gam := Γ10.add "_law_lots" (.fn f11)
def N12 : List Str := ["box", "many", "things", "names", "lot", "hand"]
theorem c12 : (defBody (topS 12)).map (cS ⟨N12, defScope (topS 12), fun _ => true, par⟩ 40) = b_Lnamed := by rfl
theorem s12 : FnScope N12 ["box", "many", "things"] (defScope (topS 12)) := ⟨rfl, rfl, rfl, by decide +kernel, rfl, by decide +kernel, by decide +kernel⟩
noncomputable def f12 : Fn := den Γ11 3 6 b_Lnamed
theorem t12 : NamedSp f12 := named_sp ⟨f10, by rfl, t10⟩
noncomputable def Γ12 : Gam := Γ11.add "_law_named" (.fn f12)
def N13 : List Str := ["box", "most", "turn", "many", "things", "size", "old"]
theorem c13 : (defBody (topS 13)).map (cS ⟨N13, defScope (topS 13), fun _ => true, par⟩ 40) = b_Lforest := by rfl
theorem s13 : FnScope N13 ["box", "most"] (defScope (topS 13)) := ⟨rfl, rfl, rfl, by decide +kernel, rfl, by decide +kernel, by decide +kernel⟩
noncomputable def f13 : Fn := den Γ12 2 7 b_Lforest
theorem t13 : ForestSp f13 := forest_sp ⟨f7, by rfl, t7⟩ ⟨f12, by rfl, t12⟩
noncomputable def Γ13 : Gam := Γ12.add "_law_forest" (.fn f13)
def N14 : List Str := ["box", "most", "many", "things", "hand"]
theorem c14 : (defBody (topS 14)).map (cS ⟨N14, defScope (topS 14), fun _ => true, par⟩ 40) = b_Lring := by rfl
theorem s14 : FnScope N14 ["box", "most"] (defScope (topS 14)) := ⟨rfl, rfl, rfl, by decide +kernel, rfl, by decide +kernel, by decide +kernel⟩
noncomputable def f14 : Fn := den Γ13 2 5 b_Lring
theorem t14 : RingSp f14 := ring_sp ⟨f7, by rfl, t7⟩ ⟨f12, by rfl, t12⟩
noncomputable def Γ14 : Gam := Γ13.add "_law_ring" (.fn f14)
def N15 : List Str := ["box", "most", "many", "things", "turn", "lot", "hand"]
theorem c15 : (defBody (topS 15)).map (cS ⟨N15, defScope (topS 15), fun _ => true, par⟩ 40) = b_Lany_web := by rfl
theorem s15 : FnScope N15 ["box", "most"] (defScope (topS 15)) := ⟨rfl, rfl, rfl, by decide +kernel, rfl, by decide +kernel, by decide +kernel⟩
noncomputable def f15 : Fn := den Γ14 2 7 b_Lany_web
theorem t15 : AnySp f15 := any_sp ⟨f7, by rfl, t7⟩ ⟨f12, by rfl, t12⟩
noncomputable def Γ15 : Gam := Γ14.add "_law_any_web" (.fn f15)
def N16 : List Str := ["box", "most", "way", "many"]
theorem c16 : (defBody (topS 16)).map (cS ⟨N16, defScope (topS 16), fun _ => true, par⟩ 40) = b_Lweb := by rfl
theorem s16 : FnScope N16 ["box", "most"] (defScope (topS 16)) := ⟨rfl, rfl, rfl, by decide +kernel, rfl, by decide +kernel, by decide +kernel⟩
noncomputable def f16 : Fn := den Γ15 2 4 b_Lweb
theorem t16 : WebSp f16 := web_sp ⟨f7, by rfl, t7⟩ ⟨f13, by rfl, t13⟩ ⟨f14, by rfl, t14⟩ ⟨f15, by rfl, t15⟩
noncomputable def Γ16 : Gam := Γ15.add "_law_web" (.fn f16)
def N17 : List Str := ["web", "one", "two", "lot"]
theorem c17 : (defBody (topS 17)).map (cS ⟨N17, defScope (topS 17), fun _ => true, par⟩ 40) = b_Ltouch := by rfl
theorem s17 : FnScope N17 ["web", "one", "two"] (defScope (topS 17)) := ⟨rfl, rfl, rfl, by decide +kernel, rfl, by decide +kernel, by decide +kernel⟩
noncomputable def f17 : Fn := den Γ16 3 4 b_Ltouch
theorem t17 : TouchSp f17 := touch_sp Γ16
noncomputable def Γ17 : Gam := Γ16.add "_law_touch" (.fn f17)
def N18 : List Str := ["web", "lot", "one", "two"]
theorem c18 : (defBody (topS 18)).map (cS ⟨N18, defScope (topS 18), fun _ => true, par⟩ 40) = b_Lapart := by rfl
theorem s18 : FnScope N18 ["web", "lot"] (defScope (topS 18)) := ⟨rfl, rfl, rfl, by decide +kernel, rfl, by decide +kernel, by decide +kernel⟩
noncomputable def f18 : Fn := den Γ17 2 4 b_Lapart
theorem t18 : ApartSp f18 := apart_sp ⟨f17, by rfl, t17⟩
noncomputable def Γ18 : Gam := Γ17.add "_law_apart" (.fn f18)
def N19 : List Str := ["one", "two"]
theorem c19 : (defBody (topS 19)).map (cS ⟨N19, defScope (topS 19), fun _ => true, par⟩ 40) = b_Lgcd := by rfl
theorem s19 : FnScope N19 ["one", "two"] (defScope (topS 19)) := ⟨rfl, rfl, rfl, by decide +kernel, rfl, by decide +kernel, by decide +kernel⟩
noncomputable def f19 : Fn := den Γ18 2 2 b_Lgcd
theorem t19 : GcdSp f19 := gcd_sp Γ18
noncomputable def Γ19 : Gam := Γ18.add "_law_gcd" (.fn f19)
def N20 : List Str := ["top", "bottom", "common"]
theorem c20 : (defBody (topS 20)).map (cS ⟨N20, defScope (topS 20), fun _ => true, par⟩ 40) = b_Lpart := by rfl
theorem s20 : FnScope N20 ["top", "bottom"] (defScope (topS 20)) := ⟨rfl, rfl, rfl, by decide +kernel, rfl, by decide +kernel, by decide +kernel⟩
noncomputable def f20 : Fn := den Γ19 2 3 b_Lpart
theorem t20 : PartSp f20 := part_sp ⟨f19, by rfl, t19⟩
noncomputable def Γ20 : Gam := Γ19.add "_law_part" (.fn f20)
def N21 : List Str := ["one", "two"]
theorem c21 : (defBody (topS 21)).map (cS ⟨N21, defScope (topS 21), fun _ => true, par⟩ 40) = b_Lplus := by rfl
theorem s21 : FnScope N21 ["one", "two"] (defScope (topS 21)) := ⟨rfl, rfl, rfl, by decide +kernel, rfl, by decide +kernel, by decide +kernel⟩
noncomputable def f21 : Fn := den Γ20 2 2 b_Lplus
theorem t21 : PlusSp f21 := plus_sp ⟨f20, by rfl, t20⟩
noncomputable def Γ21 : Gam := Γ20.add "_law_plus" (.fn f21)
def N22 : List Str := ["one", "two"]
theorem c22 : (defBody (topS 22)).map (cS ⟨N22, defScope (topS 22), fun _ => true, par⟩ 40) = b_Ltimes := by rfl
theorem s22 : FnScope N22 ["one", "two"] (defScope (topS 22)) := ⟨rfl, rfl, rfl, by decide +kernel, rfl, by decide +kernel, by decide +kernel⟩
noncomputable def f22 : Fn := den Γ21 2 2 b_Ltimes
theorem t22 : TimesSp f22 := times_sp ⟨f20, by rfl, t20⟩
noncomputable def Γ22 : Gam := Γ21.add "_law_times" (.fn f22)
def N23 : List Str := ["marks", "number"]
theorem c23 : (defBody (topS 23)).map (cS ⟨N23, defScope (topS 23), fun _ => true, par⟩ 40) = b_Lchances := by rfl
theorem s23 : FnScope N23 ["marks"] (defScope (topS 23)) := ⟨rfl, rfl, rfl, by decide +kernel, rfl, by decide +kernel, by decide +kernel⟩
noncomputable def f23 : Fn := den Γ22 1 2 b_Lchances
theorem t23 : ChanSp f23 := chan_sp Γ22
noncomputable def Γ23 : Gam := Γ22.add "_law_chances" (.fn f23)
def N24 : List Str := ["web", "chances", "lot", "total", "place", "some", "part", "hand", "spot"]
theorem c24 : (defBody (topS 24)).map (cS ⟨N24, defScope (topS 24), fun _ => true, par⟩ 40) = b_Lsum_of := by rfl
theorem s24 : FnScope N24 ["web", "chances", "lot"] (defScope (topS 24)) := ⟨rfl, rfl, rfl, by decide +kernel, rfl, by decide +kernel, by decide +kernel⟩
noncomputable def f24 : Fn := den Γ23 3 9 b_Lsum_of
theorem t24 : SumSp f24 := sum_sp ⟨f18, by rfl, t18⟩ ⟨f22, by rfl, t22⟩ ⟨f21, by rfl, t21⟩
noncomputable def Γ24 : Gam := Γ23.add "_law_sum_of" (.fn f24)
def N25 : List Str := ["web", "chances", "lot"]
theorem c25 : (defBody (topS 25)).map (cS ⟨N25, defScope (topS 25), fun _ => true, par⟩ 40) = b_Lfault := by rfl
theorem s25 : FnScope N25 ["web", "chances"] (defScope (topS 25)) := ⟨rfl, rfl, rfl, by decide +kernel, rfl, by decide +kernel, by decide +kernel⟩
noncomputable def f25 : Fn := den Γ24 2 3 b_Lfault
theorem t25 : FaultSp f25 := fault_sp ⟨f11, by rfl, t11⟩ ⟨f24, by rfl, t24⟩
noncomputable def Γ25 : Gam := Γ24.add "_law_fault" (.fn f25)
def N26 : List Str := ["web", "marks", "hand", "number"]
theorem c26 : (defBody (topS 26)).map (cS ⟨N26, defScope (topS 26), fun _ => true, par⟩ 40) = b_Lenough_for := by rfl
theorem s26 : FnScope N26 ["web", "marks", "hand"] (defScope (topS 26)) := ⟨rfl, rfl, rfl, by decide +kernel, rfl, by decide +kernel, by decide +kernel⟩
noncomputable def f26 : Fn := den Γ25 3 4 b_Lenough_for
theorem t26 : EnoughSp f26 := enough_sp ⟨f23, by rfl, t23⟩ ⟨f25, by rfl, t25⟩
noncomputable def Γ26 : Gam := Γ25.add "_law_enough_for" (.fn f26)
def N27 : List Str := ["box", "web", "way", "marks", "turn", "hand", "least_v", "number"]
theorem c27 : (defBody (topS 27)).map (cS ⟨N27, defScope (topS 27), fun _ => true, par⟩ 40) = b_Lmarks := by rfl
theorem s27 : FnScope N27 ["box", "web", "way"] (defScope (topS 27)) := ⟨rfl, rfl, rfl, by decide +kernel, rfl, by decide +kernel, by decide +kernel⟩
noncomputable def f27 : Fn := den Γ26 3 8 b_Lmarks
theorem t27 : MarksSp f27 := marks_sp ⟨f8, by rfl, t8⟩ ⟨f7, by rfl, t7⟩ ⟨f23, by rfl, t23⟩ ⟨f25, by rfl, t25⟩ ⟨f26, by rfl, t26⟩
noncomputable def Γ27 : Gam := Γ26.add "_law_marks" (.fn f27)
def N28 : List Str := ["web", "arcs", "found", "hand", "chance", "lot", "row"]
theorem c28 : (defBody (topS 28)).map (cS ⟨N28, defScope (topS 28), fun _ => true, par⟩ 40) = b_Lmet := by rfl
theorem s28 : FnScope N28 ["web", "arcs"] (defScope (topS 28)) := ⟨rfl, rfl, rfl, by decide +kernel, rfl, by decide +kernel, by decide +kernel⟩
noncomputable def f28 : Fn := den Γ27 2 7 b_Lmet
theorem t28 : MetSp f28 := met_sp ⟨f22, by rfl, t22⟩
noncomputable def Γ28 : Gam := Γ27.add "_law_met" (.fn f28)
def N29 : List Str := ["web", "marks", "told", "lot", "row", "arc", "total", "hand", "chance", "one"]
theorem c29 : (defBody (topS 29)).map (cS ⟨N29, defScope (topS 29), fun _ => true, par⟩ 40) = b_Lserve := by rfl
theorem s29 : FnScope N29 ["web", "marks", "told"] (defScope (topS 29)) := ⟨rfl, rfl, rfl, by decide +kernel, rfl, by decide +kernel, by decide +kernel⟩
noncomputable def f29 : Fn := den Γ28 3 10 b_Lserve
theorem t29 : ServeSp f29 := serve_sp ⟨f19, by rfl, t19⟩ ⟨f21, by rfl, t21⟩ ⟨f28, by rfl, t28⟩
noncomputable def Γ29 : Gam := Γ28.add "_law_serve" (.fn f29)
def N30 : List Str := ["many", "most", "rows", "place", "longer", "row", "number"]
theorem c30 : (defBody (topS 30)).map (cS ⟨N30, defScope (topS 30), fun _ => true, par⟩ 40) = b_Lall_rows := by rfl
theorem s30 : FnScope N30 ["many", "most"] (defScope (topS 30)) := ⟨rfl, rfl, rfl, by decide +kernel, rfl, by decide +kernel, by decide +kernel⟩
noncomputable def f30 : Fn := den Γ29 2 7 b_Lall_rows
theorem t30 : AllRowsSp f30 := all_rows_sp Γ29
noncomputable def Γ30 : Gam := Γ29.add "_law_all_rows" (.fn f30)
def N31 : List Str := ["box", "most", "things", "turn", "web"]
theorem c31 : (defBody (topS 31)).map (cS ⟨N31, defScope (topS 31), fun _ => true, par⟩ 40) = b_Lsmall_web := by rfl
theorem s31 : FnScope N31 ["box", "most", "things"] (defScope (topS 31)) := ⟨rfl, rfl, rfl, by decide +kernel, rfl, by decide +kernel, by decide +kernel⟩
noncomputable def f31 : Fn := den Γ30 3 5 b_Lsmall_web
theorem t31 : SmallSp f31 := small_sp ⟨f16, by rfl, t16⟩
noncomputable def Γ31 : Gam := Γ30.add "_law_small_web" (.fn f31)
def N32 : List Str := ["many", "bottom", "row", "number"]
theorem c32 : (defBody (topS 32)).map (cS ⟨N32, defScope (topS 32), fun _ => true, par⟩ 40) = b_Lsplits := by rfl
theorem s32 : FnScope N32 ["many", "bottom"] (defScope (topS 32)) := ⟨rfl, rfl, rfl, by decide +kernel, rfl, by decide +kernel, by decide +kernel⟩
noncomputable def f32 : Fn := den Γ31 2 4 b_Lsplits
theorem t32 : SplitsSp f32 := lsplits_sp ⟨f30, by rfl, t30⟩
noncomputable def Γ32 : Gam := Γ31.add "_law_splits" (.fn f32)
def N34 : List Str := ["web", "marks", "rows", "bottom", "hand", "top", "below", "lot", "numbers"]
theorem c34 : (defBody (topS 34)).map (cS ⟨N34, defScope (topS 34), fun _ => true, par⟩ 40) = b_Lhas := by rfl
theorem s34 : FnScope N34 ["web", "marks", "rows", "bottom", "hand"] (defScope (topS 34)) := ⟨rfl, rfl, rfl, by decide +kernel, rfl, by decide +kernel, by decide +kernel⟩
noncomputable def f34 : Fn := den Γ32 5 9 b_Lhas
theorem t34 : ServedSp f34 := served_sp Γ32
noncomputable def Γ34 : Gam := Γ32.add "_law_has" (.fn f34)
def N33 : List Str := ["web", "marks", "bottom", "rows", "place", "lot", "longer", "row", "numbers", "more", "number", "hand"]
theorem c33 : (defBody (topS 33)).map (cS ⟨N33, defScope (topS 33), fun _ => true, par⟩ 40) = b_Lfirst_arcs := by rfl
theorem s33 : FnScope N33 ["web", "marks", "bottom"] (defScope (topS 33)) := ⟨rfl, rfl, rfl, by decide +kernel, rfl, by decide +kernel, by decide +kernel⟩
noncomputable def f33 : Fn := den Γ34 3 12 b_Lfirst_arcs
theorem t33 : ArcsSp f33 := lfirst_sp ⟨f32, by rfl, t32⟩ ⟨f34, by rfl, t34⟩ ⟨f20, by rfl, t20⟩
noncomputable def Γ33 : Gam := Γ34.add "_law_first_arcs" (.fn f33)
def N35 : List Str := ["script", "k", "box", "web", "marks", "bottom", "due", "told"]
theorem c35 : (defBody (topS 35)).map (cS ⟨N35, defScope (topS 35), fun _ => true, par⟩ 40) = b_law_k69 := by rfl
theorem s35 : FnScope N35 ["script"] (defScope (topS 35)) := ⟨rfl, rfl, rfl, by decide +kernel, rfl, by decide +kernel, by decide +kernel⟩
noncomputable def f35 : Fn := den Γ33 1 8 b_law_k69
theorem t35 : LawSp f35 := law_k69 ⟨f6, by rfl, t6⟩ ⟨f31, by rfl, t31⟩ ⟨f7, by rfl, t7⟩ ⟨f27, by rfl, t27⟩ ⟨f33, by rfl, t33⟩ ⟨f3, by rfl, t3⟩ ⟨f9, by rfl, t9⟩ ⟨f29, by rfl, t29⟩ ⟨f23, by rfl, t23⟩ ⟨f25, by rfl, t25⟩
section
variable {P : Program} {w : World} {K : PySem.W.Frag} {mg : Str → Option Value} {base : Heap}
theorem g1 {f : Addr} {fd : FuncData} (G : GoodK Γ0 par P w K mg base 0) (m : mg "splits" = some (.ref f)) (F : Fun K "splits" "splits" (topS 1) f fd) : GoodK Γ1 par P w K mg base 1 := by
  have h := G.add m F s1 40 (by rfl) (F.binds (ps := ["many", "bottom"]) fun _ _ _ _ _ _ us hl => match us, hl with | [_, _], _ => rfl) (fun n hn => match n, hn with | 0, hn => fkb F (ps := ["many", "bottom"]) 0 (fun _ _ _ _ _ _ us ws h1 h2 => match us, ws, h1, h2 with | [], [_, _], _, _ => rfl) hn | 1, hn => fkb F (ps := ["many", "bottom"]) 1 (fun _ _ _ _ _ _ us ws h1 h2 => match us, ws, h1, h2 with | [_], [_], _, _ => rfl) hn | n + 2, hn => absurd hn (by simp))
  rw [c1] at h; exact h
theorem g2 {f : Addr} {fd : FuncData} (G : GoodK Γ1 par P w K mg base 1) (m : mg "is_served" = some (.ref f)) (F : Fun K "is_served" "is_served" (topS 2) f fd) : GoodK Γ2 par P w K mg base 2 := by
  have h := G.add m F s2 40 (by rfl) (F.binds (ps := ["web", "marks", "rows", "bottom", "hand"]) fun _ _ _ _ _ _ us hl => match us, hl with | [_, _, _, _, _], _ => rfl) (fun n hn => match n, hn with | 0, hn => fkb F (ps := ["web", "marks", "rows", "bottom", "hand"]) 0 (fun _ _ _ _ _ _ us ws h1 h2 => match us, ws, h1, h2 with | [], [_, _, _, _, _], _, _ => rfl) hn | 1, hn => fkb F (ps := ["web", "marks", "rows", "bottom", "hand"]) 1 (fun _ _ _ _ _ _ us ws h1 h2 => match us, ws, h1, h2 with | [_], [_, _, _, _], _, _ => rfl) hn | 2, hn => fkb F (ps := ["web", "marks", "rows", "bottom", "hand"]) 2 (fun _ _ _ _ _ _ us ws h1 h2 => match us, ws, h1, h2 with | [_, _], [_, _, _], _, _ => rfl) hn | 3, hn => fkb F (ps := ["web", "marks", "rows", "bottom", "hand"]) 3 (fun _ _ _ _ _ _ us ws h1 h2 => match us, ws, h1, h2 with | [_, _, _], [_, _], _, _ => rfl) hn | 4, hn => fkb F (ps := ["web", "marks", "rows", "bottom", "hand"]) 4 (fun _ _ _ _ _ _ us ws h1 h2 => match us, ws, h1, h2 with | [_, _, _, _], [_], _, _ => rfl) hn | n + 5, hn => absurd hn (by simp))
  rw [c2] at h; exact h
theorem g4 {f : Addr} {fd : FuncData} (G : GoodK Γ2 par P w K mg base 2) (m : mg "least" = some (.ref f)) (F : Fun K "least" "least" (topS 4) f fd) : GoodK Γ4 par P w K mg base 3 := by
  have h := G.add m F s4 40 (by rfl) (F.binds (ps := ["top", "bottom"]) fun _ _ _ _ _ _ us hl => match us, hl with | [_, _], _ => rfl) (fun n hn => match n, hn with | 0, hn => fkb F (ps := ["top", "bottom"]) 0 (fun _ _ _ _ _ _ us ws h1 h2 => match us, ws, h1, h2 with | [], [_, _], _, _ => rfl) hn | 1, hn => fkb F (ps := ["top", "bottom"]) 1 (fun _ _ _ _ _ _ us ws h1 h2 => match us, ws, h1, h2 with | [_], [_], _, _ => rfl) hn | n + 2, hn => absurd hn (by simp))
  rw [c4] at h; exact h
theorem g3 {f : Addr} {fd : FuncData} (G : GoodK Γ4 par P w K mg base 3) (m : mg "arcs_found" = some (.ref f)) (F : Fun K "arcs_found" "arcs_found" (topS 3) f fd) : GoodK Γ3 par P w K mg base 4 := by
  have h := G.add m F s3 40 (by rfl) (F.binds (ps := ["web", "marks", "bottom"]) fun _ _ _ _ _ _ us hl => match us, hl with | [_, _, _], _ => rfl) (fun n hn => match n, hn with | 0, hn => fkb F (ps := ["web", "marks", "bottom"]) 0 (fun _ _ _ _ _ _ us ws h1 h2 => match us, ws, h1, h2 with | [], [_, _, _], _, _ => rfl) hn | 1, hn => fkb F (ps := ["web", "marks", "bottom"]) 1 (fun _ _ _ _ _ _ us ws h1 h2 => match us, ws, h1, h2 with | [_], [_, _], _, _ => rfl) hn | 2, hn => fkb F (ps := ["web", "marks", "bottom"]) 2 (fun _ _ _ _ _ _ us ws h1 h2 => match us, ws, h1, h2 with | [_, _], [_], _, _ => rfl) hn | n + 3, hn => absurd hn (by simp))
  rw [c3] at h; exact h
theorem g6 {f : Addr} {fd : FuncData} (G : GoodK Γ3 par P w K mg base 4) (m : mg "_law_box" = some (.ref f)) (F : Fun K "_law_box" "_law_box" (topS 6) f fd) : GoodK Γ6 par P w K mg base 5 := by
  have h := G.add m F s6 40 (by rfl) (F.binds (ps := ["script", "k"]) fun _ _ _ _ _ _ us hl => match us, hl with | [_, _], _ => rfl) (fun n hn => match n, hn with | 0, hn => fkb F (ps := ["script", "k"]) 0 (fun _ _ _ _ _ _ us ws h1 h2 => match us, ws, h1, h2 with | [], [_, _], _, _ => rfl) hn | 1, hn => fkb F (ps := ["script", "k"]) 1 (fun _ _ _ _ _ _ us ws h1 h2 => match us, ws, h1, h2 with | [_], [_], _, _ => rfl) hn | n + 2, hn => absurd hn (by simp))
  rw [c6] at h; exact h
theorem g7 {f : Addr} {fd : FuncData} (G : GoodK Γ6 par P w K mg base 5) (m : mg "_law_take" = some (.ref f)) (F : Fun K "_law_take" "_law_take" (topS 7) f fd) : GoodK Γ7 par P w K mg base 6 := by
  have h := G.add m F s7 40 (by rfl) (F.binds (ps := ["box", "many"]) fun _ _ _ _ _ _ us hl => match us, hl with | [_, _], _ => rfl) (fun n hn => match n, hn with | 0, hn => fkb F (ps := ["box", "many"]) 0 (fun _ _ _ _ _ _ us ws h1 h2 => match us, ws, h1, h2 with | [], [_, _], _, _ => rfl) hn | 1, hn => fkb F (ps := ["box", "many"]) 1 (fun _ _ _ _ _ _ us ws h1 h2 => match us, ws, h1, h2 with | [_], [_], _, _ => rfl) hn | n + 2, hn => absurd hn (by simp))
  rw [c7] at h; exact h
theorem g8 {f : Addr} {fd : FuncData} (G : GoodK Γ7 par P w K mg base 6) (m : mg "_law_pick" = some (.ref f)) (F : Fun K "_law_pick" "_law_pick" (topS 8) f fd) : GoodK Γ8 par P w K mg base 7 := by
  have h := G.add m F s8 40 (by rfl) (F.binds (ps := ["box", "some"]) fun _ _ _ _ _ _ us hl => match us, hl with | [_, _], _ => rfl) (fun n hn => match n, hn with | 0, hn => fkb F (ps := ["box", "some"]) 0 (fun _ _ _ _ _ _ us ws h1 h2 => match us, ws, h1, h2 with | [], [_, _], _, _ => rfl) hn | 1, hn => fkb F (ps := ["box", "some"]) 1 (fun _ _ _ _ _ _ us ws h1 h2 => match us, ws, h1, h2 with | [_], [_], _, _ => rfl) hn | n + 2, hn => absurd hn (by simp))
  rw [c8] at h; exact h
theorem g9 {f : Addr} {fd : FuncData} (G : GoodK Γ8 par P w K mg base 7) (m : mg "_law_like" = some (.ref f)) (F : Fun K "_law_like" "_law_like" (topS 9) f fd) : GoodK Γ9 par P w K mg base 8 := by
  have h := G.add m F s9 40 (by rfl) (F.binds (ps := ["told", "due"]) fun _ _ _ _ _ _ us hl => match us, hl with | [_, _], _ => rfl) (fun n hn => match n, hn with | 0, hn => fkb F (ps := ["told", "due"]) 0 (fun _ _ _ _ _ _ us ws h1 h2 => match us, ws, h1, h2 with | [], [_, _], _, _ => rfl) hn | 1, hn => fkb F (ps := ["told", "due"]) 1 (fun _ _ _ _ _ _ us ws h1 h2 => match us, ws, h1, h2 with | [_], [_], _, _ => rfl) hn | n + 2, hn => absurd hn (by simp))
  rw [c9] at h; exact h
theorem g10 {f : Addr} {fd : FuncData} (G : GoodK Γ9 par P w K mg base 8) (m : mg "_law_shuffled" = some (.ref f)) (F : Fun K "_law_shuffled" "_law_shuffled" (topS 10) f fd) : GoodK Γ10 par P w K mg base 9 := by
  have h := G.add m F s10 40 (by rfl) (F.binds (ps := ["box", "some"]) fun _ _ _ _ _ _ us hl => match us, hl with | [_, _], _ => rfl) (fun n hn => match n, hn with | 0, hn => fkb F (ps := ["box", "some"]) 0 (fun _ _ _ _ _ _ us ws h1 h2 => match us, ws, h1, h2 with | [], [_, _], _, _ => rfl) hn | 1, hn => fkb F (ps := ["box", "some"]) 1 (fun _ _ _ _ _ _ us ws h1 h2 => match us, ws, h1, h2 with | [_], [_], _, _ => rfl) hn | n + 2, hn => absurd hn (by simp))
  rw [c10] at h; exact h
theorem g11 {f : Addr} {fd : FuncData} (G : GoodK Γ10 par P w K mg base 9) (m : mg "_law_lots" = some (.ref f)) (F : Fun K "_law_lots" "_law_lots" (topS 11) f fd) : GoodK Γ11 par P w K mg base 10 := by
  have h := G.add m F s11 40 (by rfl) (F.binds (ps := ["many"]) fun _ _ _ _ _ _ us hl => match us, hl with | [_], _ => rfl) (fun n hn => match n, hn with | 0, hn => fkb F (ps := ["many"]) 0 (fun _ _ _ _ _ _ us ws h1 h2 => match us, ws, h1, h2 with | [], [_], _, _ => rfl) hn | n + 1, hn => absurd hn (by simp))
  rw [c11] at h; exact h
theorem g12 {f : Addr} {fd : FuncData} (G : GoodK Γ11 par P w K mg base 10) (m : mg "_law_named" = some (.ref f)) (F : Fun K "_law_named" "_law_named" (topS 12) f fd) : GoodK Γ12 par P w K mg base 11 := by
  have h := G.add m F s12 40 (by rfl) (F.binds (ps := ["box", "many", "things"]) fun _ _ _ _ _ _ us hl => match us, hl with | [_, _, _], _ => rfl) (fun n hn => match n, hn with | 0, hn => fkb F (ps := ["box", "many", "things"]) 0 (fun _ _ _ _ _ _ us ws h1 h2 => match us, ws, h1, h2 with | [], [_, _, _], _, _ => rfl) hn | 1, hn => fkb F (ps := ["box", "many", "things"]) 1 (fun _ _ _ _ _ _ us ws h1 h2 => match us, ws, h1, h2 with | [_], [_, _], _, _ => rfl) hn | 2, hn => fkb F (ps := ["box", "many", "things"]) 2 (fun _ _ _ _ _ _ us ws h1 h2 => match us, ws, h1, h2 with | [_, _], [_], _, _ => rfl) hn | n + 3, hn => absurd hn (by simp))
  rw [c12] at h; exact h
theorem g13 {f : Addr} {fd : FuncData} (G : GoodK Γ12 par P w K mg base 11) (m : mg "_law_forest" = some (.ref f)) (F : Fun K "_law_forest" "_law_forest" (topS 13) f fd) : GoodK Γ13 par P w K mg base 12 := by
  have h := G.add m F s13 40 (by rfl) (F.binds (ps := ["box", "most"]) fun _ _ _ _ _ _ us hl => match us, hl with | [_, _], _ => rfl) (fun n hn => match n, hn with | 0, hn => fkb F (ps := ["box", "most"]) 0 (fun _ _ _ _ _ _ us ws h1 h2 => match us, ws, h1, h2 with | [], [_, _], _, _ => rfl) hn | 1, hn => fkb F (ps := ["box", "most"]) 1 (fun _ _ _ _ _ _ us ws h1 h2 => match us, ws, h1, h2 with | [_], [_], _, _ => rfl) hn | n + 2, hn => absurd hn (by simp))
  rw [c13] at h; exact h
theorem g14 {f : Addr} {fd : FuncData} (G : GoodK Γ13 par P w K mg base 12) (m : mg "_law_ring" = some (.ref f)) (F : Fun K "_law_ring" "_law_ring" (topS 14) f fd) : GoodK Γ14 par P w K mg base 13 := by
  have h := G.add m F s14 40 (by rfl) (F.binds (ps := ["box", "most"]) fun _ _ _ _ _ _ us hl => match us, hl with | [_, _], _ => rfl) (fun n hn => match n, hn with | 0, hn => fkb F (ps := ["box", "most"]) 0 (fun _ _ _ _ _ _ us ws h1 h2 => match us, ws, h1, h2 with | [], [_, _], _, _ => rfl) hn | 1, hn => fkb F (ps := ["box", "most"]) 1 (fun _ _ _ _ _ _ us ws h1 h2 => match us, ws, h1, h2 with | [_], [_], _, _ => rfl) hn | n + 2, hn => absurd hn (by simp))
  rw [c14] at h; exact h
theorem g15 {f : Addr} {fd : FuncData} (G : GoodK Γ14 par P w K mg base 13) (m : mg "_law_any_web" = some (.ref f)) (F : Fun K "_law_any_web" "_law_any_web" (topS 15) f fd) : GoodK Γ15 par P w K mg base 14 := by
  have h := G.add m F s15 40 (by rfl) (F.binds (ps := ["box", "most"]) fun _ _ _ _ _ _ us hl => match us, hl with | [_, _], _ => rfl) (fun n hn => match n, hn with | 0, hn => fkb F (ps := ["box", "most"]) 0 (fun _ _ _ _ _ _ us ws h1 h2 => match us, ws, h1, h2 with | [], [_, _], _, _ => rfl) hn | 1, hn => fkb F (ps := ["box", "most"]) 1 (fun _ _ _ _ _ _ us ws h1 h2 => match us, ws, h1, h2 with | [_], [_], _, _ => rfl) hn | n + 2, hn => absurd hn (by simp))
  rw [c15] at h; exact h
theorem g16 {f : Addr} {fd : FuncData} (G : GoodK Γ15 par P w K mg base 14) (m : mg "_law_web" = some (.ref f)) (F : Fun K "_law_web" "_law_web" (topS 16) f fd) : GoodK Γ16 par P w K mg base 15 := by
  have h := G.add m F s16 40 (by rfl) (F.binds (ps := ["box", "most"]) fun _ _ _ _ _ _ us hl => match us, hl with | [_, _], _ => rfl) (fun n hn => match n, hn with | 0, hn => fkb F (ps := ["box", "most"]) 0 (fun _ _ _ _ _ _ us ws h1 h2 => match us, ws, h1, h2 with | [], [_, _], _, _ => rfl) hn | 1, hn => fkb F (ps := ["box", "most"]) 1 (fun _ _ _ _ _ _ us ws h1 h2 => match us, ws, h1, h2 with | [_], [_], _, _ => rfl) hn | n + 2, hn => absurd hn (by simp))
  rw [c16] at h; exact h
theorem g17 {f : Addr} {fd : FuncData} (G : GoodK Γ16 par P w K mg base 15) (m : mg "_law_touch" = some (.ref f)) (F : Fun K "_law_touch" "_law_touch" (topS 17) f fd) : GoodK Γ17 par P w K mg base 16 := by
  have h := G.add m F s17 40 (by rfl) (F.binds (ps := ["web", "one", "two"]) fun _ _ _ _ _ _ us hl => match us, hl with | [_, _, _], _ => rfl) (fun n hn => match n, hn with | 0, hn => fkb F (ps := ["web", "one", "two"]) 0 (fun _ _ _ _ _ _ us ws h1 h2 => match us, ws, h1, h2 with | [], [_, _, _], _, _ => rfl) hn | 1, hn => fkb F (ps := ["web", "one", "two"]) 1 (fun _ _ _ _ _ _ us ws h1 h2 => match us, ws, h1, h2 with | [_], [_, _], _, _ => rfl) hn | 2, hn => fkb F (ps := ["web", "one", "two"]) 2 (fun _ _ _ _ _ _ us ws h1 h2 => match us, ws, h1, h2 with | [_, _], [_], _, _ => rfl) hn | n + 3, hn => absurd hn (by simp))
  rw [c17] at h; exact h
theorem g18 {f : Addr} {fd : FuncData} (G : GoodK Γ17 par P w K mg base 16) (m : mg "_law_apart" = some (.ref f)) (F : Fun K "_law_apart" "_law_apart" (topS 18) f fd) : GoodK Γ18 par P w K mg base 17 := by
  have h := G.add m F s18 40 (by rfl) (F.binds (ps := ["web", "lot"]) fun _ _ _ _ _ _ us hl => match us, hl with | [_, _], _ => rfl) (fun n hn => match n, hn with | 0, hn => fkb F (ps := ["web", "lot"]) 0 (fun _ _ _ _ _ _ us ws h1 h2 => match us, ws, h1, h2 with | [], [_, _], _, _ => rfl) hn | 1, hn => fkb F (ps := ["web", "lot"]) 1 (fun _ _ _ _ _ _ us ws h1 h2 => match us, ws, h1, h2 with | [_], [_], _, _ => rfl) hn | n + 2, hn => absurd hn (by simp))
  rw [c18] at h; exact h
theorem g19 {f : Addr} {fd : FuncData} (G : GoodK Γ18 par P w K mg base 17) (m : mg "_law_gcd" = some (.ref f)) (F : Fun K "_law_gcd" "_law_gcd" (topS 19) f fd) : GoodK Γ19 par P w K mg base 18 := by
  have h := G.add m F s19 40 (by rfl) (F.binds (ps := ["one", "two"]) fun _ _ _ _ _ _ us hl => match us, hl with | [_, _], _ => rfl) (fun n hn => match n, hn with | 0, hn => fkb F (ps := ["one", "two"]) 0 (fun _ _ _ _ _ _ us ws h1 h2 => match us, ws, h1, h2 with | [], [_, _], _, _ => rfl) hn | 1, hn => fkb F (ps := ["one", "two"]) 1 (fun _ _ _ _ _ _ us ws h1 h2 => match us, ws, h1, h2 with | [_], [_], _, _ => rfl) hn | n + 2, hn => absurd hn (by simp))
  rw [c19] at h; exact h
theorem g20 {f : Addr} {fd : FuncData} (G : GoodK Γ19 par P w K mg base 18) (m : mg "_law_part" = some (.ref f)) (F : Fun K "_law_part" "_law_part" (topS 20) f fd) : GoodK Γ20 par P w K mg base 19 := by
  have h := G.add m F s20 40 (by rfl) (F.binds (ps := ["top", "bottom"]) fun _ _ _ _ _ _ us hl => match us, hl with | [_, _], _ => rfl) (fun n hn => match n, hn with | 0, hn => fkb F (ps := ["top", "bottom"]) 0 (fun _ _ _ _ _ _ us ws h1 h2 => match us, ws, h1, h2 with | [], [_, _], _, _ => rfl) hn | 1, hn => fkb F (ps := ["top", "bottom"]) 1 (fun _ _ _ _ _ _ us ws h1 h2 => match us, ws, h1, h2 with | [_], [_], _, _ => rfl) hn | n + 2, hn => absurd hn (by simp))
  rw [c20] at h; exact h
theorem g21 {f : Addr} {fd : FuncData} (G : GoodK Γ20 par P w K mg base 19) (m : mg "_law_plus" = some (.ref f)) (F : Fun K "_law_plus" "_law_plus" (topS 21) f fd) : GoodK Γ21 par P w K mg base 20 := by
  have h := G.add m F s21 40 (by rfl) (F.binds (ps := ["one", "two"]) fun _ _ _ _ _ _ us hl => match us, hl with | [_, _], _ => rfl) (fun n hn => match n, hn with | 0, hn => fkb F (ps := ["one", "two"]) 0 (fun _ _ _ _ _ _ us ws h1 h2 => match us, ws, h1, h2 with | [], [_, _], _, _ => rfl) hn | 1, hn => fkb F (ps := ["one", "two"]) 1 (fun _ _ _ _ _ _ us ws h1 h2 => match us, ws, h1, h2 with | [_], [_], _, _ => rfl) hn | n + 2, hn => absurd hn (by simp))
  rw [c21] at h; exact h
theorem g22 {f : Addr} {fd : FuncData} (G : GoodK Γ21 par P w K mg base 20) (m : mg "_law_times" = some (.ref f)) (F : Fun K "_law_times" "_law_times" (topS 22) f fd) : GoodK Γ22 par P w K mg base 21 := by
  have h := G.add m F s22 40 (by rfl) (F.binds (ps := ["one", "two"]) fun _ _ _ _ _ _ us hl => match us, hl with | [_, _], _ => rfl) (fun n hn => match n, hn with | 0, hn => fkb F (ps := ["one", "two"]) 0 (fun _ _ _ _ _ _ us ws h1 h2 => match us, ws, h1, h2 with | [], [_, _], _, _ => rfl) hn | 1, hn => fkb F (ps := ["one", "two"]) 1 (fun _ _ _ _ _ _ us ws h1 h2 => match us, ws, h1, h2 with | [_], [_], _, _ => rfl) hn | n + 2, hn => absurd hn (by simp))
  rw [c22] at h; exact h
theorem g23 {f : Addr} {fd : FuncData} (G : GoodK Γ22 par P w K mg base 21) (m : mg "_law_chances" = some (.ref f)) (F : Fun K "_law_chances" "_law_chances" (topS 23) f fd) : GoodK Γ23 par P w K mg base 22 := by
  have h := G.add m F s23 40 (by rfl) (F.binds (ps := ["marks"]) fun _ _ _ _ _ _ us hl => match us, hl with | [_], _ => rfl) (fun n hn => match n, hn with | 0, hn => fkb F (ps := ["marks"]) 0 (fun _ _ _ _ _ _ us ws h1 h2 => match us, ws, h1, h2 with | [], [_], _, _ => rfl) hn | n + 1, hn => absurd hn (by simp))
  rw [c23] at h; exact h
theorem g24 {f : Addr} {fd : FuncData} (G : GoodK Γ23 par P w K mg base 22) (m : mg "_law_sum_of" = some (.ref f)) (F : Fun K "_law_sum_of" "_law_sum_of" (topS 24) f fd) : GoodK Γ24 par P w K mg base 23 := by
  have h := G.add m F s24 40 (by rfl) (F.binds (ps := ["web", "chances", "lot"]) fun _ _ _ _ _ _ us hl => match us, hl with | [_, _, _], _ => rfl) (fun n hn => match n, hn with | 0, hn => fkb F (ps := ["web", "chances", "lot"]) 0 (fun _ _ _ _ _ _ us ws h1 h2 => match us, ws, h1, h2 with | [], [_, _, _], _, _ => rfl) hn | 1, hn => fkb F (ps := ["web", "chances", "lot"]) 1 (fun _ _ _ _ _ _ us ws h1 h2 => match us, ws, h1, h2 with | [_], [_, _], _, _ => rfl) hn | 2, hn => fkb F (ps := ["web", "chances", "lot"]) 2 (fun _ _ _ _ _ _ us ws h1 h2 => match us, ws, h1, h2 with | [_, _], [_], _, _ => rfl) hn | n + 3, hn => absurd hn (by simp))
  rw [c24] at h; exact h
theorem g25 {f : Addr} {fd : FuncData} (G : GoodK Γ24 par P w K mg base 23) (m : mg "_law_fault" = some (.ref f)) (F : Fun K "_law_fault" "_law_fault" (topS 25) f fd) : GoodK Γ25 par P w K mg base 24 := by
  have h := G.add m F s25 40 (by rfl) (F.binds (ps := ["web", "chances"]) fun _ _ _ _ _ _ us hl => match us, hl with | [_, _], _ => rfl) (fun n hn => match n, hn with | 0, hn => fkb F (ps := ["web", "chances"]) 0 (fun _ _ _ _ _ _ us ws h1 h2 => match us, ws, h1, h2 with | [], [_, _], _, _ => rfl) hn | 1, hn => fkb F (ps := ["web", "chances"]) 1 (fun _ _ _ _ _ _ us ws h1 h2 => match us, ws, h1, h2 with | [_], [_], _, _ => rfl) hn | n + 2, hn => absurd hn (by simp))
  rw [c25] at h; exact h
theorem g26 {f : Addr} {fd : FuncData} (G : GoodK Γ25 par P w K mg base 24) (m : mg "_law_enough_for" = some (.ref f)) (F : Fun K "_law_enough_for" "_law_enough_for" (topS 26) f fd) : GoodK Γ26 par P w K mg base 25 := by
  have h := G.add m F s26 40 (by rfl) (F.binds (ps := ["web", "marks", "hand"]) fun _ _ _ _ _ _ us hl => match us, hl with | [_, _, _], _ => rfl) (fun n hn => match n, hn with | 0, hn => fkb F (ps := ["web", "marks", "hand"]) 0 (fun _ _ _ _ _ _ us ws h1 h2 => match us, ws, h1, h2 with | [], [_, _, _], _, _ => rfl) hn | 1, hn => fkb F (ps := ["web", "marks", "hand"]) 1 (fun _ _ _ _ _ _ us ws h1 h2 => match us, ws, h1, h2 with | [_], [_, _], _, _ => rfl) hn | 2, hn => fkb F (ps := ["web", "marks", "hand"]) 2 (fun _ _ _ _ _ _ us ws h1 h2 => match us, ws, h1, h2 with | [_, _], [_], _, _ => rfl) hn | n + 3, hn => absurd hn (by simp))
  rw [c26] at h; exact h
theorem g27 {f : Addr} {fd : FuncData} (G : GoodK Γ26 par P w K mg base 25) (m : mg "_law_marks" = some (.ref f)) (F : Fun K "_law_marks" "_law_marks" (topS 27) f fd) : GoodK Γ27 par P w K mg base 26 := by
  have h := G.add m F s27 40 (by rfl) (F.binds (ps := ["box", "web", "way"]) fun _ _ _ _ _ _ us hl => match us, hl with | [_, _, _], _ => rfl) (fun n hn => match n, hn with | 0, hn => fkb F (ps := ["box", "web", "way"]) 0 (fun _ _ _ _ _ _ us ws h1 h2 => match us, ws, h1, h2 with | [], [_, _, _], _, _ => rfl) hn | 1, hn => fkb F (ps := ["box", "web", "way"]) 1 (fun _ _ _ _ _ _ us ws h1 h2 => match us, ws, h1, h2 with | [_], [_, _], _, _ => rfl) hn | 2, hn => fkb F (ps := ["box", "web", "way"]) 2 (fun _ _ _ _ _ _ us ws h1 h2 => match us, ws, h1, h2 with | [_, _], [_], _, _ => rfl) hn | n + 3, hn => absurd hn (by simp))
  rw [c27] at h; exact h
theorem g28 {f : Addr} {fd : FuncData} (G : GoodK Γ27 par P w K mg base 26) (m : mg "_law_met" = some (.ref f)) (F : Fun K "_law_met" "_law_met" (topS 28) f fd) : GoodK Γ28 par P w K mg base 27 := by
  have h := G.add m F s28 40 (by rfl) (F.binds (ps := ["web", "arcs"]) fun _ _ _ _ _ _ us hl => match us, hl with | [_, _], _ => rfl) (fun n hn => match n, hn with | 0, hn => fkb F (ps := ["web", "arcs"]) 0 (fun _ _ _ _ _ _ us ws h1 h2 => match us, ws, h1, h2 with | [], [_, _], _, _ => rfl) hn | 1, hn => fkb F (ps := ["web", "arcs"]) 1 (fun _ _ _ _ _ _ us ws h1 h2 => match us, ws, h1, h2 with | [_], [_], _, _ => rfl) hn | n + 2, hn => absurd hn (by simp))
  rw [c28] at h; exact h
theorem g29 {f : Addr} {fd : FuncData} (G : GoodK Γ28 par P w K mg base 27) (m : mg "_law_serve" = some (.ref f)) (F : Fun K "_law_serve" "_law_serve" (topS 29) f fd) : GoodK Γ29 par P w K mg base 28 := by
  have h := G.add m F s29 40 (by rfl) (F.binds (ps := ["web", "marks", "told"]) fun _ _ _ _ _ _ us hl => match us, hl with | [_, _, _], _ => rfl) (fun n hn => match n, hn with | 0, hn => fkb F (ps := ["web", "marks", "told"]) 0 (fun _ _ _ _ _ _ us ws h1 h2 => match us, ws, h1, h2 with | [], [_, _, _], _, _ => rfl) hn | 1, hn => fkb F (ps := ["web", "marks", "told"]) 1 (fun _ _ _ _ _ _ us ws h1 h2 => match us, ws, h1, h2 with | [_], [_, _], _, _ => rfl) hn | 2, hn => fkb F (ps := ["web", "marks", "told"]) 2 (fun _ _ _ _ _ _ us ws h1 h2 => match us, ws, h1, h2 with | [_, _], [_], _, _ => rfl) hn | n + 3, hn => absurd hn (by simp))
  rw [c29] at h; exact h
theorem g30 {f : Addr} {fd : FuncData} (G : GoodK Γ29 par P w K mg base 28) (m : mg "_law_all_rows" = some (.ref f)) (F : Fun K "_law_all_rows" "_law_all_rows" (topS 30) f fd) : GoodK Γ30 par P w K mg base 29 := by
  have h := G.add m F s30 40 (by rfl) (F.binds (ps := ["many", "most"]) fun _ _ _ _ _ _ us hl => match us, hl with | [_, _], _ => rfl) (fun n hn => match n, hn with | 0, hn => fkb F (ps := ["many", "most"]) 0 (fun _ _ _ _ _ _ us ws h1 h2 => match us, ws, h1, h2 with | [], [_, _], _, _ => rfl) hn | 1, hn => fkb F (ps := ["many", "most"]) 1 (fun _ _ _ _ _ _ us ws h1 h2 => match us, ws, h1, h2 with | [_], [_], _, _ => rfl) hn | n + 2, hn => absurd hn (by simp))
  rw [c30] at h; exact h
theorem g31 {f : Addr} {fd : FuncData} (G : GoodK Γ30 par P w K mg base 29) (m : mg "_law_small_web" = some (.ref f)) (F : Fun K "_law_small_web" "_law_small_web" (topS 31) f fd) : GoodK Γ31 par P w K mg base 30 := by
  have h := G.add m F s31 40 (by rfl) (F.binds (ps := ["box", "most", "things"]) fun _ _ _ _ _ _ us hl => match us, hl with | [_, _, _], _ => rfl) (fun n hn => match n, hn with | 0, hn => fkb F (ps := ["box", "most", "things"]) 0 (fun _ _ _ _ _ _ us ws h1 h2 => match us, ws, h1, h2 with | [], [_, _, _], _, _ => rfl) hn | 1, hn => fkb F (ps := ["box", "most", "things"]) 1 (fun _ _ _ _ _ _ us ws h1 h2 => match us, ws, h1, h2 with | [_], [_, _], _, _ => rfl) hn | 2, hn => fkb F (ps := ["box", "most", "things"]) 2 (fun _ _ _ _ _ _ us ws h1 h2 => match us, ws, h1, h2 with | [_, _], [_], _, _ => rfl) hn | n + 3, hn => absurd hn (by simp))
  rw [c31] at h; exact h
theorem g32 {f : Addr} {fd : FuncData} (G : GoodK Γ31 par P w K mg base 30) (m : mg "_law_splits" = some (.ref f)) (F : Fun K "_law_splits" "_law_splits" (topS 32) f fd) : GoodK Γ32 par P w K mg base 31 := by
  have h := G.add m F s32 40 (by rfl) (F.binds (ps := ["many", "bottom"]) fun _ _ _ _ _ _ us hl => match us, hl with | [_, _], _ => rfl) (fun n hn => match n, hn with | 0, hn => fkb F (ps := ["many", "bottom"]) 0 (fun _ _ _ _ _ _ us ws h1 h2 => match us, ws, h1, h2 with | [], [_, _], _, _ => rfl) hn | 1, hn => fkb F (ps := ["many", "bottom"]) 1 (fun _ _ _ _ _ _ us ws h1 h2 => match us, ws, h1, h2 with | [_], [_], _, _ => rfl) hn | n + 2, hn => absurd hn (by simp))
  rw [c32] at h; exact h
theorem g34 {f : Addr} {fd : FuncData} (G : GoodK Γ32 par P w K mg base 31) (m : mg "_law_has" = some (.ref f)) (F : Fun K "_law_has" "_law_has" (topS 34) f fd) : GoodK Γ34 par P w K mg base 32 := by
  have h := G.add m F s34 40 (by rfl) (F.binds (ps := ["web", "marks", "rows", "bottom", "hand"]) fun _ _ _ _ _ _ us hl => match us, hl with | [_, _, _, _, _], _ => rfl) (fun n hn => match n, hn with | 0, hn => fkb F (ps := ["web", "marks", "rows", "bottom", "hand"]) 0 (fun _ _ _ _ _ _ us ws h1 h2 => match us, ws, h1, h2 with | [], [_, _, _, _, _], _, _ => rfl) hn | 1, hn => fkb F (ps := ["web", "marks", "rows", "bottom", "hand"]) 1 (fun _ _ _ _ _ _ us ws h1 h2 => match us, ws, h1, h2 with | [_], [_, _, _, _], _, _ => rfl) hn | 2, hn => fkb F (ps := ["web", "marks", "rows", "bottom", "hand"]) 2 (fun _ _ _ _ _ _ us ws h1 h2 => match us, ws, h1, h2 with | [_, _], [_, _, _], _, _ => rfl) hn | 3, hn => fkb F (ps := ["web", "marks", "rows", "bottom", "hand"]) 3 (fun _ _ _ _ _ _ us ws h1 h2 => match us, ws, h1, h2 with | [_, _, _], [_, _], _, _ => rfl) hn | 4, hn => fkb F (ps := ["web", "marks", "rows", "bottom", "hand"]) 4 (fun _ _ _ _ _ _ us ws h1 h2 => match us, ws, h1, h2 with | [_, _, _, _], [_], _, _ => rfl) hn | n + 5, hn => absurd hn (by simp))
  rw [c34] at h; exact h
theorem g33 {f : Addr} {fd : FuncData} (G : GoodK Γ34 par P w K mg base 32) (m : mg "_law_first_arcs" = some (.ref f)) (F : Fun K "_law_first_arcs" "_law_first_arcs" (topS 33) f fd) : GoodK Γ33 par P w K mg base 33 := by
  have h := G.add m F s33 40 (by rfl) (F.binds (ps := ["web", "marks", "bottom"]) fun _ _ _ _ _ _ us hl => match us, hl with | [_, _, _], _ => rfl) (fun n hn => match n, hn with | 0, hn => fkb F (ps := ["web", "marks", "bottom"]) 0 (fun _ _ _ _ _ _ us ws h1 h2 => match us, ws, h1, h2 with | [], [_, _, _], _, _ => rfl) hn | 1, hn => fkb F (ps := ["web", "marks", "bottom"]) 1 (fun _ _ _ _ _ _ us ws h1 h2 => match us, ws, h1, h2 with | [_], [_, _], _, _ => rfl) hn | 2, hn => fkb F (ps := ["web", "marks", "bottom"]) 2 (fun _ _ _ _ _ _ us ws h1 h2 => match us, ws, h1, h2 with | [_, _], [_], _, _ => rfl) hn | n + 3, hn => absurd hn (by simp))
  rw [c33] at h; exact h
theorem g35 {f : Addr} {fd : FuncData} (G : GoodK Γ33 par P w K mg base 33) (F : Fun K "law" "law" (topS 35) f fd) : FnOk P w K mg base CX0 34 f fd ["script"] (spF ⟨K, P, w⟩ f35) := by
  have h := fn_ok G F s35 40
  rw [c35] at h; exact h
end
theorem all_mk {P : Program} {w : World} {K : PySem.W.Frag} {h : Heap} {mg : Str → Option Value} {fa p1 p2 p4 p3 p6 p7 p8 p9 p10 p11 p12 p13 p14 p15 p16 p17 p18 p19 p20 p21 p22 p23 p24 p25 p26 p27 p28 p29 p30 p31 p32 p34 p33 p35 : Addr} (X : K.In h) (G : h.Ns mainGlobals mg) (hfa : mg "law" = some (.ref fa))
    {od1 an1 od2 an2 od4 an4 od3 an3 od6 an6 od7 an7 od8 an8 od9 an9 od10 an10 od11 an11 od12 an12 od13 an13 od14 an14 od15 an15 od16 an16 od17 an17 od18 an18 od19 an19 od20 an20 od21 an21 od22 an22 od23 an23 od24 an24 od25 an25 od26 an26 od27 an27 od28 an28 od29 an29 od30 an30 od31 an31 od32 an32 od34 an34 od33 an33 od35 an35 : Option Addr} {sl1 sl2 sl4 sl3 sl6 sl7 sl8 sl9 sl10 sl11 sl12 sl13 sl14 sl15 sl16 sl17 sl18 sl19 sl20 sl21 sl22 sl23 sl24 sl25 sl26 sl27 sl28 sl29 sl30 sl31 sl32 sl34 sl33 sl35 : Array (Option Value)} {oc1 kV1 dc1 pm1 cd1 ct1 oc2 kV2 dc2 pm2 cd2 ct2 oc4 kV4 dc4 pm4 cd4 ct4 oc3 kV3 dc3 pm3 cd3 ct3 oc6 kV6 dc6 pm6 cd6 ct6 oc7 kV7 dc7 pm7 cd7 ct7 oc8 kV8 dc8 pm8 cd8 ct8 oc9 kV9 dc9 pm9 cd9 ct9 oc10 kV10 dc10 pm10 cd10 ct10 oc11 kV11 dc11 pm11 cd11 ct11 oc12 kV12 dc12 pm12 cd12 ct12 oc13 kV13 dc13 pm13 cd13 ct13 oc14 kV14 dc14 pm14 cd14 ct14 oc15 kV15 dc15 pm15 cd15 ct15 oc16 kV16 dc16 pm16 cd16 ct16 oc17 kV17 dc17 pm17 cd17 ct17 oc18 kV18 dc18 pm18 cd18 ct18 oc19 kV19 dc19 pm19 cd19 ct19 oc20 kV20 dc20 pm20 cd20 ct20 oc21 kV21 dc21 pm21 cd21 ct21 oc22 kV22 dc22 pm22 cd22 ct22 oc23 kV23 dc23 pm23 cd23 ct23 oc24 kV24 dc24 pm24 cd24 ct24 oc25 kV25 dc25 pm25 cd25 ct25 oc26 kV26 dc26 pm26 cd26 ct26 oc27 kV27 dc27 pm27 cd27 ct27 oc28 kV28 dc28 pm28 cd28 ct28 oc29 kV29 dc29 pm29 cd29 ct29 oc30 kV30 dc30 pm30 cd30 ct30 oc31 kV31 dc31 pm31 cd31 ct31 oc32 kV32 dc32 pm32 cd32 ct32 oc34 kV34 dc34 pm34 cd34 ct34 oc33 kV33 dc33 pm33 cd33 ct33 oc35 kV35 dc35 pm35 cd35 ct35 : Value}
    (a1 : PySem.W.nsIn K mainGlobals "splits" = some (some (.ref p1))) (l1 : K.lookup p1 = some ⟨oc1, od1, .func (PySem.W.fnOf "splits" "splits" (defArgs (topS 1)) (defBody (topS 1)) (defScope (topS 1)) .none kV1 dc1 pm1 an1 cd1 ct1), sl1⟩) (q1 : PySem.W.codeIn K cd1 "splits" = true) (k1 : PySem.W.keepIn K (.ref p1) = true)
    (a2 : PySem.W.nsIn K mainGlobals "is_served" = some (some (.ref p2))) (l2 : K.lookup p2 = some ⟨oc2, od2, .func (PySem.W.fnOf "is_served" "is_served" (defArgs (topS 2)) (defBody (topS 2)) (defScope (topS 2)) .none kV2 dc2 pm2 an2 cd2 ct2), sl2⟩) (q2 : PySem.W.codeIn K cd2 "is_served" = true) (k2 : PySem.W.keepIn K (.ref p2) = true)
    (a4 : PySem.W.nsIn K mainGlobals "least" = some (some (.ref p4))) (l4 : K.lookup p4 = some ⟨oc4, od4, .func (PySem.W.fnOf "least" "least" (defArgs (topS 4)) (defBody (topS 4)) (defScope (topS 4)) .none kV4 dc4 pm4 an4 cd4 ct4), sl4⟩) (q4 : PySem.W.codeIn K cd4 "least" = true) (k4 : PySem.W.keepIn K (.ref p4) = true)
    (a3 : PySem.W.nsIn K mainGlobals "arcs_found" = some (some (.ref p3))) (l3 : K.lookup p3 = some ⟨oc3, od3, .func (PySem.W.fnOf "arcs_found" "arcs_found" (defArgs (topS 3)) (defBody (topS 3)) (defScope (topS 3)) .none kV3 dc3 pm3 an3 cd3 ct3), sl3⟩) (q3 : PySem.W.codeIn K cd3 "arcs_found" = true) (k3 : PySem.W.keepIn K (.ref p3) = true)
    (a6 : PySem.W.nsIn K mainGlobals "_law_box" = some (some (.ref p6))) (l6 : K.lookup p6 = some ⟨oc6, od6, .func (PySem.W.fnOf "_law_box" "_law_box" (defArgs (topS 6)) (defBody (topS 6)) (defScope (topS 6)) .none kV6 dc6 pm6 an6 cd6 ct6), sl6⟩) (q6 : PySem.W.codeIn K cd6 "_law_box" = true) (k6 : PySem.W.keepIn K (.ref p6) = true)
    (a7 : PySem.W.nsIn K mainGlobals "_law_take" = some (some (.ref p7))) (l7 : K.lookup p7 = some ⟨oc7, od7, .func (PySem.W.fnOf "_law_take" "_law_take" (defArgs (topS 7)) (defBody (topS 7)) (defScope (topS 7)) .none kV7 dc7 pm7 an7 cd7 ct7), sl7⟩) (q7 : PySem.W.codeIn K cd7 "_law_take" = true) (k7 : PySem.W.keepIn K (.ref p7) = true)
    (a8 : PySem.W.nsIn K mainGlobals "_law_pick" = some (some (.ref p8))) (l8 : K.lookup p8 = some ⟨oc8, od8, .func (PySem.W.fnOf "_law_pick" "_law_pick" (defArgs (topS 8)) (defBody (topS 8)) (defScope (topS 8)) .none kV8 dc8 pm8 an8 cd8 ct8), sl8⟩) (q8 : PySem.W.codeIn K cd8 "_law_pick" = true) (k8 : PySem.W.keepIn K (.ref p8) = true)
    (a9 : PySem.W.nsIn K mainGlobals "_law_like" = some (some (.ref p9))) (l9 : K.lookup p9 = some ⟨oc9, od9, .func (PySem.W.fnOf "_law_like" "_law_like" (defArgs (topS 9)) (defBody (topS 9)) (defScope (topS 9)) .none kV9 dc9 pm9 an9 cd9 ct9), sl9⟩) (q9 : PySem.W.codeIn K cd9 "_law_like" = true) (k9 : PySem.W.keepIn K (.ref p9) = true)
    (a10 : PySem.W.nsIn K mainGlobals "_law_shuffled" = some (some (.ref p10))) (l10 : K.lookup p10 = some ⟨oc10, od10, .func (PySem.W.fnOf "_law_shuffled" "_law_shuffled" (defArgs (topS 10)) (defBody (topS 10)) (defScope (topS 10)) .none kV10 dc10 pm10 an10 cd10 ct10), sl10⟩) (q10 : PySem.W.codeIn K cd10 "_law_shuffled" = true) (k10 : PySem.W.keepIn K (.ref p10) = true)
    (a11 : PySem.W.nsIn K mainGlobals "_law_lots" = some (some (.ref p11))) (l11 : K.lookup p11 = some ⟨oc11, od11, .func (PySem.W.fnOf "_law_lots" "_law_lots" (defArgs (topS 11)) (defBody (topS 11)) (defScope (topS 11)) .none kV11 dc11 pm11 an11 cd11 ct11), sl11⟩) (q11 : PySem.W.codeIn K cd11 "_law_lots" = true) (k11 : PySem.W.keepIn K (.ref p11) = true)
    (a12 : PySem.W.nsIn K mainGlobals "_law_named" = some (some (.ref p12))) (l12 : K.lookup p12 = some ⟨oc12, od12, .func (PySem.W.fnOf "_law_named" "_law_named" (defArgs (topS 12)) (defBody (topS 12)) (defScope (topS 12)) .none kV12 dc12 pm12 an12 cd12 ct12), sl12⟩) (q12 : PySem.W.codeIn K cd12 "_law_named" = true) (k12 : PySem.W.keepIn K (.ref p12) = true)
    (a13 : PySem.W.nsIn K mainGlobals "_law_forest" = some (some (.ref p13))) (l13 : K.lookup p13 = some ⟨oc13, od13, .func (PySem.W.fnOf "_law_forest" "_law_forest" (defArgs (topS 13)) (defBody (topS 13)) (defScope (topS 13)) .none kV13 dc13 pm13 an13 cd13 ct13), sl13⟩) (q13 : PySem.W.codeIn K cd13 "_law_forest" = true) (k13 : PySem.W.keepIn K (.ref p13) = true)
    (a14 : PySem.W.nsIn K mainGlobals "_law_ring" = some (some (.ref p14))) (l14 : K.lookup p14 = some ⟨oc14, od14, .func (PySem.W.fnOf "_law_ring" "_law_ring" (defArgs (topS 14)) (defBody (topS 14)) (defScope (topS 14)) .none kV14 dc14 pm14 an14 cd14 ct14), sl14⟩) (q14 : PySem.W.codeIn K cd14 "_law_ring" = true) (k14 : PySem.W.keepIn K (.ref p14) = true)
    (a15 : PySem.W.nsIn K mainGlobals "_law_any_web" = some (some (.ref p15))) (l15 : K.lookup p15 = some ⟨oc15, od15, .func (PySem.W.fnOf "_law_any_web" "_law_any_web" (defArgs (topS 15)) (defBody (topS 15)) (defScope (topS 15)) .none kV15 dc15 pm15 an15 cd15 ct15), sl15⟩) (q15 : PySem.W.codeIn K cd15 "_law_any_web" = true) (k15 : PySem.W.keepIn K (.ref p15) = true)
    (a16 : PySem.W.nsIn K mainGlobals "_law_web" = some (some (.ref p16))) (l16 : K.lookup p16 = some ⟨oc16, od16, .func (PySem.W.fnOf "_law_web" "_law_web" (defArgs (topS 16)) (defBody (topS 16)) (defScope (topS 16)) .none kV16 dc16 pm16 an16 cd16 ct16), sl16⟩) (q16 : PySem.W.codeIn K cd16 "_law_web" = true) (k16 : PySem.W.keepIn K (.ref p16) = true)
    (a17 : PySem.W.nsIn K mainGlobals "_law_touch" = some (some (.ref p17))) (l17 : K.lookup p17 = some ⟨oc17, od17, .func (PySem.W.fnOf "_law_touch" "_law_touch" (defArgs (topS 17)) (defBody (topS 17)) (defScope (topS 17)) .none kV17 dc17 pm17 an17 cd17 ct17), sl17⟩) (q17 : PySem.W.codeIn K cd17 "_law_touch" = true) (k17 : PySem.W.keepIn K (.ref p17) = true)
    (a18 : PySem.W.nsIn K mainGlobals "_law_apart" = some (some (.ref p18))) (l18 : K.lookup p18 = some ⟨oc18, od18, .func (PySem.W.fnOf "_law_apart" "_law_apart" (defArgs (topS 18)) (defBody (topS 18)) (defScope (topS 18)) .none kV18 dc18 pm18 an18 cd18 ct18), sl18⟩) (q18 : PySem.W.codeIn K cd18 "_law_apart" = true) (k18 : PySem.W.keepIn K (.ref p18) = true)
    (a19 : PySem.W.nsIn K mainGlobals "_law_gcd" = some (some (.ref p19))) (l19 : K.lookup p19 = some ⟨oc19, od19, .func (PySem.W.fnOf "_law_gcd" "_law_gcd" (defArgs (topS 19)) (defBody (topS 19)) (defScope (topS 19)) .none kV19 dc19 pm19 an19 cd19 ct19), sl19⟩) (q19 : PySem.W.codeIn K cd19 "_law_gcd" = true) (k19 : PySem.W.keepIn K (.ref p19) = true)
    (a20 : PySem.W.nsIn K mainGlobals "_law_part" = some (some (.ref p20))) (l20 : K.lookup p20 = some ⟨oc20, od20, .func (PySem.W.fnOf "_law_part" "_law_part" (defArgs (topS 20)) (defBody (topS 20)) (defScope (topS 20)) .none kV20 dc20 pm20 an20 cd20 ct20), sl20⟩) (q20 : PySem.W.codeIn K cd20 "_law_part" = true) (k20 : PySem.W.keepIn K (.ref p20) = true)
    (a21 : PySem.W.nsIn K mainGlobals "_law_plus" = some (some (.ref p21))) (l21 : K.lookup p21 = some ⟨oc21, od21, .func (PySem.W.fnOf "_law_plus" "_law_plus" (defArgs (topS 21)) (defBody (topS 21)) (defScope (topS 21)) .none kV21 dc21 pm21 an21 cd21 ct21), sl21⟩) (q21 : PySem.W.codeIn K cd21 "_law_plus" = true) (k21 : PySem.W.keepIn K (.ref p21) = true)
    (a22 : PySem.W.nsIn K mainGlobals "_law_times" = some (some (.ref p22))) (l22 : K.lookup p22 = some ⟨oc22, od22, .func (PySem.W.fnOf "_law_times" "_law_times" (defArgs (topS 22)) (defBody (topS 22)) (defScope (topS 22)) .none kV22 dc22 pm22 an22 cd22 ct22), sl22⟩) (q22 : PySem.W.codeIn K cd22 "_law_times" = true) (k22 : PySem.W.keepIn K (.ref p22) = true)
    (a23 : PySem.W.nsIn K mainGlobals "_law_chances" = some (some (.ref p23))) (l23 : K.lookup p23 = some ⟨oc23, od23, .func (PySem.W.fnOf "_law_chances" "_law_chances" (defArgs (topS 23)) (defBody (topS 23)) (defScope (topS 23)) .none kV23 dc23 pm23 an23 cd23 ct23), sl23⟩) (q23 : PySem.W.codeIn K cd23 "_law_chances" = true) (k23 : PySem.W.keepIn K (.ref p23) = true)
    (a24 : PySem.W.nsIn K mainGlobals "_law_sum_of" = some (some (.ref p24))) (l24 : K.lookup p24 = some ⟨oc24, od24, .func (PySem.W.fnOf "_law_sum_of" "_law_sum_of" (defArgs (topS 24)) (defBody (topS 24)) (defScope (topS 24)) .none kV24 dc24 pm24 an24 cd24 ct24), sl24⟩) (q24 : PySem.W.codeIn K cd24 "_law_sum_of" = true) (k24 : PySem.W.keepIn K (.ref p24) = true)
    (a25 : PySem.W.nsIn K mainGlobals "_law_fault" = some (some (.ref p25))) (l25 : K.lookup p25 = some ⟨oc25, od25, .func (PySem.W.fnOf "_law_fault" "_law_fault" (defArgs (topS 25)) (defBody (topS 25)) (defScope (topS 25)) .none kV25 dc25 pm25 an25 cd25 ct25), sl25⟩) (q25 : PySem.W.codeIn K cd25 "_law_fault" = true) (k25 : PySem.W.keepIn K (.ref p25) = true)
    (a26 : PySem.W.nsIn K mainGlobals "_law_enough_for" = some (some (.ref p26))) (l26 : K.lookup p26 = some ⟨oc26, od26, .func (PySem.W.fnOf "_law_enough_for" "_law_enough_for" (defArgs (topS 26)) (defBody (topS 26)) (defScope (topS 26)) .none kV26 dc26 pm26 an26 cd26 ct26), sl26⟩) (q26 : PySem.W.codeIn K cd26 "_law_enough_for" = true) (k26 : PySem.W.keepIn K (.ref p26) = true)
    (a27 : PySem.W.nsIn K mainGlobals "_law_marks" = some (some (.ref p27))) (l27 : K.lookup p27 = some ⟨oc27, od27, .func (PySem.W.fnOf "_law_marks" "_law_marks" (defArgs (topS 27)) (defBody (topS 27)) (defScope (topS 27)) .none kV27 dc27 pm27 an27 cd27 ct27), sl27⟩) (q27 : PySem.W.codeIn K cd27 "_law_marks" = true) (k27 : PySem.W.keepIn K (.ref p27) = true)
    (a28 : PySem.W.nsIn K mainGlobals "_law_met" = some (some (.ref p28))) (l28 : K.lookup p28 = some ⟨oc28, od28, .func (PySem.W.fnOf "_law_met" "_law_met" (defArgs (topS 28)) (defBody (topS 28)) (defScope (topS 28)) .none kV28 dc28 pm28 an28 cd28 ct28), sl28⟩) (q28 : PySem.W.codeIn K cd28 "_law_met" = true) (k28 : PySem.W.keepIn K (.ref p28) = true)
    (a29 : PySem.W.nsIn K mainGlobals "_law_serve" = some (some (.ref p29))) (l29 : K.lookup p29 = some ⟨oc29, od29, .func (PySem.W.fnOf "_law_serve" "_law_serve" (defArgs (topS 29)) (defBody (topS 29)) (defScope (topS 29)) .none kV29 dc29 pm29 an29 cd29 ct29), sl29⟩) (q29 : PySem.W.codeIn K cd29 "_law_serve" = true) (k29 : PySem.W.keepIn K (.ref p29) = true)
    (a30 : PySem.W.nsIn K mainGlobals "_law_all_rows" = some (some (.ref p30))) (l30 : K.lookup p30 = some ⟨oc30, od30, .func (PySem.W.fnOf "_law_all_rows" "_law_all_rows" (defArgs (topS 30)) (defBody (topS 30)) (defScope (topS 30)) .none kV30 dc30 pm30 an30 cd30 ct30), sl30⟩) (q30 : PySem.W.codeIn K cd30 "_law_all_rows" = true) (k30 : PySem.W.keepIn K (.ref p30) = true)
    (a31 : PySem.W.nsIn K mainGlobals "_law_small_web" = some (some (.ref p31))) (l31 : K.lookup p31 = some ⟨oc31, od31, .func (PySem.W.fnOf "_law_small_web" "_law_small_web" (defArgs (topS 31)) (defBody (topS 31)) (defScope (topS 31)) .none kV31 dc31 pm31 an31 cd31 ct31), sl31⟩) (q31 : PySem.W.codeIn K cd31 "_law_small_web" = true) (k31 : PySem.W.keepIn K (.ref p31) = true)
    (a32 : PySem.W.nsIn K mainGlobals "_law_splits" = some (some (.ref p32))) (l32 : K.lookup p32 = some ⟨oc32, od32, .func (PySem.W.fnOf "_law_splits" "_law_splits" (defArgs (topS 32)) (defBody (topS 32)) (defScope (topS 32)) .none kV32 dc32 pm32 an32 cd32 ct32), sl32⟩) (q32 : PySem.W.codeIn K cd32 "_law_splits" = true) (k32 : PySem.W.keepIn K (.ref p32) = true)
    (a34 : PySem.W.nsIn K mainGlobals "_law_has" = some (some (.ref p34))) (l34 : K.lookup p34 = some ⟨oc34, od34, .func (PySem.W.fnOf "_law_has" "_law_has" (defArgs (topS 34)) (defBody (topS 34)) (defScope (topS 34)) .none kV34 dc34 pm34 an34 cd34 ct34), sl34⟩) (q34 : PySem.W.codeIn K cd34 "_law_has" = true) (k34 : PySem.W.keepIn K (.ref p34) = true)
    (a33 : PySem.W.nsIn K mainGlobals "_law_first_arcs" = some (some (.ref p33))) (l33 : K.lookup p33 = some ⟨oc33, od33, .func (PySem.W.fnOf "_law_first_arcs" "_law_first_arcs" (defArgs (topS 33)) (defBody (topS 33)) (defScope (topS 33)) .none kV33 dc33 pm33 an33 cd33 ct33), sl33⟩) (q33 : PySem.W.codeIn K cd33 "_law_first_arcs" = true) (k33 : PySem.W.keepIn K (.ref p33) = true)
    (a35 : PySem.W.nsIn K mainGlobals "law" = some (some (.ref p35))) (l35 : K.lookup p35 = some ⟨oc35, od35, .func (PySem.W.fnOf "law" "law" (defArgs (topS 35)) (defBody (topS 35)) (defScope (topS 35)) .none kV35 dc35 pm35 an35 cd35 ct35), sl35⟩) (q35 : PySem.W.codeIn K cd35 "law" = true) (k35 : PySem.W.keepIn K (.ref p35) = true)
    (z0 : PySem.W.nsIn K mainGlobals "len" = some none)
    (z1 : PySem.W.nsIn K mainGlobals "abs" = some none)
    (z2 : PySem.W.nsIn K mainGlobals "int" = some none)
    (z3 : PySem.W.nsIn K mainGlobals "max" = some none)
    (z4 : PySem.W.nsIn K mainGlobals "min" = some none)
    (z5 : PySem.W.nsIn K mainGlobals "sum" = some none)
    (z6 : PySem.W.nsIn K mainGlobals "any" = some none)
    (z7 : PySem.W.nsIn K mainGlobals "all" = some none)
    (z8 : PySem.W.nsIn K mainGlobals "tuple" = some none)
    (z9 : PySem.W.nsIn K mainGlobals "list" = some none)
    (z10 : PySem.W.nsIn K mainGlobals "sorted" = some none)
    (z11 : PySem.W.nsIn K mainGlobals "set" = some none)
    (z12 : PySem.W.nsIn K mainGlobals "zip" = some none)
    (z13 : PySem.W.nsIn K mainGlobals "range" = some none)
    (z14 : PySem.W.nsIn K mainGlobals "enumerate" = some none)
    (z15 : PySem.W.nsIn K mainGlobals "isinstance" = some none)
    (z16 : PySem.W.nsIn K mainGlobals "bool" = some none)
    (z17 : PySem.W.nsIn K mainGlobals "str" = some none)
    : ∃ fd : FuncData, (∀ (s : Shared) (v : Value), BindsTo s fd ⟨[v], []⟩ [("script", v)]) ∧ ∀ base : Heap, K.In base → base.Ns mainGlobals mg → FnOk P w K mg base CX0 34 fa fd ["script"] (spF ⟨K, P, w⟩ f35) := by
  have e := hfa.symm.trans (PySem.W.mg_of X G a35)
  cases e
  have F1 := fun_mk (st := topS 1) l1 q1 k1
  have F2 := fun_mk (st := topS 2) l2 q2 k2
  have F4 := fun_mk (st := topS 4) l4 q4 k4
  have F3 := fun_mk (st := topS 3) l3 q3 k3
  have F6 := fun_mk (st := topS 6) l6 q6 k6
  have F7 := fun_mk (st := topS 7) l7 q7 k7
  have F8 := fun_mk (st := topS 8) l8 q8 k8
  have F9 := fun_mk (st := topS 9) l9 q9 k9
  have F10 := fun_mk (st := topS 10) l10 q10 k10
  have F11 := fun_mk (st := topS 11) l11 q11 k11
  have F12 := fun_mk (st := topS 12) l12 q12 k12
  have F13 := fun_mk (st := topS 13) l13 q13 k13
  have F14 := fun_mk (st := topS 14) l14 q14 k14
  have F15 := fun_mk (st := topS 15) l15 q15 k15
  have F16 := fun_mk (st := topS 16) l16 q16 k16
  have F17 := fun_mk (st := topS 17) l17 q17 k17
  have F18 := fun_mk (st := topS 18) l18 q18 k18
  have F19 := fun_mk (st := topS 19) l19 q19 k19
  have F20 := fun_mk (st := topS 20) l20 q20 k20
  have F21 := fun_mk (st := topS 21) l21 q21 k21
  have F22 := fun_mk (st := topS 22) l22 q22 k22
  have F23 := fun_mk (st := topS 23) l23 q23 k23
  have F24 := fun_mk (st := topS 24) l24 q24 k24
  have F25 := fun_mk (st := topS 25) l25 q25 k25
  have F26 := fun_mk (st := topS 26) l26 q26 k26
  have F27 := fun_mk (st := topS 27) l27 q27 k27
  have F28 := fun_mk (st := topS 28) l28 q28 k28
  have F29 := fun_mk (st := topS 29) l29 q29 k29
  have F30 := fun_mk (st := topS 30) l30 q30 k30
  have F31 := fun_mk (st := topS 31) l31 q31 k31
  have F32 := fun_mk (st := topS 32) l32 q32 k32
  have F34 := fun_mk (st := topS 34) l34 q34 k34
  have F33 := fun_mk (st := topS 33) l33 q33 k33
  have F35 := fun_mk (st := topS 35) l35 q35 k35
  refine ⟨PySem.W.fnOf "law" "law" (defArgs (topS 35)) (defBody (topS 35)) (defScope (topS 35)) .none kV35 dc35 pm35 an35 cd35 ct35, fun s v => .of_eq rfl, fun base _ _ => ?_⟩
  have G0 : GoodK Γ0 par P w K mg base 0 := by
    refine ⟨fun x hx => ?_, (fun x d h => nomatch h), (fun x φ h => nomatch h)⟩
    simp only [bnames, List.mem_cons, List.not_mem_nil, or_false] at hx
    rcases hx with rfl | rfl | rfl | rfl | rfl | rfl | rfl | rfl | rfl | rfl | rfl | rfl | rfl | rfl | rfl | rfl | rfl | rfl
    · exact PySem.W.mg_none_of X G z0
    · exact PySem.W.mg_none_of X G z1
    · exact PySem.W.mg_none_of X G z2
    · exact PySem.W.mg_none_of X G z3
    · exact PySem.W.mg_none_of X G z4
    · exact PySem.W.mg_none_of X G z5
    · exact PySem.W.mg_none_of X G z6
    · exact PySem.W.mg_none_of X G z7
    · exact PySem.W.mg_none_of X G z8
    · exact PySem.W.mg_none_of X G z9
    · exact PySem.W.mg_none_of X G z10
    · exact PySem.W.mg_none_of X G z11
    · exact PySem.W.mg_none_of X G z12
    · exact PySem.W.mg_none_of X G z13
    · exact PySem.W.mg_none_of X G z14
    · exact PySem.W.mg_none_of X G z15
    · exact PySem.W.mg_none_of X G z16
    · exact PySem.W.mg_none_of X G z17
  have G1 := g1 G0 (PySem.W.mg_of X G a1) F1
  have G2 := g2 G1 (PySem.W.mg_of X G a2) F2
  have G4 := g4 G2 (PySem.W.mg_of X G a4) F4
  have G3 := g3 G4 (PySem.W.mg_of X G a3) F3
  have G6 := g6 G3 (PySem.W.mg_of X G a6) F6
  have G7 := g7 G6 (PySem.W.mg_of X G a7) F7
  have G8 := g8 G7 (PySem.W.mg_of X G a8) F8
  have G9 := g9 G8 (PySem.W.mg_of X G a9) F9
  have G10 := g10 G9 (PySem.W.mg_of X G a10) F10
  have G11 := g11 G10 (PySem.W.mg_of X G a11) F11
  have G12 := g12 G11 (PySem.W.mg_of X G a12) F12
  have G13 := g13 G12 (PySem.W.mg_of X G a13) F13
  have G14 := g14 G13 (PySem.W.mg_of X G a14) F14
  have G15 := g15 G14 (PySem.W.mg_of X G a15) F15
  have G16 := g16 G15 (PySem.W.mg_of X G a16) F16
  have G17 := g17 G16 (PySem.W.mg_of X G a17) F17
  have G18 := g18 G17 (PySem.W.mg_of X G a18) F18
  have G19 := g19 G18 (PySem.W.mg_of X G a19) F19
  have G20 := g20 G19 (PySem.W.mg_of X G a20) F20
  have G21 := g21 G20 (PySem.W.mg_of X G a21) F21
  have G22 := g22 G21 (PySem.W.mg_of X G a22) F22
  have G23 := g23 G22 (PySem.W.mg_of X G a23) F23
  have G24 := g24 G23 (PySem.W.mg_of X G a24) F24
  have G25 := g25 G24 (PySem.W.mg_of X G a25) F25
  have G26 := g26 G25 (PySem.W.mg_of X G a26) F26
  have G27 := g27 G26 (PySem.W.mg_of X G a27) F27
  have G28 := g28 G27 (PySem.W.mg_of X G a28) F28
  have G29 := g29 G28 (PySem.W.mg_of X G a29) F29
  have G30 := g30 G29 (PySem.W.mg_of X G a30) F30
  have G31 := g31 G30 (PySem.W.mg_of X G a31) F31
  have G32 := g32 G31 (PySem.W.mg_of X G a32) F32
  have G34 := g34 G32 (PySem.W.mg_of X G a34) F34
  have G33 := g33 G34 (PySem.W.mg_of X G a33) F33
  exact g35 G33 F35
end Th.k69
end
section
set_option Elab.async false
set_option maxRecDepth 100000
set_option maxHeartbeats 0
namespace Th.k69
open PySem PySem.Spec PyProof.Rows L2
theorem main_ok : ∀ ns : List Int, ns.length ≤ 63 → ∃ S, f35 [.imm (.list (ns.map .int))] = .ok (.imm (.bool true)) S := fun ns h => by
  obtain ⟨r, S, h1, h2⟩ := t35 ns h
  rw [show r = .imm (.bool true) from h2] at h1
  exact ⟨S, h1⟩
end Th.k69
open PySem PySem.W PyProof.Rows
theorem PySem.Challenge.cw_thingsapart_k69_arcs_found_by_a_bottom_holds : PySem.Challenge.rw_thingsapart_k69_arcs_found_by_a_bottom.Holds := by
  w_on; o_law; k_head; (case hw => w_witness2)
  k_fill
  refine L2.walk_of (l := PySem.Challenge.rw_thingsapart_k69_arcs_found_by_a_bottom) (n := 63) (k := 34) (x := "script") (CX := fun _ => L2.CX0) (sp := fun w => Th.spF ⟨_, PySem.Challenge.pw_thingsapart_k69_arcs_found_by_a_bottom, w⟩ Th.k69.f35) rfl (by decide) rfl ⟨rfl, by decide, by decide⟩ (fun w h Y => PySem.W.kIn_of Y) ?F (fun w H a ns hl _ hS => Th.law_sp Th.k69.main_ok hl hS) (fun _ _ _ _ _ h => h)
  case F =>
    intro w mg fa h KX G hmg
    refine' Th.k69.all_mk KX G hmg ?a1 ?l1 ?q1 ?k1 ?a2 ?l2 ?q2 ?k2 ?a4 ?l4 ?q4 ?k4 ?a3 ?l3 ?q3 ?k3 ?a6 ?l6 ?q6 ?k6 ?a7 ?l7 ?q7 ?k7 ?a8 ?l8 ?q8 ?k8 ?a9 ?l9 ?q9 ?k9 ?a10 ?l10 ?q10 ?k10 ?a11 ?l11 ?q11 ?k11 ?a12 ?l12 ?q12 ?k12 ?a13 ?l13 ?q13 ?k13 ?a14 ?l14 ?q14 ?k14 ?a15 ?l15 ?q15 ?k15 ?a16 ?l16 ?q16 ?k16 ?a17 ?l17 ?q17 ?k17 ?a18 ?l18 ?q18 ?k18 ?a19 ?l19 ?q19 ?k19 ?a20 ?l20 ?q20 ?k20 ?a21 ?l21 ?q21 ?k21 ?a22 ?l22 ?q22 ?k22 ?a23 ?l23 ?q23 ?k23 ?a24 ?l24 ?q24 ?k24 ?a25 ?l25 ?q25 ?k25 ?a26 ?l26 ?q26 ?k26 ?a27 ?l27 ?q27 ?k27 ?a28 ?l28 ?q28 ?k28 ?a29 ?l29 ?q29 ?k29 ?a30 ?l30 ?q30 ?k30 ?a31 ?l31 ?q31 ?k31 ?a32 ?l32 ?q32 ?k32 ?a34 ?l34 ?q34 ?k34 ?a33 ?l33 ?q33 ?k33 ?a35 ?l35 ?q35 ?k35 ?z0 ?z1 ?z2 ?z3 ?z4 ?z5 ?z6 ?z7 ?z8 ?z9 ?z10 ?z11 ?z12 ?z13 ?z14 ?z15 ?z16 ?z17
    (case a1 => k_is); (case l1 => k_is); (case q1 => k_is); (case k1 => k_is); (case a2 => k_is); (case l2 => k_is); (case q2 => k_is); (case k2 => k_is); (case a4 => k_is); (case l4 => k_is); (case q4 => k_is); (case k4 => k_is); (case a3 => k_is); (case l3 => k_is); (case q3 => k_is); (case k3 => k_is); (case a6 => k_is); (case l6 => k_is); (case q6 => k_is); (case k6 => k_is); (case a7 => k_is); (case l7 => k_is); (case q7 => k_is); (case k7 => k_is); (case a8 => k_is); (case l8 => k_is); (case q8 => k_is); (case k8 => k_is); (case a9 => k_is); (case l9 => k_is); (case q9 => k_is); (case k9 => k_is); (case a10 => k_is); (case l10 => k_is); (case q10 => k_is); (case k10 => k_is); (case a11 => k_is); (case l11 => k_is); (case q11 => k_is); (case k11 => k_is); (case a12 => k_is); (case l12 => k_is); (case q12 => k_is); (case k12 => k_is); (case a13 => k_is); (case l13 => k_is); (case q13 => k_is); (case k13 => k_is); (case a14 => k_is); (case l14 => k_is); (case q14 => k_is); (case k14 => k_is); (case a15 => k_is); (case l15 => k_is); (case q15 => k_is); (case k15 => k_is); (case a16 => k_is); (case l16 => k_is); (case q16 => k_is); (case k16 => k_is); (case a17 => k_is); (case l17 => k_is); (case q17 => k_is); (case k17 => k_is); (case a18 => k_is); (case l18 => k_is); (case q18 => k_is); (case k18 => k_is); (case a19 => k_is); (case l19 => k_is); (case q19 => k_is); (case k19 => k_is); (case a20 => k_is); (case l20 => k_is); (case q20 => k_is); (case k20 => k_is); (case a21 => k_is); (case l21 => k_is); (case q21 => k_is); (case k21 => k_is); (case a22 => k_is); (case l22 => k_is); (case q22 => k_is); (case k22 => k_is); (case a23 => k_is); (case l23 => k_is); (case q23 => k_is); (case k23 => k_is); (case a24 => k_is); (case l24 => k_is); (case q24 => k_is); (case k24 => k_is); (case a25 => k_is); (case l25 => k_is); (case q25 => k_is); (case k25 => k_is); (case a26 => k_is); (case l26 => k_is); (case q26 => k_is); (case k26 => k_is); (case a27 => k_is); (case l27 => k_is); (case q27 => k_is); (case k27 => k_is); (case a28 => k_is); (case l28 => k_is); (case q28 => k_is); (case k28 => k_is); (case a29 => k_is); (case l29 => k_is); (case q29 => k_is); (case k29 => k_is); (case a30 => k_is); (case l30 => k_is); (case q30 => k_is); (case k30 => k_is); (case a31 => k_is); (case l31 => k_is); (case q31 => k_is); (case k31 => k_is); (case a32 => k_is); (case l32 => k_is); (case q32 => k_is); (case k32 => k_is); (case a34 => k_is); (case l34 => k_is); (case q34 => k_is); (case k34 => k_is); (case a33 => k_is); (case l33 => k_is); (case q33 => k_is); (case k33 => k_is); (case a35 => k_is); (case l35 => k_is); (case q35 => k_is); (case k35 => k_is); (case z0 => k_is); (case z1 => k_is); (case z2 => k_is); (case z3 => k_is); (case z4 => k_is); (case z5 => k_is); (case z6 => k_is); (case z7 => k_is); (case z8 => k_is); (case z9 => k_is); (case z10 => k_is); (case z11 => k_is); (case z12 => k_is); (case z13 => k_is); (case z14 => k_is); (case z15 => k_is); (case z16 => k_is); (case z17 => k_is)
end
