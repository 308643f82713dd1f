import PyProof.Rows.All
import Wide.All
import OpenK.AllK
import Wide.FinOn
import HandS.ForMost
import HandS.Exc
import HandS.Star
import HandS.Wide
import HandS.SortInts
import HandS.IsInst
import HandS.DictComp
import HandS.Conv
import HandS.Zip
import HandS.Style
import HandS.TupAny
import HandS.TupMul
import HandS.TupLe
import HandS.Remove
import HandS.SetKeys
import HandS.Defaults
import HandS.Deep
import KE.DataFind
import KE.KIndexOf
import HandS.RaiseMore
import HandS.Small
import HandS.SetFor
import HandS.HeadEnd
import HandS.HeadHook2
import HandS.Head2
import HandS.NoneIn
import HandS.Strs
import PySem.Challenge.RW_ringproducts_k72_whole_root_claims
set_option Elab.async false
set_option linter.all false
set_option maxRecDepth 100000
set_option maxHeartbeats 0
/-! Ev1: an evaluator over a small core language; values without addresses, tuples by value, lists and dicts in a list of objects. -/
namespace EV
open PySem PySem.Spec PyProof.Rows L2

inductive W where
  | non | bl (b : Bool) | int (i : Int) | str (x : Str) | tup (xs : List W) | ref (n : Nat)
  deriving Inhabited

inductive Ob where
  | lst (xs : List W) | rol (xs : List W) | dK (kvs : List (Key × W))

abbrev Mem := List Ob
abbrev Sl := List (Option W)

inductive R (α : Type) where
  | ok (a : α) (M : Mem) | exc (c : Str) (fs : List W) (M : Mem) | bad

def R.bind {α β : Type} (r : R α) (k : α → Mem → R β) : R β := match r with
  | .ok a M => k a M
  | .exc c fs M => .exc c fs M
  | .bad => .bad

/-- what holds of an end -/
def R.post {α : Type} (r : R α) (Q : α → Mem → Prop) (E : Str → List W → Mem → Prop) : Prop := match r with
  | .ok a M => Q a M
  | .exc c fs M => E c fs M
  | .bad => False

/-- what is said of the items, one after another -/
def mapO {α β : Type} (f : α → Option β) : List α → Option (List β)
  | [] => some []
  | x :: xs => match f x with
    | none => none
    | some y => match mapO f xs with
      | none => none
      | some ys => some (y :: ys)

/-- a value as data, read through the objects -/
def toD (M : Mem) : Nat → W → Option PyData
  | 0, _ => none
  | _ + 1, .non => some .none
  | _ + 1, .bl b => some (.bool b)
  | _ + 1, .int i => some (.int i)
  | _ + 1, .str x => some (.str x)
  | n + 1, .tup xs => (mapO (toD M n) xs).map .tuple
  | n + 1, .ref r => match M[r]? with
    | some (.lst xs) => (mapO (toD M n) xs).map .list
    | some (.rol xs) => (mapO (toD M n) xs).map .list
    | _ => none

def toInt : W → Option Int
  | .int i => some i
  | _ => none
def toBool : W → Option Bool
  | .bl i => some i
  | _ => none
def toStr : W → Option Str
  | .str i => some i
  | _ => none
def toKey : W → Option Key
  | .int i => some (.inl i)
  | .str x => some (.inr x)
  | _ => none
def ofKey : Key → W
  | .inl i => .int i
  | .inr x => .str x

/-- the items of a list or a tuple -/
def seqW (M : Mem) : W → Option (List W)
  | .tup xs => some xs
  | .ref r => match M[r]? with
    | some (.lst xs) => some xs
    | some (.rol xs) => some xs
    | _ => none
  | _ => none

def dataFuel : Nat := 12
def dataW (M : Mem) (w : W) : Option PyData := match toD M dataFuel w with
  | some d => if SeqAt.shaped d = true then some d else none
  | none => none

def eqW (M : Mem) (x y : W) : Option Bool := match dataW M x, dataW M y with
  | some d, some e => some (PyData.eqv d e)
  | _, _ => none

def ofO {α : Type} (o : Option α) (M : Mem) : R α := match o with
  | some a => .ok a M
  | none => .bad
def newOb (o : Ob) (M : Mem) : R W := .ok (.ref M.length) (M ++ [o])
def newL (xs : List W) (M : Mem) : R W := if xs.length ≤ sizeLine then newOb (.lst xs) M else .bad
def newT (xs : List W) (M : Mem) : R W := if xs.length ≤ sizeLine then .ok (.tup xs) M else .bad

/-! ### operators -/
def binW (op : Operator) (x y : W) (M : Mem) : R W := match op, x, y with
  | .Add, .int a, .int b => .ok (.int (a + b)) M
  | .Sub, .int a, .int b => .ok (.int (a - b)) M
  | .Mult, .int a, .int b => if a.natAbs.log2 + b.natAbs.log2 < 1000000 then .ok (.int (a * b)) M else .bad
  | .FloorDiv, .int a, .int b => if 0 < b ∧ b.natAbs.log2 < 9000 then .ok (.int (a / b)) M else .bad
  | .Mod, .int a, .int b => if 0 < b then .ok (.int (a % b)) M else .bad
  | .Pow, .int a, .int b => if 0 ≤ b ∧ b ≤ 1000000 ∧ a.natAbs < 2 ^ 64 then .ok (.int (a ^ b.toNat)) M else .bad
  | .Add, .str a, .str b => if a.length + b.length ≤ sizeLine then .ok (.str (a ++ b)) M else .bad
  | .Add, .tup xs, .tup ys => if xs.length + ys.length ≤ sizeLine then .ok (.tup (xs ++ ys)) M else .bad
  | .Add, .ref a, .ref b => match M[a]?, M[b]? with
    | some (.lst xs), some (.lst ys) => if xs.length + ys.length ≤ sizeLine then newOb (.lst (xs ++ ys)) M else .bad
    | _, _ => .bad
  | .Mult, .ref a, .int k => match M[a]? with
    | some (.lst xs) => if -(2 ^ 63) ≤ k ∧ k < 2 ^ 63 ∧ xs.length * k.toNat ≤ sizeLine then newOb (.lst (List.replicate k.toNat xs).flatten) M else .bad
    | _ => .bad
  | .Mult, .tup xs, .int k => if k = 1 then .ok (.tup xs) M else if xs ≠ [] ∧ 2 ≤ k ∧ k ≤ 1000 ∧ xs.length ≤ 1000 then .ok (.tup (List.replicate k.toNat xs).flatten) M else .bad
  | _, _, _ => .bad

def inW (M : Mem) (x y : W) : Option Bool := match y with
  | .ref r => match M[r]? with
    | some (.lst _) => match dataW M x, dataW M y with
      | some d, some (.list ds) => some (ds.any fun z => PyData.eqv z d)
      | _, _ => none
    | some (.dK kvs) => match toKey x with
      | some k => some ((kvs.find? fun kv => decide (kv.1 = k)).isSome)
      | none => none
    | _ => none
  | .str z => match x with
    | .str ⟨⟨[c]⟩⟩ => some (decide (c ∈ z.cps.toList))
    | _ => none
  | _ => none

def cmpW (op : CmpOp) (x y : W) (M : Mem) : R Bool := match op with
  | .Eq => ofO (eqW M x y) M
  | .NotEq => ofO ((eqW M x y).map not) M
  | .Lt => match x, y with
    | .int a, .int b => .ok (decide (a < b)) M
    | _, _ => .bad
  | .LtE => match x, y with
    | .int a, .int b => .ok (decide (a ≤ b)) M
    | _, _ => .bad
  | .Gt => match x, y with
    | .int a, .int b => .ok (decide (b < a)) M
    | _, _ => .bad
  | .GtE => match x, y with
    | .int a, .int b => .ok (decide (b ≤ a)) M
    | _, _ => .bad
  | .In => ofO (inW M x y) M
  | .NotIn => ofO ((inW M x y).map not) M
  | .Is => match y with
    | .non => .ok (match x with | .non => true | _ => false) M
    | .bl b => match x with
      | .bl a => .ok (decide (a = b)) M
      | _ => .bad
    | _ => .bad
  | .IsNot => match y with
    | .non => .ok (match x with | .non => false | _ => true) M
    | .bl b => match x with
      | .bl a => .ok (!decide (a = b)) M
      | _ => .bad
    | _ => .bad

def truthW (x : W) (M : Mem) : R Bool := match x with
  | .non => .ok false M
  | .bl b => .ok b M
  | .int i => .ok (i != 0) M
  | .tup xs => .ok (!xs.isEmpty) M
  | .ref r => match M[r]? with
    | some (.lst xs) => .ok (!xs.isEmpty) M
    | _ => .bad
  | _ => .bad

/-! ### subscripts -/
def itemW (o i : W) (M : Mem) : R W := match o, i with
  | .tup xs, .int k => ofO (atI xs k) M
  | .str z, .int k => if z.length ≤ sizeLine then ofO ((atI z.cps.toList k).map fun c => .str ⟨#[c]⟩) M else .bad
  | .ref r, _ => match M[r]? with
    | some (.lst xs) => match i with
      | .int k => ofO (atI xs k) M
      | _ => .bad
    | some (.rol xs) => match i with
      | .int k => ofO (atI xs k) M
      | _ => .bad
    | some (.dK kvs) => match toKey i with
      | some k => ofO ((kvs.find? fun kv => decide (kv.1 = k)).map (·.2)) M
      | none => .bad
    | none => .bad
  | _, _ => .bad

def cutW (xs : List W) (lo hi : Option Int) : List W := (xs.drop (HT.sIx xs.length 0 lo)).take (HT.sIx xs.length xs.length hi - HT.sIx xs.length 0 lo)
def sliceW (o : W) (lo hi : Option Int) (M : Mem) : R W := match o with
  | .tup xs => .ok (.tup (cutW xs lo hi)) M
  | .ref r => match M[r]? with
    | some (.lst xs) => newOb (.lst (cutW xs lo hi)) M
    | some (.rol xs) => newOb (.lst (cutW xs lo hi)) M
    | _ => .bad
  | _ => .bad

def putW {κ : Type} [DecidableEq κ] (kvs : List (κ × W)) (k : κ) (v : W) : List (κ × W) :=
  if kvs.any (fun kv => decide (kv.1 = k)) then kvs.map (fun kv => if kv.1 = k then (kv.1, v) else kv) else kvs ++ [(k, v)]

def storeW (o i v : W) (M : Mem) : R Unit := match o with
  | .ref r => match M[r]? with
    | some (.lst xs) => match i with
      | .int k => match ixN xs.length k with
        | some j => .ok () (M.set r (.lst (xs.set j v)))
        | none => .bad
      | _ => .bad
    | some (.dK kvs) => match toKey i with
      | some k => if kvs.length < sizeLine then .ok () (M.set r (.dK (putW kvs k v))) else .bad
      | none => .bad
    | _ => .bad
  | _ => .bad
end EV

/-! Ev2: how the evaluator's state stands for the abstract heap's. -/
namespace EV
open PySem PySem.Spec PyProof.Rows L2

mutual
inductive RW (μ : List Addr) (H : Hp) : W → V → Prop
  | non : RW μ H .non .non
  | bl (b : Bool) : RW μ H (.bl b) (.bl b)
  | int (i : Int) : RW μ H (.int i) (.int i)
  | str (x : Str) : RW μ H (.str x) (.str x)
  | tup {a : Addr} {o : Obj} {xs : List W} {vs : List V} : H a = some (.frz o (.tup vs)) → o.dict = none → RWs μ H xs vs → RW μ H (.tup xs) (.ref a)
  | ref {n : Nat} {a : Addr} : μ[n]? = some a → RW μ H (.ref n) (.ref a)
inductive RWs (μ : List Addr) (H : Hp) : List W → List V → Prop
  | nil : RWs μ H [] []
  | cons {x : W} {v : V} {xs : List W} {vs : List V} : RW μ H x v → RWs μ H xs vs → RWs μ H (x :: xs) (v :: vs)
end

/-- what never changes stays -/
structure Ext (H H' : Hp) : Prop where
  tup : ∀ a xs, H a = some (.tup xs) → H' a = some (.tup xs)
  frz : ∀ a o u, H a = some (.frz o u) → H' a = some (.frz o u)
theorem Ext.refl (H : Hp) : Ext H H := ⟨fun _ _ h => h, fun _ _ _ h => h⟩
theorem Ext.trans {H H1 H2 : Hp} (a : Ext H H1) (b : Ext H1 H2) : Ext H H2 := ⟨fun p xs h => b.tup p xs (a.tup p xs h), fun p o u h => b.frz p o u (a.frz p o u h)⟩
theorem Ext.new {H : Hp} {p : Addr} {o : HO} (h : H p = none) : Ext H (upd H p o) :=
  ⟨fun a xs e => by rw [upd_ne (ne_of_none e h)]; exact e, fun a ob u e => by rw [upd_ne (ne_of_none e h)]; exact e⟩
theorem Ext.write {H : Hp} {p : Addr} {o u : HO} (h : H p = some u) (h1 : ∀ xs, u ≠ .tup xs) (h2 : ∀ ob z, u ≠ .frz ob z) : Ext H (upd H p o) :=
  ⟨fun a xs e => by rw [upd_ne (ne_of e h fun z => h1 xs z.symm)]; exact e, fun a ob z e => by rw [upd_ne (ne_of e h fun q => h2 ob z q.symm)]; exact e⟩

theorem pre_get {α : Type} {l l' : List α} {n : Nat} {a : α} (p : l <+: l') (h : l[n]? = some a) : l'[n]? = some a := by
  obtain ⟨t, rfl⟩ := p
  rw [List.getElem?_append_left (List.getElem?_eq_some_iff.mp h).1]
  exact h

mutual
theorem RW.mono {μ μ' : List Addr} {H H' : Hp} (p : μ <+: μ') (e : Ext H H') : ∀ {w : W} {v : V}, RW μ H w v → RW μ' H' w v
  | _, _, .non => .non
  | _, _, .bl b => .bl b
  | _, _, .int i => .int i
  | _, _, .str x => .str x
  | _, _, .tup h n r => .tup (e.frz _ _ _ h) n (RWs.mono p e r)
  | _, _, .ref h => .ref (pre_get p h)
theorem RWs.mono {μ μ' : List Addr} {H H' : Hp} (p : μ <+: μ') (e : Ext H H') : ∀ {w : List W} {v : List V}, RWs μ H w v → RWs μ' H' w v
  | _, _, .nil => .nil
  | _, _, .cons h r => .cons (h.mono p e) (RWs.mono p e r)
end

section
variable {μ : List Addr} {H : Hp}
theorem RWs.length : ∀ {xs : List W} {vs : List V}, RWs μ H xs vs → xs.length = vs.length
  | _, _, .nil => rfl
  | _, _, .cons _ t => congrArg (· + 1) t.length
theorem RWs.get : ∀ {xs : List W} {vs : List V} {i : Nat} {x : W}, RWs μ H xs vs → xs[i]? = some x → ∃ v, vs[i]? = some v ∧ RW μ H x v
  | _, _, _, _, .nil, e => by simp at e
  | _, _, 0, _, .cons r _, e => by simp at e; subst e; exact ⟨_, rfl, r⟩
  | _, _, i + 1, x, .cons _ t, e => by
    obtain ⟨u, h1, h2⟩ := RWs.get (i := i) (x := x) t (by simpa using e)
    exact ⟨u, by simpa using h1, h2⟩
theorem RWs.getV : ∀ {xs : List W} {vs : List V} {i : Nat} {v : V}, RWs μ H xs vs → vs[i]? = some v → ∃ x, xs[i]? = some x ∧ RW μ H x v
  | _, _, _, _, .nil, e => by simp at e
  | _, _, 0, _, .cons r _, e => by simp at e; subst e; exact ⟨_, rfl, r⟩
  | _, _, i + 1, x, .cons _ t, e => by
    obtain ⟨u, h1, h2⟩ := RWs.getV (i := i) (v := x) t (by simpa using e)
    exact ⟨u, by simpa using h1, h2⟩
theorem RWs.append : ∀ {xs ys : List W} {us vs : List V}, RWs μ H xs us → RWs μ H ys vs → RWs μ H (xs ++ ys) (us ++ vs)
  | _, _, _, _, .nil, s => s
  | _, _, _, _, .cons r t, s => .cons r (t.append s)
theorem RWs.set {x : W} {u : V} (r : RW μ H x u) : ∀ {xs : List W} {us : List V} (i : Nat), RWs μ H xs us → RWs μ H (xs.set i x) (us.set i u)
  | _, _, _, .nil => .nil
  | _, _, 0, .cons _ t => .cons r t
  | _, _, i + 1, .cons q t => .cons q (RWs.set r i t)
theorem RWs.take : ∀ {xs : List W} {us : List V} (n : Nat), RWs μ H xs us → RWs μ H (xs.take n) (us.take n)
  | _, _, 0, _ => .nil
  | _, _, _ + 1, .nil => .nil
  | _, _, n + 1, .cons r t => .cons r (RWs.take n t)
theorem RWs.drop : ∀ {xs : List W} {us : List V} (n : Nat), RWs μ H xs us → RWs μ H (xs.drop n) (us.drop n)
  | _, _, 0, r => r
  | _, _, _ + 1, .nil => .nil
  | _, _, n + 1, .cons _ t => RWs.drop n t
theorem RWs.reverse : ∀ {xs : List W} {us : List V}, RWs μ H xs us → RWs μ H xs.reverse us.reverse
  | _, _, .nil => .nil
  | _, _, .cons r t => by rw [List.reverse_cons, List.reverse_cons]; exact t.reverse.append (.cons r .nil)
theorem RWs.flat {xs : List W} {us : List V} (r : RWs μ H xs us) : ∀ n : Nat, RWs μ H (List.replicate n xs).flatten (List.replicate n us).flatten
  | 0 => .nil
  | n + 1 => by rw [List.replicate_succ, List.replicate_succ, List.flatten_cons, List.flatten_cons]; exact r.append (r.flat n)
theorem RWs.nilR {xs : List W} (r : RWs μ H xs []) : xs = [] := by cases r; rfl
theorem RWs.ints : ∀ ns : List Int, RWs μ H (ns.map W.int) (ns.map V.int)
  | [] => .nil
  | n :: ns => .cons (.int n) (RWs.ints ns)
theorem RWs.strs : ∀ ns : List Str, RWs μ H (ns.map W.str) (ns.map V.str)
  | [] => .nil
  | n :: ns => .cons (.str n) (RWs.strs ns)
theorem RWs.of_ints : ∀ {xs : List W} {vs : List V} {ns : List Int}, RWs μ H xs vs → mapO toInt xs = some ns → vs = ns.map V.int
  | _, _, ns, .nil, e => by cases e; rfl
  | x :: xs, _, ns, .cons r t, e => by
    unfold mapO at e
    cases r with
    | int i =>
      simp only [toInt] at e
      cases q : mapO toInt xs with
      | none => rw [q] at e; simp at e
      | some ys =>
        rw [q] at e
        simp only [Option.some.injEq] at e
        subst e
        rw [t.of_ints q]
        rfl
    | _ => simp [toInt] at e
theorem RWs.of_bools : ∀ {xs : List W} {vs : List V} {ns : List Bool}, RWs μ H xs vs → mapO toBool xs = some ns → vs = ns.map V.bl
  | _, _, ns, .nil, e => by cases e; rfl
  | x :: xs, _, ns, .cons r t, e => by
    unfold mapO at e
    cases r with
    | bl i =>
      simp only [toBool] at e
      cases q : mapO toBool xs with
      | none => rw [q] at e; simp at e
      | some ys =>
        rw [q] at e
        simp only [Option.some.injEq] at e
        subst e
        rw [t.of_bools q]
        rfl
    | _ => simp [toBool] at e
theorem RWs.of_strs : ∀ {xs : List W} {vs : List V} {ns : List Str}, RWs μ H xs vs → mapO toStr xs = some ns → vs = ns.map V.str
  | _, _, ns, .nil, e => by cases e; rfl
  | x :: xs, _, ns, .cons r t, e => by
    unfold mapO at e
    cases r with
    | str i =>
      simp only [toStr] at e
      cases q : mapO toStr xs with
      | none => rw [q] at e; simp at e
      | some ys =>
        rw [q] at e
        simp only [Option.some.injEq] at e
        subst e
        rw [t.of_strs q]
        rfl
    | _ => simp [toStr] at e
theorem RW.of_key {x : W} {v : V} {k : Key} (r : RW μ H x v) (e : toKey x = some k) : v = kV k := by
  cases r with
  | int i => simp only [toKey, Option.some.injEq] at e; subst e; rfl
  | str i => simp only [toKey, Option.some.injEq] at e; subst e; rfl
  | _ => simp [toKey] at e
theorem RW.ofKey (k : Key) : RW μ H (ofKey k) (kV k) := by cases k <;> constructor
theorem RWs.of_keys : ∀ {xs : List W} {vs : List V} {ns : List Key}, RWs μ H xs vs → mapO toKey xs = some ns → vs = ns.map kV
  | _, _, ns, .nil, e => by cases e; rfl
  | x :: xs, _, ns, .cons r t, e => by
    unfold mapO at e
    cases q1 : toKey x with
    | none => rw [q1] at e; simp at e
    | some k =>
      rw [q1] at e
      simp only at e
      cases q : mapO toKey xs with
      | none => rw [q] at e; simp at e
      | some ys =>
        rw [q] at e
        simp only [Option.some.injEq] at e
        subst e
        rw [t.of_keys q, r.of_key q1]
        rfl
theorem RWs.keys : ∀ ks : List Key, RWs μ H (ks.map EV.ofKey) (ks.map kV)
  | [] => .nil
  | k :: ks => .cons (.ofKey k) (RWs.keys ks)
end

/-- the pairs of a dict -/
inductive RKs {κ : Type} (μ : List Addr) (H : Hp) : List (κ × W) → List (κ × V) → Prop
  | nil : RKs μ H [] []
  | cons {k : κ} {x : W} {v : V} {xs : List (κ × W)} {vs : List (κ × V)} : RW μ H x v → RKs μ H xs vs → RKs μ H ((k, x) :: xs) ((k, v) :: vs)
theorem RKs.mono {κ : Type} {μ μ' : List Addr} {H H' : Hp} (p : μ <+: μ') (e : Ext H H') : ∀ {w : List (κ × W)} {v : List (κ × V)}, RKs μ H w v → RKs μ' H' w v
  | _, _, .nil => .nil
  | _, _, .cons h r => .cons (h.mono p e) (r.mono p e)
section
variable {κ : Type} {μ : List Addr} {H : Hp}
theorem RKs.length : ∀ {xs : List (κ × W)} {vs : List (κ × V)}, RKs μ H xs vs → xs.length = vs.length
  | _, _, .nil => rfl
  | _, _, .cons _ t => congrArg (· + 1) t.length
theorem RKs.keys_eq : ∀ {xs : List (κ × W)} {vs : List (κ × V)}, RKs μ H xs vs → xs.map (·.1) = vs.map (·.1)
  | _, _, .nil => rfl
  | _, _, .cons _ t => congrArg _ t.keys_eq
theorem RKs.append : ∀ {xs ys : List (κ × W)} {us vs : List (κ × V)}, RKs μ H xs us → RKs μ H ys vs → RKs μ H (xs ++ ys) (us ++ vs)
  | _, _, _, _, .nil, s => s
  | _, _, _, _, .cons r t, s => .cons r (t.append s)
variable [DecidableEq κ]
theorem RKs.find (k : κ) : ∀ {xs : List (κ × W)} {vs : List (κ × V)}, RKs μ H xs vs →
    (∃ x v, (xs.find? fun kv => decide (kv.1 = k)) = some (k, x) ∧ valV vs k = some v ∧ RW μ H x v) ∨ ((xs.find? fun kv => decide (kv.1 = k)) = none ∧ valV vs k = none)
  | _, _, .nil => .inr ⟨rfl, rfl⟩
  | _, _, .cons (k := j) (x := x) (v := v) (xs := xs) (vs := vs) r t => by
    by_cases e : j = k
    · subst e
      exact .inl ⟨x, v, by simp, by simp [valV], r⟩
    · rcases t.find k with ⟨x', v', h1, h2, h3⟩ | ⟨h1, h2⟩
      · exact .inl ⟨x', v', by simpa [e] using h1, by simpa [valV, e] using h2, h3⟩
      · exact .inr ⟨by simpa [e] using h1, by simpa [valV, e] using h2⟩
theorem RKs.any (k : κ) : ∀ {xs : List (κ × W)} {vs : List (κ × V)}, RKs μ H xs vs → (xs.any fun kv => decide (kv.1 = k)) = vs.any fun kv => decide (kv.1 = k)
  | _, _, .nil => rfl
  | _, _, .cons _ t => by simp only [List.any_cons, t.any k]
theorem RKs.map {k : κ} {w : W} {u : V} (r : RW μ H w u) : ∀ {xs : List (κ × W)} {vs : List (κ × V)}, RKs μ H xs vs →
    RKs μ H (xs.map fun kv => if kv.1 = k then (kv.1, w) else kv) (vs.map fun kv => if kv.1 = k then (kv.1, u) else kv)
  | _, _, .nil => .nil
  | _, _, .cons (k := j) q t => by
    rw [List.map_cons, List.map_cons]
    by_cases e : j = k
    · simp only [e, if_true]
      exact .cons r (by simpa using t.map r)
    · simp only [e, if_false]
      exact .cons q (by simpa using t.map r)
theorem RKs.put {k : κ} {w : W} {u : V} (r : RW μ H w u) {xs : List (κ × W)} {vs : List (κ × V)} (t : RKs μ H xs vs) : RKs μ H (putW xs k w) (putK vs k u) := by
  unfold putW putK
  rw [t.any k]
  split
  · exact t.map r
  · exact t.append (.cons r .nil)
end

theorem _root_.L2.SqT.frz {K : PySem.W.Frag} {H : Hp} {a : Addr} {o : Obj} {xs : List V} (h : H a = some (.frz o (.tup xs))) : SqT K H a xs := .inl (.inr ⟨o, h⟩)
/-- a list that is never written -/
def FzL (K : PySem.W.Frag) (H : Hp) (a : Addr) (vs : List V) : Prop := (∃ o, H a = some (.frz o (.lst vs))) ∨ SqL K (fun _ => none) a vs
theorem FzL.sq {K : PySem.W.Frag} {H : Hp} {a : Addr} {vs : List V} (h : FzL K H a vs) : SqL K H a vs := by
  rcases h with ⟨o, h⟩ | h
  · exact .inl (.inr ⟨o, h⟩)
  · rcases h with h | h
    · rcases h with h | ⟨o, h⟩
      · cases h
      · cases h
    · exact .inr h
theorem FzL.mono {K : PySem.W.Frag} {H H' : Hp} {a : Addr} {vs : List V} (e : Ext H H') (h : FzL K H a vs) : FzL K H' a vs := by
  rcases h with ⟨o, h⟩ | h
  · exact .inl ⟨o, e.frz _ _ _ h⟩
  · exact .inr h

/-- what stands at an address -/
def RO (K : PySem.W.Frag) (μ : List Addr) (H : Hp) (a : Addr) : Ob → Prop
  | .lst ws => ∃ vs, H a = some (.lst vs) ∧ RWs μ H ws vs
  | .rol ws => ∃ vs, FzL K H a vs ∧ RWs μ H ws vs
  | .dK kvs => ∃ ks, H a = some (.dK ks) ∧ RKs μ H kvs ks
def Ob.isRol : Ob → Bool
  | .rol _ => true
  | _ => false
theorem RO.stay {K : PySem.W.Frag} {μ μ' : List Addr} {H H' : Hp} {a : Addr} {o : Ob} (p : μ <+: μ') (e : Ext H H') (h : o.isRol = false → H' a = H a) (r : RO K μ H a o) : RO K μ' H' a o := by
  cases o with
  | lst ws => obtain ⟨vs, h1, h2⟩ := r; exact ⟨vs, (h rfl).trans h1, h2.mono p e⟩
  | rol ws => obtain ⟨vs, h1, h2⟩ := r; exact ⟨vs, h1.mono e, h2.mono p e⟩
  | dK ws => obtain ⟨vs, h1, h2⟩ := r; exact ⟨vs, (h rfl).trans h1, h2.mono p e⟩
theorem RO.there {K : PySem.W.Frag} {μ : List Addr} {H : Hp} {a : Addr} {o : Ob} (r : RO K μ H a o) (h : o.isRol = false) : ∃ u, H a = some u ∧ (∀ xs, u ≠ .tup xs) ∧ ∀ ob z, u ≠ .frz ob z := by
  cases o with
  | lst ws => obtain ⟨vs, h1, _⟩ := r; exact ⟨_, h1, fun _ z => (nomatch z), fun _ _ z => (nomatch z)⟩
  | rol ws => cases h
  | dK ws => obtain ⟨vs, h1, _⟩ := r; exact ⟨_, h1, fun _ z => (nomatch z), fun _ _ z => (nomatch z)⟩

structure CoM (K : PySem.W.Frag) (μ : List Addr) (M : Mem) (H : Hp) : Prop where
  len : μ.length = M.length
  inj : ∀ (n m : Nat) (a : Addr) (o o' : Ob), μ[n]? = some a → μ[m]? = some a → M[n]? = some o → M[m]? = some o' → o.isRol = false → o'.isRol = false → n = m
  ob : ∀ (n : Nat) (o : Ob), M[n]? = some o → ∃ a, μ[n]? = some a ∧ RO K μ H a o

section
variable {K : PySem.W.Frag} {μ : List Addr} {M : Mem} {H : Hp}
/-- the object behind a value -/
theorem CoM.at {n : Nat} {v : V} {o : Ob} (c : CoM K μ M H) (r : RW μ H (.ref n) v) (h : M[n]? = some o) : ∃ a, v = .ref a ∧ μ[n]? = some a ∧ RO K μ H a o := by
  cases r with
  | ref e =>
    obtain ⟨a, h1, h2⟩ := c.ob n o h
    rw [e] at h1
    cases h1
    exact ⟨_, rfl, e, h2⟩
theorem CoM.new {p : Addr} {o : HO} (c : CoM K μ M H) (h : H p = none) : CoM K μ M (upd H p o) := by
  refine ⟨c.len, c.inj, fun n ob e => ?_⟩
  obtain ⟨a, h1, h2⟩ := c.ob n ob e
  refine ⟨a, h1, h2.stay (List.prefix_refl _) (.new h) fun q => ?_⟩
  obtain ⟨u, hu, _⟩ := h2.there q
  exact upd_ne (ne_of_none hu h)
theorem CoM.push {p : Addr} {o : HO} {ob : Ob} (c : CoM K μ M H) (h : H p = none) (r : RO K (μ ++ [p]) (upd H p o) p ob) : CoM K (μ ++ [p]) (M ++ [ob]) (upd H p o) := by
  have hp : ∀ (n : Nat) (a : Addr) (o' : Ob), μ[n]? = some a → M[n]? = some o' → o'.isRol = false → a ≠ p := fun n a o' h1 h2 h3 e => by
    obtain ⟨b, h4, h5⟩ := c.ob n o' h2
    rw [h1] at h4
    cases h4
    obtain ⟨u, hu, _⟩ := h5.there h3
    rw [e, h] at hu
    cases hu
  have lt : ∀ n o', (M ++ [ob])[n]? = some o' → n < M.length ∨ (n = M.length ∧ o' = ob) := fun n o' e => by
    by_cases q : n < M.length
    · exact .inl q
    · refine .inr ?_
      rw [List.getElem?_append_right (by omega)] at e
      have : n - M.length = 0 := by
        have := (List.getElem?_eq_some_iff.mp e).1
        simp at this
        omega
      rw [this] at e
      simp at e
      exact ⟨by omega, e.symm⟩
  have at_lt : ∀ n, n < M.length → (μ ++ [p])[n]? = μ[n]? := fun n q => List.getElem?_append_left (by rw [c.len]; exact q)
  have at_eq : (μ ++ [p])[M.length]? = some p := by rw [List.getElem?_append_right (by rw [c.len]; exact Nat.le_refl _), c.len]; simp
  have mt_lt : ∀ n, n < M.length → (M ++ [ob])[n]? = M[n]? := fun n q => List.getElem?_append_left q
  refine ⟨by simp [c.len], fun n m a o1 o2 h1 h2 h3 h4 h5 h6 => ?_, fun n o' e => ?_⟩
  · rcases lt n o1 h3 with q1 | ⟨rfl, rfl⟩
    · rw [at_lt n q1] at h1
      rw [mt_lt n q1] at h3
      rcases lt m o2 h4 with q2 | ⟨rfl, rfl⟩
      · rw [at_lt m q2] at h2
        rw [mt_lt m q2] at h4
        exact c.inj n m a o1 o2 h1 h2 h3 h4 h5 h6
      · rw [at_eq] at h2
        cases h2
        exact absurd rfl (hp n _ o1 h1 h3 h5)
    · rw [at_eq] at h1
      cases h1
      rcases lt m o2 h4 with q2 | ⟨rfl, rfl⟩
      · rw [at_lt m q2] at h2
        rw [mt_lt m q2] at h4
        exact absurd rfl (hp m _ o2 h2 h4 h6)
      · rfl
  · rcases lt n o' e with q | ⟨rfl, rfl⟩
    · rw [mt_lt n q] at e
      obtain ⟨a, h1, h2⟩ := c.ob n o' e
      refine ⟨a, by rw [at_lt n q]; exact h1, h2.stay ⟨[p], rfl⟩ (.new h) fun z => upd_ne (hp n a o' h1 e z)⟩
    · exact ⟨p, at_eq, r⟩
/-- an object is written -/
theorem CoM.write {r : Nat} {a : Addr} {o : HO} {ob ob' : Ob} (c : CoM K μ M H) (hr : M[r]? = some ob) (hs : ob.isRol = false) (hs' : ob'.isRol = false) (ha : μ[r]? = some a) (x : RO K μ (upd H a o) a ob') : CoM K μ (M.set r ob') (upd H a o) ∧ Ext H (upd H a o) := by
  obtain ⟨a', h1, h2⟩ := c.ob r ob hr
  rw [ha] at h1
  cases h1
  obtain ⟨u, hu, hu1, hu2⟩ := h2.there hs
  have ex : Ext H (upd H a o) := .write hu hu1 hu2
  have hlt : r < M.length := (List.getElem?_eq_some_iff.mp hr).1
  have other : ∀ n o', (M.set r ob')[n]? = some o' → n ≠ r → M[n]? = some o' := fun n o' e q => by
    rw [List.getElem?_set_ne (Ne.symm q)] at e
    exact e
  have same : ∀ o', (M.set r ob')[r]? = some o' → o' = ob' := fun o' e => by
    rw [List.getElem?_set_self hlt] at e
    exact (Option.some.inj e).symm
  refine ⟨⟨by simp [c.len], fun n m b o1 o2 h1 h2 h3 h4 h5 h6 => ?_, fun n o' e => ?_⟩, ex⟩
  · by_cases q1 : n = r
    · by_cases q2 : m = r
      · rw [q1, q2]
      · rw [q1] at h1
        subst q1
        exact c.inj _ _ b _ o2 h1 h2 hr (other _ _ h4 q2) hs h6
    · by_cases q2 : m = r
      · subst q2
        exact c.inj _ _ b o1 _ h1 h2 (other _ _ h3 q1) hr h5 hs
      · exact c.inj _ _ b o1 o2 h1 h2 (other _ _ h3 q1) (other _ _ h4 q2) h5 h6
  · by_cases q : n = r
    · subst q
      rw [same o' e]
      exact ⟨a, ha, x⟩
    · have e' := other n o' e q
      obtain ⟨b, h1, h2'⟩ := c.ob n o' e'
      refine ⟨b, h1, h2'.stay (List.prefix_refl _) ex fun z => upd_ne fun y => q ?_⟩
      subst y
      exact c.inj n r _ o' ob h1 ha e' hr z hs
end

/-- the slots -/
inductive RSl (μ : List Addr) (H : Hp) : Sl → L2.St → Prop
  | nil : RSl μ H [] []
  | no {s : Option V} {xs : Sl} {vs : L2.St} : RSl μ H xs vs → RSl μ H (none :: xs) (s :: vs)
  | yes {w : W} {v : V} {xs : Sl} {vs : L2.St} : RW μ H w v → RSl μ H xs vs → RSl μ H (some w :: xs) (some v :: vs)
theorem RSl.mono {μ μ' : List Addr} {H H' : Hp} (p : μ <+: μ') (e : Ext H H') : ∀ {ρ : Sl} {σ : L2.St}, RSl μ H ρ σ → RSl μ' H' ρ σ
  | _, _, .nil => .nil
  | _, _, .no t => .no (t.mono p e)
  | _, _, .yes h t => .yes (h.mono p e) (t.mono p e)
section
variable {μ : List Addr} {H : Hp}
theorem RSl.length : ∀ {ρ : Sl} {σ : L2.St}, RSl μ H ρ σ → ρ.length = σ.length
  | _, _, .nil => rfl
  | _, _, .no t => congrArg (· + 1) t.length
  | _, _, .yes _ t => congrArg (· + 1) t.length
theorem RSl.get : ∀ {ρ : Sl} {σ : L2.St} {i : Nat} {w : W}, RSl μ H ρ σ → ρ[i]? = some (some w) → ∃ v, σ[i]? = some (some v) ∧ RW μ H w v
  | _, _, _, _, .nil, e => by simp at e
  | _, _, 0, _, .no _, e => by simp at e
  | _, _, 0, _, .yes r _, e => by simp at e; subst e; exact ⟨_, rfl, r⟩
  | _, _, i + 1, w, .no t, e => by
    obtain ⟨v, h1, h2⟩ := RSl.get (i := i) (w := w) t (by simpa using e)
    exact ⟨v, by simpa using h1, h2⟩
  | _, _, i + 1, w, .yes _ t, e => by
    obtain ⟨v, h1, h2⟩ := RSl.get (i := i) (w := w) t (by simpa using e)
    exact ⟨v, by simpa using h1, h2⟩
theorem RSl.set {w : W} {v : V} (r : RW μ H w v) : ∀ {ρ : Sl} {σ : L2.St} (i : Nat), RSl μ H ρ σ → RSl μ H (ρ.set i (some w)) (σ.set i (some v))
  | _, _, _, .nil => .nil
  | _, _, 0, .no t => .yes r t
  | _, _, 0, .yes _ t => .yes r t
  | _, _, i + 1, .no t => .no (RSl.set r i t)
  | _, _, i + 1, .yes q t => .yes q (RSl.set r i t)
theorem RSl.unset : ∀ {ρ : Sl} {σ : L2.St} (i : Nat) (z : Option V), RSl μ H ρ σ → RSl μ H (ρ.set i none) (σ.set i z)
  | _, _, _, _, .nil => .nil
  | _, _, 0, _, .no t => .no t
  | _, _, 0, _, .yes _ t => .no t
  | _, _, i + 1, z, .no t => .no (RSl.unset i z t)
  | _, _, i + 1, z, .yes q t => .yes q (RSl.unset i z t)
theorem RSl.start : ∀ {xs : List W} {vs : List V} (n : Nat), RWs μ H xs vs → RSl μ H (xs.map some ++ List.replicate n none) (vs.map some ++ List.replicate n none)
  | _, _, 0, .nil => .nil
  | _, _, n + 1, .nil => .no (RSl.start n .nil)
  | _, _, n, .cons r t => .yes r (RSl.start n t)
end
end EV

/-! Ev3: the core language and its evaluator. -/
namespace EV
open PySem PySem.Spec PyProof.Rows L2

/-! ### equality of values and objects, decided -/
mutual
def beqW : W → W → Bool
  | .non, .non => true
  | .bl a, .bl b => a == b
  | .int a, .int b => a == b
  | .str a, .str b => decide (a = b)
  | .tup a, .tup b => beqWs a b
  | .ref a, .ref b => a == b
  | _, _ => false
def beqWs : List W → List W → Bool
  | [], [] => true
  | a :: as, b :: bs => beqW a b && beqWs as bs
  | _, _ => false
end
mutual
theorem beqW_eq : ∀ (a b : W), beqW a b = true → a = b
  | .non, .non, _ => rfl
  | .bl a, .bl b, h => by simp [beqW] at h; rw [h]
  | .int a, .int b, h => by simp [beqW] at h; rw [h]
  | .str a, .str b, h => by simp [beqW] at h; rw [h]
  | .tup a, .tup b, h => by rw [beqWs_eq a b (by simpa [beqW] using h)]
  | .ref a, .ref b, h => by simp [beqW] at h; rw [h]
  | .non, .bl _, h | .non, .int _, h | .non, .str _, h | .non, .tup _, h | .non, .ref _, h => by simp [beqW] at h
  | .bl _, .non, h | .bl _, .int _, h | .bl _, .str _, h | .bl _, .tup _, h | .bl _, .ref _, h => by simp [beqW] at h
  | .int _, .non, h | .int _, .bl _, h | .int _, .str _, h | .int _, .tup _, h | .int _, .ref _, h => by simp [beqW] at h
  | .str _, .non, h | .str _, .bl _, h | .str _, .int _, h | .str _, .tup _, h | .str _, .ref _, h => by simp [beqW] at h
  | .tup _, .non, h | .tup _, .bl _, h | .tup _, .int _, h | .tup _, .str _, h | .tup _, .ref _, h => by simp [beqW] at h
  | .ref _, .non, h | .ref _, .bl _, h | .ref _, .int _, h | .ref _, .str _, h | .ref _, .tup _, h => by simp [beqW] at h
theorem beqWs_eq : ∀ (a b : List W), beqWs a b = true → a = b
  | [], [], _ => rfl
  | a :: as, b :: bs, h => by
    simp only [beqWs, Bool.and_eq_true] at h
    rw [beqW_eq a b h.1, beqWs_eq as bs h.2]
  | [], _ :: _, h => by simp [beqWs] at h
  | _ :: _, [], h => by simp [beqWs] at h
end
mutual
theorem beqW_refl : ∀ a : W, beqW a a = true
  | .non => rfl
  | .bl a => by simp [beqW]
  | .int a => by simp [beqW]
  | .str a => by simp [beqW]
  | .tup a => by simpa [beqW] using beqWs_refl a
  | .ref a => by simp [beqW]
theorem beqWs_refl : ∀ a : List W, beqWs a a = true
  | [] => rfl
  | a :: as => by simp [beqWs, beqW_refl a, beqWs_refl as]
end
instance : DecidableEq W := fun a b => if h : beqW a b = true then isTrue (beqW_eq a b h) else isFalse fun e => h (e ▸ beqW_refl a)
instance : DecidableEq Ob
  | .lst a, .lst b => if h : a = b then isTrue (by rw [h]) else isFalse fun e => h (Ob.lst.inj e)
  | .rol a, .rol b => if h : a = b then isTrue (by rw [h]) else isFalse fun e => h (Ob.rol.inj e)
  | .dK a, .dK b => if h : a = b then isTrue (by rw [h]) else isFalse fun e => h (Ob.dK.inj e)
  | .lst _, .rol _ | .lst _, .dK _ | .rol _, .lst _ | .rol _, .dK _ | .dK _, .lst _ | .dK _, .rol _ => isFalse fun e => nomatch e

mutual
/-- without a reference -/
def pureW : W → Bool
  | .tup xs => pureWs xs
  | .ref _ => false
  | _ => true
def pureWs : List W → Bool
  | [] => true
  | x :: xs => pureW x && pureWs xs
end

/-! ### the language -/
inductive Bi where
  | len | abs | int | bool | min | max | list | tuple | sum | sorted | all | any | divmod | str | repr
  deriving DecidableEq
inductive Mt where
  | append | pop | extend | remove | index | count | get | setdefault | join | split | upper | isdigit
  deriving DecidableEq

/-- what a loop stores: one name, or the items of a tuple -/
inductive CN where
  | one (i : Nat) | many (is : List Nat)
mutual
inductive CE where
  | var (i : Nat)
  | k (w : W)
  | gk (w : W)
  | bin (op : Operator) (a b : CE)
  | neg (a : CE)
  | not (a : CE)
  | and (a b : CE)
  | or (a b : CE)
  | ite (c : CB) (a b : CE)
  | cmp (op : CmpOp) (a b : CE)
  | chain (op op' : CmpOp) (a b c : CE)
  | tup (es : CEs)
  | lst (es : CEs)
  | call (f : Nat) (es : CEs)
  | callK (f n m : Nat) (es : CEs) (ix : List Nat) (ks : CEs)
  | bi (b : Bi) (es : CEs)
  | lrange (t : Bool) (es : CEs)
  | isi (a : CE) (t : String)
  | meth (m : Mt) (o : CE) (es : CEs)
  | ix (a i : CE)
  | sl (a : CE) (lo hi : CO)
  | rev (a : CE)
  | lc (c : CC) (e : CE)
  | lc2 (c c' : CC) (e : CE)
  | dc (c : CC) (k v : CE)
  | dnew (t : Bool)
  | disp (ks vs : CEs)
  | lenset (a : CE)
  | sortset (a : CE)
  | never
inductive CB where
  | val (e : CE)
  | cmp (op : CmpOp) (a b : CE)
  | chain (op op' : CmpOp) (a b c : CE)
  | not (b : CB)
  | and (a b : CB)
  | or (a b : CB)
inductive CO where
  | none
  | some (e : CE)
inductive CEs where
  | nil
  | cons (e : CE) (es : CEs)
  | star (e : CE) (es : CEs)
inductive CI where
  | seq (e : CE)
  | range (es : CEs)
  | range3 (a b c : CE)
  | enum (e : CE)
  | zip (a b : CE)
inductive CC where
  | mk (g : CN) (it : CI) (t : CTs) (own : List Nat)
inductive CTs where
  | nil
  | one (b : CB)
inductive CG where
  | name (i : Nat)
  | tup (gs : CGs)
  | sub (o i : CE)
inductive CGs where
  | nil
  | cons (g : CG) (gs : CGs)
end
mutual
inductive CS where
  | pass
  | expr (e : CE)
  | asg (g : CG) (e : CE)
  | par (is : List Nat) (es : CEs)
  | setLc (i : Nat) (c : CC) (e : CE)
  | setLc2 (i : Nat) (c c' : CC) (e : CE)
  | augS (op : Operator) (o i e : CE)
  | aug (op : Operator) (i : Nat) (e : CE)
  | ret (e : CE)
  | retN
  | ifS (c : CB) (a b : CSs)
  | whileS (c : CB) (a : CSs)
  | forS (g : CN) (it : CI) (a : CSs)
  | brk
  | cont
  | never
inductive CSs where
  | nil
  | cons (s : CS) (ss : CSs)
end

/-! ### built-in functions and methods -/
def insI (x : Int) : List Int → List Int
  | [] => [x]
  | y :: ys => if x ≤ y then x :: y :: ys else y :: insI x ys
def sortI : List Int → List Int
  | [] => []
  | x :: xs => insI x (sortI xs)
def leastI : Int → List Int → Int
  | m, [] => m
  | m, x :: xs => leastI (if x < m then x else m) xs
def mostI : Int → List Int → Int
  | m, [] => m
  | m, x :: xs => mostI (if m < x then x else m) xs
def distinct : List Int → List Int
  | [] => []
  | x :: xs => if x ∈ xs then distinct xs else x :: distinct xs
def rangeI (i j : Int) : List W := (List.range (j - i).toNat).map fun n => W.int (i + (n : Nat))
def smallI (i : Int) : Bool := decide (i.natAbs < 4611686018427387904)

def biW (b : Bi) (ws : List W) (M : Mem) : R W := match b with
  | .len => match ws with
    | [.str z] => if z.length ≤ sizeLine then .ok (.int z.length) M else .bad
    | [.tup xs] => .ok (.int xs.length) M
    | [.ref r] => match M[r]? with
      | some (.lst xs) => .ok (.int xs.length) M
      | some (.rol xs) => .ok (.int xs.length) M
      | some (.dK xs) => .ok (.int xs.length) M
      | _ => .bad
    | _ => .bad
  | .abs => match ws with
    | [.int i] => .ok (.int (if i < 0 then -i else i)) M
    | _ => .bad
  | .int => match ws with
    | [.int i] => .ok (.int i) M
    | [.bl b] => .ok (.int (if b then 1 else 0)) M
    | _ => .bad
  | .bool => match ws with
    | [.int i] => .ok (.bl (i != 0)) M
    | [.bl b] => .ok (.bl b) M
    | _ => .bad
  | .min => match ws with
    | [.int i, .int j] => .ok (.int (if j < i then j else i)) M
    | [.ref r] => match M[r]? with
      | some (.lst xs) => match mapO toInt xs with
        | some (n :: ns) => .ok (.int (leastI n ns)) M
        | _ => .bad
      | _ => .bad
    | _ => .bad
  | .max => match ws with
    | [.int i, .int j] => .ok (.int (if i < j then j else i)) M
    | [.ref r] => match M[r]? with
      | some (.lst xs) => match mapO toInt xs with
        | some (n :: ns) => .ok (.int (mostI n ns)) M
        | _ => .bad
      | _ => .bad
    | _ => .bad
  | .list => match ws with
    | [.tup xs] => newOb (.lst xs) M
    | [.ref r] => match M[r]? with
      | some (.lst xs) => newOb (.lst xs) M
      | some (.rol xs) => newOb (.lst xs) M
      | _ => .bad
    | _ => .bad
  | .tuple => match ws with
    | [.tup xs] => .ok (.tup xs) M
    | [.ref r] => match M[r]? with
      | some (.lst xs) => .ok (.tup xs) M
      | some (.rol xs) => .ok (.tup xs) M
      | _ => .bad
    | _ => .bad
  | .sum => match ws with
    | [w] => match seqW M w with
      | some xs => match mapO toInt xs with
        | some ns => .ok (.int ns.sum) M
        | none => .bad
      | none => .bad
    | _ => .bad
  | .sorted => match ws with
    | [w] => match seqW M w with
      | some xs => match mapO toInt xs with
        | some ns => newOb (.lst ((sortI ns).map .int)) M
        | none => .bad
      | none => .bad
    | _ => .bad
  | .all => match ws with
    | [.ref r] => match M[r]? with
      | some (.lst xs) => match mapO toBool xs with
        | some bs => .ok (.bl (bs.all id)) M
        | none => .bad
      | _ => .bad
    | _ => .bad
  | .any => match ws with
    | [.ref r] => match M[r]? with
      | some (.lst xs) => match mapO toBool xs with
        | some bs => .ok (.bl (bs.any id)) M
        | none => .bad
      | _ => .bad
    | _ => .bad
  | .divmod => match ws with
    | [.int i, .int j] => if 0 < j ∧ j < 1073741824 then .ok (.tup [.int (i / j), .int (i % j)]) M else .bad
    | _ => .bad
  | .str => match ws with
    | [.int i] => if i.natAbs.log2 < 1920 then .ok (.str (toString i)) M else .bad
    | [.str z] => .ok (.str z) M
    | _ => .bad
  | .repr => match ws with
    | [w] => match dataW M w with
      | some d => if d.showable = true ∧ d.shown.length ≤ sizeLine then .ok (.str d.shown) M else .bad
      | none => .bad
    | _ => .bad

def listAt (M : Mem) (o : W) : Option (Nat × List W) := match o with
  | .ref r => match M[r]? with
    | some (.lst xs) => some (r, xs)
    | _ => none
  | _ => none

def tyW (M : Mem) : W → Option String
  | .non => some "NoneType"
  | .bl _ => some "bool"
  | .int _ => some "int"
  | .str _ => some "str"
  | .tup _ => some "tuple"
  | .ref r => match M[r]? with
    | some (.lst _) => some "list"
    | some (.dK _) => some "dict"
    | _ => none
def mtW (ty : String) (m : Mt) (o : W) (ws : List W) (M : Mem) : R W := match m with
  | .append => match listAt M o, ws with
    | some (r, xs), [w] => if xs.length < sizeLine ∧ ty = "list" then .ok .non (M.set r (.lst (xs ++ [w]))) else .bad
    | _, _ => .bad
  | .pop => if ty = "list" then match listAt M o, ws with
    | some (r, xs), [] => match xs[xs.length - 1]? with
      | some y => .ok y (M.set r (.lst xs.dropLast))
      | none => .bad
    | some (r, xs), [.int i] => match ixN xs.length i with
      | some j => match xs[j]? with
        | some y => .ok y (M.set r (.lst (xs.eraseIdx j)))
        | none => .bad
      | none => .bad
    | _, _ => .bad
    else .bad
  | .extend => if ty = "list" then match listAt M o, ws with
    | some (r, xs), [y] => match listAt M y with
      | some (_, ys) => if xs.length + ys.length ≤ sizeLine then .ok .non (M.set r (.lst (xs ++ ys))) else .bad
      | none => .bad
    | _, _ => .bad
    else .bad
  | .remove => if ty = "list" then match listAt M o, ws with
    | some (r, xs), [.int i] => match mapO toInt xs with
      | some ns => if i ∈ ns then .ok .non (M.set r (.lst ((ns.erase i).map .int))) else .bad
      | none => .bad
    | _, _ => .bad
    else .bad
  | .count => match ws with
    | [x] => match dataW M x, dataW M o with
      | some d, some (.list ds) => if ty = "list" then .ok (.int ((ds.countP fun z => PyData.eqv z d : Nat) : Int)) M else .bad
      | some d, some (.tuple ds) => if ty = "tuple" then .ok (.int ((ds.countP fun z => PyData.eqv z d : Nat) : Int)) M else .bad
      | _, _ => .bad
    | _ => .bad
  | .index => match ws with
    | [x] => if ty = "tuple" then match o, x with
        | .tup xs, .int k => match mapO toInt xs with
          | some ns => if k ∈ ns then .ok (.int (ns.idxOf k : Nat)) M else .bad
          | none => .bad
        | _, _ => .bad
      else match dataW M x, dataW M o with
      | some d, some (.list ds) => if ty = "list" then match ds.findIdx? fun z => PyData.eqv z d with
        | some j => .ok (.int (j : Nat)) M
        | none => .bad
        else .bad
      | _, _ => .bad
    | _ => .bad
  | .upper => match o, ws with
    | .str z, [] => if z.length ≤ 5592405 ∧ ty = "str" then .ok (.str (Txt.upper z)) M else .bad
    | _, _ => .bad
  | .isdigit => match o, ws with
    | .str z, [] => if ty = "str" then .ok (.bl (Txt.isdigit z)) M else .bad
    | _, _ => .bad
  | .split => match o, ws with
    | .str z, [.str b] => if (b.length == 0) = false ∧ z.length + 2 ≤ sizeLine ∧ ty = "str" then newOb (.lst ((Txt.split z b).map .str)) M else .bad
    | _, _ => .bad
  | .join => match o, ws with
    | .str z, [y] => match seqW M y with
      | some xs => match mapO toStr xs with
        | some ys => if ty = "str" ∧ (ys.map (·.length)).sum + ys.length * z.length ≤ 16777216 then .ok (.str (Txt.join z ys)) M else .bad
        | none => .bad
      | none => .bad
    | _, _ => .bad
  | .get => match o with
    | .ref r => match M[r]? with
      | some (.dK kvs) => if ty = "dict" then match ws with
        | [x] => match toKey x with
          | some k => .ok (((kvs.find? fun kv => decide (kv.1 = k)).map (·.2)).getD .non) M
          | none => .bad
        | [x, y] => match toKey x with
          | some k => .ok (((kvs.find? fun kv => decide (kv.1 = k)).map (·.2)).getD y) M
          | none => .bad
        | _ => .bad
        else .bad
      | _ => .bad
    | _ => .bad
  | _ => .bad

def mtAll : List (Mt × String) := [(Mt.append, "list"), (.pop, "list"), (.extend, "list"), (.remove, "list"), (.count, "list"), (.count, "tuple"), (.index, "list"), (.get, "dict"), (.index, "tuple"), (.upper, "str"), (.isdigit, "str"), (.split, "str"), (.join, "str")]
def mtOk (m : Mt) (ty : String) : Bool := decide ((m, ty) ∈ mtAll)

def isiW (t : String) (M : Mem) (w : W) : Option Bool := match tyW M w with
  | some ty => if t ∈ ["int", "bool", "str", "tuple", "list"] then some (ty == t || (ty == "bool" && t == "int")) else none
  | none => none

/-! ### the evaluator -/
inductive Fl where
  | nx (ρ : Sl) | ret (w : W) | brk (ρ : Sl) | cont (ρ : Sl) | exc (c : Str) (fs : List W) (ρ : Sl)
/-- an expression's part of a statement: what it raises is the statement's end -/
def R.stm {α : Type} (r : R α) (ρ : Sl) (k : α → Mem → R Fl) : R Fl := match r with
  | .ok a M => k a M
  | .exc c fs M => .ok (.exc c fs ρ) M
  | .bad => .bad

/-- what a loop's turn is given: a value, or a tuple that is taken apart at once -/
inductive Itm where
  | one (w : W) | many (ws : List W)
/-- lists that must stand as they stood -/
def guards (gs : List (Nat × List W)) (M : Mem) : Bool := gs.all fun p => decide (M[p.1]? = some (.lst p.2))
def wipeW (ρ : Sl) : List Nat → Sl
  | [] => ρ
  | i :: is => (wipeW ρ is).set i none

def forL (g : Itm → Sl → Mem → R Sl) (body : Sl → Mem → R Fl) (gs : List (Nat × List W)) : List Itm → Sl → Mem → R Fl
  | [], ρ, M => if guards gs M = true then .ok (.nx ρ) M else .bad
  | x :: xs, ρ, M => if guards gs M = true then (g x ρ M).bind fun ρ1 M1 => (body ρ1 M1).bind fun f M2 => match f with
      | .nx ρ2 => forL g body gs xs ρ2 M2
      | .cont ρ2 => forL g body gs xs ρ2 M2
      | .brk ρ2 => .ok (.nx ρ2) M2
      | .ret w => .ok (.ret w) M2
      | .exc c fs ρ2 => .ok (.exc c fs ρ2) M2
    else .bad
def whileL (t : Sl → Mem → R Bool) (body : Sl → Mem → R Fl) : Nat → Sl → Mem → R Fl
  | 0, _, _ => .bad
  | n + 1, ρ, M => (t ρ M).stm ρ fun b M1 => if b = true then (body ρ M1).bind fun f M2 => match f with
      | .nx ρ2 => whileL t body n ρ2 M2
      | .cont ρ2 => whileL t body n ρ2 M2
      | .brk ρ2 => .ok (.nx ρ2) M2
      | .ret w => .ok (.ret w) M2
      | .exc c fs ρ2 => .ok (.exc c fs ρ2) M2
    else .ok (.nx ρ) M1
def whileFuel : Nat := 1000000
/-- no exception comes out of a comprehension -/
def R.calm {α : Type} (r : R α) : R α := match r with
  | .exc _ _ _ => .bad
  | r => r
/-- a comprehension's turns: acc what is made so far, at place D -/
def lcL (D : Nat) (g : Itm → Sl → Mem → R Sl) (t : Sl → Mem → R Bool) (el : Sl → Mem → R W) (gs : List (Nat × List W)) (ρ : Sl) : List Itm → Mem → R Unit
  | [], M => if guards gs M = true then .ok () M else .bad
  | x :: xs, M => if guards gs M = true then (g x ρ M).bind fun ρ1 M1 => (t ρ1 M1).bind fun b M2 => if b = true then (el ρ1 M2).bind fun y M3 => match M3[D]? with
      | some (.lst acc) => if acc.length < sizeLine then lcL D g t el gs ρ xs (M3.set D (.lst (acc ++ [y]))) else .bad
      | _ => .bad
      else lcL D g t el gs ρ xs M2
    else .bad

/-- two clauses -/
def lc2L (g : Itm → Sl → Mem → R Sl) (t : Sl → Mem → R Bool) (it : Sl → Mem → R (List Itm × List (Nat × List W))) (inn : List (Nat × List W) → Sl → List Itm → Mem → R Unit) (gs : List (Nat × List W)) (ρ : Sl) : List Itm → Mem → R Unit
  | [], M => if guards gs M = true then .ok () M else .bad
  | x :: xs, M => if guards gs M = true then (g x ρ M).bind fun ρ1 M1 => (t ρ1 M1).bind fun b M2 => if b = true then (it ρ1 M2).bind fun p M3 => (inn p.2 ρ1 p.1 M3).bind fun _ M4 => lc2L g t it inn gs ρ xs M4
      else lc2L g t it inn gs ρ xs M2
    else .bad

def zipT : List W → List W → List Itm
  | x :: xs, y :: ys => .many [x, y] :: zipT xs ys
  | _, _ => []
def enumT : Nat → List W → List Itm
  | _, [] => []
  | n, x :: xs => .many [.int (n : Nat), x] :: enumT (n + 1) xs
def gOf (M : Mem) (w : W) : List (Nat × List W) := match w with
  | .ref r => match M[r]? with
    | some (.lst xs) => [(r, xs)]
    | _ => []
  | _ => []
/-- the items of what is walked, and what must stand meanwhile -/
def iterW (w : W) (M : Mem) : R (List Itm × List (Nat × List W)) := match seqW M w with
  | some xs => .ok (xs.map .one, gOf M w) M
  | none => match w with
    | .str z => .ok (z.cps.toList.map fun c => .one (.str ⟨#[c]⟩), []) M
    | _ => .bad
def rangeW (ws : List W) : Option (List W) := match ws with
  | [.int j] => if smallI j = true then some (rangeI 0 j) else none
  | [.int i, .int j] => if smallI i = true ∧ smallI j = true then some (rangeI i j) else none
  | _ => none
def itemL (o i : W) (M : Mem) : R W := match o, i with
  | .ref r, .int k => match M[r]? with
    | some (.lst xs) => ofO (atI xs k) M
    | _ => .bad
  | _, _ => .bad
/-- x op= y, where no list is changed -/
def ipW (op : Operator) (x y : W) (M : Mem) : R W := match op, x, y with
  | .Add, .int a, .int b => .ok (.int (a + b)) M
  | .Sub, .int a, .int b => .ok (.int (a - b)) M
  | .Add, .str a, .str b => if a.length + b.length ≤ sizeLine then .ok (.str (a ++ b)) M else .bad
  | _, _, _ => .bad
def range3W (x y z : W) : Option (List W) := match x, y, z with
  | .int i, .int j, .int c => if c ≠ 0 ∧ c.natAbs < 1073741824 ∧ Builtin.Range.small i j c = true ∧ 0 ≤ Builtin.Range.rangeSize i j c then some ((List.range (Builtin.Range.rangeSize i j c).toNat).map fun n => W.int (i + (n : Nat) * c)) else none
  | _, _, _ => none
def spreadW (w : W) (M : Mem) : Option (List W) := seqW M w

def setAll : List Nat → List W → Sl → Option Sl
  | [], [], ρ => some ρ
  | i :: is, w :: ws, ρ => setAll is ws (ρ.set i (some w))
  | _, _, _ => none
def evN (g : CN) (x : Itm) (ρ : Sl) (M : Mem) : R Sl := match g with
  | .one i => match x with
    | .one w => .ok (ρ.set i (some w)) M
    | .many _ => .bad
  | .many is => match x with
    | .one w => match seqW M w with
      | some xs => ofO (setAll is xs ρ) M
      | none => .bad
    | .many xs => ofO (setAll is xs ρ) M
section
variable (cf : Nat → List W → Mem → R W)
mutual
def evE : CE → Sl → Mem → R W
  | .var i, ρ, M => match ρ[i]? with
    | some (some w) => .ok w M
    | _ => .bad
  | .k w, _, M => .ok w M
  | .gk w, _, M => .ok w M
  | .bin op a b, ρ, M => (evE a ρ M).bind fun x M1 => (evE b ρ M1).bind fun y M2 => binW op x y M2
  | .neg a, ρ, M => (evE a ρ M).bind fun x M1 => match x with
    | .int i => .ok (.int (-i)) M1
    | _ => .bad
  | .not a, ρ, M => (evE a ρ M).bind fun x M1 => match x with
    | .bl b => .ok (.bl (!b)) M1
    | _ => .bad
  | .and a b, ρ, M => (evE a ρ M).bind fun x M1 => match x with
    | .bl c => if c = true then evE b ρ M1 else .ok (.bl false) M1
    | _ => .bad
  | .or a b, ρ, M => (evE a ρ M).bind fun x M1 => match x with
    | .bl c => if c = true then .ok (.bl true) M1 else evE b ρ M1
    | _ => .bad
  | .ite c a b, ρ, M => (evB c ρ M).bind fun c M1 => if c = true then evE a ρ M1 else evE b ρ M1
  | .cmp op a b, ρ, M => (evE a ρ M).bind fun x M1 => (evE b ρ M1).bind fun y M2 => (cmpW op x y M2).bind fun c M3 => .ok (.bl c) M3
  | .chain op op' a b c, ρ, M => (evE a ρ M).bind fun x M1 => (evE b ρ M1).bind fun y M2 => (cmpW op x y M2).bind fun d M3 =>
      if d = true then (evE c ρ M3).bind fun z M4 => (cmpW op' y z M4).bind fun d' M5 => .ok (.bl d') M5 else .ok (.bl false) M3
  | .tup es, ρ, M => (evEs es ρ M).bind fun xs M1 => newT xs M1
  | .lst es, ρ, M => (evEs es ρ M).bind fun xs M1 => newL xs M1
  | .call f es, ρ, M => (evEs es ρ M).bind fun xs M1 => cf f xs M1
  | .callK f n m es ix ks, ρ, M => (evEs es ρ M).bind fun xs M1 => (evEs ks ρ M1).bind fun ys M2 => if xs.length = n ∧ ys.length = m then match mapO (fun j => (xs ++ ys)[j]?) ix with
    | some zs => cf f zs M2
    | none => .bad
    else .bad
  | .bi b es, ρ, M => (evEs es ρ M).bind fun xs M1 => biW b xs M1
  | .lrange t es, ρ, M => (evEs es ρ M).bind fun xs M1 => match rangeW xs with
    | some ys => if ys.length ≤ 16777216 then (if t = true then .ok (.tup ys) M1 else newOb (.lst ys) M1) else .bad
    | none => .bad
  | .isi a t, ρ, M => (evE a ρ M).bind fun x M1 => match isiW t M1 x with
    | some b => .ok (.bl b) M1
    | none => .bad
  | .meth m o es, ρ, M => (evE o ρ M).bind fun x M1 => match tyW M1 x with
    | some ty => if mtOk m ty = true then (evEs es ρ M1).bind fun xs M2 => mtW ty m x xs M2 else .bad
    | none => .bad
  | .ix a i, ρ, M => (evE a ρ M).bind fun x M1 => (evE i ρ M1).bind fun y M2 => itemW x y M2
  | .sl a lo hi, ρ, M => (evE a ρ M).bind fun x M1 => (evO lo ρ M1).bind fun l M2 => (evO hi ρ M2).bind fun u M3 => sliceW x l u M3
  | .rev a, ρ, M => (evE a ρ M).bind fun x M1 => match x with
    | .tup xs => .ok (.tup xs.reverse) M1
    | .ref r => match M1[r]? with
      | some (.lst xs) => newOb (.lst xs.reverse) M1
      | _ => .bad
    | _ => .bad
  | .lc (.mk g it t own) e, ρ, M => (evI it ρ M).bind fun p M1 =>
      ((lcL M1.length (evN g) (evTs t) (evE e) p.2 (wipeW ρ own) p.1 (M1 ++ [.lst []])).calm).bind fun _ M2 => .ok (.ref M1.length) M2
  | .lc2 (.mk g it t own) (.mk g' it' t' own') e, ρ, M => (evI it ρ M).bind fun p M1 =>
      ((lc2L (evN g) (evTs t) (evI it') (fun gs ρ xs M => lcL M1.length (evN g') (evTs t') (evE e) gs (wipeW ρ own') xs M) p.2 (wipeW ρ own) p.1 (M1 ++ [.lst []])).calm).bind fun _ M2 => .ok (.ref M1.length) M2
  | .dc (.mk g it t own) kx vx, ρ, M => .bad
  | .dnew t, _, M => if t = true then .bad else newOb (.dK []) M
  | .disp ks vs, ρ, M => .bad
  | .lenset a, ρ, M => (evE a ρ M).bind fun x M1 => match x with
    | .tup xs => match mapO toInt xs with
      | some ns => if ns.length ≤ 1000 then .ok (.int (distinct ns).length) M1 else .bad
      | none => .bad
    | _ => .bad
  | .sortset a, ρ, M => (evE a ρ M).bind fun x M1 => match x with
    | .tup xs => match mapO toInt xs with
      | some ns => if ns.length < 64 then newOb (.lst ((sortI (distinct ns)).map .int)) M1 else .bad
      | none => .bad
    | _ => .bad
  | .never, _, _ => .bad
def evB : CB → Sl → Mem → R Bool
  | .val e, ρ, M => (evE e ρ M).bind fun x M1 => truthW x M1
  | .cmp op a b, ρ, M => (evE a ρ M).bind fun x M1 => (evE b ρ M1).bind fun y M2 => cmpW op x y M2
  | .chain op op' a b c, ρ, M => (evE a ρ M).bind fun x M1 => (evE b ρ M1).bind fun y M2 => (cmpW op x y M2).bind fun d M3 =>
      if d = true then (evE c ρ M3).bind fun z M4 => cmpW op' y z M4 else .ok false M3
  | .not b, ρ, M => (evB b ρ M).bind fun c M1 => .ok (!c) M1
  | .and a b, ρ, M => (evB a ρ M).bind fun c M1 => if c = true then evB b ρ M1 else .ok false M1
  | .or a b, ρ, M => (evB a ρ M).bind fun c M1 => if c = true then .ok true M1 else evB b ρ M1
def evO : CO → Sl → Mem → R (Option Int)
  | .none, _, M => .ok none M
  | .some e, ρ, M => (evE e ρ M).bind fun x M1 => match x with
    | .int i => .ok (some i) M1
    | _ => .bad
def evEs : CEs → Sl → Mem → R (List W)
  | .nil, _, M => .ok [] M
  | .cons e es, ρ, M => (evE e ρ M).bind fun x M1 => (evEs es ρ M1).bind fun xs M2 => .ok (x :: xs) M2
  | .star e es, ρ, M => (evE e ρ M).bind fun x M1 => match spreadW x M1 with
    | some ys => (evEs es ρ M1).bind fun xs M2 => .ok (ys ++ xs) M2
    | none => .bad
def evI : CI → Sl → Mem → R (List Itm × List (Nat × List W))
  | .seq e, ρ, M => (evE e ρ M).bind fun x M1 => iterW x M1
  | .range es, ρ, M => (evEs es ρ M).bind fun xs M1 => match rangeW xs with
    | some ys => .ok (ys.map .one, []) M1
    | none => .bad
  | .range3 a b c, ρ, M => (evE a ρ M).bind fun x M1 => (evE b ρ M1).bind fun y M2 => (evE c ρ M2).bind fun z M3 => match range3W x y z with
    | some ys => .ok (ys.map .one, []) M3
    | none => .bad
  | .enum e, ρ, M => (evE e ρ M).bind fun x M1 => match x with
    | .ref r => match seqW M1 x with
      | some xs => .ok (enumT 0 xs, gOf M1 x) M1
      | none => .bad
    | _ => .bad
  | .zip a b, ρ, M => (evE a ρ M).bind fun x M1 => (evE b ρ M1).bind fun y M2 => match x, y with
    | .ref _, .ref _ => match seqW M2 x, seqW M2 y with
      | some xs, some ys => .ok (zipT xs ys, gOf M2 x ++ gOf M2 y) M2
      | _, _ => .bad
    | .tup xs, .tup ys => .ok (zipT xs ys, []) M2
    | _, _ => .bad
def evTs : CTs → Sl → Mem → R Bool
  | .nil, _, M => .ok true M
  | .one b, ρ, M => evB b ρ M
def evG : CG → W → Sl → Mem → R Sl
  | .name i, w, ρ, M => .ok (ρ.set i (some w)) M
  | .tup gs, w, ρ, M => match seqW M w with
    | some xs => evGs gs xs ρ M
    | none => .bad
  | .sub o i, w, ρ, M => (evE o ρ M).bind fun x M1 => (evE i ρ M1).bind fun y M2 => (storeW x y w M2).bind fun _ M3 => .ok ρ M3
def evGs : CGs → List W → Sl → Mem → R Sl
  | .nil, ws, ρ, M => match ws with
    | [] => .ok ρ M
    | _ => .bad
  | .cons g gs, ws, ρ, M => match ws with
    | w :: ws => (evG g w ρ M).bind fun ρ1 M1 => evGs gs ws ρ1 M1
    | [] => .bad
end
mutual
def evS : CS → Sl → Mem → R Fl
  | .pass, ρ, M => .ok (.nx ρ) M
  | .expr e, ρ, M => (evE cf e ρ M).stm ρ fun _ M1 => .ok (.nx ρ) M1
  | .asg g e, ρ, M => (evE cf e ρ M).stm ρ fun w M1 => ((evG cf g w ρ M1).calm).bind fun ρ1 M2 => .ok (.nx ρ1) M2
  | .par is es, ρ, M => (evEs cf es ρ M).stm ρ fun ws M1 => match setAll is ws ρ with
    | some ρ1 => .ok (.nx ρ1) M1
    | none => .bad
  | .setLc i c e, ρ, M => (evE cf (.lc c e) ρ M).stm ρ fun w M1 => .ok (.nx (ρ.set i (some w))) M1
  | .setLc2 i c c' e, ρ, M => (evE cf (.lc2 c c' e) ρ M).stm ρ fun w M1 => .ok (.nx (ρ.set i (some w))) M1
  | .augS op o i e, ρ, M => (evE cf o ρ M).stm ρ fun x M1 => (evE cf i ρ M1).stm ρ fun y M2 => ((itemL x y M2).calm).bind fun z M3 => (evE cf e ρ M3).stm ρ fun v M4 =>
      ((ipW op z v M4).calm).bind fun u M5 => ((storeW x y u M5).calm).bind fun _ M6 => .ok (.nx ρ) M6
  | .aug op i e, ρ, M => match ρ[i]? with
    | some (some z) => (evE cf e ρ M).stm ρ fun v M1 => ((ipW op z v M1).calm).bind fun u M2 => .ok (.nx (ρ.set i (some u))) M2
    | _ => .bad
  | .ret e, ρ, M => (evE cf e ρ M).stm ρ fun w M1 => .ok (.ret w) M1
  | .retN, _, M => .ok (.ret .non) M
  | .ifS c a b, ρ, M => (evB cf c ρ M).stm ρ fun c M1 => if c = true then evSs a ρ M1 else evSs b ρ M1
  | .whileS c a, ρ, M => whileL (evB cf c) (evSs a) whileFuel ρ M
  | .forS g it a, ρ, M => (evI cf it ρ M).stm ρ fun p M1 => forL (evN g) (evSs a) p.2 p.1 ρ M1
  | .brk, ρ, M => .ok (.brk ρ) M
  | .cont, ρ, M => .ok (.cont ρ) M
  | .never, _, _ => .bad
def evSs : CSs → Sl → Mem → R Fl
  | .nil, ρ, M => .ok (.nx ρ) M
  | .cons s ss, ρ, M => (evS s ρ M).bind fun f M1 => match f with
    | .nx ρ1 => evSs ss ρ1 M1
    | f => .ok f M1
end
end

structure Def where
  ps : Nat
  n : Nat
  body : CSs
/-- an object without references -/
def pureOb : Ob → Bool
  | .lst xs => pureWs xs
  | .rol xs => pureWs xs
  | .dK kvs => pureWs (kvs.map (·.2))
/-- each old object stands as it stood, or holds no reference -/
def calmM : Mem → Mem → Bool
  | [], _ => true
  | _ :: _, [] => false
  | o :: M, o' :: M' => (decide (o = o') || pureOb o') && calmM M M'
def trimL (M : Mem) (w : W) (M' : Mem) : R W := match w with
  | .ref q => if M.length ≤ q then match M'[q]? with
    | some (.lst xs) => if pureWs xs = true then .ok (.ref M.length) (M'.take M.length ++ [.lst xs]) else .ok w M'
    | _ => .ok w M'
    else .ok w M'
  | _ => .ok w M'
/-- what the call leaves: what it has made is forgotten where nothing tells of it -/
def trim (M : Mem) (w : W) (M' : Mem) : R W := if calmM M M' = true then (if pureW w = true then .ok w (M'.take M.length) else trimL M w M') else .ok w M'
def finW (M : Mem) (r : R Fl) : R W := r.calm.bind fun f M' => match f with
  | .nx _ => trim M .non M'
  | .ret w => trim M w M'
  | .exc c fs _ => .exc c fs M'
  | _ => .bad
def callN (D : List Def) : Nat → Nat → List W → Mem → R W
  | 0, _, _, _ => .bad
  | k + 1, f, args, M => match D[f]? with
    | none => .bad
    | some d => if args.length = d.ps then finW M (evSs (callN D k) d.body (args.map some ++ List.replicate (d.n - d.ps) none) M) else .bad
end EV

/-! EvF: tuples that are made, known to the object (so that their methods are found). -/
namespace EV
open PySem PySem.Spec PyProof.Rows L2
abbrev tupO (its : List Value) : Obj := { cls := .type "tuple", data := .seq its.toArray }
section
variable {X : Cx} {pins : List (Addr × Obj)} {σ : L2.St} {H : Hp} {s : Shared}
/-- a tuple has been laid -/
theorem laidT {its : List Value} {vs : List V} {tk : Nat} (I : L2.Inv X pins σ H s) (r : Vals vs its) (hz : vs.length ≤ sizeLine) :
    L2.Inv X pins σ (upd H s.heap.objs.size (.frz (tupO its) (.tup vs))) { s with heap := s.heap.push (tupO its), toks := tk } :=
  I.laid (t' := tk) (fun b u e => Heap.get?_push_of_some _ e) (Nat.le_refl _) ⟨Heap.get?_push_size _ rfl, hz, its, r, IsTup.new _ _⟩
/-- what is wanted of a new tuple -/
def newF (vs : List V) (H : Hp) (Q : VK) : Prop := ∀ p o, o.dict = none → H p = none → Q (.ref p) (upd H p (.frz o (.tup vs)))
theorem newF.fin {its : List Value} {vs : List V} {Q : VK} {tk : Nat} (q : newF vs H Q) (I : L2.Inv X pins σ H s) (r : Vals vs its) (hz : vs.length ≤ sizeLine) : EP X pins σ Q (.ref s.heap.objs.size) { s with heap := s.heap.push (tupO its), toks := tk } :=
  ⟨.ref s.heap.objs.size, _, laidT I r hz, rfl, q _ _ rfl (I.hok.fresh (Nat.le_refl _))⟩
theorem pe_tupF {es : List Expr} {t : TA} {x1 : Nat} {pos : Pos} (h : PA X es t) : PE X (.Tuple es x1 pos) (fun σ H Q => t σ H fun xs H1 => xs.length ≤ sizeLine ∧ newF xs H1 Q) := by
  refine ⟨fun pins s σ H Q I hq => ?_⟩
  refine wpAny_Tuple_spliced (thn (h.run pos pins s σ H _ I hq) fun us s1 ⟨xs, H1, I1, r, z, q⟩ => ⟨by rw [← r.length]; exact z, ?_⟩)
  exact q.fin I1 r z
theorem op_catF : OpR X (binaryOp .Add) (fun x y H Q => ∃ a b xs ys, x = .ref a ∧ y = .ref b ∧ SqT X.K H a xs ∧ SqT X.K H b ys ∧ xs.length + ys.length ≤ sizeLine ∧
    (xs = [] → Q (.ref b) H) ∧ (xs ≠ [] → ys = [] → Q (.ref a) H) ∧ (xs ≠ [] → ys ≠ [] → newF (xs ++ ys) H Q)) := by
  intro pins s σ H x y v u Q I rx ry h
  obtain ⟨a, b, xs, ys, rfl, rfl, ha, hb, hz, q0, q1, q2⟩ := h
  cases rx
  cases ry
  obtain ⟨its, r1, p1, _⟩ := I.tuple ha
  obtain ⟨its2, r2, p2, _⟩ := I.tuple hb
  by_cases hx : xs = []
  · subst hx
    cases r1
    exact cat_tup0 p1 p2 ⟨.ref b, H, I, rfl, q0 rfl⟩
  · refine HT.cat_tup p1 p2 (fun z => hx (r1.nil_iff.mp z)) (fun z => ⟨.ref a, H, I, rfl, q1 hx (r2.nil_iff.mp z)⟩) (fun z => ?_) (by rw [← r1.length, ← r2.length]; exact hz)
    exact (q2 hx fun w => z (r2.nil_iff.mpr w)).fin (tk := s.toks) I (r1.append r2) (by rw [List.length_append]; exact hz)
theorem sl_tupF : SlR X (fun x lo hi H Q => ∃ a xs, x = .ref a ∧ SqT X.K H a xs ∧
    (HT.sIx xs.length 0 lo = 0 ∧ HT.sIx xs.length xs.length hi = xs.length → Q (.ref a) H) ∧ (¬ (HT.sIx xs.length 0 lo = 0 ∧ HT.sIx xs.length xs.length hi = xs.length) → newF (cutV xs lo hi) H Q)) := by
  intro pins s σ H x v vl vu lo hi sl Q I rx hs pl pu h
  obtain ⟨a, xs, rfl, hx, q1, q2⟩ := h
  by_cases hw : HT.sIx xs.length 0 lo = 0 ∧ HT.sIx xs.length xs.length hi = xs.length
  · exact sl_tupA pins s σ H _ v vl vu lo hi sl Q I rx hs pl pu ⟨a, xs, rfl, hx, q1, fun z => absurd hw z⟩
  · cases rx
    obtain ⟨its, r, ht, hz⟩ := I.tuple hx
    have hlen : its.toArray.size = xs.length := by rw [List.size_toArray]; exact r.length.symm
    refine ⟨"tuple", _, PyProof.Rows.slot_tuple_getitem.lookup, ht.typeIs, ?_⟩
    refine HT.getItem_tuple_cut ht hs pl pu (by rw [hlen]; exact hw) ?_ (by rw [hlen]; exact hz)
    rw [hlen]
    exact (q2 hw).fin (tk := s.toks) I ((r.drop (HT.sIx xs.length 0 lo)).take (HT.sIx xs.length xs.length hi - HT.sIx xs.length 0 lo)) (Nat.le_trans (cutV_length xs lo hi) hz)
theorem call_tupleF : CallR X (.type "tuple") (fun xs H Q => ∃ p ys, xs = [.ref p] ∧ ((SqL X.K H p ys ∧ newF ys H Q) ∨ (SqT X.K H p ys ∧ Q (.ref p) H))) := by
  intro pins s σ H xs us Q I r h
  obtain ⟨p, ys, rfl, h⟩ := h
  obtain ⟨u, rfl, rx⟩ := vals1 r
  cases rx
  rcases h with ⟨hq, q⟩ | ⟨hq, q⟩
  · obtain ⟨its, r', pl, hz⟩ := I.list hq
    have hlen := r'.length
    refine call_tuple_list pl.isList (fun h' kp => ?_) (by simp only [List.size_toArray] <;> omega)
    have I1 : L2.Inv X pins σ H { s with heap := h' } := I.kept (t' := s.toks) kp
    exact q.fin (tk := s.toks) I1 r' hz
  · obtain ⟨its, r', pl, hz⟩ := I.tuple hq
    exact call_tuple_same pl ⟨.ref p, H, I, rfl, q⟩
theorem call_divmodF : CallR X (.builtin "divmod") (fun xs H Q => ∃ i j, xs = [.int i, .int j] ∧ CDiv i j ∧ newF [.int (i / j), .int (i % j)] H Q) := by
  intro pins s σ H xs us Q I r h
  obtain ⟨i, j, rfl, ⟨h1, h2⟩, q⟩ := h
  obtain ⟨u, w', rfl, ⟨t, rfl⟩, ⟨t', rfl⟩⟩ := vals2 r
  refine divmod_int (by omega) ?_ (.inl (PyProof.noPylong_small (by omega)))
  rw [Int.fdiv_eq_ediv_of_nonneg i (by omega), Int.fmod_eq_emod_of_nonneg i (by omega)]
  exact q.fin (s := s) I (.cons ⟨_, rfl⟩ (.cons ⟨_, rfl⟩ .nil)) (by show 2 ≤ sizeLine; decide)
end
end EV

/-! EvT: a tuple backwards, a tuple many times. -/
namespace EV
open PySem PySem.Spec PyProof.Rows L2
section
variable {prog : Program} {w : World} {A : Around} {E : Value → Shared → Prop} {s : Shared}
theorem adjust_rev (n : Nat) : Builtin.Slice.sliceAdjust none none (-1) (n : Int) = ((n : Int) - 1, -1) := by
  simp [Builtin.Slice.sliceAdjust]
theorem places_rev (n : Nat) : Builtin.Slice.slicePlaces ((n : Int) - 1) (-1) (-1) = n := by
  unfold Builtin.Slice.slicePlaces
  rw [if_neg (by decide)]
  split
  · rw [show (- -1 : Int) = 1 by decide, Int.ediv_one]
    omega
  · omega
theorem sliceApplied_rev {sl : Addr} {vs : Value} {n : Nat} {Q : Int × Int × Nat → Shared → Prop} (hs : s.heap.IsSliceOf sl .none .none vs) (ps : IsPart vs (some (-1)))
    (h : Q ((n : Int) - 1, -1, n) s) : wpAny (model prog w) A (Builtin.Slice.sliceApplied (.ref sl) (pure (n : Int))) Q E s := by
  obtain ⟨os, hos, hcs, hds⟩ := id hs
  unfold Builtin.Slice.sliceApplied Builtin.Slice.sliceFields
  refine wpAny_bind (wpAny_bind (wpAny_field hos hds (x := .none) rfl (wpAny_bind (wpAny_field hos hds (x := .none) rfl (wpAny_bind (wpAny_field hos hds (x := vs) rfl (wpAny_pure ?_)))))))
  refine wpAny_bind (HT.slicePart_ ps ?_)
  show wpAny _ _ (if ((-1 : Int) == 0) = true then _ else _) _ _ s
  rw [if_neg (by decide)]
  refine wpAny_bind (HT.slicePart_ .none (wpAny_bind (HT.slicePart_ .none (wpAny_bind (wpAny_pure ?_)))))
  show wpAny _ _ (match Builtin.Slice.sliceAdjust none none (-1) (n : Int) with | (lo, hi) => pure (lo, (-1 : Int), Builtin.Slice.slicePlaces lo hi (-1))) _ _ s
  rw [adjust_rev n]
  show wpAny _ _ (pure ((n : Int) - 1, (-1 : Int), Builtin.Slice.slicePlaces ((n : Int) - 1) (-1) (-1))) _ _ s
  rw [places_rev]
  exact wpAny_pure h
theorem pick_rev (xs : Array Value) : ((List.range xs.size).filterMap fun (m : Nat) => xs[((xs.size : Int) - 1 + (m : Int) * -1).toNat]?).toArray = xs.toList.reverse.toArray := by
  congr 1
  have e : ∀ k, k ≤ xs.size → ((List.range k).filterMap fun (m : Nat) => xs[((xs.size : Int) - 1 + (m : Int) * -1).toNat]?) = xs.toList.reverse.take k := by
    intro k
    induction k with
    | zero => intro _; rfl
    | succ k ih =>
      intro hk
      rw [List.range_succ, List.filterMap_append, ih (by omega), List.take_add_one]
      congr 1
      have e1 : ((xs.size : Int) - 1 + (k : Int) * -1).toNat = xs.size - 1 - k := by omega
      simp only [List.filterMap_cons, List.filterMap_nil, e1]
      rw [List.getElem?_reverse (by rw [Array.length_toList]; omega), Array.length_toList, Array.getElem?_toList]
      cases xs[xs.size - 1 - k]? <;> rfl
  rw [e xs.size (Nat.le_refl _)]
  exact List.take_of_length_le (by rw [List.length_reverse, Array.length_toList]; exact Nat.le_refl _)
theorem getItem_tuple_rev {t sl : Addr} {items : Array Value} {vs : Value} {Q : Value → Shared → Prop} (ht : IsTup s.heap t items) (hs : s.heap.IsSliceOf sl .none .none vs) (ps : IsPart vs (some (-1)))
    (h : Q (.ref s.heap.objs.size) { s with heap := s.heap.push { cls := .type "tuple", data := .seq items.toList.reverse.toArray } })
    (hsz : items.size ≤ sizeLine) : wpAny (model prog w) A (getItem (.ref t) (.ref sl)) Q E s := by
  have htake : sizeOk (.seq items.toList.reverse.toArray) := by
    show items.toList.reverse.toArray.size ≤ sizeLine
    rw [List.size_toArray, List.length_reverse, Array.length_toList]
    exact hsz
  obtain ⟨os, hos, hcs, hds⟩ := id hs
  have hTs : s.TypeIs (.ref sl) "slice" := ⟨os, hos, hcs⟩
  unfold getItem
  try with_reducible refine wpAny_holding ?_
  first | refine wpAny_bind (wpAny_pure ?_) | skip
  refine wpAny_bind (wpAny_sequenceKey ht.typeIs (by decide) ?_)
  refine wpAny_bind (wpAny_callSpecial?_slot (name := Str.ofString "__getitem__") ht.typeIs PyProof.Rows.slot_tuple_getitem
    (wpAny_call_entry PyProof.Rows.slot_tuple_getitem ht.typeIs entry_tuple_getitem ?_ (args_tuple_getitem _ _)))
  show wpAny _ _ (Builtin.Tuple.tupleItemsOf (.ref t) >>= _) _ _ s
  refine wpAny_bind (tupleItemsOf_ ht ?_)
  refine wpAny_bind (wpAny_typeOf hTs ?_)
  rw [if_pos (by decide)]
  refine wpAny_bind (sliceApplied_rev hs ps ?_)
  have hno : ¬ ((((items.size : Int) - 1) == 0 && (-1 : Int) == 1 && items.size == items.size) = true) := by
    intro q
    rw [Bool.and_eq_true, Bool.and_eq_true] at q
    exact absurd q.1.2 (by decide)
  show wpAny _ _ (if (((items.size : Int) - 1) == 0 && (-1 : Int) == 1 && items.size == items.size) = true then _ else _) _ _ s
  rw [if_neg hno, pick_rev]
  first
    | exact wpAny_bind (m := Builtin.Tuple.tupleExact _) (wpAny_newObj_type (wpAny_pure ⟨_, rfl, wpAny_pure h⟩) htake)
    | exact wpAny_bind (m := Builtin.Tuple.tupleExact _) (wpAny_newObj_type (wpAny_bind (wpAny_pure (wpAny_pure ⟨_, rfl, wpAny_pure h⟩))) htake)
    | exact wpAny_bind (wpAny_bind (m := Builtin.Tuple.tupleExact _) (wpAny_newObj_type (wpAny_pure (wpAny_pure ⟨_, rfl, wpAny_pure h⟩)) htake))
    | exact wpAny_bind (wpAny_bind (m := Builtin.Tuple.tupleExact _) (wpAny_newObj_type (wpAny_pure ⟨_, rfl, wpAny_pure h⟩) htake))
end
section
variable {X : Cx}
theorem pe_rev {e : Expr} {te : TE} {k : Nat} {p1 p2 p3 pos : Pos} (he : PE X e te) : PE X (.Subscript e (.Slice none none (some (.UnaryOp .USub (.Constant (.int 1) k p1) p2)) p3) pos)
    (fun σ H Q => te σ H fun x H1 => ∃ a xs, x = .ref a ∧ ((SqL X.K H1 a xs ∧ ∀ p, H1 p = none → Q (.ref p) (upd H1 p (.lst xs.reverse))) ∨ (SqT X.K H1 a xs ∧ newF xs.reverse H1 Q))) := by
  refine ⟨fun pins s σ H Q I h => ?_⟩
  refine Subscript_ (thn (he.run pins s σ H _ I h) fun v s1 ⟨x, H1, I1, r1, q1⟩ => ?_)
  obtain ⟨a, xs, ex, q1⟩ := q1
  subst ex
  cases r1
  have hst : PO X (some (.UnaryOp .USub (.Constant (.int 1) k p1) p2)) (tPart (tUn (rU fun i => .int (-i)) (tC (.int 1)))) := po_some (pe_un un_neg pe_int)
  refine wpAny_Slice (thn (po_none.run pins s1 σ H1 (fun o H2 => o = none ∧ H2 = H1) I1 ⟨rfl, rfl⟩) fun vl s2 ⟨l, H2, I2, pl, el, e2⟩ => ?_)
  subst el e2
  refine thn (po_none.run pins s2 σ H2 (fun o H3 => o = none ∧ H3 = H2) I2 ⟨rfl, rfl⟩) fun vu s3 ⟨u, H3, I3, pu, eu, e3⟩ => ?_
  subst eu e3
  refine thn (hst.run pins s3 σ H3 (fun o H4 => o = some (-1) ∧ H4 = H3) I3 ⟨1, rfl, -1, rfl, rfl, rfl⟩) fun vs s4 ⟨o, H4, I4, ps, eo, e4⟩ => ?_
  subst eo e4
  have I5 : L2.Inv X pins σ H4 { s4 with heap := s4.heap.push { cls := .type "slice", data := .fields #[vl, vu, vs] } } := I4.kept (t' := s4.toks) fun b ob q => Heap.get?_push_of_some _ q
  show wpAny (model X.prog X.w) X.A (subscriptTail e (.Slice none none (some (.UnaryOp .USub (.Constant (.int 1) k p1) p2)) p3) (.ref a) (.ref s4.heap.objs.size)) (EP X pins σ Q) X.xe { s4 with heap := s4.heap.push { cls := .type "slice", data := .fields #[vl, vu, vs] } }
  rcases q1 with ⟨hx, q⟩ | ⟨hx, q⟩
  · obtain ⟨its, r, ht, hz⟩ := I5.list hx
    have hlen := r.length
    refine tail_any (ops := [.ref a, .ref s4.heap.objs.size]) ht.isList.typeIs (PySem.slot_list_getitem.lookup) ?_ (by with_unfolding_all rfl)
    refine wpAny_getItem_list_slice ht.isList (Heap.IsSliceOf.new _ vl vu vs) pl pu ps (by decide) ?_ (by rw [List.size_toArray]; omega)
    rw [PySem.W.krv_pick]
    refine ⟨.ref _, _, I5.laid (t' := s4.toks) (o := .lst xs.reverse) (fun b ob q => Heap.get?_push_of_some _ q) (Nat.le_refl _) ?_, rfl, q _ (I5.hok.fresh (Nat.le_refl _))⟩
    exact ⟨by rw [List.length_reverse]; exact hz, _, 0, r.reverse, Heap.get?_push_size _ rfl⟩
  · obtain ⟨its, r, ht, hz⟩ := I5.tuple hx
    have hlen := r.length
    cases pl
    cases pu
    refine tail_any (ops := [.ref a, .ref s4.heap.objs.size]) ht.typeIs (PyProof.Rows.slot_tuple_getitem.lookup) ?_ (by with_unfolding_all rfl)
    refine getItem_tuple_rev ht (Heap.IsSliceOf.new _ .none .none vs) ps ?_ (by rw [List.size_toArray]; omega)
    exact q.fin (tk := s4.toks) I5 r.reverse (by rw [List.length_reverse]; exact hz)
theorem tuple_mul1 (l : Addr) (items : Array Value) (n : Nat) (dd : Option Addr) (sl : Array (Option Value)) (u : Tok) :
    Meets (Builtin.«tuple.__mul__» ⟨[.ref l, .int 1 u], []⟩) (fun _ R s => s.heap.get? l = some { cls := .type "tuple", dict := dd, data := .seq items n, slots := sl } ∧
      R (.ok (.ret (Value.ref l))) s) :=
  .of_wp fun prog w A R s h => by
    obtain ⟨hp, g, d, tk, os⟩ := s
    obtain ⟨hl, h⟩ := h
    have f1 := AutoSeq1.idx_int
    have c1 : (items.isEmpty || (1 : Int) == 1) = true := by simp
    wp_walk using wpAny_loadPart' hl
    exact ⟨_, rfl, h⟩
theorem op_rep1 : OpR X (binaryOp .Mult) (fun x y H Q => ∃ l xs, x = .ref l ∧ y = .int 1 ∧ SqT X.K H l xs ∧ Q (.ref l) H) := by
  intro pins s σ H x y v u Q I rx ry h
  obtain ⟨l, xs, rfl, rfl, hT, q⟩ := h
  cases rx
  obtain ⟨t, rfl⟩ := ry
  obtain ⟨its, r, ⟨⟨cls, dd, data, sl⟩, ho, hc, n, hd⟩, hs⟩ := I.tuple hT
  simp only at hc hd
  subst hc hd
  exact wpAny_binaryOp_repeat_ref (T := "tuple") (U := "int") (by decide) ⟨_, ho, rfl⟩ (fun s' => typeIs_int s' 1 t) noFill_tuple_mul F.fills_int_mul F.slot_int_rmul repeat_tuple F.slot_int_index.lookup
    (call_meets F.slot_int_rmul (typeIs_int s 1 t) F.entry_int_rmul (F.args_int_rmul_2 _ _) (int_rmul_tuple 1 t l its.toArray n dd sl)
      ⟨ho, rfl, ⟨_, ho, rfl⟩, call_meets F.slot_tuple_mul ⟨_, ho, rfl⟩ F.entry_tuple_mul (F.args_tuple_mul_2 _ _) (tuple_mul1 l its.toArray n dd sl t) ⟨ho, ⟨.ref l, H, I, rfl, q⟩⟩⟩)
theorem op_repF : OpR X (binaryOp .Mult) (fun x y H Q => ∃ l k xs, x = .ref l ∧ y = .int k ∧ SqT X.K H l xs ∧ xs ≠ [] ∧ 2 ≤ k ∧ k ≤ 1000 ∧ xs.length ≤ 1000 ∧ newF (List.replicate k.toNat xs).flatten H Q) := by
  intro pins s σ H x y v u Q I rx ry h
  obtain ⟨l, k, xs, rfl, rfl, hT, hne, h1, h2, hz, q⟩ := h
  cases rx
  obtain ⟨t, rfl⟩ := ry
  obtain ⟨its, r, ⟨⟨cls, dd, data, sl⟩, ho, hc, n, hd⟩, hs⟩ := I.tuple hT
  simp only at hc hd
  subst hc hd
  have hle : its.length = xs.length := r.length.symm
  have hn : its ≠ [] := fun e => hne (by
    rw [e] at hle
    exact List.eq_nil_of_length_eq_zero hle.symm)
  have hi : its.toArray.isEmpty = false := by
    cases its with
    | nil => exact absurd rfl hn
    | cons a b => rfl
  have hsz0 : its.toArray.size = xs.length := by rw [List.size_toArray, hle]
  have hm : ((its.toArray.size : Nat) : Int) * k ≤ 1000000 := by
    rw [hsz0]
    have a1 : ((xs.length : Nat) : Int) * k ≤ 1000 * k := Int.mul_le_mul_of_nonneg_right (by omega) (by omega)
    omega
  have flen : (List.replicate k.toNat its).flatten.length ≤ sizeLine := by
    rw [PyProof.Rows.lm_len_rep_flat, hle, sizeLine_eq]
    have a1 : k.toNat * xs.length ≤ 1000 * 1000 := Nat.mul_le_mul (by omega) hz
    omega
  have c0 : (decide (k < -(2 ^ 63)) || decide (k ≥ 2 ^ 63)) = false := by
    rw [decide_eq_false (by omega), decide_eq_false (by omega)] <;> rfl
  have c1 : (its.toArray.isEmpty || k == 1) = false := by
    rw [hi, Bool.false_or]
    exact beq_eq_false_iff_ne.mpr (by omega)
  have c2 : (decide (k ≤ 0) || its.toArray.isEmpty) = false := by
    rw [hi, Bool.or_false]
    exact decide_eq_false (by omega)
  have c4 : Builtin.Tuple.tupleTooMany (((its.toArray.size : Nat) : Int) * k) = false := by
    unfold Builtin.Tuple.tupleTooMany
    rw [sizeLine_eq]
    exact decide_eq_false (by omega)
  refine wpAny_binaryOp_repeat_ref (T := "tuple") (U := "int") (by decide) ⟨_, ho, rfl⟩ (fun s' => typeIs_int s' k t) noFill_tuple_mul F.fills_int_mul F.slot_int_rmul repeat_tuple F.slot_int_index.lookup
    (call_meets F.slot_int_rmul (typeIs_int s k t) F.entry_int_rmul (F.args_int_rmul_2 _ _) (int_rmul_tuple k t l its.toArray n dd sl)
      ⟨ho, rfl, ⟨_, ho, rfl⟩, call_meets F.slot_tuple_mul ⟨_, ho, rfl⟩ F.entry_tuple_mul (F.args_tuple_mul_2 _ _) (tuple_mulW l its.toArray n dd sl k t c0 c1 c2 (by omega) c4 (by rw [size_rep, List.size_toArray]; exact flen)) ⟨ho, ?_⟩⟩)
  rw [size_rep]
  exact q.fin (tk := s.toks) I (r.rep k.toNat) (by rw [PyProof.Rows.lm_len_rep_flat, sizeLine_eq]; have a1 : k.toNat * xs.length ≤ 1000 * 1000 := Nat.mul_le_mul (by omega) hz; omega)
end
end EV

/-! Ev4: readings by the evaluator, and how they are put together. -/
namespace EV
open PySem PySem.Spec PyProof.Rows L2

theorem post_bind {α β : Type} {r : R α} {k : α → Mem → R β} {Q : β → Mem → Prop} {E : Str → List W → Mem → Prop} : (r.bind k).post Q E ↔ r.post (fun a M => (k a M).post Q E) E := by
  cases r <;> exact Iff.rfl
theorem post_mono {α : Type} {r : R α} {Q Q' : α → Mem → Prop} {E E' : Str → List W → Mem → Prop} (h : r.post Q E) (hQ : ∀ a M, Q a M → Q' a M) (hE : ∀ c fs M, E c fs M → E' c fs M) : r.post Q' E' := by
  cases r with
  | ok a M => exact hQ a M h
  | exc c fs M => exact hE c fs M h
  | bad => exact h
theorem post_ofO {α : Type} {o : Option α} {M : Mem} {Q : α → Mem → Prop} {E : Str → List W → Mem → Prop} (h : (ofO o M).post Q E) : ∃ a, o = some a ∧ Q a M := by
  cases o with
  | none => exact h.elim
  | some a => exact ⟨a, rfl, h⟩

/-- how an exception of the evaluator's stands in the heap -/
abbrev XRel := Str → List W → List Addr → Hp → Value → Option Addr → Prop

section
variable (K : PySem.W.Frag) (XR : XRel)
def okP {α β : Type} (Rel : List Addr → Hp → α → β → Prop) (μ : List Addr) (H : Hp) (Q : β → Hp → Prop) : α → Mem → Prop := fun a M' =>
  ∀ μ' b H', μ <+: μ' → Ext H H' → CoM K μ' M' H' → Rel μ' H' a b → Q b H'
def exP (Wx : WX) (σ : L2.St) (μ : List Addr) (H : Hp) : Str → List W → Mem → Prop := fun c fs M' =>
  ∀ μ' H' cls d, μ <+: μ' → Ext H H' → CoM K μ' M' H' → XR c fs μ' H' cls d → Wx cls d σ H'
/-- a reading by the evaluator -/
def tG {α β : Type} (Rel : List Addr → Hp → α → β → Prop) (Wx : WX) (r : Sl → Mem → R α) : L2.St → Hp → (β → Hp → Prop) → Prop := fun σ H Q =>
  ∃ μ ρ M, RSl μ H ρ σ ∧ CoM K μ M H ∧ (r ρ M).post (okP K Rel μ H Q) (exP K XR Wx σ μ H)
def relW : List Addr → Hp → W → V → Prop := fun μ H w v => RW μ H w v
def relWs : List Addr → Hp → List W → List V → Prop := fun μ H w v => RWs μ H w v
def relB : List Addr → Hp → Bool → Bool → Prop := fun _ _ b c => b = c
def relO : List Addr → Hp → Option Int → Option Int → Prop := fun _ _ b c => b = c
abbrev tE (Wx : WX) (r : Sl → Mem → R W) : TE := tG K XR relW Wx r
abbrev tEs (Wx : WX) (r : Sl → Mem → R (List W)) : TA := tG K XR relWs Wx r
abbrev tT (Wx : WX) (r : Sl → Mem → R Bool) : TT := tG K XR relB Wx r
end
section
variable {K : PySem.W.Frag} {XR : XRel} {α β : Type} {Rel : List Addr → Hp → α → β → Prop} {Wx : WX} {σ : L2.St} {μ μ' : List Addr} {H H' : Hp}
theorem okP.mono {Q : β → Hp → Prop} {a : α} {M : Mem} (p : μ <+: μ') (e : Ext H H') (h : okP K Rel μ H Q a M) : okP K Rel μ' H' Q a M :=
  fun μ2 b H2 p2 e2 c2 r2 => h μ2 b H2 (p.trans p2) (e.trans e2) c2 r2
theorem exP.mono {c : Str} {fs : List W} {M : Mem} (p : μ <+: μ') (e : Ext H H') (h : exP K XR Wx σ μ H c fs M) : exP K XR Wx σ μ' H' c fs M :=
  fun μ2 H2 cls d p2 e2 c2 r2 => h μ2 H2 cls d (p.trans p2) (e.trans e2) c2 r2
theorem post_up {r : R α} {Q : β → Hp → Prop} (p : μ <+: μ') (e : Ext H H') (h : r.post (okP K Rel μ H Q) (exP K XR Wx σ μ H)) : r.post (okP K Rel μ' H' Q) (exP K XR Wx σ μ' H') :=
  post_mono h (fun _ _ q => q.mono p e) fun _ _ _ q => q.mono p e
/-- one part, then the rest -/
theorem tG.next {γ δ : Type} {Rel2 : List Addr → Hp → γ → δ → Prop} {r : Sl → Mem → R α} {k : α → Sl → Mem → R γ} {Q : δ → Hp → Prop} {Q1 : β → Hp → Prop}
    (h : tG K XR Rel2 Wx (fun ρ M => (r ρ M).bind fun a M1 => k a ρ M1) σ H Q)
    (n : ∀ (a : α) (b : β) (μ : List Addr) (ρ : Sl) (M : Mem) (H1 : Hp), RSl μ H1 ρ σ → CoM K μ M H1 → Rel μ H1 a b → (k a ρ M).post (okP K Rel2 μ H1 Q) (exP K XR Wx σ μ H1) → Q1 b H1) :
    tG K XR Rel Wx r σ H Q1 := by
  obtain ⟨μ, ρ, M, hs, hc, hp⟩ := h
  refine ⟨μ, ρ, M, hs, hc, post_mono (post_bind.mp hp) (fun a M1 h1 μ1 b H1 p1 e1 c1 r1 => ?_) fun _ _ _ q => q⟩
  exact n a b μ1 ρ M1 H1 (hs.mono p1 e1) c1 r1 (post_up p1 e1 h1)
/-- the same behind a first part -/
theorem post_next {γ δ : Type} {Rel2 : List Addr → Hp → γ → δ → Prop} {r : Sl → Mem → R α} {k : α → Mem → R γ} {Q : δ → Hp → Prop} {Q1 : β → Hp → Prop} {ρ : Sl} {M : Mem} (hs : RSl μ H ρ σ) (hc : CoM K μ M H)
    (h : ((r ρ M).bind k).post (okP K Rel2 μ H Q) (exP K XR Wx σ μ H))
    (n : ∀ (a : α) (b : β) (μ1 : List Addr) (M1 : Mem) (H1 : Hp), μ <+: μ1 → Ext H H1 → RSl μ1 H1 ρ σ → CoM K μ1 M1 H1 → Rel μ1 H1 a b → (k a M1).post (okP K Rel2 μ1 H1 Q) (exP K XR Wx σ μ1 H1) → Q1 b H1) :
    tG K XR Rel Wx r σ H Q1 :=
  ⟨μ, ρ, M, hs, hc, post_mono (post_bind.mp h) (fun a M1 h1 μ1 b H1 p1 e1 c1 r1 => n a b μ1 M1 H1 p1 e1 (hs.mono p1 e1) c1 r1 (post_up p1 e1 h1)) fun _ _ _ q => q⟩
theorem tG.of_ok {r : Sl → Mem → R α} {Q : β → Hp → Prop} {ρ : Sl} {M : Mem} (hs : RSl μ H ρ σ) (hc : CoM K μ M H) (h : (r ρ M).post (okP K Rel μ H Q) (exP K XR Wx σ μ H)) : tG K XR Rel Wx r σ H Q := ⟨μ, ρ, M, hs, hc, h⟩
end

theorem _root_.L2.PE.imp {X : Cx} {e : Expr} {t t' : TE} (h : PE X e t) (i : ∀ σ H Q, t' σ H Q → t σ H Q) : PE X e t' := ⟨fun pins s σ H Q I q => h.run pins s σ H Q I (i σ H Q q)⟩
theorem _root_.L2.PT.imp {X : Cx} {e : Expr} {t t' : TT} (h : PT X e t) (i : ∀ σ H Q, t' σ H Q → t σ H Q) : PT X e t' := ⟨fun pins s σ H Q I q => h.run pins s σ H Q I (i σ H Q q)⟩
theorem _root_.L2.PW.imp {X : Cx} {e : Expr} {t t' : TT} (h : PW X e t) (i : ∀ σ H Q, t' σ H Q → t σ H Q) : PW X e t' := ⟨fun wh pins s σ H Q I q => h.run wh pins s σ H Q I (i σ H Q q)⟩
theorem _root_.L2.PA.imp {X : Cx} {e : List Expr} {t t' : TA} (h : PA X e t) (i : ∀ σ H Q, t' σ H Q → t σ H Q) : PA X e t' := ⟨fun pos pins s σ H Q I q => h.run pos pins s σ H Q I (i σ H Q q)⟩
theorem _root_.L2.PK.imp {X : Cx} {e : List Keyword} {t t' : TA} (h : PK X e t) (i : ∀ σ H Q, t' σ H Q → t σ H Q) : PK X e t' := ⟨fun pos pins s σ H Q I q => h.run pos pins s σ H Q I (i σ H Q q)⟩
theorem _root_.L2.PS.imp {X : Cx} {e : Stmt} {t t' : TS} (h : PS X e t) (i : ∀ D σ H, t' D σ H → t D σ H) : PS X e t' := ⟨fun pins s σ H D I q => h.run pins s σ H D I (i D σ H q)⟩
theorem _root_.L2.PSs.imp {X : Cx} {e : List Stmt} {t t' : TS} (h : PSs X e t) (i : ∀ D σ H, t' D σ H → t D σ H) : PSs X e t' := ⟨fun pins s σ H D I q => h.run pins s σ H D I (i D σ H q)⟩
theorem _root_.L2.PG.imp {X : Cx} {e : Expr} {t t' : TG} (h : PG X e t) (i : ∀ v σ H Q, t' v σ H Q → t v σ H Q) : PG X e t' := ⟨fun pins s σ H v u Q I r q => h.run pins s σ H v u Q I r (i v σ H Q q)⟩
theorem _root_.L2.PGs.imp {X : Cx} {e : List Expr} {t t' : TGs} (h : PGs X e t) (i : ∀ v σ H Q, t' v σ H Q → t v σ H Q) : PGs X e t' := ⟨fun pins s σ H v u Q I r q => h.run pins s σ H v u Q I r (i v σ H Q q)⟩
theorem _root_.L2.PI.imp {X : Cx} {tg e : Expr} {t t' : TI} (h : PI X tg e t) (i : ∀ σ H R, t' σ H R → t σ H R) : PI X tg e t' := ⟨fun pins s σ H R I q => h.run pins s σ H R I (i σ H R q)⟩

/-! ### by values: a rule's reading is what the evaluator's function says -/
section
variable (K : PySem.W.Frag)
def lift1 (f : W → Mem → R W) : V → Hp → VK → Prop := fun x H Q => ∃ μ M a E, CoM K μ M H ∧ RW μ H a x ∧ (f a M).post (okP K relW μ H Q) E
def lift2 (f : W → W → Mem → R W) : R2 := fun x y H Q => ∃ μ M a b E, CoM K μ M H ∧ RW μ H a x ∧ RW μ H b y ∧ (f a b M).post (okP K relW μ H Q) E
def lift3 (f : W → W → W → Mem → R Unit) : V → V → V → Hp → (Hp → Prop) → Prop := fun x y z H Q => ∃ μ M a b c E, CoM K μ M H ∧ RW μ H a x ∧ RW μ H b y ∧ RW μ H c z ∧
  (f a b c M).post (okP K (fun _ _ (_ : Unit) (_ : Unit) => True) μ H (fun _ H' => Q H')) E
def liftN (f : List W → Mem → R W) : List V → Hp → VK → Prop := fun xs H Q => ∃ μ M as E, CoM K μ M H ∧ RWs μ H as xs ∧ (f as M).post (okP K relW μ H Q) E
def liftM (f : W → List W → Mem → R W) : V → List V → Hp → VK → Prop := fun x xs H Q => ∃ μ M a as E, CoM K μ M H ∧ RW μ H a x ∧ RWs μ H as xs ∧ (f a as M).post (okP K relW μ H Q) E
def liftB (f : W → Mem → R Bool) : V → Hp → (Bool → Hp → Prop) → Prop := fun x H Q => ∃ μ M a E, CoM K μ M H ∧ RW μ H a x ∧ (f a M).post (okP K relB μ H Q) E
end
section
variable {K : PySem.W.Frag} {μ : List Addr} {M : Mem} {H : Hp} {Q : VK}
/-- nothing is changed -/
theorem okP.same {w : W} {v : V} (c : CoM K μ M H) (h : okP K relW μ H Q w M) (r : RW μ H w v) : Q v H := h μ v H (List.prefix_refl _) (.refl _) c r
theorem okP.sameB {b : Bool} {Q : Bool → Hp → Prop} (c : CoM K μ M H) (h : okP K relB μ H Q b M) : Q b H := h μ b H (List.prefix_refl _) (.refl _) c rfl
/-- a new object -/
theorem okP.newOb {o : Ob} {u : HO} {p : Addr} (c : CoM K μ M H) (h : okP K relW μ H Q (.ref M.length) (M ++ [o])) (hp : H p = none) (r : RO K (μ ++ [p]) (upd H p u) p o) : Q (.ref p) (upd H p u) := by
  refine h (μ ++ [p]) (.ref p) (upd H p u) ⟨[p], rfl⟩ (.new hp) (c.push hp r) (.ref ?_)
  rw [List.getElem?_append_right (by rw [c.len]; exact Nat.le_refl _), c.len]
  simp
/-- a new tuple -/
theorem okP.newT {xs : List W} {vs : List V} (c : CoM K μ M H) (h : okP K relW μ H Q (.tup xs) M) (r : RWs μ H xs vs) : newF vs H Q := fun p o ho hp =>
  h μ (.ref p) (upd H p (.frz o (.tup vs))) (List.prefix_refl _) (.new hp) (c.new hp) (.tup upd_same ho (r.mono (List.prefix_refl _) (.new hp)))
theorem pre1 {p : Addr} : μ <+: μ ++ [p] := ⟨[p], rfl⟩
theorem CoM.lst {r : Nat} {v : V} {xs : List W} (c : CoM K μ M H) (h : RW μ H (.ref r) v) (e : M[r]? = some (.lst xs)) : ∃ a vs, v = .ref a ∧ μ[r]? = some a ∧ H a = some (.lst vs) ∧ RWs μ H xs vs := by
  obtain ⟨a, h1, h2, vs, h3, h4⟩ := c.at h e
  exact ⟨a, vs, h1, h2, h3, h4⟩
theorem CoM.rol {r : Nat} {v : V} {xs : List W} (c : CoM K μ M H) (h : RW μ H (.ref r) v) (e : M[r]? = some (.rol xs)) : ∃ a vs, v = .ref a ∧ SqL K H a vs ∧ RWs μ H xs vs := by
  obtain ⟨a, h1, h2, vs, h3, h4⟩ := c.at h e
  exact ⟨a, vs, h1, h3.sq, h4⟩
/-- a list or a tuple, to be read -/
theorem CoM.seq {w : W} {v : V} {xs : List W} (c : CoM K μ M H) (h : RW μ H w v) (e : seqW M w = some xs) : ∃ a vs, v = .ref a ∧ RWs μ H xs vs ∧ ((SqL K H a vs ∧ ∃ r, w = .ref r) ∨ (SqT K H a vs ∧ w = .tup xs)) := by
  cases w with
  | tup ys =>
    cases e
    cases h with
    | tup h1 hn h2 => exact ⟨_, _, rfl, h2, .inr ⟨.frz h1, rfl⟩⟩
  | ref r =>
    simp only [seqW] at e
    cases q : M[r]? with
    | none => rw [q] at e; cases e
    | some o =>
      rw [q] at e
      cases o with
      | lst ys =>
        cases e
        obtain ⟨a, vs, h1, h2, h3, h4⟩ := c.lst h q
        exact ⟨a, vs, h1, h4, .inl ⟨.of h3, r, rfl⟩⟩
      | rol ys =>
        cases e
        obtain ⟨a, vs, h1, h2, h3⟩ := c.rol h q
        exact ⟨a, vs, h1, h3, .inl ⟨h2, r, rfl⟩⟩
      | dK ys => cases e
  | non => cases e
  | bl _ => cases e
  | int _ => cases e
  | str _ => cases e
end

/-! ### data -/
theorem mapO_cons {α β : Type} {f : α → Option β} {x : α} {xs : List α} {ys : List β} (h : mapO f (x :: xs) = some ys) : ∃ y zs, f x = some y ∧ mapO f xs = some zs ∧ ys = y :: zs := by
  unfold mapO at h
  cases q : f x with
  | none => rw [q] at h; cases h
  | some y =>
    rw [q] at h
    cases q2 : mapO f xs with
    | none => simp only [q2] at h; cases h
    | some zs => simp only [q2] at h; cases h; exact ⟨y, zs, rfl, rfl, rfl⟩
section
variable {K : PySem.W.Frag} {μ : List Addr} {M : Mem} {H : Hp}
theorem toD_dps (c : CoM K μ M H) (n : Nat) (ih : ∀ {w : W} {v : V} {d : PyData}, RW μ H w v → toD M n w = some d → Dp K H v d) :
    ∀ {xs : List W} {vs : List V} {ds : List PyData}, RWs μ H xs vs → mapO (toD M n) xs = some ds → DpAll K H vs ds
  | _, _, _, .nil, h => by cases h; exact .nil
  | _, _, _, .cons r t, h => by
    obtain ⟨y, zs, h1, h2, rfl⟩ := mapO_cons h
    exact .cons (ih r h1) (toD_dps c n ih t h2)
theorem toD_dp (c : CoM K μ M H) : ∀ (n : Nat) {w : W} {v : V} {d : PyData}, RW μ H w v → toD M n w = some d → Dp K H v d
  | 0, _, _, _, _, h => by simp [toD] at h
  | n + 1, w, v, d, r, h => by
    cases w with
    | non => cases r; simp only [toD, Option.some.injEq] at h; subst h; exact .non
    | bl b => cases r; simp only [toD, Option.some.injEq] at h; subst h; exact .bl b
    | int i => cases r; simp only [toD, Option.some.injEq] at h; subst h; exact .int i
    | str x => cases r; simp only [toD, Option.some.injEq] at h; subst h; exact .str x
    | tup xs =>
      cases r with
      | tup h1 hn h2 =>
        simp only [toD] at h
        cases q : mapO (toD M n) xs with
        | none => rw [q] at h; cases h
        | some ds =>
          rw [q] at h
          cases h
          exact .tup (.frz h1) (toD_dps c n (toD_dp c n) h2 q)
    | ref k =>
      simp only [toD] at h
      cases q0 : M[k]? with
      | none => rw [q0] at h; cases h
      | some o =>
        rw [q0] at h
        cases o with
        | lst xs =>
          obtain ⟨a, vs, rfl, _, h3, h4⟩ := c.lst r q0
          simp only at h
          cases q : mapO (toD M n) xs with
          | none => rw [q] at h; cases h
          | some ds =>
            rw [q] at h
            cases h
            exact .lst (.of h3) (toD_dps c n (toD_dp c n) h4 q)
        | rol xs =>
          obtain ⟨a, vs, rfl, h3, h4⟩ := c.rol r q0
          simp only at h
          cases q : mapO (toD M n) xs with
          | none => rw [q] at h; cases h
          | some ds =>
            rw [q] at h
            cases h
            exact .lst h3 (toD_dps c n (toD_dp c n) h4 q)
        | dK _ => cases h
theorem dataW_dp (c : CoM K μ M H) {w : W} {v : V} {d : PyData} (r : RW μ H w v) (h : dataW M w = some d) : Dp K H v d ∧ SeqAt.shaped d = true := by
  unfold dataW at h
  cases q : toD M dataFuel w with
  | none => rw [q] at h; cases h
  | some e =>
    rw [q] at h
    simp only at h
    split at h
    · next hs =>
      cases h
      exact ⟨toD_dp c _ r q, hs⟩
    · cases h
end

/-! ### operators -/
section
variable {X : Cx}
theorem op_bin (op : Operator) : OpR X (binaryOp op) (lift2 X.K (binW op)) := by
  intro pins s σ H x y v u Q I rx ry h
  obtain ⟨μ, M, a, b, E, c, ra, rb, h⟩ := h
  unfold binW at h
  split at h
  · cases ra; cases rb; exact op_add pins s σ H _ _ v u Q I rx ry ⟨_, _, rfl, rfl, okP.same c h (.int _)⟩
  · cases ra; cases rb; exact op_sub pins s σ H _ _ v u Q I rx ry ⟨_, _, rfl, rfl, okP.same c h (.int _)⟩
  · cases ra; cases rb
    split at h
    · next hc => exact op_mulW pins s σ H _ _ v u Q I rx ry ⟨_, _, rfl, rfl, hc, okP.same c h (.int _)⟩
    · exact h.elim
  · cases ra; cases rb
    split at h
    · next hc => exact op_fdivW pins s σ H _ _ v u Q I rx ry ⟨_, _, rfl, rfl, hc, okP.same c h (.int _)⟩
    · exact h.elim
  · cases ra; cases rb
    split at h
    · next hc => exact op_mod pins s σ H _ _ v u Q I rx ry ⟨_, _, rfl, rfl, hc, okP.same c h (.int _)⟩
    · exact h.elim
  · cases ra; cases rb
    split at h
    · next hc => exact op_pow pins s σ H _ _ v u Q I rx ry ⟨_, _, rfl, rfl, hc, okP.same c h (.int _)⟩
    · exact h.elim
  · cases ra; cases rb
    split at h
    · next hc => exact op_add_str pins s σ H _ _ v u Q I rx ry ⟨_, _, rfl, rfl, hc, okP.same c h (.str _)⟩
    · exact h.elim
  · split at h
    · next hc =>
      cases ra with
      | tup h1 n1 r1 =>
        cases rb with
        | tup h2 n2 r2 =>
          have l1 := r1.length
          have l2 := r2.length
          refine op_catF pins s σ H _ _ v u Q I rx ry ⟨_, _, _, _, rfl, rfl, .frz h1, .frz h2, by omega, fun e => ?_, fun _ e => ?_, fun _ _ => ?_⟩
          · subst e
            obtain rfl := r1.nilR
            exact okP.same c h (.tup h2 n2 r2)
          · subst e
            obtain rfl := r2.nilR
            rw [List.append_nil] at h
            exact okP.same c h (.tup h1 n1 r1)
          · exact okP.newT c h (r1.append r2)
    · exact h.elim
  · split at h
    · next q1 q2 =>
      split at h
      · next hc =>
        obtain ⟨a1, vs1, rfl, _, h1, r1⟩ := c.lst ra q1
        obtain ⟨a2, vs2, rfl, _, h2, r2⟩ := c.lst rb q2
        have l1 := r1.length
        have l2 := r2.length
        exact op_cat pins s σ H _ _ v u Q I rx ry ⟨_, _, _, _, rfl, rfl, h1, h2, by omega, fun p hp => okP.newOb c h hp ⟨_, upd_same, (r1.append r2).mono pre1 (.new hp)⟩⟩
      · exact h.elim
    · exact h.elim
  · cases rb
    split at h
    · next q1 =>
      split at h
      · next hc =>
        obtain ⟨a1, vs1, rfl, _, h1, r1⟩ := c.lst ra q1
        have l1 := r1.length
        exact op_rep pins s σ H _ _ v u Q I rx ry ⟨_, _, _, rfl, rfl, h1, hc.1, hc.2.1, by rw [← l1]; exact hc.2.2, fun p hp => okP.newOb c h hp ⟨_, upd_same, (r1.flat _).mono pre1 (.new hp)⟩⟩
      · exact h.elim
    · exact h.elim
  · cases rb
    split at h
    · next hk =>
      subst hk
      have ra' := ra
      cases ra with
      | tup h1 n1 r1 => exact op_rep1 pins s σ H _ _ v u Q I rx ry ⟨_, _, rfl, rfl, .frz h1, okP.same c h ra'⟩
    · split at h
      · next hc =>
        cases ra with
        | tup h1 n1 r1 =>
          have l1 := r1.length
          exact op_repF pins s σ H _ _ v u Q I rx ry ⟨_, _, _, rfl, rfl, .frz h1, fun e => hc.1 (by subst e; exact r1.nilR), hc.2.1, hc.2.2.1, by rw [← l1]; exact hc.2.2.2, okP.newT c h (r1.flat _)⟩
      · exact h.elim
  · exact h.elim

def cmpV (op : CmpOp) (x y : W) (M : Mem) : R W := (cmpW op x y M).bind fun c M' => .ok (.bl c) M'
theorem eqW_some {M : Mem} {x y : W} {b : Bool} (h : eqW M x y = some b) : ∃ d e, dataW M x = some d ∧ dataW M y = some e ∧ b = PyData.eqv d e := by
  unfold eqW at h
  split at h
  · next d e h1 h2 => exact ⟨d, e, h1, h2, (Option.some.inj h).symm⟩
  · cases h
theorem inW_ok {op : CmpOp} {neg : Bool} (hop : op = if neg = true then .NotIn else .In) (hu : X.A.units + 65 < cLine) {pins : List (Addr × Obj)} {s : Shared} {σ : L2.St} {H : Hp} {x y : V} {v u : Value} {Q : VK} {μ : List Addr} {M : Mem} {a b : W} {k : Bool}
    (I : Inv X pins σ H s) (rx : RelV x v) (ry : RelV y u) (c : CoM X.K μ M H) (ra : RW μ H a x) (rb : RW μ H b y) (e : inW M a b = some k) (q : Q (.bl (if neg = true then !k else k)) H) :
    wpAny (model X.prog X.w) X.A (compareOp op v u) (EP X pins σ Q) X.xe s := by
  unfold inW at e
  split at e
  · next r =>
    split at e
    · next q1 =>
      split at e
      · next d ds h1 h2 =>
        cases e
        obtain ⟨d1, s1⟩ := dataW_dp c ra h1
        obtain ⟨d2, s2⟩ := dataW_dp c rb h2
        cases neg with
        | false => subst hop; exact op_inD hu pins s σ H x y v u Q I rx ry ⟨d, ds, d1, d2, s1, s2, q⟩
        | true => subst hop; exact op_notInD hu pins s σ H x y v u Q I rx ry ⟨d, ds, d1, d2, s1, s2, q⟩
      · cases e
    · next kvsOf q1 =>
      split at e
      · next key h1 =>
        cases e
        obtain ⟨p, rfl, _, ks, h2, h3⟩ := c.at rb q1
        obtain rfl := ra.of_key h1
        have g : DGet H p (kV key) (valV ks key) := .inl ⟨ks, key, .inl h2, rfl, rfl⟩
        have hb : (valV ks key).isSome = (kvsOf.find? fun kv => decide (kv.1 = key)).isSome := by
          rcases h3.find key with ⟨x', v', e1, e2, _⟩ | ⟨e1, e2⟩ <;> rw [e1, e2] <;> rfl
        rw [← hb] at q
        cases ry
        cases neg with
        | false => subst hop; exact d_in (by omega) I g rx fun s3 I3 => ⟨.bl _, H, I3, rfl, q⟩
        | true => subst hop; exact d_notIn (by omega) I g rx fun s3 I3 => ⟨.bl _, H, I3, rfl, q⟩
      · cases e
    · cases e
  · next z =>
    split at e
    · next cc =>
      cases e
      cases ra
      cases rb
      cases neg with
      | false => subst hop; exact op_in_sign pins s σ H _ _ v u Q I rx ry ⟨cc, z, rfl, rfl, q⟩
      | true => subst hop; exact op_notIn_sign pins s σ H _ _ v u Q I rx ry ⟨cc, z, rfl, rfl, q⟩
    · cases e
  · cases e
end
end EV

/-! Ev5: comparisons, truth, subscripts, stores, built-in functions by values. -/
namespace EV
open PySem PySem.Spec PyProof.Rows L2
section
variable {X : Cx}
theorem post_ok {α : Type} {a : α} {M : Mem} {Q : α → Mem → Prop} {E : Str → List W → Mem → Prop} (h : (R.ok a M).post Q E) : Q a M := h
theorem cmpV_ok {op : CmpOp} {x y : W} {M : Mem} {Q : W → Mem → Prop} {E : Str → List W → Mem → Prop} (h : (cmpV op x y M).post Q E) : (cmpW op x y M).post (fun b M' => Q (.bl b) M') E := post_bind.mp h
theorem op_cmp (hu : X.A.units + 65 < cLine) (op : CmpOp) : OpR X (compareOp op) (lift2 X.K (cmpV op)) := by
  intro pins s σ H x y v u Q I rx ry h
  obtain ⟨μ, M, a, b, E, c, ra, rb, h⟩ := h
  have h := cmpV_ok h
  unfold cmpW at h
  cases op with
  | Eq =>
    obtain ⟨k, e, q⟩ := post_ofO h
    obtain ⟨d, d', h1, h2, rfl⟩ := eqW_some e
    obtain ⟨d1, s1⟩ := dataW_dp c ra h1
    obtain ⟨d2, s2⟩ := dataW_dp c rb h2
    exact op_eqD (by omega) pins s σ H x y v u Q I rx ry ⟨d, d', d1, d2, s1, s2, okP.same c q (.bl _)⟩
  | NotEq =>
    obtain ⟨k, e, q⟩ := post_ofO h
    obtain ⟨k', e', rfl⟩ := Option.map_eq_some_iff.mp e
    obtain ⟨d, d', h1, h2, rfl⟩ := eqW_some e'
    obtain ⟨d1, s1⟩ := dataW_dp c ra h1
    obtain ⟨d2, s2⟩ := dataW_dp c rb h2
    exact op_neD (by omega) pins s σ H x y v u Q I rx ry ⟨d, d', d1, d2, s1, s2, okP.same c q (.bl _)⟩
  | Lt =>
    simp only at h
    split at h
    · cases ra; cases rb; exact op_lt pins s σ H _ _ v u Q I rx ry ⟨_, _, rfl, rfl, okP.same c h (.bl _)⟩
    · exact h.elim
  | LtE =>
    simp only at h
    split at h
    · cases ra; cases rb; exact op_le pins s σ H _ _ v u Q I rx ry ⟨_, _, rfl, rfl, okP.same c h (.bl _)⟩
    · exact h.elim
  | Gt =>
    simp only at h
    split at h
    · cases ra; cases rb; exact op_gt pins s σ H _ _ v u Q I rx ry ⟨_, _, rfl, rfl, okP.same c h (.bl _)⟩
    · exact h.elim
  | GtE =>
    simp only at h
    split at h
    · cases ra; cases rb; exact op_ge pins s σ H _ _ v u Q I rx ry ⟨_, _, rfl, rfl, okP.same c h (.bl _)⟩
    · exact h.elim
  | In =>
    obtain ⟨k, e, q⟩ := post_ofO h
    exact inW_ok (neg := false) rfl hu I rx ry c ra rb e (okP.same c q (.bl _))
  | NotIn =>
    obtain ⟨k, e, q⟩ := post_ofO h
    obtain ⟨k', e', rfl⟩ := Option.map_eq_some_iff.mp e
    exact inW_ok (neg := true) rfl hu I rx ry c ra rb e' (okP.same c q (.bl _))
  | Is =>
    simp only at h
    split at h
    · cases rb
      refine op_isN pins s σ H _ _ v u Q I rx ry ⟨rfl, ?_⟩
      have q := okP.same c h (.bl _)
      cases ra <;> exact q
    · cases rb
      split at h
      · cases ra; exact op_is_bl pins s σ H _ _ v u Q I rx ry ⟨_, _, rfl, rfl, okP.same c h (.bl _)⟩
      · exact h.elim
    · exact h.elim
  | IsNot =>
    simp only at h
    split at h
    · cases rb
      refine op_notN pins s σ H _ _ v u Q I rx ry ⟨rfl, ?_⟩
      have q := okP.same c h (.bl _)
      cases ra <;> exact q
    · cases rb
      split at h
      · cases ra; exact op_isnot_bl pins s σ H _ _ v u Q I rx ry ⟨_, _, rfl, rfl, okP.same c h (.bl _)⟩
      · exact h.elim
    · exact h.elim

theorem tru_ev : TruR X (liftB X.K truthW) := by
  intro pins s σ H x v Q I rx h
  obtain ⟨μ, M, a, E, c, ra, h⟩ := h
  have go : ∀ k, TruV X.K x H k → Q k H → wpAny (model X.prog X.w) X.A (truthy v) (TP X pins σ Q) X.xe s := fun k t q => tru_ok pins s σ H x v Q I rx ⟨k, t, q⟩
  unfold truthW at h
  split at h
  · cases ra; exact go false rfl (okP.sameB c h)
  · cases ra; exact go _ rfl (okP.sameB c h)
  · cases ra; exact go _ rfl (okP.sameB c h)
  · cases ra with
    | tup h1 n1 r1 =>
      rename_i xs _ _ vs
      have e : (!xs.isEmpty) = !vs.isEmpty := by cases r1 <;> rfl
      rw [e] at h
      exact go _ (.inr (.inl ⟨vs, .frz h1, rfl⟩)) (okP.sameB c h)
  · split at h
    · next xs q1 =>
      obtain ⟨a1, vs, rfl, _, h1, r1⟩ := c.lst ra q1
      have e : (!xs.isEmpty) = !vs.isEmpty := by cases r1 <;> rfl
      rw [e] at h
      exact go _ (.inl ⟨vs, .of h1, rfl⟩) (okP.sameB c h)
    · exact h.elim
  · exact h.elim

/-! ### subscripts -/
theorem atI_rel {μ : List Addr} {H : Hp} {xs : List W} {vs : List V} {k : Int} {w : W} (r : RWs μ H xs vs) (h : atI xs k = some w) : ∃ v, atI vs k = some v ∧ RW μ H w v := by
  unfold atI at h ⊢
  rw [← r.length]
  cases q : ixN xs.length k with
  | none => rw [q] at h; cases h
  | some j =>
    rw [q] at h
    exact r.get h
theorem ix_ev (hu : X.A.units + 1 < cLine) : IxR X (lift2 X.K itemW) := by
  intro value slice pins s σ H x y v u Q I rx ry h hs
  obtain ⟨μ, M, a, b, E, c, ra, rb, h⟩ := h
  have dict : ∀ (p : Addr) (v' : V), x = .ref p → DGet H p y (some v') → Q v' H → wpAny (model X.prog X.w) X.A (subscriptTail value slice v u) (EP X pins σ Q) X.xe s := fun p v' e g q => by
    subst e
    cases rx
    exact tail_any (dict_typeIs I g) PySem.F.slot_dict_getitem.lookup (d_getItem hu I g ry fun w' s3 I3 rw' => ⟨v', H, I3, rw', q⟩) hs
  unfold itemW at h
  split at h
  · cases rb
    cases ra with
    | tup h1 n1 r1 =>
      obtain ⟨w, e, q⟩ := post_ofO h
      obtain ⟨z, e1, r2⟩ := atI_rel r1 e
      exact ix_tup value slice pins s σ H _ _ v u Q I rx ry ⟨_, _, _, z, rfl, rfl, .frz h1, e1, okP.same c q r2⟩ hs
  · cases rb
    cases ra
    split at h
    · next hz =>
      obtain ⟨w, e, q⟩ := post_ofO h
      obtain ⟨cc, e1, rfl⟩ := Option.map_eq_some_iff.mp e
      exact ix_str value slice pins s σ H _ _ v u Q I rx ry ⟨_, _, cc, rfl, rfl, hz, e1, okP.same c q (.str _)⟩ hs
    · exact h.elim
  · split at h
    · next q1 =>
      split at h
      · cases rb
        obtain ⟨w, e, q⟩ := post_ofO h
        obtain ⟨a1, vs, rfl, _, h1, r1⟩ := c.lst ra q1
        obtain ⟨z, e1, r2⟩ := atI_rel r1 e
        exact ix_list value slice pins s σ H _ _ v u Q I rx ry ⟨_, _, _, z, rfl, rfl, .of h1, e1, okP.same c q r2⟩ hs
      · exact h.elim
    · next q1 =>
      split at h
      · cases rb
        obtain ⟨w, e, q⟩ := post_ofO h
        obtain ⟨a1, vs, rfl, h1, r1⟩ := c.rol ra q1
        obtain ⟨z, e1, r2⟩ := atI_rel r1 e
        exact ix_list value slice pins s σ H _ _ v u Q I rx ry ⟨_, _, _, z, rfl, rfl, h1, e1, okP.same c q r2⟩ hs
      · exact h.elim
    · next q1 =>
      split at h
      · next key hk =>
        obtain ⟨w, e, q⟩ := post_ofO h
        obtain ⟨p, rfl, _, ks, h2, h3⟩ := c.at ra q1
        obtain rfl := rb.of_key hk
        obtain ⟨⟨k', w'⟩, e2, e3⟩ := Option.map_eq_some_iff.mp e
        rcases h3.find key with ⟨x', v', e4, e5, r5⟩ | ⟨e4, _⟩
        · rw [e4] at e2
          cases e2
          cases e3
          exact dict p v' rfl (.inl ⟨ks, key, .inl h2, rfl, e5.symm⟩) (okP.same c q r5)
        · rw [e4] at e2
          cases e2
      · exact h.elim
    · exact h.elim
  · exact h.elim

theorem cut_rel {μ : List Addr} {H : Hp} {xs : List W} {vs : List V} (r : RWs μ H xs vs) (lo hi : Option Int) : RWs μ H (cutW xs lo hi) (cutV vs lo hi) := by
  unfold cutW cutV
  rw [r.length]
  exact (r.drop _).take _
theorem cut_whole {xs : List W} {lo hi : Option Int} (h : HT.sIx xs.length 0 lo = 0 ∧ HT.sIx xs.length xs.length hi = xs.length) : cutW xs lo hi = xs := by
  unfold cutW
  rw [h.1, h.2]
  simp
/-- t[lo:hi], its reading by values -/
def liftSl (K : PySem.W.Frag) : V → Option Int → Option Int → Hp → VK → Prop := fun x lo hi H Q => ∃ μ M a E, CoM K μ M H ∧ RW μ H a x ∧ (sliceW a lo hi M).post (okP K relW μ H Q) E
theorem sl_ev : SlR X (liftSl X.K) := by
  intro pins s σ H x v vl vu lo hi sl Q I rx hs pl pu h
  obtain ⟨μ, M, a, E, c, ra, h⟩ := h
  unfold sliceW at h
  split at h
  · cases ra with
    | tup h1 n1 r1 =>
      refine sl_tupF pins s σ H _ v vl vu lo hi sl Q I rx hs pl pu ⟨_, _, rfl, .frz h1, fun e => ?_, fun _ => ?_⟩
      · rw [← r1.length] at e
        rw [cut_whole e] at h
        exact okP.same c h (.tup h1 n1 r1)
      · exact okP.newT c h (cut_rel r1 lo hi)
  · split at h
    · next q1 =>
      obtain ⟨a1, vs, rfl, _, h1, r1⟩ := c.lst ra q1
      exact sl_list pins s σ H _ v vl vu lo hi sl Q I rx hs pl pu ⟨_, _, rfl, .of h1, fun p hp => okP.newOb c h hp ⟨_, upd_same, (cut_rel r1 lo hi).mono pre1 (.new hp)⟩⟩
    · next q1 =>
      obtain ⟨a1, vs, rfl, h1, r1⟩ := c.rol ra q1
      exact sl_list pins s σ H _ v vl vu lo hi sl Q I rx hs pl pu ⟨_, _, rfl, h1, fun p hp => okP.newOb c h hp ⟨_, upd_same, (cut_rel r1 lo hi).mono pre1 (.new hp)⟩⟩
    · exact h.elim
  · exact h.elim

/-! ### stores -/
/-- an object is written, nothing is told -/
theorem okP.write {K : PySem.W.Frag} {μ : List Addr} {M : Mem} {H : Hp} {α β : Type} {Rel : List Addr → Hp → α → β → Prop} {Q : β → Hp → Prop} {w : α} {v : β} {r : Nat} {a : Addr} {u : HO} {ob ob' : Ob} (c : CoM K μ M H) (hr : M[r]? = some ob) (hs : ob.isRol = false) (hs' : ob'.isRol = false) (ha : μ[r]? = some a)
    (h : okP K Rel μ H Q w (M.set r ob')) (x : Ext H (upd H a u) → RO K μ (upd H a u) a ob') (y : Ext H (upd H a u) → Rel μ (upd H a u) w v) : Q v (upd H a u) := by
  obtain ⟨a', h1, h2⟩ := c.ob r ob hr
  rw [ha] at h1
  cases h1
  obtain ⟨z, hu, hu1, hu2⟩ := h2.there hs
  have ex : Ext H (upd H a u) := .write hu hu1 hu2
  obtain ⟨c1, _⟩ := c.write hr hs hs' ha (x ex)
  exact h μ v (upd H a u) (List.prefix_refl _) ex c1 (y ex)
theorem set_ev (hu : X.A.units + 1 < cLine) : PSet X (lift3 X.K storeW) := by
  intro pins s σ H o i v ov iv u Q I ro ri rv h
  obtain ⟨μ, M, a, b, d, E, c, ra, rb, rd, h⟩ := h
  unfold storeW at h
  split at h
  · next r =>
    split at h
    · next q1 =>
      split at h
      · split at h
        · next j hj =>
          cases rb
          obtain ⟨a1, vs, rfl, h0, h1, r1⟩ := c.lst ra q1
          refine set_list pins s σ H _ _ v ov iv u Q I ro ri rv ⟨_, _, _, j, rfl, rfl, h1, by rw [← r1.length]; exact hj, ?_⟩
          exact okP.write (v := ()) (Q := fun _ H' => Q H') c q1 rfl rfl h0 (post_ok h) (fun ex => ⟨_, upd_same, (RWs.set rd j r1).mono (List.prefix_refl _) ex⟩) fun _ => trivial
        · exact h.elim
      · exact h.elim
    · next q1 =>
      split at h
      · next key hk =>
        split at h
        · next hz =>
          obtain ⟨p, rfl, h0, ks, h2, h3⟩ := c.at ra q1
          obtain rfl := rb.of_key hk
          refine set_dict hu pins s σ H _ _ v ov iv u Q I ro ri rv ⟨p, _, rfl, .inl ⟨ks, key, h2, rfl, by rw [← h3.length]; exact hz, rfl⟩, ?_⟩
          exact okP.write (v := ()) (Q := fun _ H' => Q H') c q1 rfl rfl h0 (post_ok h) (fun ex => ⟨_, upd_same, (h3.put rd).mono (List.prefix_refl _) ex⟩) fun _ => trivial
        · exact h.elim
      · exact h.elim
    · exact h.elim
  · exact h.elim
end
end EV

/-! Ev6: built-in functions and methods by values. -/
namespace EV
open PySem PySem.Spec PyProof.Rows L2

/-! ### two calls that the layer has of lists alone -/
section
variable {prog : Program} {w : World} {A : Around} {E : Value → Shared → Prop} {s : Shared}
theorem preSum_list (ns : List Int) : ∀ j, preSum (fun i => (ns[i]?).getD 0) j = (ns.take j).sum
  | 0 => by simp [preSum]
  | j + 1 => by
    rw [preSum, preSum_list ns j]
    by_cases h : j < ns.length
    · rw [List.take_add_one, List.getElem?_eq_getElem h, List.sum_append]
      simp
    · rw [List.getElem?_eq_none (by omega), List.take_of_length_le (by omega), List.take_of_length_le (by omega)]
      simp
/-- sum of a tuple of ints -/
theorem sum_tup {t : Addr} {its : List Value} {ns : List Int} {Q : Value → Shared → Prop} (hh : A.handled = none) (ht : s.heap.IsTuple t its.toArray) (hi : IntsAre its ns)
    (h : ∀ h' tk t', (∀ b o, s.heap.get? b = some o → h'.get? b = some o) → Q (.int ns.sum t') { s with heap := h', toks := tk }) : wpAny (model prog w) A (call (.builtin "sum") [.ref t]) Q E s := by
  have hlt : t < s.heap.objs.size := by obtain ⟨_, e, _⟩ := ht; exact Heap.lt_size e
  refine call_sum_walkG (wpAny_pyIter_tuple ht ?_)
  refine ⟨s.heap.objs.size, [s.heap.objs.size, t], [s.heap.objs.size], its.toArray.size, _, _, fun i => (ns[i]?).getD 0, rfl, Walks.tuple (A := A.in1) hh s.heap.objs.size t (Nat.ne_of_lt hlt) its.toArray,
    ⟨⟨_, Heap.get?_push_size _ rfl, rfl, rfl⟩, ht.push _⟩, fun b hb => ?_, fun i v e => ?_, fun h' tk t' hk => ?_⟩
  · have hz : (s.heap.push { cls := .type "tuple_iterator", data := .fields #[.ref t, .int 0 0] }).objs.size = s.heap.objs.size + 1 := Heap.size_push _ _
    show b < (s.heap.push { cls := .type "tuple_iterator", data := .fields #[.ref t, .int 0 0] }).objs.size
    rw [hz]
    rcases List.mem_cons.mp hb with rfl | hb
    · exact Nat.lt_succ_self _
    · rcases List.mem_cons.mp hb with rfl | hb
      · exact Nat.lt_succ_of_lt hlt
      · cases hb
  · have e' : its[i]? = some v := by simpa using e
    have hl := hi.length
    have hlt : i < its.length := (List.getElem?_eq_some_iff.mp e').1
    have hn : ns[i]? = some (ns[i]'(by omega)) := List.getElem?_eq_getElem _
    obtain ⟨tk, e2⟩ := hi.get i _ hn
    rw [e'] at e2
    cases e2
    exact ⟨tk, by show Value.int _ tk = Value.int ((ns[i]?).getD 0) tk; rw [hn]; rfl⟩
  · have q := h h' tk t' fun b o e => hk b o (fun z => by
      rcases List.mem_cons.mp z with q | q
      · exact absurd (Heap.lt_size e) (by rw [q]; exact Nat.lt_irrefl _)
      · cases q) (Heap.get?_push_of_some _ e)
    rw [preSum_list, List.take_of_length_le (by rw [List.size_toArray, hi.length]; exact Nat.le_refl _)]
    exact q
end

/-! ### one unit deeper -/
abbrev deep (X : Cx) : Cx := { X with A := X.A.in1 }
theorem Inv.deep {X : Cx} {pins : List (Addr × Obj)} {σ : L2.St} {H : Hp} {s : Shared} (I : L2.Inv X pins σ H s) : L2.Inv (deep X) pins σ H s :=
  ⟨⟨I.ok.mod, I.ok.kind, I.ok.glob, I.ok.blt, I.ok.above, I.ok.inj, I.ok.has, I.ok.cab, I.ok.hd, I.ok.frames, I.ok.stk, I.ok.exf, I.ok.bs, I.ok.bsz, I.ok.noex, I.ok.exfs, I.ok.funs, I.ok.frf⟩,
    I.os, I.bare, I.base, I.loc, I.cell, I.free, I.freeC, I.pin, I.hok, I.len⟩
theorem Inv.undeep {X : Cx} {pins : List (Addr × Obj)} {σ : L2.St} {H : Hp} {s : Shared} (I : L2.Inv (EV.deep X) pins σ H s) : L2.Inv X pins σ H s :=
  ⟨⟨I.ok.mod, I.ok.kind, I.ok.glob, I.ok.blt, I.ok.above, I.ok.inj, I.ok.has, I.ok.cab, I.ok.hd, I.ok.frames, I.ok.stk, I.ok.exf, I.ok.bs, I.ok.bsz, I.ok.noex, I.ok.exfs, I.ok.funs, I.ok.frf⟩,
    I.os, I.bare, I.base, I.loc, I.cell, I.free, I.freeC, I.pin, I.hok, I.len⟩

/-! ### sorting -/
theorem insI_perm (x : Int) : ∀ l : List Int, (insI x l).Perm (x :: l)
  | [] => .refl _
  | y :: ys => by
    unfold insI
    split
    · exact .refl _
    · exact ((insI_perm x ys).cons y).trans (.swap x y ys)
theorem sortI_perm : ∀ l : List Int, (sortI l).Perm l
  | [] => .refl _
  | x :: xs => (insI_perm x (sortI xs)).trans ((sortI_perm xs).cons x)
theorem insI_sorted (x : Int) : ∀ l : List Int, l.Pairwise (· ≤ ·) → (insI x l).Pairwise (· ≤ ·)
  | [], _ => .cons (fun _ h => by cases h) .nil
  | y :: ys, h => by
    unfold insI
    cases h with
    | cons h1 h2 =>
      split
      · next hxy =>
        refine .cons (fun z hz => ?_) (.cons h1 h2)
        rcases List.mem_cons.mp hz with rfl | hz
        · exact hxy
        · exact Int.le_trans hxy (h1 z hz)
      · next hxy =>
        refine .cons (fun z hz => ?_) (insI_sorted x ys h2)
        rcases List.mem_cons.mp ((insI_perm x ys).mem_iff.mp hz) with rfl | hz
        · omega
        · exact h1 z hz
theorem sortI_sorted : ∀ l : List Int, (sortI l).Pairwise (· ≤ ·)
  | [] => .nil
  | x :: xs => insI_sorted x _ (sortI_sorted xs)
theorem sorted_one {l l' : List Int} (p : l.Perm l') (h : l.Pairwise (· ≤ ·)) (h' : l'.Pairwise (· ≤ ·)) : l = l' := p.eq_of_pairwise (fun a b _ _ h1 h2 => Int.le_antisymm h1 h2) h h'

section
variable {X : Cx}
/-- sorted of a list or a tuple of ints -/
theorem sorted_ev : CallR X (.builtin "sorted") (fun xs H Q => ∃ (a : Addr) (ns : List Int), xs = [.ref a] ∧ (SqL X.K H a (ns.map V.int) ∨ SqT X.K H a (ns.map V.int)) ∧ ∀ p, H p = none → Q (.ref p) (upd H p (.lst ((sortI ns).map V.int)))) := by
  intro pins s σ H vs us Q I r h
  obtain ⟨a, ns, rfl, hs, q⟩ := h
  rcases hs with hs | hs
  · refine cr_sortedI pins s σ H _ us Q I r ⟨a, ns, rfl, hs, fun ns' p h1 h2 hp => ?_⟩
    rw [sorted_one (h1.trans (sortI_perm ns).symm) h2 (sortI_sorted ns)]
    exact q p hp
  · obtain ⟨u, rfl, ru⟩ := vals1 r
    cases ru
    obtain ⟨its, rv, ⟨o, ho, hc, n, hd⟩, hz⟩ := I.tuple hs
    have hlen := rv.length
    refine Calls.call_function_entry kind_sorted plain_sorted entry_sorted (args_sorted1 _) ?_
    unfold Builtin.«sorted»
    refine wpAny_bind (m := checkCount "sorted" 1 1 _) (wpAny_pure ?_)
    refine wpAny_bind (wpAny_collect_seq a (.inr rfl) ho hc hd (fun h' kp => ?_) (by rw [List.size_toArray]; omega))
    have I1 : L2.Inv X pins σ H { s with heap := h' } := I.kept (t' := s.toks) kp
    refine wpAny_bind (wpAny_newList ?_ (by simp; omega))
    have I2 := I1.laid (h' := h'.push { cls := .type "list", data := .seq its.toArray }) (a := h'.objs.size) (o := .lst (ns.map V.int)) (t' := s.toks) (fun b u e => Heap.get?_push_of_some _ e) (Nat.le_refl _)
      (show ObjOk X.prog X.w _ _ _ (.lst (ns.map V.int)) from ⟨hz, its, 0, rv, Heap.get?_push_size _ rfl⟩)
    have e0 : H h'.objs.size = none := I1.hok.fresh (Nat.le_refl _)
    refine wpAny_bind (wpAny_holding (wpAny_mono (mt_sortI (X := EV.deep X) pins _ σ _ (.ref h'.objs.size) [] (.ref h'.objs.size) []
      (fun v H' => v = .non ∧ H' = upd H h'.objs.size (.lst ((sortI ns).map V.int))) (Inv.deep I2) rfl .nil ⟨h'.objs.size, ns, rfl, rfl, upd_same, fun ns' h1 h2 => ⟨rfl, ?_⟩⟩) (fun r s' hs => ?_) fun _ _ z => z))
    · rw [sorted_one (h1.trans (sortI_perm ns).symm) h2 (sortI_sorted ns)]
      exact upd_upd
    · obtain ⟨v, H', I3, rr, rfl, rfl⟩ := hs
      exact wpAny_pure ⟨_, rfl, .ref h'.objs.size, _, Inv.undeep I3, rfl, q _ e0⟩

theorem sum_ev (hc : X.calm = true) : CallR X (.builtin "sum") (fun xs H Q => ∃ (a : Addr) (ns : List Int), xs = [.ref a] ∧ (SqL X.K H a (ns.map V.int) ∨ SqT X.K H a (ns.map V.int)) ∧ Q (.int ns.sum) H) := by
  intro pins s σ H vs us Q I r h
  obtain ⟨a, ns, rfl, hs, q⟩ := h
  rcases hs with hs | hs
  · exact cr_sum hc pins s σ H _ us Q I r ⟨a, ns, rfl, hs, q⟩
  · obtain ⟨u, rfl, ru⟩ := vals1 r
    cases ru
    obtain ⟨its, rv, ht, hz⟩ := I.tuple hs
    exact sum_tup (I.ok.hd hc) ht rv.ints fun h' tk t' hk => ⟨.int _, H, I.kept hk, ⟨_, rfl⟩, q⟩

theorem leastI_mem : ∀ (m : Int) (ns : List Int), leastI m ns ∈ m :: ns ∧ ∀ y ∈ m :: ns, leastI m ns ≤ y
  | m, [] => ⟨List.mem_cons_self, fun y h => by rcases List.mem_cons.mp h with rfl | h; exact Int.le_refl _; cases h⟩
  | m, x :: xs => by
    unfold leastI
    obtain ⟨h1, h2⟩ := leastI_mem (if x < m then x else m) xs
    refine ⟨?_, fun y hy => ?_⟩
    · rcases List.mem_cons.mp h1 with h | h
      · rw [h]; split
        · exact List.mem_cons_of_mem _ List.mem_cons_self
        · exact List.mem_cons_self
      · exact List.mem_cons_of_mem _ (List.mem_cons_of_mem _ h)
    · have h3 := h2 (if x < m then x else m) List.mem_cons_self
      rcases List.mem_cons.mp hy with rfl | hy
      · split at h3 <;> split <;> omega
      · rcases List.mem_cons.mp hy with rfl | hy
        · split at h3 <;> split <;> omega
        · exact h2 y (List.mem_cons_of_mem _ hy)
theorem mostI_mem : ∀ (m : Int) (ns : List Int), mostI m ns ∈ m :: ns ∧ ∀ y ∈ m :: ns, y ≤ mostI m ns
  | m, [] => ⟨List.mem_cons_self, fun y h => by rcases List.mem_cons.mp h with rfl | h; exact Int.le_refl _; cases h⟩
  | m, x :: xs => by
    unfold mostI
    obtain ⟨h1, h2⟩ := mostI_mem (if m < x then x else m) xs
    refine ⟨?_, fun y hy => ?_⟩
    · rcases List.mem_cons.mp h1 with h | h
      · rw [h]; split
        · exact List.mem_cons_of_mem _ List.mem_cons_self
        · exact List.mem_cons_self
      · exact List.mem_cons_of_mem _ (List.mem_cons_of_mem _ h)
    · have h3 := h2 (if m < x then x else m) List.mem_cons_self
      rcases List.mem_cons.mp hy with rfl | hy
      · split at h3 <;> split <;> omega
      · rcases List.mem_cons.mp hy with rfl | hy
        · split at h3 <;> split <;> omega
        · exact h2 y (List.mem_cons_of_mem _ hy)

/-- repr of data -/
theorem repr_ev (hg : X.A.guards = some []) (hu : X.A.units + 70 < cLine) : CallR X (.builtin "repr") (fun xs H Q => ∃ (x : V) (d : PyData), xs = [x] ∧ Dp X.K H x d ∧ SeqAt.shaped d = true ∧ d.showable = true ∧ d.shown.length ≤ sizeLine ∧ Q (.str d.shown) H) := by
  intro pins s σ H vs us Q I r h
  obtain ⟨x, d, rfl, hd, hsh, hs, hz, q⟩ := h
  obtain ⟨u, rfl, ru⟩ := vals1 r
  obtain ⟨as, hr⟩ := Dp.reads I d x u hd ru
  have hl : d.canLay0 = true ∧ d.depth ≤ 64 := by
    unfold SeqAt.shaped at hsh
    simpa using hsh
  have hnd := PyData.hasDict_of_canLay d hl.1
  have fin : ∀ (h' : Heap) (u' tk : Tok), (∀ b o, s.heap.get? b = some o → h'.get? b = some o) → EP X pins σ Q (.str d.shown u') { s with heap := h', toks := tk } := fun h' u' tk k => ⟨.str _, H, I.kept k, ⟨_, rfl⟩, q⟩
  cases hr with
  | none => exact PySem.P.repr_of_none ⟨.str _, H, I.tok _, ⟨_, rfl⟩, q⟩
  | bool b => exact PySem.P.repr_of_bool ⟨.str _, H, I.tok _, ⟨_, rfl⟩, q⟩
  | int i t => exact PySem.P.repr_of_int (by simpa [PyData.showable] using hs) ⟨.str _, H, I.tok _, ⟨_, rfl⟩, q⟩
  | str y t => exact PySem.P.repr_of_str ⟨.str _, H, I.tok _, ⟨_, rfl⟩, q⟩ (by simpa [PyData.shown] using hz)
  | list h1 h2 h3 h4 => exact repr_of_reads' (.list h1 h2 h3 h4) hs (PyData.noDict_hsm hnd) hg (by omega) (fun _ _ e => e) (fun h' u' tk k => fin h' u' tk k) hz
  | tuple h1 h2 h3 h4 => exact repr_of_reads' (.tuple h1 h2 h3 h4) hs (PyData.noDict_hsm hnd) hg (by omega) (fun _ _ e => e) (fun h' u' tk k => fin h' u' tk k) hz
  | dict _ _ _ _ _ => simp [PyData.canLay0] at hl
end
end EV

/-! Ev7: each built-in function of the evaluator's, each method. -/
namespace EV
open PySem PySem.Spec PyProof.Rows L2
def biV : Bi → Value
  | .len => .builtin "len" | .abs => .builtin "abs" | .int => .type "int" | .bool => .type "bool" | .min => .builtin "min" | .max => .builtin "max" | .list => .type "list" | .tuple => .type "tuple"
  | .sum => .builtin "sum" | .sorted => .builtin "sorted" | .all => .builtin "all" | .any => .builtin "any" | .divmod => .builtin "divmod" | .str => .type "str" | .repr => .builtin "repr"
def biN : Bi → Str
  | .len => "len" | .abs => "abs" | .int => "int" | .bool => "bool" | .min => "min" | .max => "max" | .list => "list" | .tuple => "tuple"
  | .sum => "sum" | .sorted => "sorted" | .all => "all" | .any => "any" | .divmod => "divmod" | .str => "str" | .repr => "repr"
theorem biBoot (b : Bi) : bootBuiltins (biN b) = some (biV b) := by cases b <;> decide +kernel
theorem biName (b : Bi) : biN b ≠ "__name__" := by cases b <;> decide +kernel
theorem biDebug (b : Bi) : (biN b == ("__debug__" : Str)) = false := by cases b <;> decide +kernel

section
variable {μ : List Addr} {H : Hp}
theorem RWs.one {xs : List V} {w : W} (r : RWs μ H [w] xs) : ∃ v, xs = [v] ∧ RW μ H w v := by
  cases r with
  | cons h t => cases t; exact ⟨_, rfl, h⟩
theorem RWs.two {xs : List V} {w z : W} (r : RWs μ H [w, z] xs) : ∃ v u, xs = [v, u] ∧ RW μ H w v ∧ RW μ H z u := by
  cases r with
  | cons h t =>
    obtain ⟨u, rfl, h2⟩ := t.one
    exact ⟨_, u, rfl, h, h2⟩
end
theorem CoM.seqI {K : PySem.W.Frag} {μ : List Addr} {M : Mem} {H : Hp} {w : W} {v : V} {xs : List W} {ns : List Int} (c : CoM K μ M H) (h : RW μ H w v) (e : seqW M w = some xs) (e2 : mapO toInt xs = some ns) :
    ∃ a, v = .ref a ∧ (SqL K H a (ns.map V.int) ∨ SqT K H a (ns.map V.int)) := by
  obtain ⟨a, vs, h1, h2, h3⟩ := c.seq h e
  obtain rfl := h2.of_ints e2
  rcases h3 with ⟨h3, _⟩ | ⟨h3, _⟩
  · exact ⟨a, h1, .inl h3⟩
  · exact ⟨a, h1, .inr h3⟩

section
variable {X : Cx}
theorem bi_ev (hc : X.calm = true) (hg : X.A.guards = some []) (hu : X.A.units + 70 < cLine) (b : Bi) : CallR X (biV b) (liftN X.K (biW b)) := by
  intro pins s σ H xs us Q I r h
  obtain ⟨μ, M, as, E, c, ra, h⟩ := h
  unfold biW at h
  cases b with
  | len =>
    simp only at h
    split at h
    · obtain ⟨v, rfl, r1⟩ := ra.one
      cases r1
      split at h
      · next hz => exact call_len_str pins s σ H _ us Q I r ⟨_, rfl, hz, okP.same c h (.int _)⟩
      · exact h.elim
    · obtain ⟨v, rfl, r1⟩ := ra.one
      cases r1 with
      | tup h1 n1 r2 =>
        rw [r2.length] at h
        exact call_len_seq pins s σ H _ us Q I r ⟨_, _, rfl, .inr (.frz h1), okP.same c h (.int _)⟩
    · obtain ⟨v, rfl, r1⟩ := ra.one
      split at h
      · next q1 =>
        obtain ⟨a1, vs, rfl, _, h1, r2⟩ := c.lst r1 q1
        rw [r2.length] at h
        exact call_len_seq pins s σ H _ us Q I r ⟨_, _, rfl, .inl (.of h1), okP.same c h (.int _)⟩
      · next q1 =>
        obtain ⟨a1, vs, rfl, h1, r2⟩ := c.rol r1 q1
        rw [r2.length] at h
        exact call_len_seq pins s σ H _ us Q I r ⟨_, _, rfl, .inl h1, okP.same c h (.int _)⟩
      · next q1 =>
        obtain ⟨a1, rfl, _, ks, h1, r2⟩ := c.at r1 q1
        rw [r2.length] at h
        exact call_lenD pins s σ H _ us Q I r ⟨_, _, rfl, h1, okP.same c h (.int _)⟩
      · exact h.elim
    · exact h.elim
  | abs =>
    simp only at h
    split at h
    · obtain ⟨v, rfl, r1⟩ := ra.one
      cases r1
      exact call_abs pins s σ H _ us Q I r ⟨_, rfl, okP.same c h (.int _)⟩
    · exact h.elim
  | int =>
    simp only at h
    split at h
    · obtain ⟨v, rfl, r1⟩ := ra.one
      cases r1
      exact call_int1 pins s σ H _ us Q I r (.inl ⟨_, rfl, okP.same c h (.int _)⟩)
    · obtain ⟨v, rfl, r1⟩ := ra.one
      cases r1
      exact call_int1 pins s σ H _ us Q I r (.inr ⟨_, rfl, okP.same c h (.int _)⟩)
    · exact h.elim
  | bool =>
    simp only at h
    split at h
    · obtain ⟨v, rfl, r1⟩ := ra.one
      cases r1
      exact call_bool1 pins s σ H _ us Q I r (.inl ⟨_, rfl, okP.same c h (.bl _)⟩)
    · obtain ⟨v, rfl, r1⟩ := ra.one
      cases r1
      exact call_bool1 pins s σ H _ us Q I r (.inr ⟨_, rfl, okP.same c h (.bl _)⟩)
    · exact h.elim
  | min =>
    simp only at h
    split at h
    · obtain ⟨v, u, rfl, r1, r2⟩ := ra.two
      cases r1
      cases r2
      exact call_min2 hc pins s σ H _ us Q I r ⟨_, _, rfl, okP.same c h (.int _)⟩
    · obtain ⟨v, rfl, r1⟩ := ra.one
      split at h
      · next q1 =>
        split at h
        · next n ns q2 =>
          obtain ⟨a1, vs, rfl, _, h1, r2⟩ := c.lst r1 q1
          obtain rfl := r2.of_ints q2
          refine cr_min hc pins s σ H _ us Q I r ⟨_, n :: ns, rfl, .of h1, Nat.zero_lt_succ _, fun m h2 h3 => ?_⟩
          obtain ⟨h4, h5⟩ := leastI_mem n ns
          have e : m = leastI n ns := Int.le_antisymm (h3 _ h4) (h5 _ h2)
          rw [e]
          exact okP.same c h (.int _)
        · exact h.elim
      · exact h.elim
    · exact h.elim
  | max =>
    simp only at h
    split at h
    · obtain ⟨v, u, rfl, r1, r2⟩ := ra.two
      cases r1
      cases r2
      exact call_max2 hc pins s σ H _ us Q I r ⟨_, _, rfl, okP.same c h (.int _)⟩
    · obtain ⟨v, rfl, r1⟩ := ra.one
      split at h
      · next q1 =>
        split at h
        · next n ns q2 =>
          obtain ⟨a1, vs, rfl, _, h1, r2⟩ := c.lst r1 q1
          obtain rfl := r2.of_ints q2
          refine cr_max hc pins s σ H _ us Q I r ⟨_, n :: ns, rfl, .of h1, Nat.zero_lt_succ _, fun m h2 h3 => ?_⟩
          obtain ⟨h4, h5⟩ := mostI_mem n ns
          have e : m = mostI n ns := Int.le_antisymm (h5 _ h2) (h3 _ h4)
          rw [e]
          exact okP.same c h (.int _)
        · exact h.elim
      · exact h.elim
    · exact h.elim
  | list =>
    simp only at h
    split at h
    · obtain ⟨v, rfl, r1⟩ := ra.one
      cases r1 with
      | tup h1 n1 r2 => exact call_list_of pins s σ H _ us Q I r ⟨_, _, rfl, .inr (.frz h1), fun p hp => okP.newOb c h hp ⟨_, upd_same, r2.mono pre1 (.new hp)⟩⟩
    · obtain ⟨v, rfl, r1⟩ := ra.one
      split at h
      · next q1 =>
        obtain ⟨a1, vs, rfl, _, h1, r2⟩ := c.lst r1 q1
        exact call_list_of pins s σ H _ us Q I r ⟨_, _, rfl, .inl (.of h1), fun p hp => okP.newOb c h hp ⟨_, upd_same, r2.mono pre1 (.new hp)⟩⟩
      · next q1 =>
        obtain ⟨a1, vs, rfl, h1, r2⟩ := c.rol r1 q1
        exact call_list_of pins s σ H _ us Q I r ⟨_, _, rfl, .inl h1, fun p hp => okP.newOb c h hp ⟨_, upd_same, r2.mono pre1 (.new hp)⟩⟩
      · exact h.elim
    · exact h.elim
  | tuple =>
    simp only at h
    split at h
    · obtain ⟨v, rfl, r1⟩ := ra.one
      cases r1 with
      | tup h1 n1 r2 => exact call_tupleF pins s σ H _ us Q I r ⟨_, _, rfl, .inr ⟨.frz h1, okP.same c h (.tup h1 n1 r2)⟩⟩
    · obtain ⟨v, rfl, r1⟩ := ra.one
      split at h
      · next q1 =>
        obtain ⟨a1, vs, rfl, _, h1, r2⟩ := c.lst r1 q1
        exact call_tupleF pins s σ H _ us Q I r ⟨_, _, rfl, .inl ⟨.of h1, okP.newT c h r2⟩⟩
      · next q1 =>
        obtain ⟨a1, vs, rfl, h1, r2⟩ := c.rol r1 q1
        exact call_tupleF pins s σ H _ us Q I r ⟨_, _, rfl, .inl ⟨h1, okP.newT c h r2⟩⟩
      · exact h.elim
    · exact h.elim
  | sum =>
    simp only at h
    split at h
    · obtain ⟨v, rfl, r1⟩ := ra.one
      split at h
      · next q1 =>
        split at h
        · next ns q2 =>
          obtain ⟨a, rfl, h1⟩ := c.seqI r1 q1 q2
          exact sum_ev hc pins s σ H _ us Q I r ⟨a, ns, rfl, h1, okP.same c h (.int _)⟩
        · exact h.elim
      · exact h.elim
    · exact h.elim
  | sorted =>
    simp only at h
    split at h
    · obtain ⟨v, rfl, r1⟩ := ra.one
      split at h
      · next q1 =>
        split at h
        · next ns q2 =>
          obtain ⟨a, rfl, h1⟩ := c.seqI r1 q1 q2
          exact sorted_ev pins s σ H _ us Q I r ⟨a, ns, rfl, h1, fun p hp => okP.newOb c h hp ⟨_, upd_same, RWs.ints _⟩⟩
        · exact h.elim
      · exact h.elim
    · exact h.elim
  | all =>
    simp only at h
    split at h
    · obtain ⟨v, rfl, r1⟩ := ra.one
      split at h
      · next q1 =>
        split at h
        · next q2 =>
          obtain ⟨a1, vs, rfl, _, h1, r2⟩ := c.lst r1 q1
          obtain rfl := r2.of_bools q2
          exact cr_all hc pins s σ H _ us Q I r ⟨_, _, rfl, .of h1, okP.same c h (.bl _)⟩
        · exact h.elim
      · exact h.elim
    · exact h.elim
  | any =>
    simp only at h
    split at h
    · obtain ⟨v, rfl, r1⟩ := ra.one
      split at h
      · next q1 =>
        split at h
        · next q2 =>
          obtain ⟨a1, vs, rfl, _, h1, r2⟩ := c.lst r1 q1
          obtain rfl := r2.of_bools q2
          exact cr_any hc pins s σ H _ us Q I r ⟨_, _, rfl, .of h1, okP.same c h (.bl _)⟩
        · exact h.elim
      · exact h.elim
    · exact h.elim
  | divmod =>
    simp only at h
    split at h
    · obtain ⟨v, u, rfl, r1, r2⟩ := ra.two
      cases r1
      cases r2
      split at h
      · next hz => exact call_divmodF pins s σ H _ us Q I r ⟨_, _, rfl, hz, okP.newT c h (.cons (.int _) (.cons (.int _) .nil))⟩
      · exact h.elim
    · exact h.elim
  | str =>
    simp only at h
    split at h
    · obtain ⟨v, rfl, r1⟩ := ra.one
      cases r1
      split at h
      · next hz => exact call_str_int pins s σ H _ us Q I r ⟨_, rfl, hz, okP.same c h (.str _)⟩
      · exact h.elim
    · obtain ⟨v, rfl, r1⟩ := ra.one
      cases r1
      exact SkE.call_str_str pins s σ H _ us Q I r ⟨_, rfl, okP.same c h (.str _)⟩
    · exact h.elim
  | repr =>
    simp only at h
    split at h
    · obtain ⟨v, rfl, r1⟩ := ra.one
      split at h
      · next d q1 =>
        split at h
        · next hz =>
          obtain ⟨d1, s1⟩ := dataW_dp c r1 q1
          exact repr_ev hg hu pins s σ H _ us Q I r ⟨v, d, rfl, d1, s1, hz.1, hz.2, okP.same c h (.str _)⟩
        · exact h.elim
      · exact h.elim
    · exact h.elim

/-! ### isinstance -/
theorem isi_ty {K : PySem.W.Frag} {μ : List Addr} {M : Mem} {H : Hp} {w : W} {v : V} {t : String} (c : CoM K μ M H) (r : RW μ H w v) (e : tyW M w = some t) : TyX K H v (.type t) := by
  cases w with
  | non => cases r; cases e; exact .base .non
  | bl b => cases r; cases e; exact .base (.bl b)
  | int i => cases r; cases e; exact .base (.int i)
  | str x => cases r; cases e; exact .base (.str x)
  | tup xs =>
    cases e
    cases r with
    | tup h1 _ _ => exact .fTuple h1
  | ref n =>
    simp only [tyW] at e
    split at e
    · next q =>
      cases e
      obtain ⟨a1, vs, rfl, _, h1, r2⟩ := c.lst r q
      exact .base (.lst h1)
    · next q =>
      cases e
      obtain ⟨a1, rfl, _, ks, h1, _⟩ := c.at r q
      exact .base (.dK h1)
    · cases e
def isiBoth : List (String × String) := ["NoneType", "bool", "int", "str", "tuple", "list", "dict"].flatMap fun a => ["int", "bool", "str", "tuple", "list"].map fun b => (a, b)
theorem isi_all : isiBoth.all (fun p => decide (kitB p.1 p.2 = some (p.1 == p.2 || (p.1 == "bool" && p.2 == "int")))) = true := by decide +kernel
theorem tyW_mem {M : Mem} {w : W} {t : String} (e : tyW M w = some t) : t ∈ ["NoneType", "bool", "int", "str", "tuple", "list", "dict"] := by
  cases w with
  | ref n =>
    simp only [tyW] at e
    split at e <;> cases e <;> decide
  | _ => cases e; decide
theorem isi_kit {M : Mem} {w : W} {t ty : String} {b : Bool} (e : tyW M w = some ty) (h : isiW t M w = some b) : kitB ty t = some b := by
  unfold isiW at h
  rw [e] at h
  simp only at h
  split at h
  · next ht =>
    cases h
    have m : (ty, t) ∈ isiBoth := by
      unfold isiBoth
      exact List.mem_flatMap.mpr ⟨ty, tyW_mem e, List.mem_map.mpr ⟨t, ht, rfl⟩⟩
    exact of_decide_eq_true (List.all_eq_true.mp isi_all _ m)
  · cases h
theorem isi_ev {pins : List (Addr × Obj)} {s : Shared} {σ : L2.St} {H : Hp} {x : V} {us : List Value} {Q : VK} {μ : List Addr} {M : Mem} {a : W} {t : String} {b : Bool} (I : L2.Inv X pins σ H s) (c : CoM X.K μ M H) (ra : RW μ H a x)
    (r : Vals [x, .ty t] us) (e : isiW t M a = some b) (q : Q (.bl b) H) : wpAny (model X.prog X.w) X.A (call (.builtin "isinstance") us) (EP X pins σ Q) X.xe s := by
  have e0 := e
  unfold isiW at e0
  cases h : tyW M a with
  | none => rw [h] at e0; cases e0
  | some ty => exact call_isi pins s σ H _ us Q I r ⟨x, .ty t, .type ty, .type t, b, rfl, .ty t, isi_ty c ra h, kit_ty (isi_kit h e), q⟩
end
end EV

/-! Ev8: methods of built-in types by values. -/
namespace EV
open PySem PySem.Spec PyProof.Rows L2
def mtN : Mt → Str
  | .append => "append" | .pop => "pop" | .extend => "extend" | .remove => "remove" | .index => "index" | .count => "count" | .get => "get" | .setdefault => "setdefault"
  | .join => "join" | .split => "split" | .upper => "upper" | .isdigit => "isdigit"
/-- the method of a type -/
structure MtOf (ty : String) (name : Str) (id : String) : Prop where
  pa : PlainAttrs ty
  slot : Slot ty name id
  ty : typeOf (.builtin id) = pure (.type "method_descriptor")
section
variable {X : Cx} {pins : List (Addr × Obj)} {σ : L2.St} {H : Hp} {s : Shared} {μ : List Addr} {M : Mem}
theorem ty_is {w : W} {v : V} {u : Value} {t : String} (I : L2.Inv X pins σ H s) (c : CoM X.K μ M H) (r : RW μ H w v) (rv : RelV v u) (e : tyW M w = some t) (h : t ≠ "NoneType" ∧ t ≠ "bool" ∧ t ≠ "int") :
    s.TypeIs u t ∧ ∀ a, u = .ref a → ∃ ob, s.heap.get? a = some ob ∧ ob.dict = none := by
  cases w with
  | non => cases e; exact absurd rfl h.1
  | bl b => cases e; exact absurd rfl h.2.1
  | int i => cases e; exact absurd rfl h.2.2
  | str x => cases e; cases r; exact tyV_is (T := "str") I rv rfl
  | tup xs =>
    cases e
    cases r with
    | tup h1 hn _ =>
      cases rv
      obtain ⟨h2, _, its, _, ob, h3, h4, _⟩ := I.hok _ _ h1
      rw [h2] at h3
      cases h3
      exact ⟨⟨_, h2, h4⟩, fun a z => by cases z; exact ⟨_, h2, hn⟩⟩
  | ref n =>
    simp only [tyW] at e
    split at e
    · next q =>
      cases e
      obtain ⟨a1, vs, rfl, _, h1, r2⟩ := c.lst r q
      exact tyV_is (T := "list") I rv (.inl ⟨rfl, _, .of h1⟩)
    · next q =>
      cases e
      obtain ⟨a1, rfl, _, ks, h1, _⟩ := c.at r q
      exact tyV_is (T := "dict") I rv (.inr (.inr (.inl ⟨rfl, .inl ⟨_, h1⟩⟩)))
    · cases e
end
theorem listAt_some {M : Mem} {o : W} {r : Nat} {xs : List W} (h : listAt M o = some (r, xs)) : o = .ref r ∧ M[r]? = some (.lst xs) := by
  unfold listAt at h
  split at h
  · split at h
    · next q => cases h; exact ⟨rfl, q⟩
    · cases h
  · cases h
theorem RWs.last {μ : List Addr} {H : Hp} : ∀ {xs : List W} {us : List V}, RWs μ H xs us → RWs μ H xs.dropLast us.dropLast := fun {xs us} r => by
  rw [List.dropLast_eq_take, List.dropLast_eq_take, ← r.length]
  exact r.take _
theorem RWs.erase {μ : List Addr} {H : Hp} : ∀ {xs : List W} {us : List V} (i : Nat), RWs μ H xs us → RWs μ H (xs.eraseIdx i) (us.eraseIdx i)
  | _, _, _, .nil => .nil
  | _, _, 0, .cons _ t => t
  | _, _, i + 1, .cons r t => .cons r (RWs.erase i t)
theorem erase_idx {ns : List Int} {i : Int} (h : i ∈ ns) : ∃ j : Nat, ns[j]? = some i ∧ (∀ m : Nat, m < j → ns[m]? ≠ some i) ∧ ns.eraseIdx j = ns.erase i := by
  induction ns with
  | nil => cases h
  | cons n ns ih =>
    by_cases e : n = i
    · subst e
      exact ⟨0, rfl, fun m hm => absurd hm (Nat.not_lt_zero _), by simp⟩
    · have h' : i ∈ ns := by
        rcases List.mem_cons.mp h with q | q
        · exact absurd q.symm e
        · exact q
      obtain ⟨j, h1, h2, h3⟩ := ih h'
      refine ⟨j + 1, by simpa using h1, fun m hm => ?_, ?_⟩
      · cases m with
        | zero => simpa using e
        | succ m => simpa using h2 m (by omega)
      · rw [List.eraseIdx_cons_succ, h3, List.erase_cons_tail (by simpa using e)]
theorem plain_shaped {d : PyData} (h : SeqAt.shaped d = true) : d.plain = true ∧ d.depth ≤ 64 := by
  unfold SeqAt.shaped at h
  rw [Bool.and_eq_true] at h
  exact ⟨PyData.plain_of_canLay0 d h.1, of_decide_eq_true h.2⟩
section
variable {X : Cx} {pins : List (Addr × Obj)} {σ : L2.St} {H : Hp} {s : Shared}
theorem count_l {x y : V} {v : Value} {us : List Value} {Q : VK} {d : PyData} {ds : List PyData} (hu : X.A.units + 70 < cLine) (I : L2.Inv X pins σ H s) (d2 : Dp X.K H x (.list ds)) (d1 : Dp X.K H y d) (s2 : SeqAt.shaped (.list ds) = true) (s1 : SeqAt.shaped d = true)
    (rx : RelV x v) (rxs : Vals [y] us) (q : Q (.int ((ds.countP fun z => PyData.eqv z d : Nat) : Int)) H) : wpAny (model X.prog X.w) X.A (call (.builtin "list.count") (v :: us)) (EP X pins σ Q) X.xe s := by
  obtain ⟨u, rfl, ru⟩ := vals1 rxs
  obtain ⟨bs, r1⟩ := Dp.reads I d y u d1 ru
  obtain ⟨p1, z1⟩ := plain_shaped s1
  obtain ⟨p2, z2⟩ := plain_shaped s2
  cases d2 with
  | lst hs ha =>
    cases rx
    obtain ⟨its, rv, pl, hlen⟩ := I.list hs
    obtain ⟨as, h4⟩ := Dp.readsAll I ds _ its ha rv
    exact PySem.SeqAt.count_list_data pl.isList (by simpa using h4) r1 (by simpa [PyData.plain] using p2) p1 (by omega) ⟨.int _, H, I.tok _, ⟨_, rfl⟩, q⟩
theorem count_t {x y : V} {v : Value} {us : List Value} {Q : VK} {d : PyData} {ds : List PyData} (hu : X.A.units + 70 < cLine) (I : L2.Inv X pins σ H s) (d2 : Dp X.K H x (.tuple ds)) (d1 : Dp X.K H y d) (s2 : SeqAt.shaped (.tuple ds) = true) (s1 : SeqAt.shaped d = true)
    (rx : RelV x v) (rxs : Vals [y] us) (q : Q (.int ((ds.countP fun z => PyData.eqv z d : Nat) : Int)) H) : wpAny (model X.prog X.w) X.A (call (.builtin "tuple.count") (v :: us)) (EP X pins σ Q) X.xe s := by
  obtain ⟨u, rfl, ru⟩ := vals1 rxs
  obtain ⟨bs, r1⟩ := Dp.reads I d y u d1 ru
  obtain ⟨p1, z1⟩ := plain_shaped s1
  obtain ⟨p2, z2⟩ := plain_shaped s2
  cases d2 with
  | tup hs ha =>
    cases rx
    obtain ⟨its, rv, pl, hlen⟩ := I.tuple hs
    obtain ⟨as, h4⟩ := Dp.readsAll I ds _ its ha rv
    exact PySem.SeqAt.count_tuple_data pl (by simpa using h4) r1 (by simpa [PyData.plain] using p2) p1 (by omega) ⟨.int _, H, I.tok _, ⟨_, rfl⟩, q⟩
end
section
variable {X : Cx}
/-- what a method of the evaluator's asks of the machine: which built-in, and its rule -/
theorem mt_ev (hu : X.A.units + 70 < cLine) (m : Mt) (ty : String)
    (hx : (m, ty) ∈ mtAll) :
    ∃ id, MtOf ty (mtN m) id ∧ MtR X id (liftM X.K (mtW ty m)) := by
  simp only [mtAll, List.mem_cons, Prod.mk.injEq, List.mem_nil_iff, or_false] at hx
  rcases hx with ⟨rfl, rfl⟩ | ⟨rfl, rfl⟩ | ⟨rfl, rfl⟩ | ⟨rfl, rfl⟩ | ⟨rfl, rfl⟩ | ⟨rfl, rfl⟩ | ⟨rfl, rfl⟩ | ⟨rfl, rfl⟩ | ⟨rfl, rfl⟩ | ⟨rfl, rfl⟩ | ⟨rfl, rfl⟩ | ⟨rfl, rfl⟩ | ⟨rfl, rfl⟩
  · refine ⟨_, ⟨F.plainAttrs_list, F.slot_list_append, F.type_list_append⟩, ?_⟩
    intro pins s σ H x xs v us Q I rx rxs h
    obtain ⟨μ, M, a, as, E, c, ra, ras, h⟩ := h
    unfold mtW at h
    simp only at h
    split at h
    · next r ys w q =>
      obtain ⟨rfl, q1⟩ := listAt_some q
      split at h
      · next hz =>
        obtain ⟨a1, vs, rfl, h0, h1, r1⟩ := c.lst ra q1
        obtain ⟨u, rfl, r2⟩ := ras.one
        have l1 := r1.length
        refine mt_append pins s σ H _ _ v us Q I rx rxs ⟨_, _, _, rfl, rfl, h1, by have := hz.1; omega, ?_⟩
        exact okP.write (v := V.non) c q1 rfl rfl h0 (post_ok h) (fun ex => ⟨_, upd_same, (r1.append (.cons r2 .nil)).mono (List.prefix_refl _) ex⟩) fun _ => (RW.non : RW _ _ _ _)
      · exact h.elim
    · exact h.elim
  · refine ⟨_, ⟨F.plainAttrs_list, F.slot_list_pop, F.type_list_pop⟩, ?_⟩
    intro pins s σ H x xs v us Q I rx rxs h
    obtain ⟨μ, M, a, as, E, c, ra, ras, h⟩ := h
    unfold mtW at h
    simp only [if_true] at h
    split at h
    · next r ys q =>
      obtain ⟨rfl, q1⟩ := listAt_some q
      split at h
      · next y hy =>
        obtain ⟨a1, vs, rfl, h0, h1, r1⟩ := c.lst ra q1
        cases ras
        rw [r1.length] at hy
        obtain ⟨z, hz, rz⟩ := r1.get hy
        refine mt_pop pins s σ H _ _ v us Q I rx rxs ⟨_, _, z, rfl, rfl, h1, hz, ?_⟩
        exact okP.write c q1 rfl rfl h0 (post_ok h) (fun ex => ⟨_, upd_same, r1.last.mono (List.prefix_refl _) ex⟩) fun ex => rz.mono (List.prefix_refl _) ex
      · exact h.elim
    · next r ys i q =>
      obtain ⟨rfl, q1⟩ := listAt_some q
      split at h
      · next j hj =>
        split at h
        · next y hy =>
          obtain ⟨a1, vs, rfl, h0, h1, r1⟩ := c.lst ra q1
          obtain ⟨u, rfl, r2⟩ := ras.one
          cases r2
          obtain ⟨z, hz, rz⟩ := r1.get hy
          obtain ⟨k1, k2, k3, k4⟩ := ixN_seq hj
          obtain ⟨_, _, _, hsz⟩ := I.list (SqL.of h1)
          have l1 := r1.length
          have l63 := line63
          refine mt_popAt pins s σ H _ _ v us Q I rx rxs ⟨_, _, _, j, z, rfl, rfl, h1, by omega, by omega, by rw [← l1]; exact k1, hz, ?_⟩
          exact okP.write c q1 rfl rfl h0 (post_ok h) (fun ex => ⟨_, upd_same, (r1.erase j).mono (List.prefix_refl _) ex⟩) fun ex => rz.mono (List.prefix_refl _) ex
        · exact h.elim
      · exact h.elim
    · exact h.elim
  · refine ⟨_, ⟨F.plainAttrs_list, F.slot_list_extend, F.type_list_extend⟩, ?_⟩
    intro pins s σ H x xs v us Q I rx rxs h
    obtain ⟨μ, M, a, as, E, c, ra, ras, h⟩ := h
    unfold mtW at h
    simp only [if_true] at h
    split at h
    · next r ys w q =>
      obtain ⟨rfl, q1⟩ := listAt_some q
      split at h
      · next r' zs q' =>
        obtain ⟨rfl, q2⟩ := listAt_some q'
        split at h
        · next hz =>
          obtain ⟨a1, vs, rfl, h0, h1, r1⟩ := c.lst ra q1
          obtain ⟨u, rfl, r2⟩ := ras.one
          obtain ⟨a2, vs2, rfl, _, h2, r3⟩ := c.lst r2 q2
          have l1 := r1.length
          have l2 := r3.length
          refine mt_extend pins s σ H _ _ v us Q I rx rxs ⟨_, _, _, _, rfl, rfl, h1, h2, by omega, ?_⟩
          exact okP.write (v := V.non) c q1 rfl rfl h0 (post_ok h) (fun ex => ⟨_, upd_same, (r1.append r3).mono (List.prefix_refl _) ex⟩) fun _ => (RW.non : RW _ _ _ _)
        · exact h.elim
      · exact h.elim
    · exact h.elim
  · refine ⟨_, ⟨F.plainAttrs_list, F.slot_list_remove, F.type_list_remove⟩, ?_⟩
    intro pins s σ H x xs v us Q I rx rxs h
    obtain ⟨μ, M, a, as, E, c, ra, ras, h⟩ := h
    unfold mtW at h
    simp only [if_true] at h
    split at h
    · next r ys i q =>
      obtain ⟨rfl, q1⟩ := listAt_some q
      split at h
      · next ns hn =>
        split at h
        · next hi =>
          obtain ⟨a1, vs, rfl, h0, h1, r1⟩ := c.lst ra q1
          obtain ⟨u, rfl, r2⟩ := ras.one
          cases r2
          obtain rfl := r1.of_ints hn
          obtain ⟨j, j1, j2, j3⟩ := erase_idx hi
          refine mt_remove pins s σ H _ _ v us Q I rx rxs ⟨_, ns, i, j, rfl, rfl, h1, j1, j2, ?_⟩
          rw [j3]
          exact okP.write (v := V.non) c q1 rfl rfl h0 (post_ok h) (fun ex => ⟨_, upd_same, RWs.ints _⟩) fun _ => (RW.non : RW _ _ _ _)
        · exact h.elim
      · exact h.elim
    · exact h.elim
  · refine ⟨_, ⟨F.plainAttrs_list, F.slot_list_count, F.type_list_count⟩, ?_⟩
    intro pins s σ H x xs v us Q I rx rxs h
    obtain ⟨μ, M, a, as, E, c, ra, ras, h⟩ := h
    unfold mtW at h
    simp only [if_true] at h
    split at h
    · obtain ⟨u, rfl, ru⟩ := ras.one
      split at h
      · next d ds h1 h2 =>
        obtain ⟨d1, s1⟩ := dataW_dp c ru h1
        obtain ⟨d2, s2⟩ := dataW_dp c ra h2
        exact count_l hu I d2 d1 s2 s1 rx rxs (okP.same c h (.int _))
      · rw [if_neg (by decide)] at h; exact h.elim
      · exact h.elim
    · exact h.elim
  · refine ⟨_, ⟨F.plainAttrs_tuple, F.slot_tuple_count, F.type_tuple_count⟩, ?_⟩
    intro pins s σ H x xs v us Q I rx rxs h
    obtain ⟨μ, M, a, as, E, c, ra, ras, h⟩ := h
    unfold mtW at h
    simp only [if_true] at h
    split at h
    · obtain ⟨u, rfl, ru⟩ := ras.one
      split at h
      · rw [if_neg (by decide)] at h; exact h.elim
      · next d ds h1 h2 =>
        obtain ⟨d1, s1⟩ := dataW_dp c ru h1
        obtain ⟨d2, s2⟩ := dataW_dp c ra h2
        exact count_t hu I d2 d1 s2 s1 rx rxs (okP.same c h (.int _))
      · exact h.elim
    · exact h.elim
  · refine ⟨_, ⟨F.plainAttrs_list, F.slot_list_index, F.type_list_index⟩, ?_⟩
    intro pins s σ H x xs v us Q I rx rxs h
    obtain ⟨μ, M, a, as, E, c, ra, ras, h⟩ := h
    unfold mtW at h
    simp only [show ("list" = "tuple") = False from eq_false (by decide), if_false, if_true] at h
    split at h
    · obtain ⟨u, rfl, ru⟩ := ras.one
      split at h
      · next d ds h1 h2 =>
        split at h
        · next j hj =>
          obtain ⟨d1, s1⟩ := dataW_dp c ru h1
          obtain ⟨d2, s2⟩ := dataW_dp c ra h2
          have hd2 := d2
          cases d2 with
          | lst hs ha =>
            obtain ⟨hj1, hj2, hj3⟩ := List.findIdx?_eq_some_iff_getElem.mp hj
            refine mt_indexD (by omega) pins s σ H _ _ v us Q I rx rxs ⟨_, u, d, ds, j, ds[j], rfl, rfl, hd2, d1, s2, s1, List.getElem?_eq_getElem hj1, hj2, fun m z' hm hz => ?_, okP.same c h (.int _)⟩
            have hml : m < ds.length := by omega
            rw [List.getElem?_eq_getElem hml] at hz
            cases hz
            have := hj3 m hm
            simpa using this
        · exact h.elim
      · exact h.elim
    · exact h.elim
  · refine ⟨_, ⟨F.plainAttrs_dict, F.slot_dict_get, F.type_dict_get⟩, ?_⟩
    intro pins s σ H x xs v us Q I rx rxs h
    obtain ⟨μ, M, a, as, E, c, ra, ras, h⟩ := h
    unfold mtW at h
    simp only [if_true] at h
    split at h
    · next r =>
      split at h
      · next kvs q1 =>
        obtain ⟨p, rfl, _, ks, h2, h3⟩ := c.at ra q1
        cases rx
        split at h
        · split at h
          · next key hk =>
            obtain ⟨u, rfl, ru⟩ := ras.one
            obtain rfl := ru.of_key hk
            obtain ⟨u1, rfl, r1⟩ := vals1 rxs
            have g : DGet H p (kV key) (valV ks key) := .inl ⟨ks, key, .inl h2, rfl, rfl⟩
            refine d_get1 (by omega) I g r1 fun w' s' I' rw' => ⟨_, H, I', rw', ?_⟩
            rcases h3.find key with ⟨x', v', e4, e5, r5⟩ | ⟨e4, e5⟩
            · rw [e4] at h
              rw [e5]
              exact okP.same c h r5
            · rw [e4] at h
              rw [e5]
              exact okP.same c h .non
          · exact h.elim
        · split at h
          · next key hk =>
            obtain ⟨u, z, rfl, ru, rz⟩ := ras.two
            obtain rfl := ru.of_key hk
            obtain ⟨u1, u2, rfl, r1, r2⟩ := vals2 rxs
            have g : DGet H p (kV key) (valV ks key) := .inl ⟨ks, key, .inl h2, rfl, rfl⟩
            refine d_get2 (by omega) I g r1 r2 fun w' s' I' rw' => ⟨_, H, I', rw', ?_⟩
            rcases h3.find key with ⟨x', v', e4, e5, r5⟩ | ⟨e4, e5⟩
            · rw [e4] at h
              rw [e5]
              exact okP.same c h r5
            · rw [e4] at h
              rw [e5]
              exact okP.same c h rz
          · exact h.elim
        · exact h.elim
      · exact h.elim
    · exact h.elim
  · refine ⟨_, ⟨F.plainAttrs_tuple, F.slot_tuple_index, F.type_tuple_index⟩, ?_⟩
    intro pins s σ H x xs v us Q I rx rxs h
    obtain ⟨μ, M, a, as, E, c, ra, ras, h⟩ := h
    unfold mtW at h
    simp only [if_true] at h
    split at h
    · obtain ⟨u, rfl, ru⟩ := ras.one
      split at h
      · next ys key =>
        cases ru
        split at h
        · next ns hn =>
          split at h
          · next hk =>
            cases ra with
            | tup h1 h2 h3 =>
              have e := h3.of_ints hn
              subst e
              cases rx
              obtain ⟨u1, rfl, r1⟩ := vals1 rxs
              obtain ⟨t, rfl⟩ := r1
              obtain ⟨its, r, pl, hz⟩ := I.tuple (.frz h1)
              exact PySem.SeqAt.tuple_index_ints pl (ints_of_vals r) hk ⟨.int _, H, I.tok _, ⟨_, rfl⟩, okP.same c h (.int _)⟩
          · exact h.elim
        · exact h.elim
      · exact h.elim
    · exact h.elim
  · refine ⟨_, ⟨F.plainAttrs_str, F.slot_str_upper, F.type_str_upper⟩, ?_⟩
    intro pins s σ H x xs v us Q I rx rxs h
    obtain ⟨μ, M, a, as, E, c, ra, ras, h⟩ := h
    unfold mtW at h
    simp only at h
    split at h
    · next z =>
      split at h
      · next hz =>
        cases ra
        cases ras
        exact mt_upper pins s σ H _ _ v us Q I rx rxs ⟨z, rfl, rfl, hz.1, okP.same c h (.str _)⟩
      · exact h.elim
    · exact h.elim
  · refine ⟨_, ⟨F.plainAttrs_str, F.slot_str_isdigit, F.type_str_isdigit⟩, ?_⟩
    intro pins s σ H x xs v us Q I rx rxs h
    obtain ⟨μ, M, a, as, E, c, ra, ras, h⟩ := h
    unfold mtW at h
    simp only at h
    split at h
    · next z =>
      split at h
      · next hz =>
        cases ra
        cases ras
        exact mt_isdigit pins s σ H _ _ v us Q I rx rxs ⟨z, rfl, rfl, trivial, okP.same c h (.bl _)⟩
      · exact h.elim
    · exact h.elim
  · refine ⟨_, ⟨F.plainAttrs_str, F.slot_str_split, F.type_str_split⟩, ?_⟩
    intro pins s σ H x xs v us Q I rx rxs h
    obtain ⟨μ, M, a, as, E, c, ra, ras, h⟩ := h
    unfold mtW at h
    simp only at h
    split at h
    · next z b =>
      split at h
      · next hz =>
        cases ra
        obtain ⟨u, rfl, ru⟩ := ras.one
        cases ru
        exact mt_split pins s σ H _ _ v us Q I rx rxs ⟨z, b, rfl, rfl, hz.1, hz.2.1, fun p hp => okP.newOb c h hp ⟨_, upd_same, RWs.strs _⟩⟩
      · exact h.elim
    · exact h.elim
  · refine ⟨_, ⟨F.plainAttrs_str, F.slot_str_join, F.type_str_join⟩, ?_⟩
    intro pins s σ H x xs v us Q I rx rxs h
    obtain ⟨μ, M, a, as, E, c, ra, ras, h⟩ := h
    unfold mtW at h
    simp only at h
    split at h
    · next z y =>
      split at h
      · next ys hy =>
        split at h
        · next zs hzs =>
          split at h
          · next hz =>
            cases ra
            obtain ⟨u, rfl, ru⟩ := ras.one
            obtain ⟨A, vs, rfl, rs, hq⟩ := c.seq ru hy
            have e := rs.of_strs hzs
            subst e
            refine mt_join pins s σ H _ _ v us Q I rx rxs ⟨z, A, zs, rfl, rfl, ?_, hz.2, okP.same c h (.str _)⟩
            rcases hq with ⟨hq, _⟩ | ⟨hq, _⟩
            · exact .inl hq
            · exact .inr hq
          · exact h.elim
        · exact h.elim
      · exact h.elim
    · exact h.elim
end
end EV

/-! Ev9: defs and their calls, where no repr is under way. -/
namespace EV
open PySem PySem.Spec PyProof.Rows L2

/-- a def keeps a promise, called where no guard stands -/
structure FnG (P : Program) (w : World) (K : PySem.W.Frag) (mg : Str → Option Value) (base : Heap) (k : Nat) (f : Addr) (fd : FuncData) (ps : List Str) (sp : Sp) : Prop where
  len : ∀ vs H Q E, sp vs H Q E → vs.length = ps.length
  go : ∀ (A : Around) (outer : List Env) (s : Shared) (H : Hp) (args : Args) (us : List Value) (vs : List V) (Q : VK) (E : XK), A.guards = some [] → Room k A → Env0 P w K mg base A outer s H →
    BindsTo s fd args (ps.zip us) → Vals vs us → sp vs H Q E → codeAny (model P w) A (.call (.ref f) args) (CR (L2.CX P w) outer P w H s Q E) s

/-- a def of the text, by its body -/
theorem FnG.of_body {P : Program} {w : World} {K : PySem.W.Frag} {mg : Str → Option Value} {base : Heap} {x qual : Str} {params : Arguments} {body : List Stmt} {scope : Scope} {f : Addr} {fd : FuncData} {N ps : List Str} {k : Nat} {sp : Sp}
    (F : FunD K x qual params body scope [] [] f fd) (S : FnScope N ps scope) (len : ∀ vs H Q E, sp vs H Q E → vs.length = ps.length)
    (hbody : ∀ (cdv : Value) (A : Around) (outer : List Env) (s : Shared) (H : Hp) (vs : List V) (Q : VK) (E : XK), A.guards = some [] → Room k (A.deeper (envOfC qual scope s.heap.objs.size f cdv)) → sp vs H Q E →
      ∃ t, PSs (cxOf (L2.CX P w) P w K mg base N qual scope f cdv A outer s H E) body t ∧ t { nx := fun _ H' => Q .non H', rt := Q } (start N vs) H) : FnG P w K mg base (k + 1) f fd ps sp := by
  obtain ⟨oc, od, dV, kV, doc, pm, an, cdv, ct, osl, rfl, lk, hcd, _, _⟩ := F.ex
  refine ⟨len, fun A outer s H args us vs Q E hg hr e0 hb r hsp => ?_⟩
  have hl := len _ _ _ _ hsp
  have inK : K.In s.heap := e0.mod.kin.keeps fun b o e => (e0.bs b o e).1
  have lim : s.heap.NoLimit := e0.mod.nolimit.keeps fun b o e => (e0.bs b o e).1
  have kinds : ∀ y ∈ ps.zip us, scope.names.lookup y.1 = some .local ∨ (scope.names.lookup y.1 = some .cell ∧ ((cellsFrom (s.heap.objs.size + 1) scope.names []).lookup y.1).isSome = true) := by
    rintro ⟨n, v⟩ hy
    rcases S.par n (List.of_mem_zip hy).1 with q | q
    · exact Or.inl q
    · exact Or.inr ⟨q, PySem.W.cellsFrom_some _ _ _ (.inl q)⟩
  refine codeAny_call_function hr.depth (inK _ _ lk) rfl S.co S.gen rfl (PySem.W.codeRec_of inK hcd) (hb _ _ _ _ ?_)
  refine wpAny_newFunctionEnv_cells S.kind kinds fun env he s1 y => ?_
  subst he
  refine ⟨lim.keeps y.toInCall.keep, codeAny_func ?_⟩
  obtain ⟨t, ht, hq⟩ := hbody cdv A outer s H vs Q E hg (hr.deeper _) hsp
  have I0 := inv_start (CX := L2.CX P w) (E := E) S hr.hd e0 hl r y
  refine wpAny_mono (ht.run [] s1 (start N vs) H _ I0 hq) (fun fl s' hs => ?_) fun e s' hs => hs
  cases fl with
  | ret u =>
    obtain ⟨v, σ', H', J, rv, q⟩ := hs
    exact ⟨v, H', J.os, J.bare, J.base, J.hok, rv, q⟩
  | next =>
    obtain ⟨σ', H', J, q⟩ := hs
    exact ⟨V.non, H', J.os, J.bare, J.base, J.hok, (rfl : RelV V.non Value.none), q⟩
  | brk => obtain ⟨_, _, _, q⟩ := hs; exact q.elim
  | cont => obtain ⟨_, _, _, q⟩ := hs; exact q.elim

section
variable {X : Cx} {k : Nat} {f : Addr} {fd : FuncData} {ps : List Str} {sp : Sp} {Wx : WX} {x : Str} {p pos : Pos}
/-- the callee runs -/
theorem FnG.run {pins : List (Addr × Obj)} {σ : L2.St} {H : Hp} {s : Shared} {Q : VK} {us : List Value} {kw : List (Str × Value)} {zs : List Value} {vs : List V} (F : FnG X.prog X.w X.K X.mg X.base k f fd ps sp) (hg : X.A.guards = some []) (hr : Room k X.A)
    (tk : Takes X Wx) (I : L2.Inv X pins σ H s) (hb : BindsTo s fd ⟨us, kw⟩ (ps.zip zs)) (r : Vals vs zs) (h : sp vs H Q fun cls d H' => Wx cls d σ H') : wpAny (model X.prog X.w) X.A (call (.ref f) us kw) (EP X pins σ Q) X.xe s := by
  refine wpAny_call (codeAny_mono (F.go X.A X.stack s H ⟨us, kw⟩ zs vs Q _ hg hr I.env0 hb r h) fun r s' hq => ?_)
  cases r with
  | error e => exact tk e s' (XE.of_call I (fun _ _ _ z => z) hq)
  | ok fl =>
    cases fl with
    | ret u => exact I.after hq
    | next => exact hq.elim
    | brk => exact hq.elim
    | cont => exact hq.elim
/-- no argument is starred -/
def noStar : List Expr → Bool
  | [] => true
  | .Starred _ _ :: _ => false
  | _ :: es => noStar es
theorem noStar_each {env : Env} : ∀ {es : List Expr}, noStar es = true → ∀ pos, (backTo pos (starEach es env)).any (·.1) = false
  | [], _, _ => rfl
  | e :: es, h, pos => by
    cases e with
    | Starred _ _ => cases h
    | _ => exact noStar_each (es := es) h pos
theorem noStar_cons {env : Env} {e : Expr} {es : List Expr} (h : noStar (e :: es) = true) : starEach (e :: es) env = (false, eval e env) :: starEach es env ∧ noStar es = true := by
  cases e with
  | Starred _ _ => cases h
  | _ => exact ⟨rfl, h⟩
theorem pe_callG0 (F : FnG X.prog X.w X.K X.mg X.base k f fd ps sp) (hg : X.A.guards = some []) (hr : Room k X.A) (tk : Takes X Wx) (gl : Gl X x) (hm : X.mg x = some (.ref f)) (hk : PySem.W.keepIn X.K (.ref f) = true)
    (hb : ∀ (s : Shared) (us : List Value), us.length = ps.length → BindsTo s fd ⟨us, []⟩ (ps.zip us)) (hdb : (x == ("__debug__" : Str)) = false) :
    PE X (.Call (.Name x p) [] [] pos) (fun σ H Q => sp [] H Q fun cls d H' => Wx cls d σ H') := by
  refine ⟨fun pins s σ H Q I q => ?_⟩
  refine wpAny_Call_Name_kw (ld_glob I gl hm ?_ hdb)
  refine PySem.W.callWith_K0 I.kIn hk ?_
  exact F.run (us := []) (zs := []) hg hr tk I (hb s [] (by rw [← F.len _ _ _ _ q]; rfl)) .nil q
theorem pe_callG {e : Expr} {es : List Expr} {t : TA} (F : FnG X.prog X.w X.K X.mg X.base k f fd ps sp) (hg : X.A.guards = some []) (hr : Room k X.A) (tk : Takes X Wx) (gl : Gl X x) (hm : X.mg x = some (.ref f)) (hk : PySem.W.keepIn X.K (.ref f) = true)
    (hb : ∀ (s : Shared) (us : List Value), us.length = ps.length → BindsTo s fd ⟨us, []⟩ (ps.zip us)) (ha : PA X (e :: es) t) (hs : noStar (e :: es) = true) (hdb : (x == ("__debug__" : Str)) = false) :
    PE X (.Call (.Name x p) (e :: es) [] pos) (fun σ H Q => t σ H fun vs H1 => sp vs H1 Q fun cls d H' => Wx cls d σ H') := by
  refine ⟨fun pins s σ H Q I h => ?_⟩
  refine wpAny_Call_Name_kw (ld_glob I gl hm ?_ hdb)
  obtain ⟨h1, h2⟩ := noStar_cons (env := X.env) hs
  refine PySem.W.callWith_K (h₀ := X.base) I.ok.mod.kin hk (thn (ha.run pos pins s σ H _ I h) fun us s1 ⟨vs, H1, I1, r, q⟩ => ⟨I1.kIn, ?_⟩) h1 (noStar_each h2 pos)
  exact F.run hg hr tk I1 (hb s1 us (by rw [← r.length]; exact F.len _ _ _ _ q)) r q
/-- all keywords are named -/
def kwNames : List Keyword → Option (List Str)
  | [] => some []
  | ⟨some n, _, _⟩ :: ks => (kwNames ks).map (n :: ·)
  | ⟨none, _, _⟩ :: _ => none
theorem kw_all {env : Env} {pos : Pos} : ∀ {ks : List Keyword} {ns : List Str}, kwNames ks = some ns → (backToKw pos (keywordEach ks env)).all (·.1.isSome) = true ∧ (backToKw pos (keywordEach ks env)).filterMap (·.1) = ns ∧ (backToKw pos (keywordEach ks env)).any (·.1.isNone) = false
  | [], _, h => by cases h; exact ⟨rfl, rfl, rfl⟩
  | ⟨some n, e, q⟩ :: ks, ns, h => by
    simp only [kwNames] at h
    obtain ⟨ms, h1, rfl⟩ := Option.map_eq_some_iff.mp h
    obtain ⟨a, b, c⟩ := kw_all (env := env) (pos := pos) h1
    refine ⟨a, ?_, c⟩
    show n :: (backToKw pos (keywordEach ks env)).filterMap (·.1) = n :: ms
    rw [b]
  | ⟨none, _, _⟩ :: _, _, h => by cases h
theorem pe_callGK {e : Expr} {es : List Expr} {kws : List Keyword} {ns : List Str} {t tk' : TA} {g : List V → List V → List V} (F : FnG X.prog X.w X.K X.mg X.base k f fd ps sp) (hg : X.A.guards = some []) (hr : Room k X.A) (tk : Takes X Wx) (gl : Gl X x) (hm : X.mg x = some (.ref f)) (hk : PySem.W.keepIn X.K (.ref f) = true)
    (hb : ∀ (s : Shared) (us ws : List Value) (vs zs : List V), Vals vs us → Vals zs ws → (g vs zs).length = ps.length → ∃ ys, Vals (g vs zs) ys ∧ BindsTo s fd ⟨us, ns.zip ws⟩ (ps.zip ys)) (ha : PA X (e :: es) t) (hkw : PK X kws tk') (hn : kwNames kws = some ns) (hs : noStar (e :: es) = true) (hdb : (x == ("__debug__" : Str)) = false) :
    PE X (.Call (.Name x p) (e :: es) kws pos) (fun σ H Q => t σ H fun vs H1 => tk' σ H1 fun zs H2 => sp (g vs zs) H2 Q fun cls d H' => Wx cls d σ H') := by
  refine ⟨fun pins s σ H Q I h => ?_⟩
  refine wpAny_Call_Name_kw (ld_glob I gl hm ?_ hdb)
  obtain ⟨h1, h2⟩ := noStar_cons (env := X.env) hs
  obtain ⟨k1, k2, k3⟩ := kw_all (env := X.env) (pos := pos) hn
  have hpl : ((backTo pos (starEach (e :: es) X.env)).any (·.1) || (backToKw pos (keywordEach kws X.env)).any (·.1.isNone)) = false := by rw [noStar_each hs pos, k3]; rfl
  refine PySem.W.callWith_KW (h₀ := X.base) I.ok.mod.kin hk k1 (thn (ha.run pos pins s σ H _ I h) fun us s1 ⟨vs, H1, I1, r, q⟩ => ?_) hpl h1
  refine thn (hkw.run pos pins s1 σ H1 _ I1 q) fun ws s2 ⟨zs, H2, I2, rz, q2⟩ => ⟨I2.kIn, ?_⟩
  rw [k2]
  obtain ⟨ys, ry, hby⟩ := hb s2 us ws vs zs r rz (F.len _ _ _ _ q2)
  exact F.run hg hr tk I2 hby ry q2
theorem pe_callGK0 {kws : List Keyword} {ns : List Str} {tk' : TA} {g : List V → List V} (F : FnG X.prog X.w X.K X.mg X.base k f fd ps sp) (hg : X.A.guards = some []) (hr : Room k X.A) (tk : Takes X Wx) (gl : Gl X x) (hm : X.mg x = some (.ref f)) (hk : PySem.W.keepIn X.K (.ref f) = true)
    (hb : ∀ (s : Shared) (ws : List Value) (zs : List V), Vals zs ws → (g zs).length = ps.length → ∃ ys, Vals (g zs) ys ∧ BindsTo s fd ⟨[], ns.zip ws⟩ (ps.zip ys)) (hkw : PK X kws tk') (hn : kwNames kws = some ns) (hdb : (x == ("__debug__" : Str)) = false) :
    PE X (.Call (.Name x p) [] kws pos) (fun σ H Q => tk' σ H fun zs H2 => sp (g zs) H2 Q fun cls d H' => Wx cls d σ H') := by
  refine ⟨fun pins s σ H Q I h => ?_⟩
  refine wpAny_Call_Name_kw (ld_glob I gl hm ?_ hdb)
  obtain ⟨k1, k2, k3⟩ := kw_all (env := X.env) (pos := pos) hn
  have hpl : ((backTo pos (starEach [] X.env)).any (·.1) || (backToKw pos (keywordEach kws X.env)).any (·.1.isNone)) = false := by rw [k3]; rfl
  refine PySem.W.callWith_KW0 (h₀ := X.base) I.ok.mod.kin hk k1 (thn (hkw.run pos pins s σ H _ I h) fun ws s2 ⟨zs, H2, I2, rz, q2⟩ => ⟨I2.kIn, ?_⟩) hpl
  rw [k2]
  obtain ⟨ys, ry, hby⟩ := hb s2 ws zs rz (F.len _ _ _ _ q2)
  exact F.run (us := []) hg hr tk I2 hby ry q2
end
end EV

/-! Ev10: expressions, form by form. -/
namespace EV
open PySem PySem.Spec PyProof.Rows L2

/-- what every text of a def takes for granted -/
structure Std (X : Cx) : Prop where
  nd : X.N.Nodup
  calm : X.calm = true
  gd : X.A.guards = some []
  un : X.A.units + 70 < cLine

section
variable (X : Cx) (XR : XRel) (Wx : WX) (cf : Nat → List W → Mem → R W)
abbrev EE (e : Expr) (c : CE) : Prop := PE X e (tE X.K XR Wx (evE cf c))
abbrev EA (e : List Expr) (c : CEs) : Prop := PA X e (tEs X.K XR Wx (evEs cf c))
abbrev EB (e : Expr) (c : CB) : Prop := PT X e (tT X.K XR Wx (evB cf c))
abbrev EW (e : Expr) (c : CB) : Prop := PW X e (tT X.K XR Wx (evB cf c))
abbrev EO (e : Option Expr) (c : CO) : Prop := PO X e (tG X.K XR relO Wx (evO cf c))
end

section
variable {X : Cx} {XR : XRel} {Wx : WX} {cf : Nat → List W → Mem → R W} {pos p : Pos} {e a b d : Expr} {es : List Expr} {ca cb cd : CE} {cs : CEs}
theorem ev_var {i : Nat} {x : Str} (hN : X.N[i]? = some x) (hv : Vis X.env.scope x) (hd : (x == ("__debug__" : Str)) = false := by decide) (hcd : (x == ("__classdict__" : Str)) = false := by decide) : EE X XR Wx cf (.Name x pos) (.var i) := by
  refine (pe_var hN hv hd hcd).imp fun σ H Q h => ?_
  obtain ⟨μ, ρ, M, hs, hc, hp⟩ := h
  unfold evE at hp
  split at hp
  · next w q =>
    obtain ⟨v, h1, h2⟩ := hs.get q
    exact ⟨v, h1, okP.same hc hp h2⟩
  · exact hp.elim
theorem ev_kint {i : Int} {j} : EE X XR Wx cf (.Constant (.int i) j pos) (.k (.int i)) := by
  refine pe_int.imp fun σ H Q h => ?_
  obtain ⟨μ, ρ, M, hs, hc, hp⟩ := h
  unfold evE at hp
  exact okP.same hc hp (.int i)
theorem ev_kbl {i : Bool} {j} : EE X XR Wx cf (.Constant (.bool i) j pos) (.k (.bl i)) := by
  refine pe_bl.imp fun σ H Q h => ?_
  obtain ⟨μ, ρ, M, hs, hc, hp⟩ := h
  unfold evE at hp
  exact okP.same hc hp (.bl i)
theorem ev_knon {j} : EE X XR Wx cf (.Constant .none j pos) (.k .non) := by
  refine pe_non.imp fun σ H Q h => ?_
  obtain ⟨μ, ρ, M, hs, hc, hp⟩ := h
  unfold evE at hp
  exact okP.same hc hp .non
theorem ev_kstr {i : Str} {j} : EE X XR Wx cf (.Constant (.str i) j pos) (.k (.str i)) := by
  refine pe_str.imp fun σ H Q h => ?_
  obtain ⟨μ, ρ, M, hs, hc, hp⟩ := h
  unfold evE at hp
  exact okP.same hc hp (.str i)
theorem ev_gint {x : Str} {i : Int} (hg : Gl X x) (hm : ∃ t, X.mg x = some (.int i t)) (hd : (x == ("__debug__" : Str)) = false := by decide) : EE X XR Wx cf (.Name x pos) (.gk (.int i)) := by
  obtain ⟨t, hm⟩ := hm
  refine (pe_glob (v := .int i) hg hm ⟨_, rfl⟩ hd).imp fun σ H Q h => ?_
  obtain ⟨μ, ρ, M, hs, hc, hp⟩ := h
  unfold evE at hp
  exact okP.same hc hp (.int i)
theorem ev_bin {op : Operator} (ha : EE X XR Wx cf a ca) (hb : EE X XR Wx cf b cb) : EE X XR Wx cf (.BinOp a op b pos) (.bin op ca cb) := by
  refine (pe_op (op_bin op) ha hb).imp fun σ H Q h => ?_
  unfold evE at h
  refine tG.next h fun x v μ ρ M H1 hs hc r hp => ?_
  exact post_next hs hc hp fun y u μ2 M2 H2 p2 e2 hs2 hc2 r2 hp2 => ⟨μ2, M2, x, y, _, hc2, r.mono p2 e2, r2, hp2⟩
theorem ev_neg (ha : EE X XR Wx cf a ca) : EE X XR Wx cf (.UnaryOp .USub a pos) (.neg ca) := by
  refine (pe_un un_neg ha).imp fun σ H Q h => ?_
  unfold evE at h
  refine tG.next h fun x v μ ρ M H1 hs hc r hp => ?_
  split at hp
  · cases r; exact ⟨_, rfl, okP.same hc hp (.int _)⟩
  · exact hp.elim
theorem ev_not (ha : EE X XR Wx cf a ca) : EE X XR Wx cf (.UnaryOp .Not a pos) (.not ca) := by
  refine (pe_not ha).imp fun σ H Q h => ?_
  unfold evE at h
  refine tG.next h fun x v μ ρ M H1 hs hc r hp => ?_
  split at hp
  · cases r; exact ⟨_, rfl, okP.same hc hp (.bl _)⟩
  · exact hp.elim
theorem ev_one {op} (h : EE X XR Wx cf a ca) : EE X XR Wx cf (.BoolOp op [a] pos) ca := pe_one h
theorem ev_and (ha : EE X XR Wx cf a ca) (hb : EE X XR Wx cf (.BoolOp .And (b :: es) pos) cb) : EE X XR Wx cf (.BoolOp .And (a :: b :: es) pos) (.and ca cb) := by
  refine (pe_and ha hb).imp fun σ H Q h => ?_
  unfold evE at h
  refine tG.next h fun x v μ ρ M H1 hs hc r hp => ?_
  split at hp
  · next c =>
    cases r
    refine ⟨c, rfl, ?_⟩
    cases c with
    | true => exact .of_ok hs hc hp
    | false => exact okP.same hc hp (.bl _)
  · exact hp.elim
theorem ev_or (ha : EE X XR Wx cf a ca) (hb : EE X XR Wx cf (.BoolOp .Or (b :: es) pos) cb) : EE X XR Wx cf (.BoolOp .Or (a :: b :: es) pos) (.or ca cb) := by
  refine (pe_or ha hb).imp fun σ H Q h => ?_
  unfold evE at h
  refine tG.next h fun x v μ ρ M H1 hs hc r hp => ?_
  split at hp
  · next c =>
    cases r
    refine ⟨c, rfl, ?_⟩
    cases c with
    | false => exact .of_ok hs hc hp
    | true => exact okP.same hc hp (.bl _)
  · exact hp.elim
theorem ev_ite {c : CB} (hc : EB X XR Wx cf d c) (ha : EE X XR Wx cf a ca) (hb : EE X XR Wx cf b cb) : EE X XR Wx cf (.IfExp d a b pos) (.ite c ca cb) := by
  refine (pe_ifExp hc ha hb).imp fun σ H Q h => ?_
  unfold evE at h
  refine tG.next h fun x v μ ρ M H1 hs hc r hp => ?_
  cases r
  split at hp
  · next q => exact if_pos q ▸ .of_ok hs hc hp
  · next q => exact if_neg q ▸ .of_ok hs hc hp
theorem ev_cmp (S : Std X) {op : CmpOp} (ha : EE X XR Wx cf a ca) (hb : EE X XR Wx cf b cb) (hm : behindInMarks op b = false) : EE X XR Wx cf (.Compare a [op] [b] pos) (.cmp op ca cb) := by
  refine (pe_cmpR (op_cmp (by have := S.un; omega) op) ha hb hm).imp fun σ H Q h => ?_
  unfold evE at h
  refine tG.next h fun x v μ ρ M H1 hs hc r hp => ?_
  exact post_next hs hc hp fun y u μ2 M2 H2 p2 e2 hs2 hc2 r2 hp2 => ⟨μ2, M2, x, y, _, hc2, r.mono p2 e2, r2, hp2⟩
theorem ev_chain (S : Std X) {op op' : CmpOp} (ha : EE X XR Wx cf a ca) (hb : EE X XR Wx cf b cb) (hd : EE X XR Wx cf d cd) (hm : lastMarks [op, op'] [b, d] = false) : EE X XR Wx cf (.Compare a [op, op'] [b, d] pos) (.chain op op' ca cb cd) := by
  refine (pe_chain (op_cmp (by have := S.un; omega) op) (op_cmp (by have := S.un; omega) op') ha hb hd hm).imp fun σ H Q h => ?_
  unfold evE at h
  refine tG.next h fun x v μ ρ M H1 hs hc r hp => ?_
  refine post_next hs hc hp fun y u μ2 M2 H2 p2 e2 hs2 hc2 r2 hp2 => ?_
  refine ⟨μ2, M2, x, y, exP X.K XR Wx σ μ2 H2, hc2, r.mono p2 e2, r2, ?_⟩
  refine post_bind.mpr ?_
  refine post_mono (post_bind.mp hp2) (fun k M3 h3 => ?_) fun _ _ _ q => q
  refine fun μ3 z H3 p3 e3 c3 r3 => ?_
  cases r3
  refine ⟨k, rfl, ?_⟩
  have hs3 := hs2.mono p3 e3
  have h4 := post_up p3 e3 h3
  cases k with
  | false => exact okP.same c3 h4 (.bl _)
  | true => exact post_next hs3 c3 h4 fun w u' μ4 M4 H4 p4 e4 hs4 c4 r4 hp4 => ⟨μ4, M4, y, w, _, c4, (r2.mono p3 e3).mono p4 e4, r4, hp4⟩
theorem ev_anil : EA X XR Wx cf [] .nil := by
  refine pa_nil.imp fun σ H Q h => ?_
  obtain ⟨μ, ρ, M, hs, hc, hp⟩ := h
  unfold evEs at hp
  exact hp μ [] H (List.prefix_refl _) (.refl _) hc .nil
theorem ev_acons (ha : EE X XR Wx cf e ca) (hr : EA X XR Wx cf es cs) (hs : starEach (e :: es) X.env = (false, eval e X.env) :: starEach es X.env) : EA X XR Wx cf (e :: es) (.cons ca cs) := by
  refine (pa_cons ha hr hs).imp fun σ H Q h => ?_
  unfold evEs at h
  refine tG.next h fun x v μ ρ M H1 hs hc r hp => ?_
  exact post_next hs hc hp fun y u μ2 M2 H2 p2 e2 hs2 hc2 r2 hp2 => hp2 μ2 (v :: u) H2 (List.prefix_refl _) (.refl _) hc2 (.cons (r.mono p2 e2) r2)
theorem ev_tup {x1 : Nat} (h : EA X XR Wx cf es cs) : EE X XR Wx cf (.Tuple es x1 pos) (.tup cs) := by
  refine (pe_tupF h).imp fun σ H Q h => ?_
  unfold evE at h
  refine tG.next h fun x v μ ρ M H1 hs hc r hp => ?_
  unfold EV.newT at hp
  split at hp
  · next hz => exact ⟨by rw [← r.length]; exact hz, okP.newT hc hp r⟩
  · exact hp.elim
theorem ev_lst (h : EA X XR Wx cf es cs) : EE X XR Wx cf (.List es pos) (.lst cs) := by
  refine (pe_lst h).imp fun σ H Q h => ?_
  unfold evE at h
  refine tG.next h fun x v μ ρ M H1 hs hc r hp => ?_
  unfold EV.newL at hp
  split at hp
  · next hz => exact ⟨by rw [← r.length]; exact hz, fun p' hp' => okP.newOb hc hp hp' ⟨_, upd_same, r.mono pre1 (.new hp')⟩⟩
  · exact hp.elim
theorem ev_ix (S : Std X) (ha : EE X XR Wx cf a ca) (hb : EE X XR Wx cf b cb) (hp : PlainIx b) : EE X XR Wx cf (.Subscript a b pos) (.ix ca cb) := by
  refine (pe_ix (ix_ev (by have := S.un; omega)) ha hb hp).imp fun σ H Q h => ?_
  unfold evE at h
  refine tG.next h fun x v μ ρ M H1 hs hc r hp => ?_
  exact post_next hs hc hp fun y u μ2 M2 H2 p2 e2 hs2 hc2 r2 hp2 => ⟨μ2, M2, x, y, _, hc2, r.mono p2 e2, r2, hp2⟩
theorem ev_ono : EO X XR Wx cf none .none := by
  refine ⟨fun pins s σ H Q I h => po_none.run pins s σ H Q I ?_⟩
  obtain ⟨μ, ρ, M, hs, hc, hp⟩ := h
  unfold evO at hp
  exact hp μ none H (List.prefix_refl _) (.refl _) hc rfl
theorem ev_osome (ha : EE X XR Wx cf a ca) : EO X XR Wx cf (some a) (.some ca) := by
  refine ⟨fun pins s σ H Q I h => (po_some ha).run pins s σ H Q I ?_⟩
  unfold evO at h
  refine tG.next h fun x v μ ρ M H1 hs hc r hp => ?_
  split at hp
  · cases r; exact ⟨_, rfl, hp μ _ H1 (List.prefix_refl _) (.refl _) hc rfl⟩
  · exact hp.elim
theorem ev_sl {lo hi : Option Expr} {cl cu : CO} {p2 : Pos} (ha : EE X XR Wx cf a ca) (hl : EO X XR Wx cf lo cl) (hu : EO X XR Wx cf hi cu) : EE X XR Wx cf (.Subscript a (.Slice lo hi none p2) pos) (.sl ca cl cu) := by
  refine (pe_slice sl_ev ha hl hu).imp fun σ H Q h => ?_
  unfold evE at h
  refine tG.next h fun x v μ ρ M H1 hs hc r hp => ?_
  refine post_next hs hc hp fun y u μ2 M2 H2 p2 e2 hs2 hc2 r2 hp2 => ?_
  refine post_next hs2 hc2 hp2 fun y3 u3 μ3 M3 H3 p3 e3 hs3 hc3 r3 hp3 => ?_
  cases r2
  cases r3
  exact ⟨μ3, M3, x, _, hc3, (r.mono p2 e2).mono p3 e3, hp3⟩
/-- what the law never comes to -/
theorem ev_never : EE X XR Wx cf e .never := ⟨fun pins s σ H Q I h => by
  obtain ⟨_, _, _, _, _, hp⟩ := h
  exact hp.elim⟩
/-! ### tests -/
theorem eb_val (ha : EE X XR Wx cf a ca) (he : ∀ whole, isTrue a X.env whole = (do let v ← whole; standAt a.pos; holding [v] (truthy v))) : EB X XR Wx cf a (.val ca) := by
  refine ⟨fun pins s σ H Q I h => ?_⟩
  unfold evB at h
  have h' : tE X.K XR Wx (evE cf ca) σ H fun x H' => liftB X.K truthW x H' Q := tG.next h fun x v μ ρ M H1 hs hc r hp => ⟨μ, M, x, _, hc, r, hp⟩
  exact isTrue_plain (thn (ha.run pins s σ H _ I h') fun v s1 ⟨x, H1, I1, r1, q1⟩ => tru_ev pins s1 σ H1 x v Q I1 r1 q1) (he _)
theorem eb_cmp (S : Std X) {op : CmpOp} (ha : EE X XR Wx cf a ca) (hb : EE X XR Wx cf b cb) (hm : behindInMarks op b = false) : EB X XR Wx cf (.Compare a [op] [b] pos) (.cmp op ca cb) := by
  refine (pt_cmpR (op_cmp (by have := S.un; omega) op) ha hb hm).imp fun σ H Q h => ?_
  unfold evB at h
  refine tG.next h fun x v μ ρ M H1 hs hc r hp => ?_
  refine post_next hs hc hp fun y u μ2 M2 H2 p2 e2 hs2 hc2 r2 hp2 => ⟨μ2, M2, x, y, _, hc2, r.mono p2 e2, r2, post_bind.mpr (post_mono hp2 (fun k M3 h3 => ?_) fun _ _ _ q => q)⟩
  intro μ3 z H3 p3 e3 c3 r3
  cases r3
  exact ⟨k, rfl, h3 μ3 k H3 p3 e3 c3 rfl⟩
theorem eb_chain (S : Std X) {op op' : CmpOp} (ha : EE X XR Wx cf a ca) (hb : EE X XR Wx cf b cb) (hd : EE X XR Wx cf d cd) (hm : lastMarks [op, op'] [b, d] = false) : EB X XR Wx cf (.Compare a [op, op'] [b, d] pos) (.chain op op' ca cb cd) := by
  refine (pt_chain (op_cmp (by have := S.un; omega) op) (op_cmp (by have := S.un; omega) op') ha hb hd hm).imp fun σ H Q h => ?_
  unfold evB at h
  refine tG.next h fun x v μ ρ M H1 hs hc r hp => ?_
  refine post_next hs hc hp fun y u μ2 M2 H2 p2 e2 hs2 hc2 r2 hp2 => ?_
  refine ⟨μ2, M2, x, y, exP X.K XR Wx σ μ2 H2, hc2, r.mono p2 e2, r2, ?_⟩
  refine post_bind.mpr ?_
  refine post_mono (post_bind.mp hp2) (fun k M3 h3 => ?_) fun _ _ _ q => q
  refine fun μ3 z H3 p3 e3 c3 r3 => ?_
  cases r3
  refine ⟨k, rfl, ?_⟩
  have hs3 := hs2.mono p3 e3
  have h4 := post_up p3 e3 h3
  cases k with
  | false => exact ⟨false, rfl, okP.sameB c3 h4⟩
  | true =>
    refine post_next hs3 c3 h4 fun w u' μ4 M4 H4 p4 e4 hs4 c4 r4 hp4 => ⟨μ4, M4, y, w, _, c4, (r2.mono p3 e3).mono p4 e4, r4, post_bind.mpr (post_mono hp4 (fun k M5 h5 => ?_) fun _ _ _ q => q)⟩
    intro μ5 z H5 p5 e5 c5 r5
    cases r5
    exact ⟨k, rfl, h5 μ5 k H5 p5 e5 c5 rfl⟩
theorem eb_not {c : CB} (ha : EB X XR Wx cf a c) : EB X XR Wx cf (.UnaryOp .Not a pos) (.not c) := by
  refine (pt_not ha).imp fun σ H Q h => ?_
  unfold evB at h
  refine tG.next h fun x v μ ρ M H1 hs hc r hp => ?_
  cases r
  exact okP.sameB hc hp
variable {c c' : CB}
theorem eb_and1 (ha : EB X XR Wx cf a c) : EW X XR Wx cf (.BoolOp .And [a] pos) c := pw_and1 ha
theorem eb_or1 (ha : EB X XR Wx cf a c) : EW X XR Wx cf (.BoolOp .Or [a] pos) c := pw_or1 ha
theorem eb_and (ha : EB X XR Wx cf a c) (hb : EW X XR Wx cf (.BoolOp .And (b :: es) pos) c') : EW X XR Wx cf (.BoolOp .And (a :: b :: es) pos) (.and c c') := by
  refine (pw_and ha hb).imp fun σ H Q h => ?_
  unfold evB at h
  refine tG.next h fun x v μ ρ M H1 hs hc r hp => ?_
  cases r
  cases x with
  | true => exact .of_ok hs hc hp
  | false => exact okP.sameB hc hp
theorem eb_or (ha : EB X XR Wx cf a c) (hb : EW X XR Wx cf (.BoolOp .Or (b :: es) pos) c') : EW X XR Wx cf (.BoolOp .Or (a :: b :: es) pos) (.or c c') := by
  refine (pw_or ha hb).imp fun σ H Q h => ?_
  unfold evB at h
  refine tG.next h fun x v μ ρ M H1 hs hc r hp => ?_
  cases r
  cases x with
  | false => exact .of_ok hs hc hp
  | true => exact okP.sameB hc hp
theorem eb_w (h : EW X XR Wx cf e c) : EB X XR Wx cf e c := PW.pt h
end
end EV

/-! Ev11: calls. -/
namespace EV
open PySem PySem.Spec PyProof.Rows L2

/-- what a def of the evaluator's promises -/
def spEv (K : PySem.W.Frag) (XR : XRel) (n : Nat) (g : List W → Mem → R W) : Sp := fun vs H Q E => ∃ μ M ws, CoM K μ M H ∧ RWs μ H ws vs ∧ ws.length = n ∧
  (g ws M).post (okP K relW μ H Q) (exP K XR (fun cls d _ H' => E cls d H') [] μ H)
/-- a def is there -/
structure FnE (X : Cx) (XR : XRel) (cf : Nat → List W → Mem → R W) (lv : Nat) (f : Nat) (x : Str) (ps : List Str) (a : Addr) (fd : FuncData) : Prop where
  fn : FnG X.prog X.w X.K X.mg X.base lv a fd ps (spEv X.K XR ps.length (cf f))
  mg : X.mg x = some (.ref a)
  kp : PySem.W.keepIn X.K (.ref a) = true
  bd : ∀ (s : Shared) (us : List Value), us.length = ps.length → BindsTo s fd ⟨us, []⟩ (ps.zip us)
  room : Room lv X.A
  len : ∀ ws M, ws.length ≠ ps.length → cf f ws M = .bad

section
variable {X : Cx} {XR : XRel} {Wx : WX} {cf : Nat → List W → Mem → R W} {pos p p2 pos2 : Pos} {e a b d : Expr} {es : List Expr} {ca cb cd : CE} {cs : CEs}
theorem ev_callN (S : Std X) {lv f : Nat} {x : Str} {ps : List Str} {A : Addr} {fd : FuncData} (F : FnE X XR cf lv f x ps A fd) (tk : Takes X Wx) (gl : Gl X x) (hdb : (x == ("__debug__" : Str)) = false) : EE X XR Wx cf (.Call (.Name x p) [] [] pos) (.call f .nil) := by
  refine (pe_callG0 F.fn S.gd F.room tk gl F.mg F.kp F.bd hdb).imp fun σ H Q h => ?_
  obtain ⟨μ, ρ, M, hs, hc, hp⟩ := h
  unfold evE evEs at hp
  by_cases hl : ([] : List W).length = ps.length
  · exact ⟨μ, M, [], hc, .nil, hl, hp⟩
  · rw [show ((R.ok [] M : R (List W)).bind fun xs M1 => cf f xs M1) = cf f [] M from rfl, F.len _ _ hl] at hp
    exact hp.elim
theorem ev_call (S : Std X) {lv f : Nat} {x : Str} {ps : List Str} {A : Addr} {fd : FuncData} (F : FnE X XR cf lv f x ps A fd) (tk : Takes X Wx) (gl : Gl X x) (hdb : (x == ("__debug__" : Str)) = false) (hs : noStar (e :: es) = true) (ha : EA X XR Wx cf (e :: es) cs) :
    EE X XR Wx cf (.Call (.Name x p) (e :: es) [] pos) (.call f cs) := by
  refine (pe_callG F.fn S.gd F.room tk gl F.mg F.kp F.bd ha hs hdb).imp fun σ H Q h => ?_
  unfold evE at h
  refine tG.next h fun xs vs μ ρ M H1 hs hc r hp => ?_
  by_cases hl : xs.length = ps.length
  · exact ⟨μ, M, xs, hc, r, hl, hp⟩
  · rw [F.len _ _ hl] at hp
    exact hp.elim
/-! ### calls with keywords -/
def pickL {α : Type} (zs : List α) (ix : List Nat) : List α := ix.filterMap fun j => zs[j]?
theorem pick_rel {μ : List Addr} {H : Hp} {xs : List W} {vs : List V} (r : RWs μ H xs vs) : ∀ {ix : List Nat} {ws : List W}, mapO (fun j => xs[j]?) ix = some ws → RWs μ H ws (pickL vs ix)
  | [], _, h => by cases h; exact .nil
  | j :: js, ws, h => by
    obtain ⟨y, zs, h1, h2, rfl⟩ := mapO_cons h
    obtain ⟨v, h3, h4⟩ := r.get h1
    have e : pickL vs (j :: js) = v :: pickL vs js := by simp [pickL, List.filterMap_cons, h3]
    rw [e]
    exact .cons h4 (pick_rel r h2)
theorem pick_vals {vs : List V} {us : List Value} (r : Vals vs us) : ∀ ix : List Nat, Vals (pickL vs ix) (pickL us ix)
  | [] => .nil
  | j :: js => by
    cases h : vs[j]? with
    | none =>
      have h2 : us[j]? = none := by
        have := List.getElem?_eq_none_iff.mp h
        exact List.getElem?_eq_none (by rw [← r.length]; exact this)
      have e : pickL vs (j :: js) = pickL vs js := by simp [pickL, List.filterMap_cons, h]
      have e' : pickL us (j :: js) = pickL us js := by simp [pickL, List.filterMap_cons, h2]
      rw [e, e']
      exact pick_vals r js
    | some v =>
      obtain ⟨u, h2, h3⟩ := r.get h
      have e : pickL vs (j :: js) = v :: pickL vs js := by simp [pickL, List.filterMap_cons, h]
      have e' : pickL us (j :: js) = u :: pickL us js := by simp [pickL, List.filterMap_cons, h2]
      rw [e, e']
      exact .cons h3 (pick_vals r js)
/-- how keywords are bound -/
def KwB (fd : FuncData) (ps : List Str) (n : Nat) (ks : List Str) (ix : List Nat) : Prop := ∀ (s : Shared) (us ws : List Value), us.length = n → ws.length = ks.length → BindsTo s fd ⟨us, ks.zip ws⟩ (ps.zip (pickL (us ++ ws) ix))
abbrev EK (X : Cx) (XR : XRel) (Wx : WX) (cf : Nat → List W → Mem → R W) (kws : List Keyword) (c : CEs) : Prop := PK X kws (tEs X.K XR Wx (evEs cf c))
theorem ek_nil : EK X XR Wx cf [] .nil := by
  refine pk_nil.imp fun σ H Q h => ?_
  obtain ⟨μ, ρ, M, hs, hc, hp⟩ := h
  unfold evEs at hp
  exact hp μ [] H (List.prefix_refl _) (.refl _) hc .nil
theorem ek_cons {kws : List Keyword} {nm : Option Str} {kpos : Pos} (ha : EE X XR Wx cf e ca) (hr : EK X XR Wx cf kws cs) : EK X XR Wx cf (⟨nm, e, kpos⟩ :: kws) (.cons ca cs) := by
  refine (pk_cons ha hr).imp fun σ H Q h => ?_
  unfold evEs at h
  refine tG.next h fun x v μ ρ M H1 hs hc r hp => ?_
  exact post_next hs hc hp fun y u μ2 M2 H2 p2 e2 hs2 hc2 r2 hp2 => hp2 μ2 (v :: u) H2 (List.prefix_refl _) (.refl _) hc2 (.cons (r.mono p2 e2) r2)
/-- the values in the parameters' order, or too many -/
def pickV (n m l : Nat) (ix : List Nat) (vs zs : List V) : List V := if vs.length = n ∧ zs.length = m then pickL (vs ++ zs) ix else List.replicate (l + 1) .non
theorem pickV_len {n m l : Nat} {ix : List Nat} {vs zs : List V} (h : (pickV n m l ix vs zs).length = l) : vs.length = n ∧ zs.length = m := by
  unfold pickV at h
  split at h
  · assumption
  · rw [List.length_replicate] at h; omega
theorem ev_callK (S : Std X) {lv f n m : Nat} {x : Str} {ps ks : List Str} {ix : List Nat} {kws : List Keyword} {cs' : CEs} {A : Addr} {fd : FuncData} (F : FnE X XR cf lv f x ps A fd) (tk : Takes X Wx) (gl : Gl X x) (hdb : (x == ("__debug__" : Str)) = false) (hst : noStar (e :: es) = true) (hn : kwNames kws = some ks) (hm : ks.length = m) (kb : KwB fd ps n ks ix)
    (ha : EA X XR Wx cf (e :: es) cs) (hk : EK X XR Wx cf kws cs') : EE X XR Wx cf (.Call (.Name x p) (e :: es) kws pos) (.callK f n m cs ix cs') := by
  refine (pe_callGK (g := pickV n m ps.length ix) F.fn S.gd F.room tk gl F.mg F.kp (fun s us ws vs zs r1 r2 hl => ?_) ha hk hn hst hdb).imp fun σ H Q h => ?_
  · obtain ⟨l1, l2⟩ := pickV_len hl
    refine ⟨pickL (us ++ ws) ix, ?_, kb s us ws (by rw [← r1.length]; exact l1) (by rw [← r2.length, hm]; exact l2)⟩
    unfold pickV
    rw [if_pos ⟨l1, l2⟩]
    exact pick_vals (r1.append r2) ix
  · unfold evE at h
    refine tG.next h fun xs vs μ ρ M H1 hs hc r hp => ?_
    refine post_next hs hc hp fun ys us μ2 M2 H2 p2 e2 hs2 hc2 r2 hp2 => ?_
    have r1 := r.mono p2 e2
    have l1 := r1.length
    have l2 := r2.length
    split at hp2
    · next hc' =>
      split at hp2
      · next zs q =>
        have hpk : pickV n m ps.length ix vs us = pickL (vs ++ us) ix := if_pos ⟨by omega, by omega⟩
        by_cases hl : zs.length = ps.length
        · exact ⟨μ2, M2, zs, hc2, by rw [hpk]; exact pick_rel (r1.append r2) q, hl, hp2⟩
        · rw [F.len _ _ hl] at hp2
          exact hp2.elim
      · exact hp2.elim
    · exact hp2.elim
theorem ev_callK0 (S : Std X) {lv f m : Nat} {x : Str} {ps ks : List Str} {ix : List Nat} {kws : List Keyword} {cs' : CEs} {A : Addr} {fd : FuncData} (F : FnE X XR cf lv f x ps A fd) (tk : Takes X Wx) (gl : Gl X x) (hdb : (x == ("__debug__" : Str)) = false) (hn : kwNames kws = some ks) (hm : ks.length = m) (kb : KwB fd ps 0 ks ix)
    (hk : EK X XR Wx cf kws cs') : EE X XR Wx cf (.Call (.Name x p) [] kws pos) (.callK f 0 m .nil ix cs') := by
  refine (pe_callGK0 (g := pickV 0 m ps.length ix []) F.fn S.gd F.room tk gl F.mg F.kp (fun s ws zs r2 hl => ?_) hk hn hdb).imp fun σ H Q h => ?_
  · obtain ⟨l1, l2⟩ := pickV_len hl
    refine ⟨pickL ([] ++ ws) ix, ?_, kb s [] ws rfl (by rw [← r2.length, hm]; exact l2)⟩
    unfold pickV
    rw [if_pos ⟨l1, l2⟩]
    exact pick_vals r2 ix
  · have h : tG X.K XR relW Wx (fun ρ M => (evEs cf cs' ρ M).bind fun ys M2 => if ([] : List W).length = 0 ∧ ys.length = m then match mapO (fun j => (([] : List W) ++ ys)[j]?) ix with
      | some zs => cf f zs M2
      | none => .bad
      else .bad) σ H Q := h
    refine tG.next h fun ys us μ2 ρ M2 H2 hs2 hc2 r2 hp2 => ?_
    have l2 := r2.length
    split at hp2
    · next hc' =>
      split at hp2
      · next zs q =>
        have hpk : pickV 0 m ps.length ix [] us = pickL us ix := if_pos ⟨rfl, by omega⟩
        by_cases hl : zs.length = ps.length
        · exact ⟨μ2, M2, zs, hc2, by rw [hpk]; exact pick_rel r2 q, hl, hp2⟩
        · rw [F.len _ _ hl] at hp2
          exact hp2.elim
      · exact hp2.elim
    · exact hp2.elim
theorem bindsKw {K : PySem.W.Frag} {x qual : Str} {params : Arguments} {body : List Stmt} {scope : Scope} {f : Addr} {fd : FuncData} {ps ks : List Str} {n : Nat} {ix : List Nat} (F : FunD K x qual params body scope [] [] f fd)
    (h : ∀ (kV doc pm : Value) (an : Option Addr) (cdv ct : Value) (us ws : List Value), us.length = n → ws.length = ks.length → bindArgs (PySem.W.fnOf x qual params body scope .none kV doc pm an cdv ct) ⟨us, ks.zip ws⟩ = pure (ps.zip (pickL (us ++ ws) ix))) : KwB fd ps n ks ix := by
  intro s us ws h1 h2
  obtain ⟨oc, od, dV, kV, doc, pm, an, cdv, ct, osl, rfl, lk, hcd, hD, hK⟩ := F.ex
  rcases hD with ⟨_, rfl⟩ | ⟨e, _⟩
  · exact .of_eq (h kV doc pm an cdv ct us ws h1 h2)
  · exact absurd rfl e
theorem pe_callBi {v : Value} {r : List V → Hp → VK → Prop} {t : TA} {x : Str} (hv : (∃ id, v = .builtin id) ∨ ∃ T, v = .type T) (hc : CallR X v r) (hg : Gl X x) (hm : X.mg x = none) (hb : bootBuiltins x = some v) (hn : x ≠ "__name__") (hdb : (x == ("__debug__" : Str)) = false)
    (ha : PA X (e :: es) t) (hs : noStar (e :: es) = true) : PE X (.Call (.Name x p) (e :: es) [] pos) (fun σ H Q => t σ H fun vs H1 => r vs H1 Q) := by
  obtain ⟨h1, h2⟩ := noStar_cons (env := X.env) hs
  rcases hv with ⟨id, rfl⟩ | ⟨T, rfl⟩
  · exact pe_callB hc hg hm hb ha hn hdb h1 (noStar_each h2 pos)
  · exact pe_callTy hc hg hm hb ha hn hdb h1 (noStar_each h2 pos)
theorem biIs (b : Bi) : (∃ id, biV b = .builtin id) ∨ ∃ T, biV b = .type T := by cases b <;> first | exact .inl ⟨_, rfl⟩ | exact .inr ⟨_, rfl⟩
theorem ev_bi (S : Std X) (b : Bi) {x : Str} (hx : x = biN b) (hg : Gl X x) (hm : X.mg x = none) (hs : noStar (e :: es) = true) (ha : EA X XR Wx cf (e :: es) cs) : EE X XR Wx cf (.Call (.Name x p) (e :: es) [] pos) (.bi b cs) := by
  subst hx
  refine (pe_callBi (biIs b) (bi_ev S.calm S.gd S.un b) hg hm (biBoot b) (biName b) (biDebug b) ha hs).imp fun σ H Q h => ?_
  unfold evE at h
  exact tG.next h fun xs vs μ ρ M H1 hs hc r hp => ⟨μ, M, xs, _, hc, r, hp⟩
theorem ev_isi (S : Std X) {x T : Str} {t : String} (hx : x = "isinstance") (hT : T = Str.ofString t) (hb : bootBuiltins T = some (.type t)) (hg : Gl X x) (hm : X.mg x = none) (hgT : Gl X T) (hmT : X.mg T = none) (hnT : T ≠ "__name__") (hdT : (T == ("__debug__" : Str)) = false)
    (hs : noStar [a, .Name T p2] = true) (ha : EE X XR Wx cf a ca) : EE X XR Wx cf (.Call (.Name x p) [a, .Name T p2] [] pos) (.isi ca t) := by
  subst hx
  obtain ⟨h1, h2⟩ := noStar_cons (env := X.env) hs
  have hA : PA X [a, .Name T p2] (tCons (tE X.K XR Wx (evE cf ca)) (tCons (tC (.ty t)) tNil)) := pa_cons ha (pa_cons (pe_bltn hgT hmT hb rfl hnT hdT) pa_nil rfl) h1
  refine ⟨fun pins s σ H Q I h => ?_⟩
  have h' : tE X.K XR Wx (evE cf ca) σ H fun x H1 => ∃ μ M a b, CoM X.K μ M H1 ∧ RW μ H1 a x ∧ isiW t M a = some b ∧ Q (.bl b) H1 := by
    unfold evE at h
    refine tG.next h fun w v μ ρ M H1 hs hc r hp => ?_
    split at hp
    · next b q => exact ⟨μ, M, w, b, hc, r, q, okP.same hc hp (.bl b)⟩
    · exact hp.elim
  refine wpAny_Call_Name_kw (ld_blt I hg hm PyProof.Rows.boot_isinstance ?_ (by decide) (by decide))
  refine PyProof.Rows.callWith_builtin1 (thn (hA.run pos pins s σ H (fun xs H1 => ∃ x μ M a b, xs = [x, .ty t] ∧ CoM X.K μ M H1 ∧ RW μ H1 a x ∧ isiW t M a = some b ∧ Q (.bl b) H1) I ?_) fun us s1 ⟨vs, H1, I1, r1, x, μ, M, w, b, ex, hc, rw', e, q⟩ => ?_) h1 (noStar_each h2 pos)
  · obtain ⟨μ, ρ, M, q1, q2, q3⟩ := h'
    refine ⟨μ, ρ, M, q1, q2, post_mono q3 (fun w M' k μ' v H' p' e' c' r' => ?_) fun _ _ _ z => z⟩
    obtain ⟨μ1, M1, w1, b1, z1, z2, z3, z4⟩ := k μ' v H' p' e' c' r'
    exact ⟨v, μ1, M1, w1, b1, rfl, z1, z2, z3, z4⟩
  · subst ex
    exact isi_ev I1 hc rw' r1 e q
/-! ### list(range(..)), tuple(range(..)) -/
theorem pe_tupRgF {te : L2.St → Hp → (Int → Int → Hp → Prop) → Prop} (hc : X.calm = true) (hg : Gl X "tuple") (hm : X.mg "tuple" = none) (he : PRg X e te) (na : starEach [e] X.env = (false, eval e X.env) :: starEach [] X.env := by rfl) :
    PE X (.Call (.Name "tuple" p) [e] [] pos) (fun σ H Q => te σ H fun a b H1 => RgOk a b ∧ newF (rgV a b) H1 Q) := by
  refine ⟨fun pins s σ H Q I h => ?_⟩
  refine Call_ (ld_blt I hg hm boot_tuple (PyProof.Rows.callWith_type1 (args_cons (thn (he pins s σ H _ I h) fun x s1 ⟨r, a, b, t, u, v, H1, ex, hr, I1, ok, q⟩ => args_nil ?_) na) na))
  subst ex
  obtain ⟨b1, b2, b3, b4, b5⟩ := ok
  refine call_tuple_range (n := (b - a).toNat) (I1.ok.hd hc) hr (small_one b1 b2 b3 b4) (rangeSize_nat a b) b5 fun h' tk acc hk hi => ?_
  have I2 : L2.Inv X pins σ H1 { s1 with heap := h', toks := tk } := I1.kept hk
  have hz := q.fin (its := acc.toList) (tk := tk) I2 (vals_rg hi) (by rw [rgV_length, sizeLine_eq]; omega)
  have e' : acc = acc.toList.toArray := Array.toArray_toList.symm
  rw [e']
  exact hz
theorem rg_rel {μ : List Addr} {H : Hp} (i j : Int) : RWs μ H (rangeI i j) (rgV i j) := by
  unfold rangeI rgV
  induction List.range (j - i).toNat with
  | nil => exact .nil
  | cons n ns ih => exact .cons (.int _) ih
theorem rangeW_some {ws ys : List W} (h : rangeW ws = some ys) : ∃ i j, ys = rangeI i j ∧ -(2 ^ 62) ≤ i ∧ i < 2 ^ 62 ∧ -(2 ^ 62) ≤ j ∧ j < 2 ^ 62 ∧ ((ws = [.int j] ∧ i = 0) ∨ ws = [.int i, .int j]) := by
  unfold rangeW at h
  split at h
  · next j =>
    split at h
    · next q =>
      cases h
      simp only [smallI, decide_eq_true_eq] at q
      exact ⟨0, j, rfl, by decide, by decide, by omega, by omega, .inl ⟨rfl, rfl⟩⟩
    · cases h
  · next i j =>
    split at h
    · next q =>
      cases h
      simp only [smallI, decide_eq_true_eq] at q
      exact ⟨i, j, rfl, by omega, by omega, by omega, by omega, .inr rfl⟩
    · cases h
  · cases h
theorem rangeI_length (i j : Int) : (rangeI i j).length = (j - i).toNat := by unfold rangeI; rw [List.length_map, List.length_range]
/-- the reading of a range -/
def tRgE (X : Cx) (XR : XRel) (Wx : WX) (r : Sl → Mem → R (List W)) : L2.St → Hp → (Int → Int → Hp → Prop) → Prop := fun σ H Q =>
  tEs X.K XR Wx r σ H fun vs H1 => ∃ i j, ((vs = [.int j] ∧ i = 0) ∨ vs = [.int i, .int j]) ∧ Q i j H1
theorem prg1 (hg : Gl X "range") (hm : X.mg "range" = none) (ha : EE X XR Wx cf a ca) (na : starEach [a] X.env = (false, eval a X.env) :: starEach [] X.env) :
    PRg X (.Call (.Name "range" p) [a] [] pos) (tRgE X XR Wx (evEs cf (.cons ca .nil))) := by
  intro pins s σ H Q I h
  refine prg_1 hg hm ha na pins s σ H Q I ?_
  have h : tG X.K XR relWs Wx (fun ρ M => (evE cf ca ρ M).bind fun x M1 => (evEs cf .nil ρ M1).bind fun xs M2 => .ok (x :: xs) M2) σ H _ := h
  refine tG.next h fun x v μ ρ M H1 hs hc r hp => ?_
  unfold evEs at hp
  obtain ⟨i, j, h1, h2⟩ := hp μ [v] H1 (List.prefix_refl _) (.refl _) hc (.cons r .nil)
  rcases h1 with ⟨h1, rfl⟩ | h1
  · cases h1; exact ⟨j, rfl, h2⟩
  · cases h1
theorem prg2 (hg : Gl X "range") (hm : X.mg "range" = none) (ha : EE X XR Wx cf a ca) (hb : EE X XR Wx cf b cb) (na : starEach [a, b] X.env = (false, eval a X.env) :: starEach [b] X.env) (nb : starEach [b] X.env = (false, eval b X.env) :: starEach [] X.env) :
    PRg X (.Call (.Name "range" p) [a, b] [] pos) (tRgE X XR Wx (evEs cf (.cons ca (.cons cb .nil)))) := by
  intro pins s σ H Q I h
  refine prg_2 hg hm ha hb na nb (by rw [nb]; rfl) pins s σ H Q I ?_
  have h : tG X.K XR relWs Wx (fun ρ M => (evE cf ca ρ M).bind fun x M1 => ((evE cf cb ρ M1).bind fun y M2 => (evEs cf .nil ρ M2).bind fun xs M3 => .ok (y :: xs) M3).bind fun xs M2 => .ok (x :: xs) M2) σ H _ := h
  refine tG.next h fun x v μ ρ M H1 hs hc r hp => ?_
  unfold evEs at hp
  refine post_next hs hc (Rel2 := relWs) (k := fun y M2 => (R.ok [x, y] M2)) (by
    rw [post_bind] at hp ⊢
    rw [post_bind] at hp
    exact hp) fun y u μ2 M2 H2 p2 e2 hs2 hc2 r2 hp2 => ?_
  obtain ⟨i, j, h1, h2⟩ := hp2 μ2 [v, u] H2 (List.prefix_refl _) (.refl _) hc2 (.cons (r.mono p2 e2) (.cons r2 .nil))
  rcases h1 with ⟨h1, rfl⟩ | h1
  · cases h1
  · cases h1; exact ⟨i, j, rfl, rfl, h2⟩
theorem ev_lrange (S : Std X) (hg : Gl X "list") (hm : X.mg "list" = none) (he : PRg X e (tRgE X XR Wx (evEs cf cs))) (na : starEach [e] X.env = (false, eval e X.env) :: starEach [] X.env) :
    EE X XR Wx cf (.Call (.Name "list" p) [e] [] pos) (.lrange false cs) := by
  refine (pe_listRg S.calm hg hm he na).imp fun σ H Q h => ?_
  unfold evE at h
  show tEs X.K XR Wx (evEs cf cs) σ H _
  refine tG.next h fun ws vs μ ρ M H1 hs hc r hp => ?_
  split at hp
  · next ys q =>
    obtain ⟨i, j, rfl, k1, k2, k3, k4, k5⟩ := rangeW_some q
    split at hp
    · next hl =>
      rw [rangeI_length] at hl
      refine ⟨i, j, ?_, ⟨k1, k2, k3, k4, hl⟩, fun p' hp' => okP.newOb hc hp hp' ⟨_, upd_same, rg_rel i j⟩⟩
      rcases k5 with ⟨rfl, rfl⟩ | rfl
      · obtain ⟨v, rfl, rv⟩ := RWs.one r; cases rv; exact .inl ⟨rfl, rfl⟩
      · obtain ⟨v, u, rfl, rv, ru⟩ := RWs.two r; cases rv; cases ru; exact .inr rfl
    · exact hp.elim
  · exact hp.elim
theorem ev_trange (S : Std X) (hg : Gl X "tuple") (hm : X.mg "tuple" = none) (he : PRg X e (tRgE X XR Wx (evEs cf cs))) (na : starEach [e] X.env = (false, eval e X.env) :: starEach [] X.env) :
    EE X XR Wx cf (.Call (.Name "tuple" p) [e] [] pos) (.lrange true cs) := by
  refine (pe_tupRgF S.calm hg hm he na).imp fun σ H Q h => ?_
  unfold evE at h
  show tEs X.K XR Wx (evEs cf cs) σ H _
  refine tG.next h fun ws vs μ ρ M H1 hs hc r hp => ?_
  split at hp
  · next ys q =>
    obtain ⟨i, j, rfl, k1, k2, k3, k4, k5⟩ := rangeW_some q
    split at hp
    · next hl =>
      rw [rangeI_length] at hl
      refine ⟨i, j, ?_, ⟨k1, k2, k3, k4, hl⟩, okP.newT hc hp (rg_rel i j)⟩
      rcases k5 with ⟨rfl, rfl⟩ | rfl
      · obtain ⟨v, rfl, rv⟩ := RWs.one r; cases rv; exact .inl ⟨rfl, rfl⟩
      · obtain ⟨v, u, rfl, rv, ru⟩ := RWs.two r; cases rv; cases ru; exact .inr rfl
    · exact hp.elim
  · exact hp.elim
/-! ### starred items of a display -/
theorem ev_astar {sp : Pos} (ha : EE X XR Wx cf e ca) (hr : EA X XR Wx cf es cs) (hs : starEach (.Starred e sp :: es) X.env = (true, eval e X.env) :: starEach es X.env) : EA X XR Wx cf (.Starred e sp :: es) (.star ca cs) := by
  refine (StX.pa_star ha hr hs).imp fun σ H Q h => ?_
  have h : tG X.K XR relWs Wx (fun ρ M => (evE cf ca ρ M).bind fun x M1 => match spreadW x M1 with
    | some ys => (evEs cf cs ρ M1).bind fun xs M2 => .ok (ys ++ xs) M2
    | none => .bad) σ H Q := h
  refine tG.next h fun x v μ ρ M H1 hs hc r hp => ?_
  split at hp
  · next ys q =>
    obtain ⟨A, vs, rfl, rs, hq⟩ := hc.seq r q
    refine ⟨A, vs, rfl, ?_, ?_⟩
    · rcases hq with ⟨hq, _⟩ | ⟨hq, _⟩
      · exact .inr hq
      · exact .inl hq
    · exact post_next hs hc hp fun y u μ2 M2 H2 p2 e2 hs2 hc2 r2 hp2 => hp2 μ2 (vs ++ u) H2 (List.prefix_refl _) (.refl _) hc2 ((rs.mono p2 e2).append r2)
  · exact hp.elim
/-! ### backwards, an empty dict -/
theorem RWs.rev {μ : List Addr} {H : Hp} : ∀ {xs : List W} {vs : List V}, RWs μ H xs vs → RWs μ H xs.reverse vs.reverse
  | _, _, .nil => .nil
  | _, _, .cons r t => by
    rw [List.reverse_cons, List.reverse_cons]
    exact (RWs.rev t).append (.cons r .nil)
theorem ev_rev {k : Nat} {p1 p3 : Pos} (ha : EE X XR Wx cf a ca) : EE X XR Wx cf (.Subscript a (.Slice none none (some (.UnaryOp .USub (.Constant (.int 1) k p1) p2)) p3) pos) (.rev ca) := by
  refine (pe_rev ha).imp fun σ H Q h => ?_
  unfold evE at h
  refine tG.next h fun x v μ ρ M H1 hs hc r hp => ?_
  split at hp
  · next xs =>
    cases r with
    | tup h1 hn h2 => exact ⟨_, _, rfl, .inr ⟨.frz h1, okP.newT hc hp h2.rev⟩⟩
  · next r' =>
    split at hp
    · next xs q =>
      obtain ⟨A, vs, rfl, _, h3, h4⟩ := hc.lst r q
      exact ⟨A, vs, rfl, .inl ⟨.of h3, fun p' hp' => okP.newOb hc hp hp' ⟨_, upd_same, h4.rev.mono pre1 (.new hp')⟩⟩⟩
    · exact hp.elim
  · exact hp.elim
theorem ev_dnew : EE X XR Wx cf (.Dict [] [] pos) (.dnew false) := by
  refine pe_dnewK.imp fun σ H Q h => ?_
  obtain ⟨μ, ρ, M, hs, hc, hp⟩ := h
  unfold evE at hp
  exact fun p' hp' => okP.newOb hc hp hp' ⟨_, upd_same, .nil⟩
/-! ### methods -/
theorem mt_ev' (hu : X.A.units + 70 < cLine) (m : Mt) (ty : String) (hx : (m, ty) ∈ mtAll) : ∃ id, MtOf ty (mtN m) id ∧ MtR X id (liftM X.K (mtW ty m)) := mt_ev hu m ty hx
theorem ty_ne {m : Mt} {ty : String} (hx : (m, ty) ∈ mtAll) : ty ≠ "NoneType" ∧ ty ≠ "bool" ∧ ty ≠ "int" := by
  simp only [mtAll, List.mem_cons, Prod.mk.injEq, List.mem_nil_iff, or_false] at hx
  rcases hx with ⟨rfl, rfl⟩ | ⟨rfl, rfl⟩ | ⟨rfl, rfl⟩ | ⟨rfl, rfl⟩ | ⟨rfl, rfl⟩ | ⟨rfl, rfl⟩ | ⟨rfl, rfl⟩ | ⟨rfl, rfl⟩ | ⟨rfl, rfl⟩ | ⟨rfl, rfl⟩ | ⟨rfl, rfl⟩ | ⟨rfl, rfl⟩ | ⟨rfl, rfl⟩ <;> decide
theorem ev_meth0 (S : Std X) (m : Mt) {x : Str} {apos : Pos} (hx : x = mtN m) (hbase : attributeBase a x X.env (eval a X.env) = eval a X.env) (hline : (apos.endLine == pos.line) = true) (ha : EE X XR Wx cf a ca) : EE X XR Wx cf (.Call (.Attribute a x apos) [] [] pos) (.meth m ca .nil) := by
  subst hx
  refine ⟨fun pins s σ H Q I h => ?_⟩
  have h' : tE X.K XR Wx (evE cf ca) σ H fun x H1 => ∃ μ M w ty, CoM X.K μ M H1 ∧ RW μ H1 w x ∧ tyW M w = some ty ∧ (m, ty) ∈ mtAll ∧ liftM X.K (mtW ty m) x [] H1 Q := by
    unfold evE at h
    refine tG.next h fun w v μ ρ M H1 hs hc r hp => ?_
    split at hp
    · next ty q =>
      split at hp
      · next hx =>
        unfold evEs at hp
        exact ⟨μ, M, w, ty, hc, r, q, of_decide_eq_true hx, μ, M, w, [], _, hc, r, .nil, hp⟩
      · exact hp.elim
    · exact hp.elim
  refine wpAny_Call_method0_late hbase hline (thn (ha.run pins s σ H _ I h') fun v s1 ⟨x, H1, I1, r1, μ, M, w, ty, hc, rw', q, hx, q1⟩ => ?_)
  obtain ⟨id, mo, mr⟩ := mt_ev' S.un m ty hx
  obtain ⟨h1, h2⟩ := ty_is I1 hc rw' r1 q (ty_ne hx)
  exact ⟨ty, id, mo.pa, mo.slot, mo.ty, h1, h2, Calls.callWith_builtin rfl (PySem.evalArgs_none (mr pins s1 σ H1 x [] v [] Q I1 r1 .nil q1))⟩
theorem ev_meth (S : Std X) (m : Mt) {x : Str} {apos : Pos} (hx : x = mtN m) (hbase : attributeBase a x X.env (eval a X.env) = eval a X.env) (hline : (apos.endLine == pos.line) = true) (hfew : (e :: es).length < 30) (hst : noStar (e :: es) = true)
    (ha : EE X XR Wx cf a ca) (hA : EA X XR Wx cf (e :: es) cs) : EE X XR Wx cf (.Call (.Attribute a x apos) (e :: es) [] pos) (.meth m ca cs) := by
  subst hx
  refine ⟨fun pins s σ H Q I h => ?_⟩
  have hfew' : ((backTo pos (starEach (e :: es) X.env)).all (fun x => !x.1) && (backToKw pos (keywordEach [] X.env)).all (fun x => x.1.isSome)
      && decide ((e :: es).length + ([] : List Keyword).length + (if ([] : List Keyword).isEmpty then 0 else 1) < 30)) = true := by
    have h1 : (backTo pos (starEach (e :: es) X.env)).all (fun x => !x.1) = true := by
      rw [List.all_eq_true]
      intro y hy
      have h2 := List.any_eq_false.mp (noStar_each (env := X.env) hst pos) y hy
      simpa using h2
    rw [h1]
    have h3 : ([] : List Keyword).length + (if ([] : List Keyword).isEmpty then 0 else 1) = 0 := rfl
    simp only [Bool.true_and, Bool.and_eq_true]
    exact ⟨rfl, decide_eq_true (by rw [Nat.add_assoc, h3]; exact hfew)⟩
  have h' : tE X.K XR Wx (evE cf ca) σ H fun x H1 => ∃ μ M w ty, CoM X.K μ M H1 ∧ RW μ H1 w x ∧ tyW M w = some ty ∧ (m, ty) ∈ mtAll ∧ tEs X.K XR Wx (evEs cf cs) σ H1 fun xs H2 => liftM X.K (mtW ty m) x xs H2 Q := by
    unfold evE at h
    refine tG.next h fun w v μ ρ M H1 hs hc r hp => ?_
    split at hp
    · next ty q =>
      split at hp
      · next hx =>
        refine ⟨μ, M, w, ty, hc, r, q, of_decide_eq_true hx, ?_⟩
        exact post_next hs hc hp fun xs vs μ2 M2 H2 p2 e2 hs2 hc2 r2 hp2 => ⟨μ2, M2, w, xs, _, hc2, r.mono p2 e2, r2, hp2⟩
      · exact hp.elim
    · exact hp.elim
  refine wpAny_Call_method_late hbase hfew' hline rfl (thn (ha.run pins s σ H _ I h') fun v s1 ⟨x, H1, I1, r1, μ, M, w, ty, hc, rw', q, hx, q1⟩ => ?_)
  obtain ⟨hs1, hs2⟩ := noStar_cons (env := X.env) hst
  obtain ⟨id, mo, mr⟩ := mt_ev' S.un m ty hx
  obtain ⟨h1, h2⟩ := ty_is I1 hc rw' r1 q (ty_ne hx)
  refine ⟨ty, id, mo.pa, mo.slot, mo.ty, h1, h2, ?_⟩
  have hB := hA.run pos pins s1 σ H1 _ I1 q1
  rw [hs1] at hB ⊢
  refine Calls.callWith_builtin (by show (false || (backTo pos (starEach es X.env)).any (·.1)) = false; rw [noStar_each hs2 pos]; rfl) (Calls.evalArgs_plain ?_)
  exact thn hB fun us s2 ⟨vs, H2, I2, r2, q2⟩ => mr pins s2 σ H2 x vs v us Q I2 r1 r2 q2
end
end EV

/-! Ev12: targets, what is walked, comprehensions. -/
namespace EV
open PySem PySem.Spec PyProof.Rows L2

abbrev noE : Str → List W → Mem → Prop := fun _ _ _ => False
theorem post_noE {α : Type} {r : R α} {Q : α → Mem → Prop} {E : Str → List W → Mem → Prop} (h : r.calm.post Q E) : r.post Q noE := by
  cases r with
  | ok a M => exact h
  | exc c fs M => exact h
  | bad => exact h
def itmRel (K : PySem.W.Frag) (μ : List Addr) (H : Hp) : Itm → V → Prop
  | .one w, v => RW μ H w v
  | .many ws, v => ∃ p vs, v = .ref p ∧ SqT K H p vs ∧ RWs μ H ws vs
/-- the iterator gives these items, as long as what is walked stands -/
def ItOk (K : PySem.W.Frag) (its : List Itm) (gs : List (Nat × List W)) (μ0 : List Addr) (H0 : Hp) (J : It) : Prop := ∀ (μ : List Addr) (M : Mem) (H : Hp), μ0 <+: μ → Ext H0 H → CoM K μ M H → guards gs M = true →
  (∀ i, its.length ≤ i → J.stop i H) ∧ ∀ i x, its[i]? = some x → J.go i H ∧ ∀ v H', J.yld i H v H' → Ext H H' ∧ CoM K μ M H' ∧ itmRel K μ H' x v
theorem ItOk.mono {K : PySem.W.Frag} {its : List Itm} {gs : List (Nat × List W)} {μ0 μ1 : List Addr} {H0 H1 : Hp} {J : It} (h : ItOk K its gs μ0 H0 J) (p : μ0 <+: μ1) (e : Ext H0 H1) : ItOk K its gs μ1 H1 J :=
  fun μ M H p2 e2 => h μ M H (p.trans p2) (e.trans e2)
def relIt (K : PySem.W.Frag) : List Addr → Hp → List Itm × List (Nat × List W) → It → Prop := fun μ H p J => ItOk K p.1 p.2 μ H J
def okSl (K : PySem.W.Frag) (μ : List Addr) (H : Hp) (Q : L2.St → Hp → Prop) : Sl → Mem → Prop := fun ρ' M' => ∀ μ' σ' H', μ <+: μ' → Ext H H' → CoM K μ' M' H' → RSl μ' H' ρ' σ' → Q σ' H'
/-- a loop's target -/
def gN (K : PySem.W.Frag) (g : CN) : TG := fun v σ H Q => ∃ μ ρ M x, RSl μ H ρ σ ∧ CoM K μ M H ∧ itmRel K μ H x v ∧ (evN g x ρ M).post (okSl K μ H Q) noE
def setAllV : List Nat → List V → L2.St → Option L2.St
  | [], [], σ => some σ
  | i :: is, v :: vs, σ => setAllV is vs (σ.set i (some v))
  | _, _, _ => none
theorem setAll_rel {μ : List Addr} {H : Hp} : ∀ {is : List Nat} {ws : List W} {vs : List V} {ρ ρ' : Sl} {σ : L2.St}, RWs μ H ws vs → RSl μ H ρ σ → setAll is ws ρ = some ρ' → ∃ σ', setAllV is vs σ = some σ' ∧ RSl μ H ρ' σ'
  | [], [], _, ρ, ρ', σ, .nil, hs, h => by cases h; exact ⟨σ, rfl, hs⟩
  | [], _ :: _, _, _, _, _, .cons _ _, _, h => by cases h
  | _ :: _, [], _, _, _, _, .nil, _, h => by cases h
  | i :: is, w :: ws, _, ρ, ρ', σ, .cons r t, hs, h => setAll_rel (is := is) t (hs.set r i) h
theorem setAll_len : ∀ {is : List Nat} {ws : List W} {ρ ρ' : Sl}, setAll is ws ρ = some ρ' → ws.length = is.length
  | [], [], _, _, _ => rfl
  | [], _ :: _, _, _, h => by cases h
  | _ :: _, [], _, _, h => by cases h
  | i :: is, w :: ws, _, _, h => congrArg (· + 1) (setAll_len (is := is) (ws := ws) h)
def gNames (is : List Nat) : TGs := fun vs σ H Q => ∃ σ', setAllV is vs σ = some σ' ∧ Q σ' H
section
variable {X : Cx} {pos p : Pos}
theorem PG.or {tg : Expr} {t t' : TG} (h : PG X tg t) (h' : PG X tg t') : PG X tg (fun v σ H Q => t v σ H Q ∨ t' v σ H Q) := by
  refine ⟨fun pins s σ H v u Q I r q => ?_⟩
  rcases q with q | q
  · exact h.run pins s σ H v u Q I r q
  · exact h'.run pins s σ H v u Q I r q
theorem pgn_nil : PGs X [] (gNames []) := by
  refine pgs_nil.imp fun vs σ H Q h => ?_
  obtain ⟨σ', e, q⟩ := h
  cases vs with
  | nil => cases e; exact ⟨rfl, q⟩
  | cons _ _ => cases e
/-- a name can be stored -/
structure NmOk (X : Cx) (i : Nat) (x : Str) : Prop where
  ix : X.N[i]? = some x
  loc : Loc X.env.scope x
  fn : X.fn x = true ∨ X.env.scope.names.lookup x = some .local
theorem pgn_cons (S : Std X) {i : Nat} {x : Str} {es : List Expr} {is : List Nat} (nm : NmOk X i x) (h : PGs X es (gNames is)) (hs : (assignEach (.Name x p :: es) X.env).map (·.2) = assign (.Name x p) X.env :: (assignEach es X.env).map (·.2)) : PGs X (.Name x p :: es) (gNames (i :: is)) := by
  refine (pgs_cons (pg_name S.nd nm.ix nm.loc nm.fn) h hs).imp fun vs σ H Q h => ?_
  obtain ⟨σ', e, q⟩ := h
  cases vs with
  | nil => cases e
  | cons v vs => exact ⟨v, vs, rfl, σ', e, q⟩
theorem en_one (S : Std X) {i : Nat} {x : Str} (nm : NmOk X i x) : PG X (.Name x pos) (gN X.K (.one i)) := by
  refine (pg_name S.nd nm.ix nm.loc nm.fn).imp fun v σ H Q h => ?_
  obtain ⟨μ, ρ, M, x, hs, hc, r, hp⟩ := h
  cases x with
  | one w => exact hp μ _ H (List.prefix_refl _) (.refl _) hc (hs.set r i)
  | many ws => exact hp.elim
theorem en_many (S : Std X) {es : List Expr} {is : List Nat} {k : Nat} (h : PGs X es (gNames is)) (hn : (assignEach es X.env).length = is.length) (hst : (assignEach es X.env).findIdx? (·.1) = none) : PG X (.Tuple es k pos) (gN X.K (.many is)) := by
  refine (PG.or (pg_tup S.calm h hn hst) (pg_unl S.calm h hn hst)).imp fun v σ H Q h => ?_
  obtain ⟨μ, ρ, M, x, hs, hc, r, hp⟩ := h
  cases x with
  | one w =>
    unfold evN at hp
    simp only at hp
    split at hp
    · next xs q =>
      obtain ⟨ρ', e, q'⟩ := post_ofO hp
      obtain ⟨a, vs, rfl, rs, hq⟩ := hc.seq r q
      obtain ⟨σ', e', rs'⟩ := setAll_rel rs hs e
      have l := setAll_len e
      have l' := rs.length
      have fin : gNames is vs σ H Q := ⟨σ', e', q' μ σ' H (List.prefix_refl _) (.refl _) hc rs'⟩
      rcases hq with ⟨hq, _⟩ | ⟨hq, _⟩
      · exact .inr ⟨a, vs, rfl, hq, by omega, fin⟩
      · exact .inl ⟨a, vs, rfl, hq, by omega, fin⟩
    · exact hp.elim
  | many ws =>
    obtain ⟨a, vs, rfl, hq, rs⟩ := r
    unfold evN at hp
    simp only at hp
    obtain ⟨ρ', e, q'⟩ := post_ofO hp
    obtain ⟨σ', e', rs'⟩ := setAll_rel rs hs e
    have l := setAll_len e
    have l' := rs.length
    exact .inl ⟨a, vs, rfl, hq, by omega, σ', e', q' μ σ' H (List.prefix_refl _) (.refl _) hc rs'⟩
end

/-! ### what is walked -/
theorem guards_one {r : Nat} {xs : List W} {M : Mem} (h : guards [(r, xs)] M = true) : M[r]? = some (.lst xs) := by
  simpa [guards] using h
theorem guards_app {gs gs' : List (Nat × List W)} {M : Mem} (h : guards (gs ++ gs') M = true) : guards gs M = true ∧ guards gs' M = true := by
  simpa [guards, List.all_append] using h
theorem map_one_get {xs : List W} {i : Nat} {x : Itm} (h : (xs.map Itm.one)[i]? = some x) : ∃ w, xs[i]? = some w ∧ x = .one w := by
  rw [List.getElem?_map] at h
  cases q : xs[i]? with
  | none => rw [q] at h; cases h
  | some w => rw [q] at h; cases h; exact ⟨w, rfl, rfl⟩
section
variable {K : PySem.W.Frag} {μ : List Addr} {M : Mem} {H : Hp}
/-- a list or the script, at each turn as it stood -/
theorem seqL_at {r : Nat} {a : Addr} {xs : List W} {vs : List V} (c : CoM K μ M H) (h : RW μ H (.ref r) (.ref a)) (e : seqW M (.ref r) = some xs) :
    ∀ (μ' : List Addr) (M' : Mem) (H' : Hp), μ <+: μ' → Ext H H' → CoM K μ' M' H' → guards (gOf M (.ref r)) M' = true → ∃ us, SqL K H' a us ∧ RWs μ' H' xs us := by
  intro μ' M' H' p ex c' g
  simp only [gOf] at g
  simp only [seqW] at e
  cases q : M[r]? with
  | none => rw [q] at e; cases e
  | some o =>
    rw [q] at e
    simp only [q] at g
    cases o with
    | lst ys =>
      cases e
      simp only at g
      obtain ⟨a', us, e1, _, h1, h2⟩ := c'.lst (h.mono p ex) (guards_one g)
      cases e1
      exact ⟨us, .of h1, h2⟩
    | rol ys =>
      cases e
      obtain ⟨a', e1, _, us, h1, h2⟩ := c.at h q
      cases e1
      exact ⟨us, (h1.mono ex).sq, h2.mono p ex⟩
    | dK ys => cases e
theorem itOk_list {r : Nat} {a : Addr} {xs : List W} (c : CoM K μ M H) (h : RW μ H (.ref r) (.ref a)) (e : seqW M (.ref r) = some xs) : ItOk K (xs.map .one) (gOf M (.ref r)) μ H (Itl K a) := by
  intro μ' M' H' p ex c' g
  obtain ⟨us, h1, h2⟩ := seqL_at (vs := []) c h e μ' M' H' p ex c' g
  have hl := h2.length
  refine ⟨fun i hi => ⟨us, h1, by rw [List.length_map] at hi; omega⟩, fun i x hx => ?_⟩
  obtain ⟨w, hw, rfl⟩ := map_one_get hx
  obtain ⟨v, hv, rv⟩ := h2.get hw
  refine ⟨⟨us, v, h1, hv⟩, fun v' H2 hy => ?_⟩
  obtain ⟨rfl, hy⟩ := hy
  have e2 := hy us h1
  rw [hv] at e2
  cases e2
  exact ⟨.refl _, c', rv⟩
theorem itOk_tup {a : Addr} {xs : List W} (h : RW μ H (.tup xs) (.ref a)) : ItOk K (xs.map .one) [] μ H (Itt K a) := by
  intro μ' M' H' p ex c' g
  cases h.mono p ex with
  | tup h1 hn h2 =>
    have hl := h2.length
    have hq : SqT K H' a _ := .frz h1
    refine ⟨fun i hi => ⟨_, hq, by rw [List.length_map] at hi; omega⟩, fun i x hx => ?_⟩
    obtain ⟨w, hw, rfl⟩ := map_one_get hx
    obtain ⟨v, hv, rv⟩ := h2.get hw
    refine ⟨⟨_, v, hq, hv⟩, fun v' H2 hy => ?_⟩
    obtain ⟨rfl, hy⟩ := hy
    have e2 := hy _ hq
    rw [hv] at e2
    cases e2
    exact ⟨.refl _, c', rv⟩
theorem itOk_str {x : Str} : ItOk K (x.cps.toList.map fun c => .one (.str ⟨#[c]⟩)) [] μ H (Its x) := by
  intro μ' M' H' p ex c' g
  refine ⟨fun i hi => ?_, fun i y hy => ?_⟩
  · show x.cps.size ≤ i
    rw [List.length_map, Array.length_toList] at hi
    exact hi
  · rw [List.getElem?_map, Array.getElem?_toList] at hy
    cases q : x.cps[i]? with
    | none => rw [q] at hy; cases hy
    | some c =>
      rw [q] at hy
      cases hy
      refine ⟨(Array.getElem?_eq_some_iff.mp q).1, fun v H2 hv => ?_⟩
      obtain ⟨rfl, c2, e2, rfl⟩ := hv
      rw [q] at e2
      cases e2
      exact ⟨.refl _, c', .str _⟩
theorem itOk_range (i j : Int) : ItOk K ((rangeI i j).map .one) [] μ H (Itr i (j - i).toNat) := by
  intro μ' M' H' p ex c' g
  refine ⟨fun n hn => by rw [List.length_map, rangeI_length] at hn; exact hn, fun n x hx => ?_⟩
  obtain ⟨w, hw, rfl⟩ := map_one_get hx
  have hlt : n < (j - i).toNat := by
    have := (List.getElem?_eq_some_iff.mp hw).1
    rwa [rangeI_length] at this
  have hw2 : w = .int (i + (n : Nat)) := by
    unfold rangeI at hw
    rw [List.getElem?_map, List.getElem?_range hlt] at hw
    cases hw
    rfl
  subst hw2
  refine ⟨hlt, fun v H2 hy => ?_⟩
  obtain ⟨rfl, rfl⟩ := hy
  exact ⟨.refl _, c', .int _⟩
theorem enumT_get : ∀ {xs : List W} {n i : Nat} {x : Itm}, (enumT n xs)[i]? = some x → ∃ w, xs[i]? = some w ∧ x = .many [.int ((n + i : Nat) : Int), w]
  | [], _, _, _, h => by cases h
  | w :: _, n, 0, _, h => by cases h; exact ⟨w, rfl, rfl⟩
  | _ :: xs, n, i + 1, x, h => by
    obtain ⟨w, h1, h2⟩ := enumT_get (xs := xs) (n := n + 1) (i := i) h
    exact ⟨w, h1, by rw [h2, Nat.add_right_comm]; rfl⟩
theorem enumT_length : ∀ {xs : List W} {n : Nat}, (enumT n xs).length = xs.length
  | [], _ => rfl
  | _ :: xs, n => congrArg (· + 1) (enumT_length (xs := xs) (n := n + 1))
theorem itOk_enum {r : Nat} {a : Addr} {xs : List W} (c : CoM K μ M H) (h : RW μ H (.ref r) (.ref a)) (e : seqW M (.ref r) = some xs) : ItOk K (enumT 0 xs) (gOf M (.ref r)) μ H (Ite K a) := by
  intro μ' M' H' p ex c' g
  obtain ⟨us, h1, h2⟩ := seqL_at (vs := []) c h e μ' M' H' p ex c' g
  have hl := h2.length
  refine ⟨fun i hi => ⟨us, h1, by rw [enumT_length] at hi; omega⟩, fun i x hx => ?_⟩
  obtain ⟨w, hw, rfl⟩ := enumT_get hx
  obtain ⟨v, hv, rv⟩ := h2.get hw
  refine ⟨⟨us, v, h1, hv⟩, fun v' H2 hy => ?_⟩
  obtain ⟨T, y, rfl, hT, rfl, hy⟩ := hy
  have e2 := hy us h1
  rw [hv] at e2
  cases e2
  refine ⟨.new hT, c'.new hT, T, _, rfl, .of upd_same, .cons ?_ (.cons (rv.mono (List.prefix_refl _) (.new hT)) .nil)⟩
  rw [Nat.zero_add]
  exact .int _
theorem zipT_get : ∀ {xs ys : List W} {i : Nat} {x : Itm}, (zipT xs ys)[i]? = some x → ∃ w z, xs[i]? = some w ∧ ys[i]? = some z ∧ x = .many [w, z]
  | [], _, _, _, h => by simp [zipT] at h
  | _ :: _, [], _, _, h => by simp [zipT] at h
  | w :: _, z :: _, 0, _, h => by simp only [zipT] at h; cases h; exact ⟨w, z, rfl, rfl, rfl⟩
  | _ :: xs, _ :: ys, i + 1, x, h => by
    simp only [zipT] at h
    obtain ⟨w, z, h1, h2, h3⟩ := zipT_get (xs := xs) (ys := ys) (i := i) h
    exact ⟨w, z, h1, h2, h3⟩
theorem zipT_length : ∀ {xs ys : List W}, (zipT xs ys).length = min xs.length ys.length
  | [], _ => by simp [zipT]
  | _ :: _, [] => by simp [zipT]
  | _ :: xs, _ :: ys => by simp only [zipT, List.length_cons]; rw [zipT_length (xs := xs) (ys := ys)]; omega
theorem itOk_zip {r r2 : Nat} {a b : Addr} {xs ys : List W} (c : CoM K μ M H) (h : RW μ H (.ref r) (.ref a)) (h' : RW μ H (.ref r2) (.ref b)) (e : seqW M (.ref r) = some xs) (e' : seqW M (.ref r2) = some ys) :
    ItOk K (zipT xs ys) (gOf M (.ref r) ++ gOf M (.ref r2)) μ H (Itz K a b) := by
  intro μ' M' H' p ex c' g
  obtain ⟨g1, g2⟩ := guards_app g
  obtain ⟨us, h1, h2⟩ := seqL_at (vs := []) c h e μ' M' H' p ex c' g1
  obtain ⟨us', h1', h2'⟩ := seqL_at (vs := []) c h' e' μ' M' H' p ex c' g2
  have hl := h2.length
  have hl' := h2'.length
  refine ⟨fun i hi => ⟨us, us', h1, h1', by rw [zipT_length] at hi; omega⟩, fun i x hx => ?_⟩
  obtain ⟨w, z, hw, hz, rfl⟩ := zipT_get hx
  obtain ⟨v, hv, rv⟩ := h2.get hw
  obtain ⟨v', hv', rv'⟩ := h2'.get hz
  refine ⟨⟨us, us', v, v', h1, h1', hv, hv'⟩, fun v2 H2 hy => ?_⟩
  obtain ⟨T, y, y', rfl, hT, rfl, hy, hy'⟩ := hy
  have e2 := hy us h1
  have e3 := hy' us' h1'
  rw [hv] at e2
  rw [hv'] at e3
  cases e2
  cases e3
  exact ⟨.new hT, c'.new hT, T, _, rfl, .of upd_same, .cons (rv.mono (List.prefix_refl _) (.new hT)) (.cons (rv'.mono (List.prefix_refl _) (.new hT)) .nil)⟩
theorem itOk_zipT {a b : Addr} {xs ys : List W} (h : RW μ H (.tup xs) (.ref a)) (h' : RW μ H (.tup ys) (.ref b)) : ItOk K (zipT xs ys) [] μ H (RZ.ItzT K a b) := by
  intro μ' M' H' p ex c' g
  cases h.mono p ex with
  | tup k1 _ h2 =>
    cases h'.mono p ex with
    | tup k1' _ h2' =>
      have h1 : SqT K H' a _ := .frz k1
      have h1' : SqT K H' b _ := .frz k1'
      have hl := h2.length
      have hl' := h2'.length
      refine ⟨fun i hi => ⟨_, _, h1, h1', by rw [zipT_length] at hi; omega⟩, fun i x hx => ?_⟩
      obtain ⟨w, z, hw, hz, rfl⟩ := zipT_get hx
      obtain ⟨v, hv, rv⟩ := h2.get hw
      obtain ⟨v', hv', rv'⟩ := h2'.get hz
      refine ⟨⟨_, _, v, v', h1, h1', hv, hv'⟩, fun v2 H2 hy => ?_⟩
      obtain ⟨T, y, y', rfl, hT, rfl, hy, hy'⟩ := hy
      have e2 := hy _ h1
      have e3 := hy' _ h1'
      rw [hv] at e2
      rw [hv'] at e3
      cases e2
      cases e3
      exact ⟨.new hT, c'.new hT, T, _, rfl, .of upd_same, .cons (rv.mono (List.prefix_refl _) (.new hT)) (.cons (rv'.mono (List.prefix_refl _) (.new hT)) .nil)⟩
end
theorem PI.or {X : Cx} {tg e : Expr} {t t' : TI} (h : PI X tg e t) (h' : PI X tg e t') : PI X tg e (fun σ H R => t σ H R ∨ t' σ H R) := by
  refine ⟨fun pins s σ H R I q => ?_⟩
  rcases q with q | q
  · exact h.run pins s σ H R I q
  · exact h'.run pins s σ H R I q
section
variable (X : Cx) (XR : XRel) (Wx : WX) (cf : Nat → List W → Mem → R W)
abbrev EI (tg e : Expr) (c : CI) : Prop := PI X tg e (tG X.K XR (relIt X.K) Wx (evI cf c))
end
section
variable {X : Cx} {XR : XRel} {Wx : WX} {cf : Nat → List W → Mem → R W} {pos p tpos : Pos} {tg e a b d : Expr} {es elts : List Expr} {kk : Nat} {ca cb cd : CE} {cs : CEs}
/-- walked: a list, a tuple, a str -/
def iAny (K : PySem.W.Frag) (te : TE) : TI := fun σ H R => te σ H fun x H1 => (∃ a, x = .ref a ∧ (∃ xs, SqL K H1 a xs) ∧ R (Itl K a) H1) ∨ (∃ a, x = .ref a ∧ (∃ xs, SqT K H1 a xs) ∧ R (Itt K a) H1) ∨ ∃ z, x = .str z ∧ R (Its z) H1
theorem pi_any {te : TE} (he : PE X e te) : PI X tg e (iAny X.K te) := by
  refine ⟨fun pins s σ H R I h => ?_⟩
  have h1 := he.run pins s σ H _ I h
  refine thn h1 fun v s1 ⟨x, H1, I1, r1, q1⟩ => ?_
  rcases q1 with ⟨a, e, ⟨xs, hq⟩, q⟩ | ⟨a, e, ⟨xs, hq⟩, q⟩ | ⟨x, ex, q⟩
  · subst e
    cases r1
    obtain ⟨its, rv, p, hz⟩ := I1.list hq
    refine wpAny_pyIter_list p.isList ?_
    refine ⟨s1.heap.objs.size, [s1.heap.objs.size], _, _, H1, rfl, I1.kept (t' := s1.toks) fun b o e => Heap.get?_push_of_some _ e, turn_list a _, ⟨_, Heap.get?_push_size _ rfl, rfl, rfl⟩, fun b hb => ?_, q⟩
    have e : b = s1.heap.objs.size := by simpa using hb
    subst e
    exact I1.fpOk (Nat.le_refl _) (I1.hok.fresh (Nat.le_refl _))
  · subst e
    cases r1
    obtain ⟨its, rv, p, hz⟩ := I1.tuple hq
    refine wpAny_pyIter_tuple (show s1.heap.IsTuple a its.toArray from p) ?_
    refine ⟨s1.heap.objs.size, [s1.heap.objs.size], _, _, H1, rfl, I1.kept (t' := s1.toks) fun b o e => Heap.get?_push_of_some _ e, turn_tuple a _, ⟨_, Heap.get?_push_size _ rfl, rfl, rfl⟩, fun b hb => ?_, q⟩
    have e : b = s1.heap.objs.size := by simpa using hb
    subst e
    exact I1.fpOk (Nat.le_refl _) (I1.hok.fresh (Nat.le_refl _))
  · subst ex
    obtain ⟨t, rfl⟩ := r1
    cases ha : x.cps.all (· < 128)
    · exact wpAny_pyIter_wide ha (pi_one (tk := s1.toks) I1 _ (turn_str _ x t "str_iterator" (.inr rfl)) ⟨_, Heap.get?_push_size _ rfl, rfl, rfl⟩ q)
    · exact wpAny_pyIter_ascii ha (pi_one (tk := s1.toks) I1 _ (turn_str _ x t "str_ascii_iterator" (.inl rfl)) ⟨_, Heap.get?_push_size _ rfl, rfl, rfl⟩ q)
theorem itR {μ : List Addr} {M : Mem} {H : Hp} {its : List Itm} {gs : List (Nat × List W)} {R : It → Hp → Prop} {J : It} (hc : CoM X.K μ M H) (hp : okP X.K (relIt X.K) μ H R (its, gs) M) (h : ItOk X.K its gs μ H J) : R J H :=
  hp μ J H (List.prefix_refl _) (.refl _) hc h
theorem ei_seq (ha : EE X XR Wx cf a ca) : EI X XR Wx cf tg a (.seq ca) := by
  refine (pi_any ha).imp fun σ H R h => ?_
  unfold evI at h
  refine tG.next h fun x v μ ρ M H1 hs hc r hp => ?_
  unfold iterW at hp
  split at hp
  · next xs q =>
    obtain ⟨A, vs, rfl, rs, hq⟩ := hc.seq r q
    rcases hq with ⟨hq, r0, rfl⟩ | ⟨hq, rfl⟩
    · exact .inl ⟨A, rfl, ⟨vs, hq⟩, itR hc hp (itOk_list hc r q)⟩
    · exact .inr (.inl ⟨A, rfl, ⟨vs, hq⟩, itR hc hp (itOk_tup r)⟩)
  · split at hp
    · next z _ => cases r; exact .inr (.inr ⟨z, rfl, itR hc hp itOk_str⟩)
    · exact hp.elim
theorem ei_range1 (hg : Gl X "range") (hm : X.mg "range" = none) (ha : EE X XR Wx cf a ca) (hs : starEach [a] X.env = [(false, eval a X.env)]) : EI X XR Wx cf tg (.Call (.Name "range" p) [a] [] pos) (.range (.cons ca .nil)) := by
  refine (pi_range1 hg hm (pa_cons ha pa_nil hs) hs).imp fun σ H R h => ?_
  have h : tG X.K XR (relIt X.K) Wx (fun ρ M => ((evE cf ca ρ M).bind fun x M1 => (EV.R.ok [x] M1)).bind fun xs M1 => match rangeW xs with
    | some ys => .ok (ys.map .one, []) M1
    | none => .bad) σ H R := h
  have h : tG X.K XR (relIt X.K) Wx (fun ρ M => (evE cf ca ρ M).bind fun x M1 => match rangeW [x] with
    | some ys => .ok (ys.map .one, []) M1
    | none => .bad) σ H R := by
    obtain ⟨μ, ρ, M, h1, h2, h3⟩ := h
    refine ⟨μ, ρ, M, h1, h2, ?_⟩
    rw [post_bind, post_bind] at h3
    exact post_bind.mpr h3
  refine tG.next h fun x v μ ρ M H1 hs hc r hp => ?_
  split at hp
  · next ys q =>
    obtain ⟨i, j, rfl, k1, k2, k3, k4, k5⟩ := rangeW_some q
    rcases k5 with ⟨k5, rfl⟩ | k5
    · cases k5
      cases r
      refine ⟨j, rfl, k3, k4, ?_⟩
      have := itR hc hp (itOk_range 0 j)
      rwa [Int.sub_zero] at this
    · cases k5
  · exact hp.elim
theorem ei_range2 (hg : Gl X "range") (hm : X.mg "range" = none) (ha : EE X XR Wx cf a ca) (hb : EE X XR Wx cf b cb) (hs : starEach [a, b] X.env = [(false, eval a X.env), (false, eval b X.env)]) (hs2 : starEach [b] X.env = [(false, eval b X.env)]) :
    EI X XR Wx cf tg (.Call (.Name "range" p) [a, b] [] pos) (.range (.cons ca (.cons cb .nil))) := by
  refine (pi_range2 hg hm (pa_cons ha (pa_cons hb pa_nil hs2) (by rw [hs, hs2])) hs hs2).imp fun σ H R h => ?_
  have h : tG X.K XR (relIt X.K) Wx (fun ρ M => ((evE cf ca ρ M).bind fun x M1 => ((evE cf cb ρ M1).bind fun y M2 => (EV.R.ok [y] M2)).bind fun xs M2 => .ok (x :: xs) M2).bind fun xs M1 => match rangeW xs with
    | some ys => .ok (ys.map .one, []) M1
    | none => .bad) σ H R := h
  have h : tG X.K XR (relIt X.K) Wx (fun ρ M => (evE cf ca ρ M).bind fun x M1 => (evE cf cb ρ M1).bind fun y M2 => match rangeW [x, y] with
    | some ys => .ok (ys.map .one, []) M2
    | none => .bad) σ H R := by
    obtain ⟨μ, ρ, M, h1, h2, h3⟩ := h
    refine ⟨μ, ρ, M, h1, h2, ?_⟩
    rw [post_bind, post_bind] at h3
    refine post_bind.mpr (post_mono h3 (fun x M1 z => ?_) fun _ _ _ z => z)
    rw [post_bind, post_bind] at z
    exact post_bind.mpr z
  refine tG.next h fun x v μ ρ M H1 hs hc r hp => ?_
  refine post_next hs hc hp fun y u μ2 M2 H2 p2 e2 hs2 hc2 r2 hp2 => ?_
  split at hp2
  · next ys q =>
    obtain ⟨i, j, rfl, k1, k2, k3, k4, k5⟩ := rangeW_some q
    rcases k5 with ⟨k5, rfl⟩ | k5
    · cases k5
    · cases k5
      cases r
      cases r2
      exact ⟨i, j, rfl, ⟨k1, k2, k3, k4⟩, itR hc2 hp2 (itOk_range i j)⟩
  · exact hp2.elim
theorem itOk_range3 {K : PySem.W.Frag} {μ : List Addr} {H : Hp} (i c : Int) (n : Nat) : ItOk K (((List.range n).map fun (k : Nat) => W.int (i + (k : Nat) * c)).map .one) [] μ H (Itc i c n) := by
  intro μ' M' H' p ex c' g
  refine ⟨fun k hk => by rw [List.length_map, List.length_map, List.length_range] at hk; exact hk, fun k x hx => ?_⟩
  obtain ⟨w, hw, rfl⟩ := map_one_get hx
  have hlt : k < n := by
    have := (List.getElem?_eq_some_iff.mp hw).1
    rwa [List.length_map, List.length_range] at this
  have hw2 : w = .int (i + (k : Nat) * c) := by
    rw [List.getElem?_map, List.getElem?_range hlt] at hw
    cases hw
    rfl
  subst hw2
  refine ⟨hlt, fun v H2 hy => ?_⟩
  obtain ⟨rfl, rfl⟩ := hy
  exact ⟨.refl _, c', .int _⟩
theorem ei_range3 (hg : Gl X "range") (hm : X.mg "range" = none) (ha : EE X XR Wx cf a ca) (hb : EE X XR Wx cf b cb) (hd : EE X XR Wx cf d cd) (hs : starEach [a, b, d] X.env = (false, eval a X.env) :: starEach [b, d] X.env) (hs2 : starEach [b, d] X.env = (false, eval b X.env) :: starEach [d] X.env) (hs3 : starEach [d] X.env = (false, eval d X.env) :: starEach [] X.env) :
    EI X XR Wx cf tg (.Call (.Name "range" p) [a, b, d] [] pos) (.range3 ca cb cd) := by
  refine (pi_range3 hg hm (pa_cons ha (pa_cons hb (pa_cons hd pa_nil hs3) hs2) hs) hs (by rw [hs2, hs3]; rfl)).imp fun σ H R h => ?_
  unfold evI at h
  refine tG.next h fun x v μ ρ M H1 hs hc r hp => ?_
  refine post_next hs hc hp fun y u μ2 M2 H2 p2 e2 hs2 hc2 r2 hp2 => ?_
  refine post_next hs2 hc2 hp2 fun z t μ3 M3 H3 p3 e3 hs3 hc3 r3 hp3 => ?_
  split at hp3
  · next ys q =>
    unfold range3W at q
    split at q
    · next i j c =>
      split at q
      · next hcd =>
        cases q
        cases r
        cases r2
        cases r3
        refine ⟨i, j, c, (Builtin.Range.rangeSize i j c).toNat, rfl, ⟨hcd.1, hcd.2.1, hcd.2.2.1, by have := hcd.2.2.2; omega⟩, itR hc3 hp3 (itOk_range3 i c _)⟩
      · cases q
    · cases q
  · exact hp3.elim
theorem ei_enum (hg : Gl X "enumerate") (hm : X.mg "enumerate" = none) (ha : EE X XR Wx cf a ca) (hs : starEach [a] X.env = [(false, eval a X.env)]) : EI X XR Wx cf (.Tuple elts kk tpos) (.Call (.Name "enumerate" p) [a] [] pos) (.enum ca) := by
  refine (pi_enum hg hm (pa_cons ha pa_nil hs) hs).imp fun σ H R h => ?_
  unfold evI at h
  refine tG.next h fun x v μ ρ M H1 hs hc r hp => ?_
  split at hp
  · next r0 =>
    split at hp
    · next xs q =>
      obtain ⟨A, vs, rfl, rs, hq⟩ := hc.seq r q
      rcases hq with ⟨hq, _⟩ | ⟨hq, e⟩
      · exact ⟨A, vs, rfl, hq, itR hc hp (itOk_enum hc r q)⟩
      · cases e
    · exact hp.elim
  · exact hp.elim
theorem ei_zip (hg : Gl X "zip") (hm : X.mg "zip" = none) (ha : EE X XR Wx cf a ca) (hb : EE X XR Wx cf b cb) (hs : starEach [a, b] X.env = (false, eval a X.env) :: starEach [b] X.env) (hs2 : starEach [b] X.env = (false, eval b X.env) :: starEach [] X.env) :
    EI X XR Wx cf (.Tuple elts kk tpos) (.Call (.Name "zip" p) [a, b] [] pos) (.zip ca cb) := by
  refine (RZ.pi_zipA hg hm (pa_cons ha (pa_cons hb pa_nil hs2) hs) hs (by rw [hs2]; rfl)).imp fun σ H R h => ?_
  unfold evI at h
  refine tG.next h fun x v μ ρ M H1 hs hc r hp => ?_
  refine post_next hs hc hp fun y u μ2 M2 H2 p2 e2 hs2 hc2 r2 hp2 => ?_
  have r1 := r.mono p2 e2
  split at hp2
  · split at hp2
    · next xs ys q q' =>
      obtain ⟨A, vs, rfl, rs, hq⟩ := hc2.seq r1 q
      obtain ⟨B, us, rfl, rs', hq'⟩ := hc2.seq r2 q'
      rcases hq with ⟨hq, _⟩ | ⟨hq, e⟩
      · rcases hq' with ⟨hq', _⟩ | ⟨hq', e⟩
        · exact ⟨A, B, vs, us, rfl, .inl ⟨hq, hq', itR hc2 hp2 (itOk_zip hc2 r1 r2 q q')⟩⟩
        · cases e
      · cases e
    · exact hp2.elim
  · cases r1 with
    | tup k1 n1 t1 =>
      cases r2 with
      | tup k2 n2 t2 => exact ⟨_, _, _, _, rfl, .inr ⟨.frz k1, .frz k2, itR hc2 hp2 (itOk_zipT (.tup k1 n1 t1) (.tup k2 n2 t2))⟩⟩
  · exact hp2.elim
end
end EV

/-! Ev13: comprehensions and statements. -/
namespace EV
open PySem PySem.Spec PyProof.Rows L2

abbrev noW : WX := fun _ _ _ _ => False
theorem wipe_rel {μ : List Addr} {H : Hp} {ρ : Sl} {σ : L2.St} (h : RSl μ H ρ σ) : ∀ is : List Nat, RSl μ H (wipeW ρ is) (wipe σ is)
  | [] => h
  | i :: is => (wipe_rel h is).unset i none
theorem wipe_get {σ : L2.St} : ∀ (vs : List Nat) (j : Nat), (wipe σ vs)[j]? = if j ∈ vs then (σ[j]?).map (fun _ => none) else σ[j]?
  | [], j => by simp [wipe]
  | v :: vs, j => by
    unfold wipe
    rw [List.getElem?_set, wipe_get vs j, wipe_length]
    by_cases h : v = j
    · subst h
      by_cases hl : v < σ.length
      · simp [hl]
      · simp [hl]
    · have h' : ¬ j = v := fun e => h e.symm
      simp only [h, if_false, List.mem_cons, h', false_or]
theorem wipe_ext {σ σ' : L2.St} {vs : List Nat} (h : ∀ j, j ∉ vs → σ[j]? = σ'[j]?) (hl : σ.length = σ'.length) : wipe σ vs = wipe σ' vs := by
  apply List.ext_getElem?
  intro j
  rw [wipe_get, wipe_get]
  split
  · by_cases hj : j < σ.length
    · rw [List.getElem?_eq_getElem hj, List.getElem?_eq_getElem (hl ▸ hj)]; rfl
    · rw [List.getElem?_eq_none (by omega), List.getElem?_eq_none (by omega)]
  · next hn => exact h j hn
theorem wipe_set {σ : L2.St} {vs : List Nat} {i : Nat} {z : Option V} (h : i ∈ vs) : wipe (σ.set i z) vs = wipe σ vs :=
  wipe_ext (fun j hj => by rw [List.getElem?_set_ne]; exact fun e => hj (e ▸ h)) (by simp)
theorem wipe_wipe {σ : L2.St} {vs : List Nat} : wipe (wipe σ vs) vs = wipe σ vs :=
  wipe_ext (fun j hj => by rw [wipe_get, if_neg hj]) (wipe_length σ vs)
theorem wipe_setAll {vs : List Nat} : ∀ {is : List Nat} {us : List V} {σ σ' : L2.St}, (∀ i ∈ is, i ∈ vs) → setAllV is us σ = some σ' → wipe σ' vs = wipe σ vs
  | [], [], _, _, _, h => by cases h; rfl
  | [], _ :: _, _, _, _, h => by cases h
  | _ :: _, [], _, _, _, h => by cases h
  | i :: is, u :: us, σ, σ', hm, h => by
    rw [wipe_setAll (is := is) (us := us) (fun j hj => hm j (List.mem_cons_of_mem _ hj)) h, wipe_set (hm i List.mem_cons_self)]
def CN.ixs : CN → List Nat
  | .one i => [i]
  | .many is => is
/-- a comprehension's target: it stores nothing else -/
def gW (K : PySem.W.Frag) (g : CN) (vs : List Nat) : TG := fun v σ H Q => gN K g v σ H fun σ2 H2 => wipe σ2 vs = wipe σ vs → Q σ2 H2
section
variable {X : Cx} {pos p : Pos}
theorem ew_one (S : Std X) {i : Nat} {x : Str} {vs : List Nat} (nm : NmOk X i x) (hv : i ∈ vs) : PG X (.Name x pos) (gW X.K (.one i) vs) := by
  refine (pg_name S.nd nm.ix nm.loc nm.fn).imp fun v σ H Q h => ?_
  obtain ⟨μ, ρ, M, x, hs, hc, r, hp⟩ := h
  cases x with
  | one w => exact hp μ _ H (List.prefix_refl _) (.refl _) hc (hs.set r i) (wipe_set hv)
  | many ws => exact hp.elim
theorem ew_many (S : Std X) {es : List Expr} {is vs : List Nat} {k : Nat} (h : PGs X es (gNames is)) (hn : (assignEach es X.env).length = is.length) (hst : (assignEach es X.env).findIdx? (·.1) = none) (hv : ∀ i ∈ is, i ∈ vs) : PG X (.Tuple es k pos) (gW X.K (.many is) vs) := by
  refine (PG.or (pg_tup S.calm h hn hst) (pg_unl S.calm h hn hst)).imp fun v σ H Q h => ?_
  obtain ⟨μ, ρ, M, x, hs, hc, r, hp⟩ := h
  cases x with
  | one w =>
    unfold evN at hp
    simp only at hp
    split at hp
    · next xs q =>
      obtain ⟨ρ', e, q'⟩ := post_ofO hp
      obtain ⟨a, us, rfl, rs, hq⟩ := hc.seq r q
      obtain ⟨σ', e', rs'⟩ := setAll_rel rs hs e
      have l := setAll_len e
      have l' := rs.length
      have fin : gNames is us σ H Q := ⟨σ', e', q' μ σ' H (List.prefix_refl _) (.refl _) hc rs' (wipe_setAll hv e')⟩
      rcases hq with ⟨hq, _⟩ | ⟨hq, _⟩
      · exact .inr ⟨a, us, rfl, hq, by omega, fin⟩
      · exact .inl ⟨a, us, rfl, hq, by omega, fin⟩
    · exact hp.elim
  | many ws =>
    obtain ⟨a, us, rfl, hq, rs⟩ := r
    unfold evN at hp
    simp only at hp
    obtain ⟨ρ', e, q'⟩ := post_ofO hp
    obtain ⟨σ', e', rs'⟩ := setAll_rel rs hs e
    have l := setAll_len e
    have l' := rs.length
    exact .inl ⟨a, us, rfl, hq, by omega, σ', e', q' μ σ' H (List.prefix_refl _) (.refl _) hc rs' (wipe_setAll hv e')⟩
end
section
variable (X : Cx) (XR : XRel) (Wx : WX) (cf : Nat → List W → Mem → R W)
abbrev ET (e : List Expr) (c : CTs) : Prop := PTs X e (tT X.K XR Wx (evTs cf c))
end
section
variable {X : Cx} {XR : XRel} {Wx : WX} {cf : Nat → List W → Mem → R W} {pos : Pos} {tg iter elt : Expr} {ifs : List Expr} {scope : Scope} {own : List (Str × Nat)} {g : CN} {it : CI} {t : CTs} {ce : CE}
theorem PTs.imp {e : List Expr} {t t' : TT} (h : PTs X e t) (i : ∀ σ H Q, t' σ H Q → t σ H Q) : PTs X e t' := ⟨fun pins s σ H Q I q => h.run pins s σ H Q I (i σ H Q q)⟩
theorem et_nil : ET X XR Wx cf [] .nil := by
  refine PTs.imp pts_nil fun σ H Q h => ?_
  obtain ⟨μ, ρ, M, hs, hc, hp⟩ := h
  unfold evTs at hp
  exact okP.sameB hc hp
theorem et_one {c : Expr} {b : CB} (h : EB X XR Wx cf c b) : ET X XR Wx cf [c] (.one b) := by
  refine PTs.imp (pts_one h) fun σ H Q h => ?_
  unfold evTs at h
  exact h
/-- the parts of a comprehension, in its own block -/
structure LcOk (X : Cx) (XR : XRel) (Wx : WX) (cf : Nat → List W → Mem → R W) (tg iter : Expr) (ifs : List Expr) (elt : Expr) (scope : Scope) (own : List (Str × Nat)) (g : CN) (it : CI) (t : CTs) (ce : CE) : Prop where
  hi : EI X XR Wx cf tg iter it
  ok : BlkOk X.N X.env.scope scope own
  hg : ∀ (s : Shared) (H : Hp) (C : Addr) (cl : List (Str × Addr)) (fp : List Addr), PG (X.blk s H scope (compEnvC scope cl C X.env) fp) tg (gW X.K g (own.map (·.2)))
  ht : ∀ (s : Shared) (H : Hp) (C : Addr) (cl : List (Str × Addr)) (fp : List Addr), ET (X.blk s H scope (compEnvC scope cl C X.env) fp) XR noW cf ifs t
  he : ∀ (s : Shared) (H : Hp) (C : Addr) (cl : List (Str × Addr)) (fp : List Addr), EE (X.blk s H scope (compEnvC scope cl C X.env) fp) XR noW cf elt ce
  hs : ∀ x, foldedSetIterable iter X.env x = pure x
theorem lc_rd {σ : L2.St} {H : Hp} {Q : VK} (h : tE X.K XR Wx (evE cf (.lc (.mk g it t (own.map (·.2))) ce)) σ H Q) :
    tLc (tG X.K XR (relIt X.K) Wx (evI cf it)) (gW X.K g (own.map (·.2))) (tT X.K XR noW (evTs cf t)) (tE X.K XR noW (evE cf ce)) (own.map (·.2)) σ H Q := by
  have h : tE X.K XR Wx (fun ρ M => (evI cf it ρ M).bind fun p M1 =>
      ((lcL M1.length (evN g) (evTs cf t) (evE cf ce) p.2 (wipeW ρ (own.map (·.2))) p.1 (M1 ++ [.lst []])).calm).bind fun _ M2 => .ok (.ref M1.length) M2) σ H Q := h
  refine tG.next h fun p J μ ρ M H1 hs hc r hp => ?_
  obtain ⟨its, gs⟩ := p
  intro D hD
  have hr := wipe_rel hs (own.map (·.2))
  have hp := post_noE (post_mono (post_bind.mp hp) (fun _ _ z => z) fun _ _ _ z => z)
  simp only at hp
  have c0 : CoM X.K (μ ++ [D]) (M ++ [.lst []]) (upd H1 D (.lst [])) := hc.push hD ⟨_, upd_same, .nil⟩
  have dl : (μ ++ [D])[M.length]? = some D := by rw [List.getElem?_append_right (by rw [hc.len]; exact Nat.le_refl _), hc.len]; simp
  refine ⟨fun i m H' => m + i = its.length ∧ ∃ μ' M', μ ++ [D] <+: μ' ∧ Ext (upd H1 D (.lst [])) H' ∧ CoM X.K μ' M' H' ∧
    (lcL M.length (evN g) (evTs cf t) (evE cf ce) gs (wipeW ρ (own.map (·.2))) (its.drop i) M').post (fun _ M2 => ∀ μ2 H2, μ' <+: μ2 → Ext H' H2 → CoM X.K μ2 M2 H2 → Q (.ref D) H2) noE,
    ⟨its.length, by simp, μ ++ [D], _, List.prefix_refl _, .refl _, c0, ?_⟩, ?_⟩
  · refine post_mono hp (fun _ M2 z μ2 H2 p2 e2 c2 => ?_) fun _ _ _ z => z.elim
    exact z μ2 (.ref D) H2 (pre1.trans p2) ((Ext.new hD).trans e2) c2 (.ref (pre_get p2 dl))
  · rintro i m H' ⟨hm, μ', M', p', e', c', hq⟩
    have J' : ItOk X.K its gs μ' H' J := r.mono (pre1.trans p') ((Ext.new hD).trans e')
    have r' : RSl μ' H' (wipeW ρ (own.map (·.2))) (wipe σ (own.map (·.2))) := hr.mono (pre1.trans p') ((Ext.new hD).trans e')
    cases hd : its.drop i with
    | nil =>
      have hi : its.length ≤ i := List.drop_eq_nil_iff.mp hd
      rw [hd] at hq
      unfold lcL at hq
      split at hq
      · next gd => exact .inl ⟨(J' μ' M' H' (List.prefix_refl _) (.refl _) c' gd).1 i hi, hq μ' H' (List.prefix_refl _) (.refl _) c'⟩
      · exact hq.elim
    | cons x xs =>
      have hx : its[i]? = some x := by
        rw [← List.head?_drop, hd]
        rfl
      have hxs : its.drop (i + 1) = xs := by
        rw [← List.tail_drop, hd]
        rfl
      have hlt : i < its.length := (List.getElem?_eq_some_iff.mp hx).1
      rw [hd] at hq
      unfold lcL at hq
      split at hq
      · next gd =>
        obtain ⟨go, yl⟩ := (J' μ' M' H' (List.prefix_refl _) (.refl _) c' gd).2 i x hx
        refine .inr ⟨go, fun H2 => ∃ μ2 M2, μ ++ [D] <+: μ2 ∧ Ext (upd H1 D (.lst [])) H2 ∧ CoM X.K μ2 M2 H2 ∧ μ' <+: μ2 ∧ Ext H' H2 ∧
          (lcL M.length (evN g) (evTs cf t) (evE cf ce) gs (wipeW ρ (own.map (·.2))) (its.drop (i + 1)) M2).post (fun _ M3 => ∀ μ3 H3, μ2 <+: μ3 → Ext H2 H3 → CoM X.K μ3 M3 H3 → Q (.ref D) H3) noE,
          fun H2 ⟨μ2, M2, a1, a2, a3, _, _, a4⟩ => ⟨m - 1, by omega, by omega, μ2, M2, a1, a2, a3, a4⟩, fun v H2 hy => ?_⟩
        obtain ⟨ex, cy, ir⟩ := yl v H2 hy
        refine ⟨μ', _, M', x, r'.mono (List.prefix_refl _) ex, cy, ir, ?_⟩
        refine post_mono (post_bind.mp hq) (fun ρ1 M1 z μ1 σ1 Hb p1 e1 c1 rs1 hw => ?_) fun _ _ _ z => z
        rw [wipe_wipe] at hw
        refine ⟨by rw [hw], μ1, ρ1, M1, rs1, c1, ?_⟩
        refine post_mono (post_bind.mp z) (fun b M3 z3 μ3 b' H3 p3 e3 c3 rb => ?_) fun _ _ _ z => z.elim
        cases rb
        cases b with
        | false =>
          simp only [Bool.false_eq_true, if_false] at z3 ⊢
          refine ⟨μ3, M3, (p'.trans p1).trans p3, ((e'.trans ex).trans e1).trans e3, c3, p1.trans p3, (ex.trans e1).trans e3, ?_⟩
          rw [hxs]
          exact post_mono z3 (fun _ M4 z4 μ4 H4 p4 e4 c4 => z4 μ4 H4 ((p1.trans p3).trans p4) (((ex.trans e1).trans e3).trans e4) c4) fun _ _ _ z => z
        | true =>
          simp only [if_true] at z3 ⊢
          refine ⟨μ3, ρ1, M3, rs1.mono p3 e3, c3, ?_⟩
          refine post_mono (post_bind.mp z3) (fun y M4 z4 μ4 v4 H4 p4 e4 c4 r4 => ?_) fun _ _ _ z => z.elim
          split at z4
          · next acc hacc =>
            split at z4
            · next hz =>
              have pD : μ ++ [D] <+: μ4 := ((p'.trans p1).trans p3).trans p4
              obtain ⟨D', vs, eD, hD', hL, hR⟩ := c4.lst (.ref (pre_get pD dl)) hacc
              cases eD
              have we : Ext H4 (upd H4 D (.lst (vs ++ [v4]))) := .write hL (fun _ z => nomatch z) fun _ _ z => nomatch z
              refine ⟨vs, hL, by rw [← hR.length]; exact hz, μ4, M4.set M.length (.lst (acc ++ [y])), pD, ((((e'.trans ex).trans e1).trans e3).trans e4).trans we, ?_, (p1.trans p3).trans p4, (((ex.trans e1).trans e3).trans e4).trans we, ?_⟩
              · exact (c4.write (ob' := .lst (acc ++ [y])) (o := .lst (vs ++ [v4])) hacc rfl rfl (pre_get pD dl) ⟨_, upd_same, (hR.append (.cons r4 .nil)).mono (List.prefix_refl _) we⟩).1
              · rw [hxs]
                exact post_mono z4 (fun _ M5 z5 μ5 H5 p5 e5 c5 => z5 μ5 H5 (((p1.trans p3).trans p4).trans p5) (((((ex.trans e1).trans e3).trans e4).trans we).trans e5) c5) fun _ _ _ z => z
            · exact z4.elim
          · exact z4.elim
      · exact hq.elim
theorem ev_lc (S : Std X) (L : LcOk X XR Wx cf tg iter ifs elt scope own g it t ce) : EE X XR Wx cf (.ListComp elt [⟨tg, iter, ifs, 0⟩] scope pos) (.lc (.mk g it t (own.map (·.2))) ce) :=
  (pe_lc S.calm S.nd L.hi L.ok L.hg L.ht L.he L.hs).imp fun _ _ _ h => lc_rd h
end
end EV

/-! Ev14: statements. -/
namespace EV
open PySem PySem.Spec PyProof.Rows L2

theorem post_stm {α : Type} {r : R α} {ρ : Sl} {k : α → Mem → R Fl} {Q : Fl → Mem → Prop} {E : Str → List W → Mem → Prop} : (r.stm ρ k).post Q E ↔ r.post (fun a M => (k a M).post Q E) (fun c fs M => Q (.exc c fs ρ) M) := by
  cases r <;> exact Iff.rfl
section
variable (K : PySem.W.Frag) (XR : XRel) (Wx : WX)
/-- the statement's ends -/
def okF (D : Ends) (μ : List Addr) (H : Hp) : Fl → Mem → Prop
  | .nx ρ', M' => ∀ μ' σ' H', μ <+: μ' → Ext H H' → CoM K μ' M' H' → RSl μ' H' ρ' σ' → D.nx σ' H'
  | .ret w, M' => ∀ μ' v H', μ <+: μ' → Ext H H' → CoM K μ' M' H' → RW μ' H' w v → D.rt v H'
  | .brk ρ', M' => ∀ μ' σ' H', μ <+: μ' → Ext H H' → CoM K μ' M' H' → RSl μ' H' ρ' σ' → D.bk σ' H'
  | .cont ρ', M' => ∀ μ' σ' H', μ <+: μ' → Ext H H' → CoM K μ' M' H' → RSl μ' H' ρ' σ' → D.ct σ' H'
  | .exc c fs ρ', M' => ∀ μ' σ' H' cls d, μ <+: μ' → Ext H H' → CoM K μ' M' H' → RSl μ' H' ρ' σ' → XR c fs μ' H' cls d → Wx cls d σ' H'
def tS (r : Sl → Mem → R Fl) : TS := fun D σ H => ∃ μ ρ M, RSl μ H ρ σ ∧ CoM K μ M H ∧ (r ρ M).post (okF K XR Wx D μ H) noE
end
section
variable {K : PySem.W.Frag} {XR : XRel} {Wx : WX} {D : Ends} {μ μ' : List Addr} {H H' : Hp} {σ : L2.St} {ρ : Sl} {M : Mem}
theorem okF.mono {f : Fl} (p : μ <+: μ') (e : Ext H H') (h : okF K XR Wx D μ H f M) : okF K XR Wx D μ' H' f M := by
  cases f with
  | nx ρ' => exact fun μ2 b H2 p2 e2 c2 r2 => h μ2 b H2 (p.trans p2) (e.trans e2) c2 r2
  | ret w => exact fun μ2 b H2 p2 e2 c2 r2 => h μ2 b H2 (p.trans p2) (e.trans e2) c2 r2
  | brk ρ' => exact fun μ2 b H2 p2 e2 c2 r2 => h μ2 b H2 (p.trans p2) (e.trans e2) c2 r2
  | cont ρ' => exact fun μ2 b H2 p2 e2 c2 r2 => h μ2 b H2 (p.trans p2) (e.trans e2) c2 r2
  | exc c fs ρ' => exact fun μ2 b H2 cls d p2 e2 c2 r2 => h μ2 b H2 cls d (p.trans p2) (e.trans e2) c2 r2
theorem postF {r : R Fl} (p : μ <+: μ') (e : Ext H H') (h : r.post (okF K XR Wx D μ H) noE) : r.post (okF K XR Wx D μ' H') noE := post_mono h (fun _ _ q => q.mono p e) fun _ _ _ q => q
/-- an expression, then the rest of the statement -/
theorem stm_next {α β : Type} {Rel : List Addr → Hp → α → β → Prop} {e : Sl → Mem → R α} {k : α → Mem → R Fl} {Q1 : β → Hp → Prop} (hs : RSl μ H ρ σ) (hc : CoM K μ M H) (h : ((e ρ M).stm ρ k).post (okF K XR Wx D μ H) noE)
    (n : ∀ (a : α) (b : β) (μ1 : List Addr) (M1 : Mem) (H1 : Hp), μ <+: μ1 → Ext H H1 → RSl μ1 H1 ρ σ → CoM K μ1 M1 H1 → Rel μ1 H1 a b → (k a M1).post (okF K XR Wx D μ1 H1) noE → Q1 b H1) : tG K XR Rel Wx e σ H Q1 :=
  ⟨μ, ρ, M, hs, hc, post_mono (post_stm.mp h) (fun a M1 h1 μ1 b H1 p1 e1 c1 r1 => n a b μ1 M1 H1 p1 e1 (hs.mono p1 e1) c1 r1 (postF p1 e1 h1)) fun c fs M' q μ1 H1 cls d p1 e1 c1 x1 => q μ1 σ H1 cls d p1 e1 c1 (hs.mono p1 e1) x1⟩
theorem tS.ok {r : Sl → Mem → R Fl} (hs : RSl μ H ρ σ) (hc : CoM K μ M H) (h : (r ρ M).post (okF K XR Wx D μ H) noE) : tS K XR Wx r D σ H := ⟨μ, ρ, M, hs, hc, h⟩
theorem nx0 {ρ' : Sl} {σ' : L2.St} (hc : CoM K μ M H) (hs : RSl μ H ρ' σ') (h : (R.ok (Fl.nx ρ') M).post (okF K XR Wx D μ H) noE) : D.nx σ' H := h μ σ' H (List.prefix_refl _) (.refl _) hc hs
end
section
variable (X : Cx) (XR : XRel) (Wx : WX) (cf : Nat → List W → Mem → R W)
abbrev ES (e : Stmt) (c : CS) : Prop := PS X e (tS X.K XR Wx (evS cf c))
abbrev ESs (e : List Stmt) (c : CSs) : Prop := PSs X e (tS X.K XR Wx (evSs cf c))
/-- a target of an assignment -/
def gE (K : PySem.W.Frag) (g : W → Sl → Mem → R Sl) : TG := fun v σ H Q => ∃ μ ρ M w, RSl μ H ρ σ ∧ CoM K μ M H ∧ RW μ H w v ∧ (g w ρ M).post (okSl K μ H Q) noE
abbrev EG (e : Expr) (c : CG) : Prop := PG X e (gE X.K (evG cf c))
end
section
variable {X : Cx} {XR : XRel} {Wx : WX} {cf : Nat → List W → Mem → R W} {pos p : Pos} {tg e a b o i : Expr} {es : List Expr} {st : Stmt} {ss s1 s2 : List Stmt} {ca cb co ci : CE} {cs : CEs} {c : CB} {q : CS} {qs q1 q2 : CSs}
theorem es_pass : ES X XR Wx cf (.Pass pos) .pass := by
  refine ps_pass.imp fun D σ H h => ?_
  obtain ⟨μ, ρ, M, hs, hc, hp⟩ := h
  unfold evS at hp
  exact nx0 hc hs hp
theorem es_brk : ES X XR Wx cf (.Break pos) .brk := by
  refine ps_break.imp fun D σ H h => ?_
  obtain ⟨μ, ρ, M, hs, hc, hp⟩ := h
  unfold evS at hp
  exact hp μ σ H (List.prefix_refl _) (.refl _) hc hs
theorem es_cont : ES X XR Wx cf (.Continue pos) .cont := by
  refine ps_continue.imp fun D σ H h => ?_
  obtain ⟨μ, ρ, M, hs, hc, hp⟩ := h
  unfold evS at hp
  exact hp μ σ H (List.prefix_refl _) (.refl _) hc hs
theorem es_doc {x j pos'} : ES X XR Wx cf (.Expr (.Constant (.str x) j pos) pos') .pass := by
  refine ps_doc.imp fun D σ H h => ?_
  obtain ⟨μ, ρ, M, hs, hc, hp⟩ := h
  unfold evS at hp
  exact nx0 hc hs hp
theorem es_expr (he : EE X XR Wx cf e ca) (hs : swapsWith e none pos.line X.env = pure false) : ES X XR Wx cf (.Expr e pos) (.expr ca) := by
  refine (ps_expr he hs).imp fun D σ H h => ?_
  obtain ⟨μ, ρ, M, hs, hc, hp⟩ := h
  unfold evS at hp
  exact stm_next hs hc hp fun x v μ1 M1 H1 p1 e1 hs1 hc1 r1 h1 => nx0 hc1 hs1 h1
theorem es_ret (he : EE X XR Wx cf e ca) : ES X XR Wx cf (.Return (some e) pos) (.ret ca) := by
  refine (ps_ret he).imp fun D σ H h => ?_
  obtain ⟨μ, ρ, M, hs, hc, hp⟩ := h
  unfold evS at hp
  exact stm_next hs hc hp fun x v μ1 M1 H1 p1 e1 hs1 hc1 r1 h1 => h1 μ1 v H1 (List.prefix_refl _) (.refl _) hc1 r1
theorem es_retN : ES X XR Wx cf (.Return none pos) .retN := by
  refine ps_retN.imp fun D σ H h => ?_
  obtain ⟨μ, ρ, M, hs, hc, hp⟩ := h
  unfold evS at hp
  exact hp μ .non H (List.prefix_refl _) (.refl _) hc .non
theorem es_if (hc : EB X XR Wx cf e c) (ha : ESs X XR Wx cf s1 q1) (hb : ESs X XR Wx cf s2 q2) : ES X XR Wx cf (.If e s1 s2 pos) (.ifS c q1 q2) := by
  refine (ps_if hc ha hb).imp fun D σ H h => ?_
  obtain ⟨μ, ρ, M, hs, hc, hp⟩ := h
  unfold evS at hp
  refine stm_next hs hc hp fun x v μ1 M1 H1 p1 e1 hs1 hc1 r1 h1 => ?_
  cases r1
  cases x with
  | true => exact .ok hs1 hc1 h1
  | false => exact .ok hs1 hc1 h1
theorem es_never : ES X XR Wx cf st .never := ⟨fun pins s σ H D I h => by
  obtain ⟨_, _, _, _, _, hp⟩ := h
  exact hp.elim⟩
theorem ess_never : ESs X XR Wx cf ss (.cons .never .nil) := ⟨fun pins s σ H D I h => by
  obtain ⟨_, _, _, _, _, hp⟩ := h
  exact hp.elim⟩
theorem ess_nil : ESs X XR Wx cf [] .nil := by
  refine pss_nil.imp fun D σ H h => ?_
  obtain ⟨μ, ρ, M, hs, hc, hp⟩ := h
  unfold evSs at hp
  exact nx0 hc hs hp
theorem ess_cons (h1 : ES X XR Wx cf st q) (h2 : ESs X XR Wx cf ss qs) : ESs X XR Wx cf (st :: ss) (.cons q qs) := by
  refine (pss_cons h1 h2).imp fun D σ H h => ?_
  obtain ⟨μ, ρ, M, hs, hc, hp⟩ := h
  unfold evSs at hp
  refine ⟨μ, ρ, M, hs, hc, post_mono (post_bind.mp hp) (fun f M1 h1 => ?_) fun _ _ _ z => z⟩
  cases f with
  | nx ρ1 => exact fun μ1 σ1 H1 p1 e1 c1 r1 => ⟨μ1, ρ1, M1, r1, c1, postF p1 e1 h1⟩
  | ret w => exact h1
  | brk ρ1 => exact h1
  | cont ρ1 => exact h1
  | exc c fs ρ1 => exact h1
/-! ### assignments -/
theorem eg_name (S : Std X) {j : Nat} {x : Str} (nm : NmOk X j x) : EG X cf (.Name x pos) (.name j) := by
  refine (pg_name S.nd nm.ix nm.loc nm.fn).imp fun v σ H Q h => ?_
  obtain ⟨μ, ρ, M, w, hs, hc, r, hp⟩ := h
  unfold evG at hp
  exact hp μ _ H (List.prefix_refl _) (.refl _) hc (hs.set r j)
/-- the targets of a tuple -/
def gEs (K : PySem.W.Frag) (g : List W → Sl → Mem → R Sl) : TGs := fun vs σ H Q => ∃ μ ρ M ws, RSl μ H ρ σ ∧ CoM K μ M H ∧ RWs μ H ws vs ∧ (g ws ρ M).post (okSl K μ H Q) noE
theorem egs_nil : PGs X [] (gEs X.K (evGs cf .nil)) := by
  refine pgs_nil.imp fun vs σ H Q h => ?_
  obtain ⟨μ, ρ, M, ws, hs, hc, r, hp⟩ := h
  unfold evGs at hp
  split at hp
  · cases r; exact ⟨rfl, hp μ σ H (List.prefix_refl _) (.refl _) hc hs⟩
  · exact hp.elim
theorem egs_cons {g : CG} {gs : CGs} (h1 : EG X cf e g) (h2 : PGs X es (gEs X.K (evGs cf gs))) (hs : (assignEach (e :: es) X.env).map (·.2) = assign e X.env :: (assignEach es X.env).map (·.2)) : PGs X (e :: es) (gEs X.K (evGs cf (.cons g gs))) := by
  refine (pgs_cons h1 h2 hs).imp fun vs σ H Q h => ?_
  obtain ⟨μ, ρ, M, ws, hs, hc, r, hp⟩ := h
  unfold evGs at hp
  split at hp
  · next w ws =>
    cases r with
    | cons r1 rr =>
      refine ⟨_, _, rfl, μ, ρ, M, w, hs, hc, r1, post_mono (post_bind.mp hp) (fun ρ1 M1 h1 μ1 σ1 H1 p1 e1 c1 rs1 => ?_) fun _ _ _ z => z⟩
      exact ⟨μ1, ρ1, M1, ws, rs1, c1, rr.mono p1 e1, post_mono h1 (fun ρ2 M2 h2 μ2 σ2 H2 p2 e2 c2 rs2 => h2 μ2 σ2 H2 (p1.trans p2) (e1.trans e2) c2 rs2) fun _ _ _ z => z⟩
  · exact hp.elim
def CGs.len : CGs → Nat
  | .nil => 0
  | .cons _ gs => gs.len + 1
theorem evGs_len : ∀ {gs : CGs} {ws : List W} {ρ : Sl} {M : Mem} {Q : Sl → Mem → Prop}, (evGs cf gs ws ρ M).post Q noE → ws.length = gs.len
  | .nil, ws, ρ, M, Q, h => by
    unfold evGs at h
    split at h
    · rfl
    · exact h.elim
  | .cons g gs, ws, ρ, M, Q, h => by
    unfold evGs at h
    split at h
    · next w ws =>
      have h := post_bind.mp h
      cases hr : evG cf g w ρ M with
      | ok ρ1 M1 => rw [hr] at h; exact congrArg (· + 1) (evGs_len (gs := gs) h)
      | exc _ _ _ => rw [hr] at h; exact h.elim
      | bad => rw [hr] at h; exact h.elim
    · exact h.elim
theorem eg_tup (S : Std X) {gs : CGs} {k : Nat} (h : PGs X es (gEs X.K (evGs cf gs))) (hn : (assignEach es X.env).length = gs.len) (hst : (assignEach es X.env).findIdx? (·.1) = none) : EG X cf (.Tuple es k pos) (.tup gs) := by
  refine (PG.or (pg_tup S.calm h hn hst) (pg_unl S.calm h hn hst)).imp fun v σ H Q h => ?_
  obtain ⟨μ, ρ, M, w, hs, hc, r, hp⟩ := h
  unfold evG at hp
  split at hp
  · next xs q =>
    obtain ⟨a, vs, rfl, rs, hq⟩ := hc.seq r q
    have l := evGs_len hp
    have l' := rs.length
    rcases hq with ⟨hq, _⟩ | ⟨hq, _⟩
    · exact .inr ⟨a, vs, rfl, hq, by omega, μ, ρ, M, xs, hs, hc, rs, hp⟩
    · exact .inl ⟨a, vs, rfl, hq, by omega, μ, ρ, M, xs, hs, hc, rs, hp⟩
  · exact hp.elim
theorem eg_sub (S : Std X) (ho : EE X XR noW cf o co) (hi : EE X XR noW cf i ci) (ha : ∀ v, assign (.Subscript o i pos) X.env v = (do
      let ov ← holding [v] (eval o X.env)
      let iv ← holding [v, ov] (eval i X.env)
      standAt pos
      holding [v, ov, iv] (setItem ov iv v)
      release [v, ov, iv] [])) : EG X cf (.Subscript o i pos) (.sub co ci) := by
  refine (pg_sub ho hi (set_ev (by have := S.un; omega)) ha).imp fun v σ H Q h => ?_
  obtain ⟨μ, ρ, M, w, hs, hc, r, hp⟩ := h
  unfold evG at hp
  refine ⟨μ, ρ, M, hs, hc, post_mono (post_bind.mp hp) (fun x M1 h1 μ1 v1 H1 p1 e1 c1 r1 => ?_) fun _ _ _ z => z.elim⟩
  refine ⟨μ1, ρ, M1, hs.mono p1 e1, c1, post_mono (post_bind.mp h1) (fun y M2 h2 μ2 v2 H2 p2 e2 c2 r2 => ?_) fun _ _ _ z => z.elim⟩
  refine ⟨μ2, M2, x, y, w, noE, c2, r1.mono p2 e2, r2, r.mono (p1.trans p2) (e1.trans e2), post_mono (post_bind.mp h2) (fun _ M3 h3 μ3 _ H3 p3 e3 c3 _ => ?_) fun _ _ _ z => z⟩
  exact h3 μ3 σ H3 ((p1.trans p2).trans p3) ((e1.trans e2).trans e3) c3 (hs.mono ((p1.trans p2).trans p3) ((e1.trans e2).trans e3))
theorem es_asg {g : CG} (he : EE X XR Wx cf e ca) (hg : EG X cf tg g) (hs : swapsWithSole [tg] e pos.line X.env = pure false) (hw : swappedStores [tg] e X.env = pure none) (h1 : (assignEach [tg] X.env).map (·.2) = [assign tg X.env]) : ES X XR Wx cf (.Assign [tg] e pos) (.asg g ca) := by
  refine (ps_asg he hg hs hw h1).imp fun D σ H h => ?_
  obtain ⟨μ, ρ, M, hs, hc, hp⟩ := h
  unfold evS at hp
  refine stm_next hs hc hp fun x v μ1 M1 H1 p1 e1 hs1 hc1 r1 h1 => ?_
  refine ⟨μ1, ρ, M1, x, hs1, hc1, r1, post_noE (post_mono (post_bind.mp h1) (fun ρ2 M2 h2 => ?_) fun _ _ _ z => z)⟩
  exact h2
theorem es_setLc (S : Std X) {j : Nat} {y : Str} {py lpos : Pos} {iter elt : Expr} {ifs : List Expr} {scope : Scope} {own : List (Str × Nat)} {g : CN} {it : CI} {t : CTs} {ce : CE} (hy : X.N[j]? = some y) (hyl : X.env.scope.names.lookup y = some .local)
    (hsw : swapsWith (.ListComp elt [⟨tg, iter, ifs, 0⟩] scope lpos) (some (.Name y py)) pos.line X.env = pure true) (L : LcOk X XR Wx cf tg iter ifs elt scope own g it t ce) :
    ES X XR Wx cf (.Assign [.Name y py] (.ListComp elt [⟨tg, iter, ifs, 0⟩] scope lpos) pos) (.setLc j (.mk g it t (own.map (·.2))) ce) := by
  refine (ps_setLc (tt := tT X.K XR noW (evTs cf t)) (te := tE X.K XR noW (evE cf ce)) S.calm S.nd hy hyl hsw L.hi L.ok L.hg L.ht L.he L.hs).imp fun D σ H h => ?_
  obtain ⟨μ, ρ, M, hs, hc, hp⟩ := h
  have hp : ((evE cf (.lc (.mk g it t (own.map (·.2))) ce) ρ M).stm ρ fun w M1 => .ok (.nx (ρ.set j (some w))) M1).post (okF X.K XR Wx D μ H) noE := hp
  refine lc_rd (stm_next hs hc hp fun x v μ1 M1 H1 p1 e1 hs1 hc1 r1 h1 => ?_)
  exact nx0 hc1 (hs1.set r1 j) h1
theorem es_par {j k : Nat} {x y : Str} {px py pt : Pos} {kt k2 pt2} (S : Std X) (hi : X.N[j]? = some x) (hj : X.N[k]? = some y) (hij : j ≠ k) (hx : X.env.scope.names.lookup x = some .local) (hy : X.env.scope.names.lookup y = some .local) (ha : EA X XR Wx cf [a, b] cs)
    (hw : swappedStores [.Tuple [.Name x px, .Name y py] kt pt] (.Tuple [a, b] k2 pt2) X.env = pure (some [x, y])) (hs : swapsWithSole [.Tuple [.Name x px, .Name y py] kt pt] (.Tuple [a, b] k2 pt2) pos.line X.env = pure false) :
    ES X XR Wx cf (.Assign [.Tuple [.Name x px, .Name y py] kt pt] (.Tuple [a, b] k2 pt2) pos) (.par [j, k] cs) := by
  refine (ps_par S.calm S.nd hi hj hij hx hy ha hw hs).imp fun D σ H h => ?_
  obtain ⟨μ, ρ, M, hs, hc, hp⟩ := h
  unfold evS at hp
  refine stm_next hs hc hp fun ws vs μ1 M1 H1 p1 e1 hs1 hc1 r1 h1 => ?_
  split at h1
  · next ρ1 q =>
    obtain ⟨σ', e', rs'⟩ := setAll_rel r1 hs1 q
    have hn := nx0 hc1 rs' h1
    cases vs with
    | nil => cases e'
    | cons v vs =>
      cases vs with
      | nil => cases e'
      | cons u vs =>
        cases vs with
        | nil => cases e'; exact ⟨v, u, rfl, hn⟩
        | cons _ _ => cases e'
  · exact h1.elim
end
/-! ### op= -/
theorem ip_ev {X : Cx} (op : Operator) : PIp X op (lift2 X.K (ipW op)) := by
  intro pins s σ H x y v u Q I rx ry h
  obtain ⟨μ, M, a, b, E, c, ra, rb, h⟩ := h
  unfold ipW at h
  split at h
  · cases ra; cases rb; exact iop_add pins s σ H _ _ v u Q I rx ry ⟨_, _, rfl, rfl, okP.same c h (.int _)⟩
  · cases ra; cases rb; exact iop_sub pins s σ H _ _ v u Q I rx ry ⟨_, _, rfl, rfl, okP.same c h (.int _)⟩
  · cases ra; cases rb
    split at h
    · next hc => exact iop_add_str pins s σ H _ _ v u Q I rx ry ⟨_, _, rfl, rfl, hc, okP.same c h (.str _)⟩
    · exact h.elim
  · exact h.elim
end EV

/-! Ev15: op=, loops. -/
namespace EV
open PySem PySem.Spec PyProof.Rows L2
theorem get_ev {X : Cx} : PGet X (lift2 X.K itemL) := by
  intro pins s σ H x y v u Q I rx ry h
  obtain ⟨μ, M, a, b, E, c, ra, rb, h⟩ := h
  unfold itemL at h
  split at h
  · next r0 i =>
    cases rb
    split at h
    · next xs q =>
      obtain ⟨w, e, q'⟩ := post_ofO h
      obtain ⟨A, vs, rfl, _, h3, h4⟩ := c.lst ra q
      obtain ⟨z, e1, r2⟩ := atI_rel h4 e
      cases rx
      obtain ⟨t, rfl⟩ := ry
      obtain ⟨its, r, pl, hz⟩ := I.list (.of h3)
      obtain ⟨j, k1, k2, k3, k4, k5⟩ := L2.atI_get e1
      obtain ⟨w', ew, rw'⟩ := r.get k2
      have hl := r.length
      have hn := line63
      have fin : EP X pins σ Q w' s := ⟨z, H, I, rw', okP.same c q' r2⟩
      by_cases h0 : 0 ≤ i
      · have hj : i.toNat = j := by
          rw [seqIndex_of h0 k5] at k1
          exact Option.some.inj k1
        exact wpAny_getItem_list pl.isList h0 (by omega) (by rw [hj]; simpa using ew) fin
      · have hj : (i + (its.toArray.size : Int)).toNat = j := by
          rw [seqIndex_neg (by omega) k4] at k1
          rw [List.size_toArray, ← hl]
          exact Option.some.inj k1
        exact wpAny_getItem_list_neg pl.isList (by omega) (by rw [List.size_toArray] <;> omega) (by omega) (by rw [hj]; simpa using ew) fin
    · exact h.elim
  · exact h.elim
theorem post_calm {α β : Type} {r : R α} {k : α → Mem → R β} {Q : β → Mem → Prop} (h : (r.calm.bind k).post Q noE) : r.post (fun a M => (k a M).post Q noE) noE := by
  cases r with
  | ok a M => exact h
  | exc c fs M => exact h
  | bad => exact h
section
variable {X : Cx} {XR : XRel} {Wx : WX} {cf : Nat → List W → Mem → R W} {pos p tpos : Pos} {tg e a b o i iter : Expr} {es : List Expr} {st : Stmt} {ss s1 s2 : List Stmt} {ca cb co ci : CE} {cs : CEs} {c : CB} {q : CS} {qs q1 q2 : CSs}
theorem es_aug {op : Operator} {j : Nat} {x : Str} (S : Std X) (nm : NmOk X j x) (he : EE X XR Wx cf e ca) : ES X XR Wx cf (.AugAssign (.Name x p) op e pos) (.aug op j ca) := by
  refine (ps_aug S.nd nm.ix nm.loc he (ip_ev op) nm.fn).imp fun D σ H h => ?_
  obtain ⟨μ, ρ, M, hs, hc, hp⟩ := h
  unfold evS at hp
  split at hp
  · next z q =>
    obtain ⟨v, h1, h2⟩ := hs.get q
    refine ⟨v, h1, stm_next hs hc hp fun x u μ1 M1 H1 p1 e1 hs1 hc1 r1 k1 => ?_⟩
    refine ⟨μ1, M1, z, x, noE, hc1, h2.mono p1 e1, r1, post_mono (post_calm k1) (fun w M2 k2 μ2 v2 H2 p2 e2 c2 r2 => ?_) fun _ _ _ z => z⟩
    exact nx0 c2 ((hs1.mono p2 e2).set r2 j) (postF p2 e2 k2)
  · exact hp.elim
theorem es_augS {op : Operator} (S : Std X) (ho : EE X XR Wx cf o co) (hi : EE X XR Wx cf i ci) (he : EE X XR Wx cf e ca) (ha : ∀ ov iv new, augStore i ov iv new = (do holding [new, ov, iv] (setItem ov iv new); release [new, ov, iv] []; pure .next)) :
    ES X XR Wx cf (.AugAssign (.Subscript o i tpos) op e pos) (.augS op co ci ca) := by
  refine (ps_augS ho hi get_ev he (ip_ev op) (set_ev (by have := S.un; omega)) ha).imp fun D σ H h => ?_
  obtain ⟨μ, ρ, M, hs, hc, hp⟩ := h
  unfold evS at hp
  refine stm_next hs hc hp fun x v μ1 M1 H1 p1 e1 hs1 hc1 r1 k1 => ?_
  refine stm_next hs1 hc1 k1 fun y u μ2 M2 H2 p2 e2 hs2 hc2 r2 k2 => ?_
  refine ⟨μ2, M2, x, y, noE, hc2, r1.mono p2 e2, r2, post_mono (post_calm k2) (fun z M3 k3 μ3 v3 H3 p3 e3 c3 r3 => ?_) fun _ _ _ z => z⟩
  have hs3 := hs2.mono p3 e3
  refine stm_next hs3 c3 (postF p3 e3 k3) fun w t μ4 M4 H4 p4 e4 hs4 hc4 r4 k4 => ?_
  refine ⟨μ4, M4, z, w, noE, hc4, r3.mono p4 e4, r4, post_mono (post_calm k4) (fun z5 M5 k5 μ5 v5 H5 p5 e5 c5 r5 => ?_) fun _ _ _ z => z⟩
  refine ⟨μ5, M5, x, y, z5, noE, c5, r1.mono (((p2.trans p3).trans p4).trans p5) (((e2.trans e3).trans e4).trans e5), r2.mono ((p3.trans p4).trans p5) ((e3.trans e4).trans e5), r5, post_mono (post_calm k5) (fun _ M6 k6 μ6 _ H6 p6 e6 c6 _ => ?_) fun _ _ _ z => z⟩
  exact nx0 c6 (hs4.mono (p5.trans p6) (e5.trans e6)) (postF (p5.trans p6) (e5.trans e6) k6)
theorem es_par3 {j k l : Nat} {x y z : Str} {px py pz pt : Pos} {kt k2 pt2} (S : Std X) (hi : X.N[j]? = some x) (hj : X.N[k]? = some y) (hl : X.N[l]? = some z) (hij : j ≠ k) (hjl : j ≠ l) (hkl : k ≠ l) (hx : X.env.scope.names.lookup x = some .local) (hy : X.env.scope.names.lookup y = some .local) (hz : X.env.scope.names.lookup z = some .local) (ha : EA X XR Wx cf [a, b, e] cs)
    (hw : swappedStores [.Tuple [.Name x px, .Name y py, .Name z pz] kt pt] (.Tuple [a, b, e] k2 pt2) X.env = pure (some [x, y, z])) (hs : swapsWithSole [.Tuple [.Name x px, .Name y py, .Name z pz] kt pt] (.Tuple [a, b, e] k2 pt2) pos.line X.env = pure false) :
    ES X XR Wx cf (.Assign [.Tuple [.Name x px, .Name y py, .Name z pz] kt pt] (.Tuple [a, b, e] k2 pt2) pos) (.par [j, k, l] cs) := by
  refine (ps_par3 S.calm S.nd hi hj hl hij hjl hkl hx hy hz ha hw hs).imp fun D σ H h => ?_
  obtain ⟨μ, ρ, M, hs, hc, hp⟩ := h
  unfold evS at hp
  refine stm_next hs hc hp fun ws vs μ1 M1 H1 p1 e1 hs1 hc1 r1 h1 => ?_
  split at h1
  · next ρ1 q =>
    obtain ⟨σ', e', rs'⟩ := setAll_rel r1 hs1 q
    have hn := nx0 hc1 rs' h1
    cases vs with
    | nil => cases e'
    | cons v vs =>
      cases vs with
      | nil => cases e'
      | cons u vs =>
        cases vs with
        | nil => cases e'
        | cons w vs =>
          cases vs with
          | nil => cases e'; exact ⟨v, u, w, rfl, hn⟩
          | cons _ _ => cases e'
  · exact h1.elim
/-! ### loops -/
theorem es_while (po : PassesOwn (model X.prog X.w) X.A X.env X.xe) (hc : EB X XR Wx cf e c) (hb : ESs X XR Wx cf ss qs) : ES X XR Wx cf (.While e ss [] pos) (.whileS c qs) := by
  refine (ps_while po hc hb).imp fun D σ H h => ?_
  obtain ⟨μ, ρ, M, hs, hc, hp⟩ := h
  unfold evS at hp
  refine ⟨fun m σ H => ∃ μ ρ M, RSl μ H ρ σ ∧ CoM X.K μ M H ∧ (whileL (evB cf c) (evSs cf qs) m ρ M).post (okF X.K XR Wx D μ H) noE, ⟨_, μ, ρ, M, hs, hc, hp⟩, ?_⟩
  rintro m σ H ⟨μ, ρ, M, hs, hc, hp⟩
  cases m with
  | zero => exact hp.elim
  | succ m =>
    unfold whileL at hp
    refine stm_next hs hc hp fun x v μ1 M1 H1 p1 e1 hs1 hc1 r1 h1 => ?_
    cases r1
    cases x with
    | false => exact nx0 hc1 hs1 h1
    | true =>
      simp only [if_true] at h1 ⊢
      refine ⟨fun σ' H' => ∃ μ ρ M, RSl μ H' ρ σ' ∧ CoM X.K μ M H' ∧ (whileL (evB cf c) (evSs cf qs) m ρ M).post (okF X.K XR Wx D μ H') noE, fun σ' H' z => ⟨m, Nat.lt_succ_self m, z⟩, μ1, ρ, M1, hs1, hc1, ?_⟩
      refine post_mono (post_bind.mp h1) (fun f M2 h2 => ?_) fun _ _ _ z => z
      cases f with
      | nx ρ2 => exact fun μ2 σ2 H2 p2 e2 c2 r2 => ⟨μ2, ρ2, M2, r2, c2, postF p2 e2 h2⟩
      | cont ρ2 => exact fun μ2 σ2 H2 p2 e2 c2 r2 => ⟨μ2, ρ2, M2, r2, c2, postF p2 e2 h2⟩
      | brk ρ2 => exact h2
      | ret w => exact h2
      | exc c fs ρ2 => exact h2
theorem es_for (S : Std X) (po : PassesOwn (model X.prog X.w) X.A X.env X.xe) {g : CN} {it : CI} (hi : EI X XR Wx cf tg iter it) (hg : PG X tg (gN X.K g)) (hb : ESs X XR Wx cf ss qs) (hs : ∀ x, foldedSetIterable iter X.env x = pure x) :
    ES X XR Wx cf (.For tg iter ss [] pos) (.forS g it qs) := by
  refine (ps_for po S.calm hi hg hb hs).imp fun D σ H h => ?_
  obtain ⟨μ, ρ, M, hs, hc, hp⟩ := h
  unfold evS at hp
  refine stm_next hs hc hp fun pr J μ1 M1 H1 p1 e1 hs1 hc1 r1 h1 => ?_
  obtain ⟨its, gs⟩ := pr
  simp only at h1
  refine ⟨fun n m σ H => m + n = its.length ∧ ∃ μ ρ M, ItOk X.K its gs μ H J ∧ RSl μ H ρ σ ∧ CoM X.K μ M H ∧ (forL (evN g) (evSs cf qs) gs (its.drop n) ρ M).post (okF X.K XR Wx D μ H) noE,
    ⟨its.length, by simp, μ1, ρ, M1, r1, hs1, hc1, h1⟩, ?_⟩
  rintro n m σ H ⟨hm, μ, ρ, M, J', hs, hc, hq⟩
  cases hd : its.drop n with
  | nil =>
    have hn : its.length ≤ n := List.drop_eq_nil_iff.mp hd
    rw [hd] at hq
    unfold forL at hq
    split at hq
    · next gd => exact .inl ⟨(J' μ M H (List.prefix_refl _) (.refl _) hc gd).1 n hn, nx0 hc hs hq⟩
    · exact hq.elim
  | cons x xs =>
    have hx : its[n]? = some x := by
      rw [← List.head?_drop, hd]
      rfl
    have hxs : its.drop (n + 1) = xs := by
      rw [← List.tail_drop, hd]
      rfl
    have hlt : n < its.length := (List.getElem?_eq_some_iff.mp hx).1
    rw [hd] at hq
    unfold forL at hq
    split at hq
    · next gd =>
      obtain ⟨go, yl⟩ := (J' μ M H (List.prefix_refl _) (.refl _) hc gd).2 n x hx
      refine .inr ⟨go, fun σ2 H2 => ∃ μ ρ M, ItOk X.K its gs μ H2 J ∧ RSl μ H2 ρ σ2 ∧ CoM X.K μ M H2 ∧ (forL (evN g) (evSs cf qs) gs (its.drop (n + 1)) ρ M).post (okF X.K XR Wx D μ H2) noE,
        fun σ2 H2 z => ⟨m - 1, by omega, by omega, z⟩, fun v H2 hy => ?_⟩
      obtain ⟨ex, cy, ir⟩ := yl v H2 hy
      refine ⟨μ, ρ, M, x, hs.mono (List.prefix_refl _) ex, cy, ir, ?_⟩
      refine post_mono (post_bind.mp hq) (fun ρ1 M1 z μ1 σ1 Hb p1 e1 c1 rs1 => ?_) fun _ _ _ z => z
      refine ⟨μ1, ρ1, M1, rs1, c1, post_mono (post_bind.mp z) (fun f M2 h2 => ?_) fun _ _ _ z => z⟩
      have again : ∀ (ρ2 : Sl), (forL (evN g) (evSs cf qs) gs xs ρ2 M2).post (okF X.K XR Wx D μ H) noE → ∀ (μ2 : List Addr) (σ2 : L2.St) (H3 : Hp), μ1 <+: μ2 → Ext Hb H3 → CoM X.K μ2 M2 H3 → RSl μ2 H3 ρ2 σ2 →
          ∃ μ ρ M, ItOk X.K its gs μ H3 J ∧ RSl μ H3 ρ σ2 ∧ CoM X.K μ M H3 ∧ (forL (evN g) (evSs cf qs) gs (its.drop (n + 1)) ρ M).post (okF X.K XR Wx D μ H3) noE := fun ρ2 k2 μ2 σ2 H3 p2 e2 c2 r2 =>
        ⟨μ2, ρ2, M2, J'.mono (p1.trans p2) ((ex.trans e1).trans e2), r2, c2, by rw [hxs]; exact postF (p1.trans p2) ((ex.trans e1).trans e2) k2⟩
      cases f with
      | nx ρ2 => exact again ρ2 h2
      | cont ρ2 => exact again ρ2 h2
      | brk ρ2 => exact okF.mono (f := .nx ρ2) (K := X.K) (XR := XR) (Wx := Wx) (D := D) p1 (ex.trans e1) h2
      | ret w => exact okF.mono (f := .ret w) (K := X.K) (XR := XR) (Wx := Wx) (D := D) p1 (ex.trans e1) h2
      | exc c fs ρ2 => exact okF.mono (f := .exc c fs ρ2) (K := X.K) (XR := XR) (Wx := Wx) (D := D) p1 (ex.trans e1) h2
    · exact hq.elim
end
end EV

/-! Ev16: defs. -/
namespace EV
open PySem PySem.Spec PyProof.Rows L2
section
variable {μ μ' : List Addr} {H H' : Hp}
mutual
theorem RW.back (p : μ <+: μ') : ∀ {w : W} {v0 v : V}, RW μ H w v0 → RW μ' H' w v → RW μ H' w v
  | .non, _, _, _, .non => .non
  | .bl b, _, _, _, .bl _ => .bl b
  | .int i, _, _, _, .int _ => .int i
  | .str x, _, _, _, .str _ => .str x
  | .tup xs, _, _, .tup _ _ r0, .tup h n r => .tup h n (RWs.back p r0 r)
  | .ref n, _, _, .ref e0, .ref e => by
    have e1 := pre_get p e0
    rw [e] at e1
    cases e1
    exact .ref e0
theorem RWs.back (p : μ <+: μ') : ∀ {w : List W} {v0 v : List V}, RWs μ H w v0 → RWs μ' H' w v → RWs μ H' w v
  | [], _, _, _, .nil => .nil
  | _ :: _, _, _, .cons a0 t0, .cons a t => .cons (RW.back p a0 a) (RWs.back p t0 t)
end
mutual
theorem RW.pure : ∀ {w : W} {v : V}, pureW w = true → RW μ' H' w v → RW μ H' w v
  | .non, _, _, .non => .non
  | .bl b, _, _, .bl _ => .bl b
  | .int i, _, _, .int _ => .int i
  | .str x, _, _, .str _ => .str x
  | .tup xs, _, h, .tup a n r => .tup a n (RWs.pure (by simpa [pureW] using h) r)
  | .ref n, _, h, _ => by simp [pureW] at h
theorem RWs.pure : ∀ {w : List W} {v : List V}, pureWs w = true → RWs μ' H' w v → RWs μ H' w v
  | [], _, _, .nil => .nil
  | _ :: _, _, h, .cons a t => by
    simp only [pureWs, Bool.and_eq_true] at h
    exact .cons (RW.pure h.1 a) (RWs.pure h.2 t)
end
theorem RKs.back {κ : Type} (p : μ <+: μ') : ∀ {w : List (κ × W)} {v0 v : List (κ × V)}, RKs μ H w v0 → RKs μ' H' w v → RKs μ H' w v
  | [], _, _, _, .nil => .nil
  | _ :: _, _, _, .cons a0 t0, .cons a t => .cons (RW.back p a0 a) (RKs.back p t0 t)
end
theorem RKs.pure {κ : Type} {μ μ' : List Addr} {H' : Hp} : ∀ {w : List (κ × W)} {v : List (κ × V)}, pureWs (w.map (·.2)) = true → RKs μ' H' w v → RKs μ H' w v
  | [], _, _, .nil => .nil
  | _ :: _, _, h, .cons a t => by
    simp only [List.map_cons, pureWs, Bool.and_eq_true] at h
    exact .cons (RW.pure h.1 a) (RKs.pure h.2 t)
/-- an object, told without the new places -/
theorem RO.backOb {K : PySem.W.Frag} {μ μ' : List Addr} {H H' : Hp} {a : Addr} {o : Ob} (p : μ <+: μ') (h : RO K μ H a o ∨ pureOb o = true) (r : RO K μ' H' a o) : RO K μ H' a o := by
  rcases h with h | h
  · cases o with
    | lst xs => obtain ⟨vs, h1, h2⟩ := r; obtain ⟨vs0, _, h0⟩ := h; exact ⟨vs, h1, RWs.back p h0 h2⟩
    | rol xs => obtain ⟨vs, h1, h2⟩ := r; obtain ⟨vs0, _, h0⟩ := h; exact ⟨vs, h1, RWs.back p h0 h2⟩
    | dK xs => obtain ⟨vs, h1, h2⟩ := r; obtain ⟨vs0, _, h0⟩ := h; exact ⟨vs, h1, RKs.back p h0 h2⟩
  · cases o with
    | lst xs => obtain ⟨vs, h1, h2⟩ := r; exact ⟨vs, h1, RWs.pure h h2⟩
    | rol xs => obtain ⟨vs, h1, h2⟩ := r; exact ⟨vs, h1, RWs.pure h h2⟩
    | dK xs => obtain ⟨vs, h1, h2⟩ := r; exact ⟨vs, h1, RKs.pure h h2⟩
theorem calmM_get : ∀ {M M' : Mem}, calmM M M' = true → M.length ≤ M'.length ∧ ∀ (n : Nat) (o : Ob), n < M.length → M'[n]? = some o → M[n]? = some o ∨ pureOb o = true
  | [], _, _ => ⟨Nat.zero_le _, fun n o h => by simp at h⟩
  | _ :: _, [], h => by simp [calmM] at h
  | o :: M, o' :: M', h => by
    simp only [calmM, Bool.and_eq_true, Bool.or_eq_true, decide_eq_true_eq] at h
    obtain ⟨l, ih⟩ := calmM_get h.2
    refine ⟨by simp only [List.length_cons]; omega, fun n x hn hx => ?_⟩
    cases n with
    | zero =>
      simp only [List.getElem?_cons_zero, Option.some.injEq] at hx ⊢
      subst hx
      exact h.1
    | succ n =>
      simp only [List.getElem?_cons_succ] at hx ⊢
      exact ih n x (by simpa using hn) hx
theorem CoM.back {K : PySem.W.Frag} {μ μ' : List Addr} {H H' : Hp} {M M' : Mem} (c : CoM K μ M H) (c' : CoM K μ' M' H') (p : μ <+: μ') (h : calmM M M' = true) : CoM K μ (M'.take M.length) H' := by
  obtain ⟨hl, hg⟩ := calmM_get h
  have at' : ∀ n o, (M'.take M.length)[n]? = some o → n < M.length ∧ M'[n]? = some o := fun n o e => by
    rw [List.getElem?_take] at e
    split at e
    · exact ⟨by assumption, e⟩
    · cases e
  refine ⟨by rw [c.len, List.length_take]; omega, fun n m a o o' h1 h2 h3 h4 h5 h6 => ?_, fun n o ho => ?_⟩
  · exact c'.inj n m a o o' (pre_get p h1) (pre_get p h2) (at' n o h3).2 (at' m o' h4).2 h5 h6
  · obtain ⟨hn, ho'⟩ := at' n o ho
    obtain ⟨a', ha', r⟩ := c'.ob n o ho'
    have hn' : n < μ.length := by rw [c.len]; exact hn
    have ha : μ[n]? = some a' := by
      obtain ⟨t, rfl⟩ := p
      rw [List.getElem?_append_left hn'] at ha'
      exact ha'
    refine ⟨a', ha, RO.backOb (H := H) p ?_ r⟩
    rcases hg n o hn ho' with q | q
    · obtain ⟨a, h1, h2⟩ := c.ob n o q
      rw [ha] at h1
      cases h1
      exact .inl h2
    · exact .inr q
/-- and one new list -/
theorem CoM.backL {K : PySem.W.Frag} {μ μ' : List Addr} {H H' : Hp} {M M' : Mem} {q : Nat} {xs : List W} {a : Addr} (c : CoM K μ M H) (c' : CoM K μ' M' H') (p : μ <+: μ') (h : calmM M M' = true) (hq : M.length ≤ q) (hx : M'[q]? = some (.lst xs)) (hp : pureWs xs = true) (ha : μ'[q]? = some a) : CoM K (μ ++ [a]) (M'.take M.length ++ [.lst xs]) H' := by
  have b := c.back c' p h
  obtain ⟨hl, hg⟩ := calmM_get h
  have bl : (M'.take M.length).length = M.length := by rw [List.length_take]; omega
  have lt : ∀ n o, (M'.take M.length ++ [Ob.lst xs])[n]? = some o → (n < M.length ∧ M'[n]? = some o ∧ (μ ++ [a])[n]? = μ[n]?) ∨ (n = M.length ∧ o = .lst xs ∧ (μ ++ [a])[n]? = some a) := fun n o e => by
    by_cases hn : n < M.length
    · refine .inl ⟨hn, ?_, List.getElem?_append_left (by rw [c.len]; exact hn)⟩
      rw [List.getElem?_append_left (by omega), List.getElem?_take, if_pos hn] at e
      exact e
    · rw [List.getElem?_append_right (by omega), bl] at e
      have h0 : n - M.length = 0 := by
        have := (List.getElem?_eq_some_iff.mp e).1
        simp at this
        omega
      rw [h0] at e
      simp at e
      have hn2 : n = M.length := by omega
      refine .inr ⟨hn2, e.symm, ?_⟩
      rw [hn2, List.getElem?_append_right (by rw [c.len]; exact Nat.le_refl _), c.len]
      simp
  refine ⟨by simp [bl, c.len], fun n m a1 o o' h1 h2 h3 h4 h5 h6 => ?_, fun n o ho => ?_⟩
  · rcases lt n o h3 with ⟨k1, k2, k3⟩ | ⟨k1, k2, k3⟩
    · rw [k3] at h1
      rcases lt m o' h4 with ⟨l1, l2, l3⟩ | ⟨l1, l2, l3⟩
      · rw [l3] at h2
        exact c'.inj n m a1 o o' (pre_get p h1) (pre_get p h2) k2 l2 h5 h6
      · rw [l3] at h2
        cases h2
        have := c'.inj n q a o (.lst xs) (pre_get p h1) ha k2 hx h5 rfl
        omega
    · rw [k3] at h1
      cases h1
      rcases lt m o' h4 with ⟨l1, l2, l3⟩ | ⟨l1, l2, l3⟩
      · rw [l3] at h2
        have := c'.inj m q a o' (.lst xs) (pre_get p h2) ha l2 hx h6 rfl
        omega
      · omega
  · rcases lt n o ho with ⟨k1, k2, k3⟩ | ⟨k1, rfl, k3⟩
    · have e : (M'.take M.length)[n]? = some o := by rw [List.getElem?_take, if_pos k1]; exact k2
      obtain ⟨a1, h1, h2⟩ := b.ob n o e
      exact ⟨a1, by rw [k3]; exact h1, h2.stay pre1 (.refl _) fun _ => rfl⟩
    · obtain ⟨a1, h1, vs, h2, h3⟩ := c'.ob q _ hx
      rw [ha] at h1
      cases h1
      exact ⟨a, k3, vs, h2, RWs.pure hp h3⟩
section
variable {K : PySem.W.Frag} {XR : XRel} {μ : List Addr} {M : Mem} {H : Hp} {Q : VK} {E : XK}
theorem trim_ok {w : W} {M' : Mem} {E' : Str → List W → Mem → Prop} (c : CoM K μ M H) (h : (trim M w M').post (okP K relW μ H Q) E') : okP K relW μ H Q w M' := by
  unfold trim at h
  split at h
  · next hc =>
    split at h
    · next hw =>
      intro μ' v H' p e c' r
      exact h μ v H' (List.prefix_refl _) e (c.back c' p hc) (RW.pure hw r)
    · unfold trimL at h
      split at h
      · next q =>
        split at h
        · next hq =>
          split at h
          · next xs hx =>
            split at h
            · next hp =>
              intro μ' v H' p e c' r
              cases r with
              | ref ha =>
                refine h (μ ++ [_]) _ H' pre1 e (c.backL c' p hc hq hx hp ha) (.ref ?_)
                rw [List.getElem?_append_right (by rw [c.len]; exact Nat.le_refl _), c.len]
                simp
            · exact h
          · exact h
        · exact h
      · exact h
  · exact h
theorem fin_ok {N : List Str} {r : R Fl} (c : CoM K μ M H) (h : (finW M r).post (okP K relW μ H Q) (exP K XR (fun cls d _ H' => E cls d H') [] μ H)) :
    r.post (okF K XR (fun cls d _ H' => E cls d H') { nx := fun _ H' => Q .non H', rt := Q } μ H) noE := by
  cases r with
  | bad => exact h
  | exc _ _ _ => exact h
  | ok f M' =>
    cases f with
    | nx ρ => exact fun μ' σ' H' p e c' r => trim_ok c h μ' .non H' p e c' .non
    | ret w => exact trim_ok c h
    | brk ρ => exact h.elim
    | cont ρ => exact h.elim
    | exc cl fs ρ => exact fun μ' σ' H' cls d p e c' r x => h μ' H' cls d p e c' x
end
/-- a def, as the others call it -/
structure FnI (P : Program) (w : World) (K : PySem.W.Frag) (mg : Str → Option Value) (base : Heap) (XR : XRel) (cf : Nat → List W → Mem → R W) (k f : Nat) (x : Str) (ps : List Str) (a : Addr) (fd : FuncData) : Prop where
  fn : FnG P w K mg base k a fd ps (spEv K XR ps.length (cf f))
  mg : mg x = some (.ref a)
  kp : PySem.W.keepIn K (.ref a) = true
  bd : ∀ (s : Shared) (us : List Value), us.length = ps.length → BindsTo s fd ⟨us, []⟩ (ps.zip us)
  len : ∀ ws M, ws.length ≠ ps.length → cf f ws M = .bad
theorem FnI.at {X : Cx} {XR : XRel} {cf : Nat → List W → Mem → R W} {k f : Nat} {x : Str} {ps : List Str} {a : Addr} {fd : FuncData} (F : FnI X.prog X.w X.K X.mg X.base XR cf k f x ps a fd) (r : Room k X.A) : FnE X XR cf k f x ps a fd := ⟨F.fn, F.mg, F.kp, F.bd, r, F.len⟩
section
variable {P : Program} {w : World} {K : PySem.W.Frag} {mg : Str → Option Value} {base : Heap} {XR : XRel} {x qual : Str} {params : Arguments} {body : List Stmt} {scope : Scope} {a : Addr} {fd : FuncData} {N ps : List Str} {k f : Nat} {D : List Def} {d : Def}
theorem spEv_len {g : List W → Mem → R W} (vs : List V) (H : Hp) (Q : VK) (E : XK) (h : spEv K XR ps.length g vs H Q E) : vs.length = ps.length := by
  obtain ⟨μ, M, ws, _, r, hl, _⟩ := h
  rw [← r.length]
  exact hl
theorem callN_len (hd : D[f]? = some d) (hps : d.ps = ps.length) (ws : List W) (M : Mem) (h : ws.length ≠ ps.length) : callN D k f ws M = .bad := by
  cases k with
  | zero => rfl
  | succ k =>
    unfold callN
    simp only [hd]
    rw [if_neg (by rw [hps]; exact h)]
theorem fn_zero : FnG P w K mg base 0 a fd ps (spEv K XR ps.length (callN D 0 f)) := by
  refine ⟨spEv_len, fun A outer s H args us vs Q E _ _ _ _ _ h => ?_⟩
  obtain ⟨μ, M, ws, _, _, _, h⟩ := h
  exact h.elim
theorem fn_step (F : FunD K x qual params body scope [] [] a fd) (S : FnScope N ps scope) (hd : D[f]? = some d) (hps : d.ps = ps.length) (hn : d.n = N.length)
    (hb : ∀ (cdv : Value) (A : Around) (outer : List Env) (s : Shared) (H : Hp) (E : XK), A.guards = some [] → Room k (A.deeper (envOfC qual scope s.heap.objs.size a cdv)) →
      ESs (cxOf (L2.CX P w) P w K mg base N qual scope a cdv A outer s H E) XR (fun cls d _ H' => E cls d H') (callN D k) body d.body) :
    FnG P w K mg base (k + 1) a fd ps (spEv K XR ps.length (callN D (k + 1) f)) := by
  refine FnG.of_body F S spEv_len fun cdv A outer s H vs Q E hg hr hsp => ⟨_, hb cdv A outer s H E hg hr, ?_⟩
  obtain ⟨μ, M, ws, c, r, hl, h⟩ := hsp
  unfold callN at h
  simp only [hd] at h
  rw [if_pos (by rw [hps]; exact hl)] at h
  refine ⟨μ, _, M, ?_, c, fin_ok (N := N) c h⟩
  have hl2 := r.length
  have e : d.n - d.ps = N.length - vs.length := by omega
  rw [e]
  exact RSl.start _ r
/-- what a def's text may take for granted -/
theorem std_cx {cdv : Value} {A : Around} {outer : List Env} {s : Shared} {H : Hp} {E : XK} {CX : CXT} (nd : N.Nodup) (hg : A.guards = some []) (hr : Room k (A.deeper (envOfC qual scope s.heap.objs.size a cdv))) : Std (cxOf CX P w K mg base N qual scope a cdv A outer s H E) :=
  ⟨nd, rfl, hg, by have := hr.un; show (A.deeper (envOfC qual scope s.heap.objs.size a cdv)).units + 70 < cLine; omega⟩
theorem takes_cx {cdv : Value} {A : Around} {outer : List Env} {s : Shared} {H : Hp} {E : XK} : Takes (cxOf (L2.CX P w) P w K mg base N qual scope a cdv A outer s H E) (fun cls d _ H' => E cls d H') :=
  takes_of (X := cxOf (L2.CX P w) P w K mg base N qual scope a cdv A outer s H E) rfl rfl rfl rfl
theorem owns_cx {cdv : Value} {A : Around} {outer : List Env} {s : Shared} {H : Hp} {E : XK} {CX : CXT} : PassesOwn (model P w) (cxOf CX P w K mg base N qual scope a cdv A outer s H E).A (cxOf CX P w K mg base N qual scope a cdv A outer s H E).env (cxOf CX P w K mg base N qual scope a cdv A outer s H E).xe :=
  PassesOwn.leaving
end
end EV

/-! Ev17: the law's end. -/
namespace EV
open PySem PySem.Spec PyProof.Rows L2
section
variable {P : Program} {w : World} {K : PySem.W.Frag} {mg mb : Str → Option Value} {k : Nat} {fa a : Addr} {fd : FuncData} {x : Str} {sp : Sp} {s₁ : Shared} {vs : List Value} {ns : List Int}
abbrev scrO (vs : List Value) : Obj := { cls := .type "list", data := .seq vs.toArray }
/-- what is tracked of the script at the law's start -/
def scrH (K : PySem.W.Frag) (a : Addr) (vs : List Value) (ns : List Int) : Hp := fun b => if b = a ∧ K.lookup a = none then some (.frz (scrO vs) (.lst (ns.map V.int))) else none
theorem scrH_some {b : Addr} {u : HO} (h : scrH K a vs ns b = some u) : b = a ∧ K.lookup a = none ∧ u = .frz (scrO vs) (.lst (ns.map V.int)) := by
  unfold scrH at h
  split at h
  · next c => exact ⟨c.1, c.2, (Option.some.inj h).symm⟩
  · cases h
/-- the law's def, called with the script -/
theorem law_callG (KX : K.In s₁.heap) (hns : s₁.heap.Ns mainGlobals mg) (hb : s₁.heap.Ns builtinsNs mb) (hbb : ∀ x : Str, x ≠ "__name__" → mb x = bootBuiltins x) (hlim : s₁.heap.NoLimit) (hg : s₁.gens = #[])
    (ha : s₁.heap.get? a = some (scrO vs)) (hi : IntsAre vs ns) (hl : ns.length ≤ sizeLine) (hr : Room k callerA)
    (F : ∀ base : Heap, K.In base → base.Ns mainGlobals mg → FnG P w K mg base k fa fd [x] sp) (hbind : ∀ (s : Shared) (u : Value), BindsTo s fd ⟨[u], []⟩ [(x, u)])
    (hsp : ∀ H : Hp, FzL K H a (ns.map V.int) → sp [.ref a] H (fun v _ => v = .bl true) fun _ _ _ => False) :
    codeAny (model P w) callerA (.call (.ref fa) ⟨[.ref a], []⟩) (fun r s' => r = .ok (.ret (.bool true)) ∧ OldK s₁.heap s'.heap ∧ s'.os = s₁.os ∧ AllBare s'.gens) s₁ := by
  have rv := vals_ints hi
  have lenV := hi.length
  have off : ∀ {b : Addr}, (b = a → K.lookup a ≠ none) → scrH K a vs ns b = none := fun {b} h => if_neg fun c => h c.1 c.2
  have hS : FzL K (scrH K a vs ns) a (ns.map V.int) := by
    cases hk : K.lookup a with
    | none => exact .inl ⟨_, if_pos ⟨rfl, hk⟩⟩
    | some o =>
      have e := KX a o hk
      rw [ha] at e
      cases e
      exact .inr (.inr ⟨_, vs.toArray, _, hk, rfl, rfl, rfl, by rw [List.size_toArray, lenV]; exact hl, by simpa using rv⟩)
  have hok : HOk P w (scrH K a vs ns) s₁.heap := fun b u z => by
    obtain ⟨rfl, _, rfl⟩ := scrH_some z
    exact ⟨ha, by rw [List.length_map]; exact hl, vs, _, rv, ha⟩
  have offD : ∀ {b : Addr} {o : Obj} {es : Array DictEntry} {ep : Nat}, s₁.heap.get? b = some o → o.data = .dict es ep → scrH K a vs ns b = none := fun e d => off fun eb => by
    subst eb
    rw [ha] at e
    cases e
    cases (show Data.seq vs.toArray _ = Data.dict _ _ from d)
  have nsK : ∀ {b : Addr} {m : Str → Option Value}, s₁.heap.Ns b m → (hidT s₁.heap (scrH K a vs ns)).Ns b m := fun ⟨o, es, ep, e, d, r⟩ => ⟨o, es, ep, hidT_get e (offD e d), d, r⟩
  have hKb : K.In (hidT s₁.heap (scrH K a vs ns)) := fun b o e => hidT_get (KX b o e) (off fun eb => by rw [← eb, e]; exact fun z => nomatch z)
  have hM : Mod K mg (hidT s₁.heap (scrH K a vs ns)) := ⟨hKb, nsK hns, ⟨mb, nsK hb, hbb⟩, let ⟨mc, h1, h2⟩ := hlim; ⟨mc, nsK h1, h2⟩⟩
  have e0 : Env0 P w K mg (hidT s₁.heap (scrH K a vs ns)) callerA [] s₁ (scrH K a vs ns) :=
    ⟨rfl, hM, fun b o e => of_hidT e, Nat.le_of_eq (hidT_size _ _), trivial, fun b hb => absurd (show b ∈ ([] : List Addr) from hb) (by simp), hok, .of_eq hg⟩
  refine codeAny_mono ((F _ hKb (nsK hns)).go callerA [] s₁ _ ⟨[.ref a], []⟩ [.ref a] [.ref a] _ _ rfl hr e0 (hbind s₁ (.ref a)) (.cons rfl .nil) (hsp _ hS)) fun r s' h => ?_
  cases r with
  | error e =>
    obtain ⟨_, _, _, _, _, _, _, _, _, _, _, _, z⟩ := h
    exact z.elim
  | ok fl =>
    cases fl with
    | next => exact False.elim h
    | brk => exact False.elim h
    | cont => exact False.elim h
    | ret u =>
      obtain ⟨v, H', os, bare, un, hok', r', q⟩ := h
      have q' : v = .bl true := q
      subst q'
      obtain rfl : u = Value.bool true := r'
      refine ⟨rfl, OldK.of_keep fun b o e => ?_, os, bare⟩
      cases q : scrH K a vs ns b with
      | none => exact un.keep b o e q (by intro z; exact absurd (show b ∈ ([] : List Addr) from z) (by simp)) (by simp)
      | some u =>
        obtain ⟨rfl, _, rfl⟩ := scrH_some q
        have z2 := un.frzs b _ _ q
        obtain ⟨e2, _⟩ := hok' b _ z2
        rw [ha] at e
        cases e
        exact e2
end
/-- a law of a row, by its def's promise -/
theorem walkG {l : PySem.W.OpenLaw} {n k : Nat} {q : Program} {loose : List Str} {XP : (Str → Option Value) → Heap → Prop} {YP : World → Heap → Prop} {d : DefRec} {x : Str}
    (hn : l.most = some n) (hn2 : n ≤ sizeLine) (hdf : d.params.defaults = []) (hr : Room k callerA)
    (F : ∀ (w : World) (mg : Str → Option Value) (fa : Addr) (h : Heap), YP w h → h.Ns mainGlobals mg → mg d.name = some (.ref fa) →
      ∃ (K : PySem.W.Frag) (fd : FuncData) (XR : XRel) (g : List W → Mem → R W), K.In h ∧ (∀ (s : Shared) (u : Value), BindsTo s fd ⟨[u], []⟩ [(x, u)]) ∧
        (∀ ns : List Int, ns.length ≤ n → ∃ M, g [.ref 0] [.rol (ns.map W.int)] = .ok (.bl true) M) ∧
        ∀ base : Heap, K.In base → base.Ns mainGlobals mg → FnG l.prog w K mg base k fa fd [x] (spEv K XR 1 g)) :
    PySem.W.WalkO q loose XP YP l.row.toRowW d [] (fun f vs => PySem.call f vs) := by
  refine Att.attach_call hn hdf fun w s₀ s₁ mg mb fa o pm cd doc a vs ns G Y ho hd hcd hmg hobj hints hlen hg => ?_
  obtain ⟨K, fd, XR, g, KX, hb, hsp, hF⟩ := F w mg fa _ Y G.T.g hmg
  refine law_callG KX G.T.g G.T.b G.T.builtins G.T.nolimit hg hobj hints (Nat.le_trans hlen hn2) hr hF hb fun H hS => ?_
  obtain ⟨M, hM⟩ := hsp ns hlen
  refine ⟨[a], [.rol (ns.map W.int)], [.ref 0], ⟨rfl, fun n m a o o' _ _ h1 h2 h3 _ => ?_, fun n o ho => ?_⟩, .cons (.ref rfl) .nil, rfl, ?_⟩
  · cases n with
    | zero => cases h1; cases h3
    | succ n => cases h1
  · cases n with
    | zero => cases ho; exact ⟨a, rfl, _, hS, RWs.ints ns⟩
    | succ n => cases ho
  · rw [hM]
    intro μ' v H' _ _ _ r
    cases r
    rfl
end EV

/-! Ev18: facts by computing. -/
namespace EV
open PySem PySem.Spec PyProof.Rows L2
def visB (sc : Scope) (x : Str) : Bool := match sc.names.lookup x with
  | some .local => true
  | some .cell => true
  | some .free => true
  | _ => false
theorem vis_by {sc : Scope} {x : Str} (h : visB sc x = true) : Vis sc x := by
  unfold visB at h
  split at h
  · next e => exact .inl e
  · next e => exact .inr (.inl e)
  · next e => exact .inr (.inr e)
  · cases h
def locB (sc : Scope) (x : Str) : Bool := match sc.names.lookup x with
  | some .local => true
  | some .cell => true
  | _ => false
theorem loc_by {sc : Scope} {x : Str} (h : locB sc x = true) : Loc sc x := by
  unfold locB at h
  split at h
  · next e => exact .inl e
  · next e => exact .inr e
  · cases h
def stB (X : Cx) (x : Str) : Bool := X.fn x || match X.env.scope.names.lookup x with
  | some .local => true
  | _ => false
theorem nm_by {X : Cx} {i : Nat} {x : Str} (h1 : X.N[i]? = some x) (h2 : locB X.env.scope x = true) (h3 : stB X x = true) : NmOk X i x := by
  refine ⟨h1, loc_by h2, ?_⟩
  unfold stB at h3
  rw [Bool.or_eq_true] at h3
  rcases h3 with e | e
  · exact .inl e
  · split at e
    · next q => exact .inr q
    · cases e
theorem Std.blk {X : Cx} {s : Shared} {H : Hp} {scope : Scope} {cenv : Env} {fp : List Addr} (S : Std X) : Std (X.blk s H scope cenv fp) := ⟨S.nd, S.calm, S.gd, S.un⟩
theorem takesNo {X : Cx} : Takes X noW := fun _ _ ⟨_, _, _, _, _, _, _, _, _, _, _, _, _, _, _, _, z⟩ => z.elim
theorem ev_v {X : Cx} {XR : XRel} {Wx : WX} {cf : Nat → List W → Mem → R W} {i : Nat} {x : Str} {pos : Pos} (h1 : X.N[i]? = some x) (h2 : visB X.env.scope x = true) (h3 : (x == ("__debug__" : Str)) = false) (h4 : (x == ("__classdict__" : Str)) = false) : EE X XR Wx cf (.Name x pos) (.var i) :=
  ev_var h1 (vis_by h2) h3 h4
theorem gl_by {X : Cx} {x : Str} (h : X.env.kindOf x = some .globalImplicit) : Gl X x := h
/-- no raise in sight -/
abbrev XR0 : XRel := fun _ _ _ _ _ _ => False
end EV

/-! Ev19: sets that are counted or sorted at once. -/
namespace EV
open PySem PySem.Spec PyProof.Rows L2
theorem mem_distinct {x : Int} : ∀ {ns : List Int}, x ∈ distinct ns ↔ x ∈ ns
  | [] => Iff.rfl
  | y :: ns => by
    unfold distinct
    split
    · next h =>
      rw [mem_distinct, List.mem_cons]
      exact ⟨.inr, fun z => z.elim (fun e => e ▸ h) id⟩
    · rw [List.mem_cons, List.mem_cons, mem_distinct]
theorem nodup_distinct : ∀ {ns : List Int}, (distinct ns).Nodup
  | [] => List.nodup_nil
  | y :: ns => by
    unfold distinct
    split
    · exact nodup_distinct
    · next h => exact List.nodup_cons.mpr ⟨fun z => h (mem_distinct.mp z), nodup_distinct⟩
theorem nodup_le {α : Type} [BEq α] [LawfulBEq α] : ∀ {l m : List α}, l.Nodup → (∀ x ∈ l, x ∈ m) → l.length ≤ m.length
  | [], _, _, _ => Nat.zero_le _
  | a :: l, m, h, hs => by
    have ha : a ∈ m := hs a List.mem_cons_self
    obtain ⟨h1, h2⟩ := List.nodup_cons.mp h
    have := nodup_le (l := l) (m := m.erase a) h2 fun x hx => (List.mem_erase_of_ne (fun (e : x = a) => h1 (e ▸ hx))).mpr (hs x (List.mem_cons_of_mem _ hx))
    rw [List.length_erase_of_mem ha] at this
    have := List.length_pos_of_mem ha
    simp only [List.length_cons]
    omega
theorem set_count {w : World} {h : Heap} {a : Addr} {ns : List Int} {c : Nat} (S : SetR w h a (fun j => decide (j ∈ ns)) c) : c = (distinct ns).length := by
  obtain ⟨o, es, ep, t, ho, hex, hd, _, nd, hS, _, _, hn, _, _⟩ := S
  have e1 : (es.toList.map keyOf).length = es.size := by simp
  rw [← hn, ← e1]
  have hm : ∀ k, k ∈ es.toList.map keyOf ↔ k ∈ distinct ns := fun k => by rw [← hS k, mem_distinct]; simp
  exact Nat.le_antisymm (nodup_le nd fun x hx => (hm x).mp hx) (nodup_le nodup_distinct fun x hx => (hm x).mpr hx)
section
variable {X : Cx} {XR : XRel} {Wx : WX} {cf : Nat → List W → Mem → R W} {pos p p2 q : Pos} {a : Expr} {ca : CE}
def tLenSetT (K : PySem.W.Frag) (ta : TE) : TE := fun σ H Q => ta σ H fun x H1 => ∃ (l : Addr) (ns : List Int), x = .ref l ∧ SqT K H1 l (ns.map V.int) ∧ ns.length ≤ 1000 ∧ Q (.int ((distinct ns).length : Nat)) H1
theorem pe_lenSetT {ta : TE} (hg : Gl X "len") (hm : X.mg "len" = none) (hg2 : Gl X "set") (hm2 : X.mg "set" = none) (hc : X.calm = true) (ha : PE X a ta)
    (na : starEach [a] X.env = (false, eval a X.env) :: starEach [] X.env) : PE X (.Call (.Name "len" p) [.Call (.Name "set" p2) [a] [] q] [] pos) (tLenSetT X.K ta) := by
  refine ⟨fun pins s σ H Q I h => ?_⟩
  refine Call_ (ld_blt I hg hm boot_len ?_)
  refine PyProof.Rows.callWith_builtin1 (PyProof.Rows.args_cons ?_ rfl) rfl rfl
  refine Call_ (ld_blt I hg2 hm2 boot_set ?_)
  refine PyProof.Rows.callWith_type1 (PyProof.Rows.args_cons (thn (ha.run pins s σ H _ I h) fun v s1 ⟨x, H1, I1, r1, q1⟩ => PyProof.Rows.args_nil ?_) na) na rfl
  obtain ⟨l, ns, rfl, hq, hl, q1⟩ := q1
  cases r1
  obtain ⟨its, r, pl, hz⟩ := I1.tuple hq
  refine call_set_tupI ns (I1.ok.hd hc) pl (by simpa using ints_of_vals r) (by unfold scanBound; omega) fun h' tk c hS hcl hk => ?_
  refine PyProof.Rows.args_nil ?_
  have hcount := set_count hS
  obtain ⟨o, es, ep, t, ho, hex, hd, _, _, _, _, hf, hn, _, _⟩ := hS
  have I2 : L2.Inv X pins σ H1 { s1 with heap := h', toks := tk } := I1.kept hk
  refine call_len_set ho hex hd hf (by rw [hn]; omega) ⟨.int ((distinct ns).length : Nat), H1, I2.tok _, ⟨_, by rw [hn, hcount]⟩, q1⟩
theorem ev_lenset (S : Std X) (hg : Gl X "len") (hm : X.mg "len" = none) (hg2 : Gl X "set") (hm2 : X.mg "set" = none) (ha : EE X XR Wx cf a ca) (na : starEach [a] X.env = (false, eval a X.env) :: starEach [] X.env) :
    EE X XR Wx cf (.Call (.Name "len" p) [.Call (.Name "set" p2) [a] [] q] [] pos) (.lenset ca) := by
  refine (pe_lenSetT hg hm hg2 hm2 S.calm ha na).imp fun σ H Q h => ?_
  unfold evE at h
  refine tG.next h fun x v μ ρ M H1 hs hc r hp => ?_
  split at hp
  · next xs =>
    split at hp
    · next ns hn =>
      split at hp
      · next hl =>
        cases r with
        | tup k1 k2 k3 =>
          have e := k3.of_ints hn
          subst e
          exact ⟨_, ns, rfl, .frz k1, hl, okP.same hc hp (.int _)⟩
      · exact hp.elim
    · exact hp.elim
  · exact hp.elim
theorem cr_setTup (hc : X.calm = true) : CallR X (.type "set") (fun xs H Q => ∃ (l : Addr) (ns : List Int), xs = [.ref l] ∧ SqT X.K H l (ns.map V.int) ∧ ns.length ≤ 1000 ∧ ∀ p, H p = none → Q (.ref p) (upd H p (SetO X.w p (fun j => decide (j ∈ ns)) (distinct ns).length))) := by
  intro pins s σ H xs us Q I r h
  obtain ⟨l, ns, rfl, hq, hl, q⟩ := h
  rw [Vals.ref1 r]
  obtain ⟨its, r, pl, hz⟩ := I.tuple hq
  refine call_set_tupI ns (I.ok.hd hc) pl (by simpa using ints_of_vals r) (by unfold scanBound; omega) fun h' tk c hS hcl hk => ?_
  have hcount := set_count hS
  subst hcount
  exact ⟨.ref _, _, I.laid (t' := tk) hk (Nat.le_refl _) (setO_new hS), rfl, q _ (I.hok.fresh (Nat.le_refl _))⟩
theorem sortI_mem {x y : Int} : ∀ {ns : List Int}, x ∈ insI y ns ↔ x = y ∨ x ∈ ns
  | [] => by simp [insI]
  | z :: ns => by
    unfold insI
    split
    · simp
    · rw [List.mem_cons, sortI_mem, List.mem_cons]
      constructor
      · rintro (h | h | h)
        · exact .inr (.inl h)
        · exact .inl h
        · exact .inr (.inr h)
      · rintro (h | h | h)
        · exact .inr (.inl h)
        · exact .inl h
        · exact .inr (.inr h)
theorem mem_sortI {x : Int} : ∀ {ns : List Int}, x ∈ sortI ns ↔ x ∈ ns
  | [] => Iff.rfl
  | z :: ns => by rw [sortI, sortI_mem, mem_sortI, List.mem_cons]
theorem insI_lt {y : Int} : ∀ {ns : List Int}, ns.Pairwise (· < ·) → y ∉ ns → (insI y ns).Pairwise (· < ·)
  | [], _, _ => by simp [insI]
  | z :: ns, h, hy => by
    obtain ⟨h1, h2⟩ := List.pairwise_cons.mp h
    simp only [List.mem_cons, not_or] at hy
    unfold insI
    split
    · refine List.pairwise_cons.mpr ⟨fun x hx => ?_, h⟩
      rcases List.mem_cons.mp hx with e | e
      · omega
      · have := h1 x e; omega
    · refine List.pairwise_cons.mpr ⟨fun x hx => ?_, insI_lt h2 hy.2⟩
      rcases sortI_mem.mp hx with e | e
      · omega
      · exact h1 x e
theorem sortI_lt : ∀ {ns : List Int}, ns.Nodup → (sortI ns).Pairwise (· < ·)
  | [], _ => .nil
  | z :: ns, h => by
    obtain ⟨h1, h2⟩ := List.nodup_cons.mp h
    exact insI_lt (sortI_lt h2) fun z => h1 (mem_sortI.mp z)
theorem lt_uniq : ∀ {a b : List Int}, a.Pairwise (· < ·) → b.Pairwise (· < ·) → (∀ k, k ∈ a ↔ k ∈ b) → a = b
  | [], [], _, _, _ => rfl
  | [], y :: b, _, _, h => absurd ((h y).mpr List.mem_cons_self) (by simp)
  | x :: a, [], _, _, h => absurd ((h x).mp List.mem_cons_self) (by simp)
  | x :: a, y :: b, ha, hb, h => by
    obtain ⟨a1, a2⟩ := List.pairwise_cons.mp ha
    obtain ⟨b1, b2⟩ := List.pairwise_cons.mp hb
    have e : x = y := by
      rcases List.mem_cons.mp ((h x).mp List.mem_cons_self) with e | e
      · exact e
      · rcases List.mem_cons.mp ((h y).mpr List.mem_cons_self) with f | f
        · exact f.symm
        · have := b1 x e; have := a1 y f; omega
    subst e
    congr 1
    refine lt_uniq a2 b2 fun k => ?_
    constructor
    · intro hk
      rcases List.mem_cons.mp ((h k).mp (List.mem_cons_of_mem _ hk)) with e | e
      · have := a1 k hk; omega
      · exact e
    · intro hk
      rcases List.mem_cons.mp ((h k).mpr (List.mem_cons_of_mem _ hk)) with e | e
      · have := b1 k hk; omega
      · exact e
theorem ev_sortset (S : Std X) (hg : Gl X "sorted") (hm : X.mg "sorted" = none) (hg2 : Gl X "set") (hm2 : X.mg "set" = none) (ha : EE X XR Wx cf a ca) (na : starEach [a] X.env = (false, eval a X.env) :: starEach [] X.env) (hn : noStar [a] = true) :
    EE X XR Wx cf (.Call (.Name "sorted" p) [.Call (.Name "set" p2) [a] [] q] [] pos) (.sortset ca) := by
  refine (pe_callBi (.inl ⟨_, rfl⟩) (cr_sortedSet S.calm) hg hm boot_sorted (by decide) (by decide) (pa_cons (pe_callBi (.inr ⟨_, rfl⟩) (cr_setTup S.calm) hg2 hm2 boot_set (by decide) (by decide) (pa_cons ha pa_nil na) hn) pa_nil rfl) rfl).imp fun σ H Q h => ?_
  unfold evE at h
  refine tG.next h fun x v μ ρ M H1 hs hc r hp => ?_
  split at hp
  · next xs =>
    split at hp
    · next ns hn =>
      split at hp
      · next hl =>
        cases r with
        | tup k1 k2 k3 =>
          have e := k3.of_ints hn
          subst e
          refine ⟨_, ns, rfl, .frz k1, by omega, fun a1 h1 => ?_⟩
          refine ⟨a1, _, _, rfl, upd_same, ?_, fun ls b1 hp1 hp2 hp3 hp4 => ?_⟩
          · have := nodup_le nodup_distinct (fun x hx => mem_distinct.mp hx : ∀ x ∈ distinct ns, x ∈ ns)
            omega
          · have el : ls = sortI (distinct ns) := lt_uniq hp1 (sortI_lt nodup_distinct) fun k => by
              rw [hp2 k, mem_sortI, mem_distinct]; simp
            subst el
            have c1 := hc.new (o := SetO X.w a1 (fun j => decide (j ∈ ns)) (distinct ns).length) h1
            refine okP.newOb c1 (okP.mono (List.prefix_refl _) (.new h1) hp) hp4 ⟨_, upd_same, RWs.ints _⟩
      · exact hp.elim
    · exact hp.elim
  · exact hp.elim
end
end EV

/-! Ev20: comprehensions of two clauses. -/
namespace EV
open PySem PySem.Spec PyProof.Rows L2
section
variable {X : Cx} {XR : XRel} {Wx : WX} {cf : Nat → List W → Mem → R W} {pos : Pos} {tg iter tg1 iter1 elt : Expr} {ifs ifs1 : List Expr} {scope : Scope} {own : List (Str × Nat)} {vs1 : List Nat} {g g1 : CN} {it it1 : CI} {t t1 : CTs} {ce : CE}
/-- the parts of a comprehension of two clauses -/
structure Lc2Ok (X : Cx) (XR : XRel) (Wx : WX) (cf : Nat → List W → Mem → R W) (tg iter : Expr) (ifs : List Expr) (tg1 iter1 : Expr) (ifs1 : List Expr) (elt : Expr) (scope : Scope) (own : List (Str × Nat)) (vs1 : List Nat) (g : CN) (it : CI) (t : CTs) (g1 : CN) (it1 : CI) (t1 : CTs) (ce : CE) : Prop where
  hi : EI X XR Wx cf tg iter it
  ok : BlkOk X.N X.env.scope scope own
  hv : ∀ i ∈ vs1, i ∈ own.map (·.2)
  hg : ∀ (s : Shared) (H : Hp) (C : Addr) (cl : List (Str × Addr)) (fp : List Addr), PG (X.blk s H scope (compEnvC scope cl C X.env) fp) tg (gW X.K g (own.map (·.2)))
  ht : ∀ (s : Shared) (H : Hp) (C : Addr) (cl : List (Str × Addr)) (fp : List Addr), ET (X.blk s H scope (compEnvC scope cl C X.env) fp) XR noW cf ifs t
  hi1 : ∀ (s : Shared) (H : Hp) (C : Addr) (cl : List (Str × Addr)) (fp : List Addr), EI (X.blk s H scope (compEnvC scope cl C X.env) fp) XR noW cf tg1 iter1 it1
  hg1 : ∀ (s : Shared) (H : Hp) (C : Addr) (cl : List (Str × Addr)) (fp : List Addr), PG (X.blk s H scope (compEnvC scope cl C X.env) fp) tg1 (gW X.K g1 vs1)
  ht1 : ∀ (s : Shared) (H : Hp) (C : Addr) (cl : List (Str × Addr)) (fp : List Addr), ET (X.blk s H scope (compEnvC scope cl C X.env) fp) XR noW cf ifs1 t1
  he : ∀ (s : Shared) (H : Hp) (C : Addr) (cl : List (Str × Addr)) (fp : List Addr), EE (X.blk s H scope (compEnvC scope cl C X.env) fp) XR noW cf elt ce
  hs : ∀ x, foldedSetIterable iter X.env x = pure x
  hs1 : ∀ env x, foldedSetIterable iter1 env x = pure x
theorem lc2_rd {σ : L2.St} {H : Hp} {Q : VK} (h : tE X.K XR Wx (evE cf (.lc2 (.mk g it t (own.map (·.2))) (.mk g1 it1 t1 vs1) ce)) σ H Q) :
    tLc2 (tG X.K XR (relIt X.K) Wx (evI cf it)) (gW X.K g (own.map (·.2))) (tT X.K XR noW (evTs cf t)) (tG X.K XR (relIt X.K) noW (evI cf it1)) (gW X.K g1 vs1) (tT X.K XR noW (evTs cf t1)) (tE X.K XR noW (evE cf ce)) (own.map (·.2)) vs1 σ H Q := by
  have h : tE X.K XR Wx (fun ρ M => (evI cf it ρ M).bind fun p M1 =>
      ((lc2L (evN g) (evTs cf t) (evI cf it1) (fun gs ρ xs M => lcL M1.length (evN g1) (evTs cf t1) (evE cf ce) gs (wipeW ρ vs1) xs M) p.2 (wipeW ρ (own.map (·.2))) p.1 (M1 ++ [.lst []])).calm).bind fun _ M2 => .ok (.ref M1.length) M2) σ H Q := h
  refine tG.next h fun p J μ ρ M H1 hs hc r hp => ?_
  obtain ⟨its, gs⟩ := p
  intro D hD
  have hr := wipe_rel hs (own.map (·.2))
  have hp := post_noE (post_mono (post_bind.mp hp) (fun _ _ z => z) fun _ _ _ z => z)
  simp only at hp
  have c0 : CoM X.K (μ ++ [D]) (M ++ [.lst []]) (upd H1 D (.lst [])) := hc.push hD ⟨_, upd_same, .nil⟩
  have dl : (μ ++ [D])[M.length]? = some D := by rw [List.getElem?_append_right (by rw [hc.len]; exact Nat.le_refl _), hc.len]; simp
  refine ⟨fun i m H' => m + i = its.length ∧ ∃ μ' M', μ ++ [D] <+: μ' ∧ Ext (upd H1 D (.lst [])) H' ∧ CoM X.K μ' M' H' ∧
    (lc2L (evN g) (evTs cf t) (evI cf it1) (fun gs ρ xs M' => lcL M.length (evN g1) (evTs cf t1) (evE cf ce) gs (wipeW ρ vs1) xs M') gs (wipeW ρ (own.map (·.2))) (its.drop i) M').post (fun _ M2 => ∀ μ2 H2, μ' <+: μ2 → Ext H' H2 → CoM X.K μ2 M2 H2 → Q (.ref D) H2) noE,
    ⟨its.length, by simp, μ ++ [D], _, List.prefix_refl _, .refl _, c0, ?_⟩, ?_⟩
  · refine post_mono hp (fun _ M2 z μ2 H2 p2 e2 c2 => ?_) fun _ _ _ z => z.elim
    exact z μ2 (.ref D) H2 (pre1.trans p2) ((Ext.new hD).trans e2) c2 (.ref (pre_get p2 dl))
  · rintro i m H' ⟨hm, μ', M', p', e', c', hq⟩
    have J' : ItOk X.K its gs μ' H' J := r.mono (pre1.trans p') ((Ext.new hD).trans e')
    have r' : RSl μ' H' (wipeW ρ (own.map (·.2))) (wipe σ (own.map (·.2))) := hr.mono (pre1.trans p') ((Ext.new hD).trans e')
    cases hd : its.drop i with
    | nil =>
      have hi : its.length ≤ i := List.drop_eq_nil_iff.mp hd
      rw [hd] at hq
      unfold lc2L at hq
      split at hq
      · next gd => exact .inl ⟨(J' μ' M' H' (List.prefix_refl _) (.refl _) c' gd).1 i hi, hq μ' H' (List.prefix_refl _) (.refl _) c'⟩
      · exact hq.elim
    | cons x xs =>
      have hx : its[i]? = some x := by
        rw [← List.head?_drop, hd]
        rfl
      have hxs : its.drop (i + 1) = xs := by
        rw [← List.tail_drop, hd]
        rfl
      have hlt : i < its.length := (List.getElem?_eq_some_iff.mp hx).1
      rw [hd] at hq
      unfold lc2L at hq
      split at hq
      · next gd =>
        obtain ⟨go, yl⟩ := (J' μ' M' H' (List.prefix_refl _) (.refl _) c' gd).2 i x hx
        refine .inr ⟨go, fun H2 => ∃ μ2 M2, μ ++ [D] <+: μ2 ∧ Ext (upd H1 D (.lst [])) H2 ∧ CoM X.K μ2 M2 H2 ∧
          (lc2L (evN g) (evTs cf t) (evI cf it1) (fun gs ρ xs M' => lcL M.length (evN g1) (evTs cf t1) (evE cf ce) gs (wipeW ρ vs1) xs M') gs (wipeW ρ (own.map (·.2))) (its.drop (i + 1)) M2).post (fun _ M3 => ∀ μ3 H3, μ2 <+: μ3 → Ext H2 H3 → CoM X.K μ3 M3 H3 → Q (.ref D) H3) noE,
          fun H2 ⟨μ2, M2, a1, a2, a3, a4⟩ => ⟨m - 1, by omega, by omega, μ2, M2, a1, a2, a3, a4⟩, fun v H2 hy => ?_⟩
        obtain ⟨ex, cy, ir⟩ := yl v H2 hy
        refine ⟨μ', _, M', x, r'.mono (List.prefix_refl _) ex, cy, ir, ?_⟩
        refine post_mono (post_bind.mp hq) (fun ρ1 M1 z μ1 σ1 Hb p1 e1 c1 rs1 hw => ?_) fun _ _ _ z => z
        rw [wipe_wipe] at hw
        refine ⟨by rw [hw], μ1, ρ1, M1, rs1, c1, ?_⟩
        refine post_mono (post_bind.mp z) (fun b M3 z3 μ3 b' H3 p3 e3 c3 rb => ?_) fun _ _ _ z => z.elim
        cases rb
        cases b with
        | false =>
          simp only [Bool.false_eq_true, if_false] at z3 ⊢
          refine ⟨μ3, M3, (p'.trans p1).trans p3, ((e'.trans ex).trans e1).trans e3, c3, ?_⟩
          rw [hxs]
          exact post_mono z3 (fun _ M4 z4 μ4 H4 p4 e4 c4 => z4 μ4 H4 ((p1.trans p3).trans p4) (((ex.trans e1).trans e3).trans e4) c4) fun _ _ _ z => z
        | true =>
          simp only [if_true] at z3 ⊢
          have rs3 := rs1.mono p3 e3
          refine ⟨μ3, ρ1, M3, rs3, c3, ?_⟩
          refine post_mono (post_bind.mp z3) (fun p5 M5 z5 μ5 J1 H5 pp5 e5 c5 rJ => ?_) fun _ _ _ z => z.elim
          obtain ⟨its1, gs1⟩ := p5
          simp only at z5
          have P5 : μ' <+: μ5 := (p1.trans p3).trans pp5
          have E5 : Ext H' H5 := ((ex.trans e1).trans e3).trans e5
          have rs5 := wipe_rel (rs3.mono pp5 e5) vs1
          refine ⟨fun j k H6 => k + j = its1.length ∧ ∃ μ6 M6, μ5 <+: μ6 ∧ Ext H5 H6 ∧ CoM X.K μ6 M6 H6 ∧
            ((lcL M.length (evN g1) (evTs cf t1) (evE cf ce) gs1 (wipeW ρ1 vs1) (its1.drop j) M6).bind fun _ M4 => lc2L (evN g) (evTs cf t) (evI cf it1) (fun gs ρ xs M' => lcL M.length (evN g1) (evTs cf t1) (evE cf ce) gs (wipeW ρ vs1) xs M') gs (wipeW ρ (own.map fun z => z.2)) xs M4).post
              (fun _ M3 => ∀ μ3 H3, μ6 <+: μ3 → Ext H6 H3 → CoM X.K μ3 M3 H3 → Q (.ref D) H3) noE,
            ⟨its1.length, by simp, μ5, M5, List.prefix_refl _, .refl _, c5, ?_⟩, ?_⟩
          · exact post_mono z5 (fun _ M4 z4 μ4 H4 p4 e4 c4 => z4 μ4 H4 (P5.trans p4) (E5.trans e4) c4) fun _ _ _ z => z
          rintro j k H6 ⟨hk, μ6, M6, p6, e6, c6, q6⟩
          have J6 : ItOk X.K its1 gs1 μ6 H6 J1 := rJ.mono p6 e6
          have rs6 := rs5.mono p6 e6
          cases hd1 : its1.drop j with
          | nil =>
            have hj : its1.length ≤ j := List.drop_eq_nil_iff.mp hd1
            rw [hd1] at q6
            rw [lcL] at q6
            split at q6
            · next gd1 =>
              refine .inl ⟨(J6 μ6 M6 H6 (List.prefix_refl _) (.refl _) c6 gd1).1 j hj, μ6, M6, p'.trans (P5.trans p6), e'.trans (E5.trans e6), c6, ?_⟩
              rw [hxs]
              exact q6
            · exact q6.elim
          | cons x1 xs1 =>
            have hx1 : its1[j]? = some x1 := by
              rw [← List.head?_drop, hd1]
              rfl
            have hxs1 : its1.drop (j + 1) = xs1 := by
              rw [← List.tail_drop, hd1]
              rfl
            have hlt1 : j < its1.length := (List.getElem?_eq_some_iff.mp hx1).1
            rw [hd1] at q6
            rw [lcL] at q6
            split at q6
            · next gd1 =>
              obtain ⟨go1, yl1⟩ := (J6 μ6 M6 H6 (List.prefix_refl _) (.refl _) c6 gd1).2 j x1 hx1
              refine .inr ⟨go1, fun H7 => ∃ μ7 M7, μ5 <+: μ7 ∧ Ext H5 H7 ∧ CoM X.K μ7 M7 H7 ∧
                ((lcL M.length (evN g1) (evTs cf t1) (evE cf ce) gs1 (wipeW ρ1 vs1) (its1.drop (j + 1)) M7).bind fun _ M4 => lc2L (evN g) (evTs cf t) (evI cf it1) (fun gs ρ xs M' => lcL M.length (evN g1) (evTs cf t1) (evE cf ce) gs (wipeW ρ vs1) xs M') gs (wipeW ρ (own.map (·.2))) xs M4).post
                  (fun _ M3 => ∀ μ3 H3, μ7 <+: μ3 → Ext H7 H3 → CoM X.K μ3 M3 H3 → Q (.ref D) H3) noE,
                fun H7 ⟨μ7, M7, a1, a2, a3, a4⟩ => ⟨k - 1, by omega, by omega, μ7, M7, a1, a2, a3, a4⟩, fun v1 H7 hy1 => ?_⟩
              obtain ⟨ex1, cy1, ir1⟩ := yl1 v1 H7 hy1
              refine ⟨μ6, _, M6, x1, rs6.mono (List.prefix_refl _) ex1, cy1, ir1, ?_⟩
              refine post_mono (post_bind.mp (post_bind.mp q6)) (fun ρ7 M7 z7 μ7 σ7 H8 p7 e7 c7 rs7 hw7 => ?_) fun _ _ _ z => z
              rw [wipe_wipe] at hw7
              refine ⟨by rw [hw7], μ7, ρ7, M7, rs7, c7, ?_⟩
              refine post_mono (post_bind.mp z7) (fun b8 M8 z8 μ8 b8' H9 p8 e8 c8 rb8 => ?_) fun _ _ _ z => z.elim
              cases rb8
              cases b8 with
              | false =>
                simp only [Bool.false_eq_true, if_false] at z8 ⊢
                refine ⟨μ8, M8, (p6.trans p7).trans p8, ((e6.trans ex1).trans e7).trans e8, c8, ?_⟩
                rw [hxs1]
                exact post_bind.mpr (post_mono z8 (fun _ M9 z9 => post_mono z9 (fun _ M4 z4 μ4 H4 p4 e4 c4 => z4 μ4 H4 ((p7.trans p8).trans p4) (((ex1.trans e7).trans e8).trans e4) c4) fun _ _ _ z => z) fun _ _ _ z => z)
              | true =>
                simp only [if_true] at z8 ⊢
                refine ⟨μ8, ρ7, M8, rs7.mono p8 e8, c8, ?_⟩
                refine post_mono (post_bind.mp z8) (fun y M9 z9 μ9 v9 H10 p9 e9 c9 r9 => ?_) fun _ _ _ z => z.elim
                split at z9
                · next acc hacc =>
                  split at z9
                  · next hz =>
                    have p69 : μ6 <+: μ9 := (p7.trans p8).trans p9
                    have e69 : Ext H6 H10 := ((ex1.trans e7).trans e8).trans e9
                    have pD : μ ++ [D] <+: μ9 := (p'.trans (P5.trans p6)).trans p69
                    obtain ⟨D', vs, eD, hD', hL, hR⟩ := c9.lst (.ref (pre_get pD dl)) hacc
                    cases eD
                    have we : Ext H10 (upd H10 D (.lst (vs ++ [v9]))) := .write hL (fun _ z => nomatch z) fun _ _ z => nomatch z
                    refine ⟨vs, hL, by rw [← hR.length]; exact hz, μ9, M9.set M.length (.lst (acc ++ [y])), p6.trans p69, (e6.trans e69).trans we, ?_, ?_⟩
                    · exact (c9.write (ob' := .lst (acc ++ [y])) (o := .lst (vs ++ [v9])) hacc rfl rfl (pre_get pD dl) ⟨_, upd_same, (hR.append (.cons r9 .nil)).mono (List.prefix_refl _) we⟩).1
                    · rw [hxs1]
                      exact post_bind.mpr (post_mono z9 (fun _ M10 z10 => post_mono z10 (fun _ M4 z4 μ4 H4 p4 e4 c4 => z4 μ4 H4 (p69.trans p4) ((e69.trans we).trans e4) c4) fun _ _ _ z => z) fun _ _ _ z => z)
                  · exact z9.elim
                · exact z9.elim
            · exact q6.elim
      · exact hq.elim
theorem ev_lc2 (S : Std X) (L : Lc2Ok X XR Wx cf tg iter ifs tg1 iter1 ifs1 elt scope own vs1 g it t g1 it1 t1 ce) : EE X XR Wx cf (.ListComp elt [⟨tg, iter, ifs, 0⟩, ⟨tg1, iter1, ifs1, 0⟩] scope pos) (.lc2 (.mk g it t (own.map (·.2))) (.mk g1 it1 t1 vs1) ce) :=
  (pe_lc2 (wi1 := tG X.K XR (relIt X.K) noW (evI cf it1)) (tt := tT X.K XR noW (evTs cf t)) (tt1 := tT X.K XR noW (evTs cf t1)) (te := tE X.K XR noW (evE cf ce)) S.calm S.nd L.hi L.ok L.hv L.hg L.ht L.hi1 L.hg1 L.ht1 L.he L.hs L.hs1).imp fun _ _ _ h => lc2_rd h
theorem es_setLc2 (S : Std X) {j : Nat} {y : Str} {py lpos : Pos} (hy : X.N[j]? = some y) (hyl : X.env.scope.names.lookup y = some .local)
    (hsw : swapsWith (.ListComp elt [⟨tg, iter, ifs, 0⟩, ⟨tg1, iter1, ifs1, 0⟩] scope lpos) (some (.Name y py)) pos.line X.env = pure true) (L : Lc2Ok X XR Wx cf tg iter ifs tg1 iter1 ifs1 elt scope own vs1 g it t g1 it1 t1 ce) :
    ES X XR Wx cf (.Assign [.Name y py] (.ListComp elt [⟨tg, iter, ifs, 0⟩, ⟨tg1, iter1, ifs1, 0⟩] scope lpos) pos) (.setLc2 j (.mk g it t (own.map (·.2))) (.mk g1 it1 t1 vs1) ce) := by
  refine (ps_setLc2 (wi1 := tG X.K XR (relIt X.K) noW (evI cf it1)) (tt := tT X.K XR noW (evTs cf t)) (tt1 := tT X.K XR noW (evTs cf t1)) (te := tE X.K XR noW (evE cf ce)) S.calm S.nd hy hyl hsw L.hi L.ok L.hv L.hg L.ht L.hi1 L.hg1 L.ht1 L.he L.hs L.hs1).imp fun D σ H h => ?_
  obtain ⟨μ, ρ, M, hs, hc, hp⟩ := h
  have hp : ((evE cf (.lc2 (.mk g it t (own.map (·.2))) (.mk g1 it1 t1 vs1) ce) ρ M).stm ρ fun w M1 => .ok (.nx (ρ.set j (some w))) M1).post (okF X.K XR Wx D μ H) noE := hp
  refine lc2_rd (stm_next hs hc hp fun x v μ1 M1 H1 p1 e1 hs1 hc1 r1 h1 => ?_)
  exact nx0 hc1 (hs1.set r1 j) h1
end
end EV

namespace GD
open PySem PySem.Spec PyProof.Rows L2 EV
def c__law_made_turn : CSs := (.cons (.asg (.tup (.cons (.name 2) (.cons (.name 3) .nil))) (.tup (.cons (.dnew false) (.cons (.k (.int 0)) .nil)))) (.cons (.forS (.one 4) (.seq (.var 0)) (.cons (.asg (.name 5) (.sl (.var 1) (.some (.var 3)) (.some (.bin .Add (.var 3) (.var 4))))) (.cons (.forS (.one 6) (.range (.cons (.var 4) .nil)) (.cons (.asg (.sub (.var 2) (.ix (.var 5) (.var 6))) (.ix (.var 5) (.bin .Sub (.bin .Add (.var 6) (.k (.int 1))) (.var 4)))) .nil)) (.cons (.asg (.name 3) (.bin .Add (.var 3) (.var 4))) .nil)))) (.cons (.ret (.bi .tuple (.cons (.lc (.mk (.one 7) (.range (.cons (.bi .len (.cons (.var 1) .nil)) .nil)) .nil [7]) (.ix (.var 2) (.var 7))) .nil))) .nil)))
abbrev i__law_made_turn : Nat := 0
def c__law_dip : CSs := (.cons (.ifS (.cmp .Gt (.ix (.var 0) (.k (.int 0))) (.k (.int 0))) (.cons (.asg (.tup (.cons (.sub (.var 0) (.k (.int 0))) (.cons (.name 2) .nil))) (.bi .divmod (.cons (.ix (.var 0) (.k (.int 0))) (.cons (.var 1) .nil)))) (.cons (.ret (.var 2)) .nil)) .nil) (.cons (.asg (.sub (.var 0) (.k (.int 2))) (.bin .Add (.ix (.var 0) (.k (.int 2))) (.k (.int 1)))) (.cons (.asg (.name 3) (.bin .Add (.bin .Mod (.bi .int (.cons (.ix (.var 0) (.k (.int 1))) .nil)) (.k (.int 27011))) (.k (.int 8009)))) (.cons (.asg (.sub (.var 0) (.k (.int 1))) (.bin .Mod (.bi .int (.cons (.bin .Add (.bin .Mult (.bin .Add (.ix (.var 0) (.k (.int 1))) (.bin .Mult (.k (.int 17011)) (.ix (.var 0) (.k (.int 2))))) (.var 3)) (.k (.int 11))) .nil)) (.k (.int 2147483353)))) (.cons (.ret (.bin .Mod (.bi .int (.cons (.bin .FloorDiv (.ix (.var 0) (.k (.int 1))) (.k (.int 140))) .nil)) (.var 1))) .nil)))))
abbrev i__law_dip : Nat := 1
def c__law_mixed : CSs := (.cons (.par [2, 3] (.cons (.bi .list (.cons (.var 1) .nil)) (.cons (.lst .nil) .nil))) (.cons (.whileS (.cmp .NotEq (.var 2) (.lst .nil)) (.cons (.expr (.meth .append (.var 3) (.cons (.meth .pop (.var 2) (.cons (.call 1 (.cons (.var 0) (.cons (.bi .len (.cons (.var 2) .nil)) .nil))) .nil)) .nil))) .nil)) (.cons (.ret (.var 3)) .nil)))
abbrev i__law_mixed : Nat := 2
def c__law_turn : CSs := (.cons (.ret (.call 0 (.cons (.var 1) (.cons (.call 2 (.cons (.var 0) (.cons (.lrange false (.cons (.bi .sum (.cons (.var 1) .nil)) .nil)) .nil))) .nil)))) .nil)
abbrev i__law_turn : Nat := 3
def c__law_lots : CSs := (.cons (.par [2, 3, 4] (.cons (.call 1 (.cons (.var 0) (.cons (.k (.int 5)) .nil))) (.cons (.lst .nil) (.cons (.var 1) .nil)))) (.cons (.whileS (.cmp .Gt (.var 4) (.k (.int 0))) (.cons (.asg (.name 5) (.ix (.lst (.cons (.var 4) (.cons (.var 4) (.cons (.bi .min (.cons (.var 4) (.cons (.k (.int 2)) .nil))) (.cons (.bi .min (.cons (.var 4) (.cons (.k (.int 3)) .nil))) (.cons (.bi .min (.cons (.var 4) (.cons (.bin .Add (.k (.int 1)) (.bin .FloorDiv (.var 1) (.k (.int 2)))) .nil))) .nil)))))) (.var 2))) (.cons (.expr (.meth .append (.var 3) (.cons (.bin .Add (.k (.int 1)) (.call 1 (.cons (.var 0) (.cons (.var 5) .nil)))) .nil))) (.cons (.asg (.name 4) (.bin .Sub (.var 4) (.ix (.var 3) (.neg (.k (.int 1)))))) .nil)))) (.cons (.ret (.bi .tuple (.cons (.rev (.bi .sorted (.cons (.var 3) .nil))) .nil))) .nil)))
abbrev i__law_lots : Nat := 4
def c__law_led : CSs := (.cons (.ret (.bi .tuple (.cons (.lc (.mk (.one 2) (.seq (.var 0)) .nil [2]) (.ix (.var 1) (.var 2))) .nil))) .nil)
abbrev i__law_led : Nat := 5
def c__law_back : CSs := (.cons (.ret (.bi .tuple (.cons (.lc (.mk (.one 1) (.range (.cons (.bi .len (.cons (.var 0) .nil)) .nil)) .nil [1]) (.meth .index (.var 0) (.cons (.var 1) .nil))) .nil))) .nil)
abbrev i__law_back : Nat := 6
def c__law_pair : CSs := (.cons (.asg (.name 2) (.call 3 (.cons (.var 0) (.cons (.call 4 (.cons (.var 0) (.cons (.var 1) .nil))) .nil)))) (.cons (.asg (.name 3) (.call 3 (.cons (.var 0) (.cons (.tup (.cons (.var 1) .nil)) .nil)))) (.cons (.ret (.tup (.cons (.var 2) (.cons (.call 5 (.cons (.call 6 (.cons (.var 2) .nil)) (.cons (.var 3) .nil))) .nil)))) .nil)))
abbrev i__law_pair : Nat := 7
def c__law_walked : CSs := (.cons (.par [1, 2] (.cons (.lst .nil) (.cons (.lst .nil) .nil))) (.cons (.forS (.one 3) (.range (.cons (.bi .len (.cons (.var 0) .nil)) .nil)) (.cons (.ifS (.cmp .NotIn (.var 3) (.var 1)) (.cons (.asg (.name 4) (.lst (.cons (.var 3) .nil))) (.cons (.whileS (.cmp .NotEq (.ix (.var 0) (.ix (.var 4) (.neg (.k (.int 1))))) (.var 3)) (.cons (.expr (.meth .append (.var 4) (.cons (.ix (.var 0) (.ix (.var 4) (.neg (.k (.int 1))))) .nil))) .nil)) (.cons (.asg (.name 1) (.bin .Add (.var 1) (.var 4))) (.cons (.expr (.meth .append (.var 2) (.cons (.bi .tuple (.cons (.var 4) .nil)) .nil))) .nil)))) .nil) .nil)) (.cons (.ret (.var 2)) .nil)))
abbrev i__law_walked : Nat := 8
def c__law_kind : CSs := (.cons (.ret (.bi .tuple (.cons (.rev (.bi .sorted (.cons (.lc (.mk (.one 1) (.seq (.call 8 (.cons (.var 0) .nil))) .nil [1]) (.bi .len (.cons (.var 1) .nil))) .nil))) .nil))) .nil)
abbrev i__law_kind : Nat := 9
def c__law_hurdle : CSs := (.cons (.asg (.name 2) (.bin .Sub (.bin .Sub (.bin .Add (.bi .sum (.cons (.var 0) .nil)) (.k (.int 1))) (.bi .len (.cons (.var 0) .nil))) (.bi .len (.cons (.var 1) .nil)))) (.cons (.ifS (.cmp .Eq (.bin .Mod (.bi .int (.cons (.var 2) .nil)) (.k (.int 2))) (.k (.int 1))) (.cons (.ret (.k (.str "sign"))) .nil) .nil) (.cons (.ret (.ite (.cmp .Lt (.var 2) (.k (.int 0))) (.k (.str "rings")) (.k .non))) .nil)))
abbrev i__law_hurdle : Nat := 10
def c__law_often : CSs := (.cons (.asg (.name 2) (.dnew false)) (.cons (.forS (.one 3) (.seq (.call 8 (.cons (.var 0) .nil))) (.cons (.forS (.one 4) (.range (.cons (.bi .len (.cons (.var 3) .nil)) .nil)) (.cons (.asg (.sub (.var 2) (.ix (.var 3) (.var 4))) (.ix (.var 3) (.bin .Mod (.bi .int (.cons (.bin .Add (.var 4) (.var 1)) .nil)) (.bi .len (.cons (.var 3) .nil))))) .nil)) .nil)) (.cons (.ret (.bi .tuple (.cons (.lc (.mk (.one 5) (.range (.cons (.bi .len (.cons (.var 0) .nil)) .nil)) .nil [5]) (.ix (.var 2) (.var 5))) .nil))) .nil)))
abbrev i__law_often : Nat := 11
def c__law_goods : CSs := (.cons (.asg (.tup (.cons (.name 1) (.cons (.name 2) .nil))) (.call 7 (.cons (.var 0) (.cons (.bin .Add (.k (.int 3)) (.call 1 (.cons (.var 0) (.cons (.k (.int 5)) .nil)))) .nil)))) (.cons (.par [3, 4] (.cons (.call 9 (.cons (.var 1) .nil)) (.cons (.call 9 (.cons (.var 2) .nil)) .nil))) (.cons (.asg (.name 5) (.lst (.cons (.tup (.cons (.tup (.cons (.k (.str "ring")) (.cons (.var 3) (.cons (.var 4) .nil)))) (.cons (.tup (.cons (.var 1) (.cons (.var 2) .nil))) .nil))) (.cons (.tup (.cons (.tup (.cons (.k (.str "completed")) (.cons (.var 1) (.cons (.var 4) .nil)))) (.cons (.var 2) .nil))) .nil)))) (.cons (.expr (.meth .append (.var 5) (.cons (.tup (.cons (.tup (.cons (.k (.str "no ring")) (.cons (.tup (.cons (.k (.int 2)) (.cons (.k (.int 1)) (.cons (.k (.int 1)) (.cons (.k (.int 1)) .nil))))) (.cons (.tup (.cons (.k (.int 2)) (.cons (.k (.int 1)) (.cons (.k (.int 1)) (.cons (.k (.int 1)) .nil))))) .nil)))) (.cons (.k (.str "rings")) .nil))) .nil))) (.cons (.expr (.meth .append (.var 5) (.cons (.tup (.cons (.tup (.cons (.k (.str "no ring")) (.cons (.tup (.cons (.k (.int 5)) (.cons (.k (.int 2)) .nil))) (.cons (.tup (.cons (.k (.int 6)) (.cons (.k (.int 1)) .nil))) .nil)))) (.cons (.call 10 (.cons (.tup (.cons (.k (.int 5)) (.cons (.k (.int 2)) .nil))) (.cons (.tup (.cons (.k (.int 6)) (.cons (.k (.int 1)) .nil))) .nil))) .nil))) .nil))) (.cons (.asg (.name 6) (.bin .Add (.k (.int 2)) (.call 1 (.cons (.var 0) (.cons (.k (.int 30)) .nil))))) (.cons (.expr (.meth .append (.var 5) (.cons (.tup (.cons (.tup (.cons (.k (.str "root")) (.cons (.call 11 (.cons (.var 1) (.cons (.var 6) .nil))) (.cons (.var 6) .nil)))) (.cons (.var 1) .nil))) .nil))) (.cons (.expr (.meth .append (.var 5) (.cons (.tup (.cons (.tup (.cons (.k (.str "count")) (.cons (.tup (.cons (.tup (.cons (.k (.int 2)) (.cons (.k (.int 1)) .nil))) (.cons (.tup (.cons (.k (.int 2)) (.cons (.k (.int 1)) .nil))) (.cons (.tup (.cons (.k (.int 3)) .nil)) .nil)))) (.cons (.k (.int 6)) .nil)))) (.cons (.tup .nil) .nil))) .nil))) (.cons (.ret (.bin .Add (.lc (.mk (.one 7) (.seq (.var 5)) (.one (.cmp .IsNot (.ix (.var 7) (.k (.int 1))) (.k .non))) [7]) (.var 7)) (.lst (.cons (.tup (.cons (.tup (.cons (.k (.str "count")) (.cons (.tup (.cons (.tup (.cons (.k (.int 3)) (.cons (.k (.int 2)) .nil))) (.cons (.tup (.cons (.k (.int 5)) .nil)) .nil))) (.cons (.k (.int 0)) .nil)))) (.cons (.tup .nil) .nil))) .nil)))) .nil)))))))))
abbrev i__law_goods : Nat := 12
def c__law_of : CSs := (.cons (.ret (.ix (.var 1) (.call 1 (.cons (.var 0) (.cons (.bi .len (.cons (.var 1) .nil)) .nil))))) .nil)
abbrev i__law_of : Nat := 13
def c__law_bents : CSs := (.cons (.asg (.name 2) (.bin .Add (.k (.int 1)) (.call 1 (.cons (.var 0) (.cons (.k (.int 2)) .nil))))) (.cons (.asg (.name 3) (.call 13 (.cons (.var 0) (.cons (.lst (.cons (.k .non) (.cons (.k (.bl true)) (.cons (.k (.str "")) (.cons (.k (.str "0")) (.cons (.lst .nil) (.cons (.dnew false) (.cons (.tup (.cons (.k .non) .nil)) (.cons (.tup (.cons (.tup .nil) .nil)) (.cons (.lst (.cons (.k (.int 0)) .nil)) (.cons (.tup (.cons (.dnew false) .nil)) (.cons (.k (.str "ring")) (.cons (.tup (.cons (.k (.int 1)) (.cons (.k (.int 2)) .nil))) (.cons (.tup (.cons (.k (.int 0)) (.cons (.k (.int 0)) .nil))) (.cons (.neg (.k (.int 7))) (.cons (.bin .Pow (.k (.int 10)) (.k (.int 40))) .nil)))))))))))))))) .nil)))) (.cons (.asg (.name 4) (.lst (.cons (.bi .list (.cons (.var 1) .nil)) (.cons (.sl (.var 1) .none (.some (.neg (.k (.int 1))))) (.cons (.bin .Add (.var 1) (.tup (.cons (.k .non) .nil))) (.cons (.bin .Add (.var 1) (.sl (.var 1) (.some (.neg (.k (.int 1)))) .none)) (.cons (.tup (.cons (.var 1) .nil)) (.cons (.tup .nil) (.cons (.k .non) (.cons (.ix (.var 1) (.k (.int 0))) (.cons (.sl (.var 1) (.some (.k (.int 1))) .none) (.cons (.k (.int 3)) (.cons (.dnew false) .nil))))))))))))) (.cons (.asg (.name 4) (.bin .Add (.var 4) (.lst (.cons (.sl (.var 1) .none (.some (.k (.int 1)))) (.cons (.bin .Add (.tup (.cons (.meth .upper (.ix (.var 1) (.k (.int 0))) .nil) .nil)) (.sl (.var 1) (.some (.k (.int 1))) .none)) (.cons (.bin .Add (.tup (.cons (.k .non) .nil)) (.sl (.var 1) (.some (.k (.int 1))) .none)) (.cons (.bin .Add (.tup (.cons (.lst .nil) .nil)) (.sl (.var 1) (.some (.k (.int 1))) .none)) (.cons (.bin .Add (.tup (.cons (.k (.str "")) .nil)) (.sl (.var 1) (.some (.k (.int 1))) .none)) .nil)))))))) (.cons (.ret (.bin .Add (.var 4) (.lst (.cons (.bin .Add (.bin .Add (.sl (.var 1) .none (.some (.var 2))) (.tup (.cons (.var 3) .nil))) (.sl (.var 1) (.some (.bin .Add (.var 2) (.k (.int 1)))) .none)) (.cons (.bin .Add (.tup (.cons (.bin .Add (.ix (.var 1) (.k (.int 0))) (.k (.str " "))) .nil)) (.sl (.var 1) (.some (.k (.int 1))) .none)) (.cons (.bin .Add (.tup (.cons (.sl (.ix (.var 1) (.k (.int 0))) (.some (.k (.int 1))) .none) .nil)) (.sl (.var 1) (.some (.k (.int 1))) .none)) .nil)))))) .nil)))))
abbrev i__law_bents : Nat := 14
def c_lengths_in : CSs := (.cons (.par [1, 2] (.cons (.lc (.mk (.one 3) (.seq (.var 0)) .nil [3]) (.k (.bl true))) (.cons (.lst .nil) .nil))) (.cons (.forS (.one 3) (.range (.cons (.bi .len (.cons (.var 0) .nil)) .nil)) (.cons (.asg (.name 4) (.k (.int 0))) (.cons (.whileS (.val (.ix (.var 1) (.var 3))) (.cons (.asg (.sub (.var 1) (.var 3)) (.k (.bl false))) (.cons (.par [3, 4] (.cons (.ix (.var 0) (.var 3)) (.cons (.bin .Add (.var 4) (.k (.int 1))) .nil))) .nil))) (.cons (.ifS (.cmp .Gt (.var 4) (.k (.int 0))) (.cons (.expr (.meth .append (.var 2) (.cons (.var 4) .nil))) .nil) .nil) .nil)))) (.cons (.ret (.bi .tuple (.cons (.rev (.bi .sorted (.cons (.var 2) .nil))) .nil))) .nil)))
abbrev i_lengths_in : Nat := 15
def c_led_on : CSs := (.cons (.ret (.bi .tuple (.cons (.lc (.mk (.one 2) (.seq (.var 0)) .nil [2]) (.ix (.var 1) (.var 2))) .nil))) .nil)
abbrev i_led_on : Nat := 16
def c_is_round : CSs := (.cons (.ret (.cmp .Eq (.call 15 (.cons (.call 16 (.cons (.var 0) (.cons (.var 1) .nil))) .nil)) (.tup (.cons (.bi .len (.cons (.var 0) .nil)) .nil)))) .nil)
abbrev i_is_round : Nat := 17
def c_is_whole : CSs := (.cons (.ret (.and (.isi (.var 0) "int") (.not (.isi (.var 0) "bool")))) .nil)
abbrev i_is_whole : Nat := 18
def c_are_lengths : CSs := (.cons (.ifS (.or (.not (.val (.isi (.var 0) "tuple"))) (.cmp .Eq (.bi .len (.cons (.var 0) .nil)) (.k (.int 0)))) (.cons (.ret (.k (.bl false))) .nil) .nil) (.cons (.asg (.name 1) (.gk (.int 40))) (.cons (.forS (.one 2) (.seq (.var 0)) (.cons (.ifS (.or (.not (.val (.call 18 (.cons (.var 2) .nil)))) (.not (.chain .LtE .LtE (.k (.int 1)) (.var 2) (.var 1)))) (.cons (.ret (.k (.bl false))) .nil) .nil) (.cons (.asg (.name 1) (.var 2)) .nil))) (.cons (.ret (.cmp .LtE (.bi .sum (.cons (.var 0) .nil)) (.gk (.int 40)))) .nil))))
abbrev i_are_lengths : Nat := 19
def c_are_one_size : CSs := (.cons (.ret (.and (.call 19 (.cons (.var 0) .nil)) (.and (.call 19 (.cons (.var 1) .nil)) (.cmp .Eq (.bi .sum (.cons (.var 0) .nil)) (.bi .sum (.cons (.var 1) .nil)))))) .nil)
abbrev i_are_one_size : Nat := 20
def c_is_row : CSs := (.cons (.ifS (.or (.not (.val (.isi (.var 0) "tuple"))) (.not (.chain .LtE .LtE (.k (.int 1)) (.bi .len (.cons (.var 0) .nil)) (.gk (.int 40))))) (.cons (.ret (.k (.bl false))) .nil) .nil) (.cons (.setLc 1 (.mk (.one 3) (.seq (.var 0)) .nil [3]) (.k (.bl true))) (.cons (.forS (.one 2) (.seq (.var 0)) (.cons (.ifS (.or (.not (.val (.call 18 (.cons (.var 2) .nil)))) (.or (.not (.chain .LtE .Lt (.k (.int 0)) (.var 2) (.bi .len (.cons (.var 0) .nil)))) (.not (.val (.ix (.var 1) (.var 2)))))) (.cons (.ret (.k (.bl false))) .nil) .nil) (.cons (.asg (.sub (.var 1) (.var 2)) (.k (.bl false))) .nil))) (.cons (.ret (.k (.bl true))) .nil))))
abbrev i_is_row : Nat := 21
def c_ring_shown : CSs := (.cons (.ifS (.or (.not (.val (.call 20 (.cons (.var 0) (.cons (.var 1) .nil))))) (.or (.not (.val (.isi (.var 2) "tuple"))) (.cmp .NotEq (.bi .len (.cons (.var 2) .nil)) (.k (.int 2))))) (.cons (.ret (.k (.bl false))) .nil) .nil) (.cons (.ifS (.or (.not (.val (.call 21 (.cons (.ix (.var 2) (.k (.int 0))) .nil)))) (.not (.val (.call 21 (.cons (.ix (.var 2) (.k (.int 1))) .nil))))) (.cons (.ret (.k (.bl false))) .nil) .nil) (.cons (.ifS (.or (.cmp .NotEq (.call 15 (.cons (.ix (.var 2) (.k (.int 0))) .nil)) (.var 0)) (.cmp .NotEq (.call 15 (.cons (.ix (.var 2) (.k (.int 1))) .nil)) (.var 1))) (.cons (.ret (.k (.bl false))) .nil) .nil) (.cons (.ret (.call 17 (.cons (.ix (.var 2) (.k (.int 0))) (.cons (.ix (.var 2) (.k (.int 1))) .nil)))) .nil))))
abbrev i_ring_shown : Nat := 22
def c_hurdle : CSs := (.cons (.asg (.name 2) (.bin .Sub (.bin .Sub (.bin .Add (.bi .sum (.cons (.var 0) .nil)) (.k (.int 1))) (.bi .len (.cons (.var 0) .nil))) (.bi .len (.cons (.var 1) .nil)))) (.cons (.ifS (.cmp .NotEq (.bin .Mod (.var 2) (.k (.int 2))) (.k (.int 0))) (.cons (.ret (.k (.str "sign"))) .nil) .nil) (.cons (.ret (.ite (.cmp .Lt (.var 2) (.k (.int 0))) (.k (.str "rings")) (.k .non))) .nil)))
abbrev i_hurdle : Nat := 23
def c_no_ring_shown : CSs := (.cons (.ifS (.or (.not (.val (.call 20 (.cons (.var 0) (.cons (.var 1) .nil))))) (.not (.val (.isi (.var 2) "str")))) (.cons (.ret (.k (.bl false))) .nil) .nil) (.cons (.ret (.cmp .Eq (.call 23 (.cons (.var 0) (.cons (.var 1) .nil))) (.var 2))) .nil))
abbrev i_no_ring_shown : Nat := 24
def c_completed_shown : CSs := (.cons (.ifS (.or (.not (.val (.call 21 (.cons (.var 0) .nil)))) (.or (.not (.val (.call 19 (.cons (.var 1) .nil)))) (.or (.not (.val (.call 21 (.cons (.var 2) .nil)))) (.cmp .NotEq (.bi .len (.cons (.var 2) .nil)) (.bi .len (.cons (.var 0) .nil)))))) (.cons (.ret (.k (.bl false))) .nil) .nil) (.cons (.ret (.and (.cmp .Eq (.call 15 (.cons (.var 2) .nil)) (.var 1)) (.call 17 (.cons (.var 0) (.cons (.var 2) .nil))))) .nil))
abbrev i_completed_shown : Nat := 25
def c_are_lots : CSs := (.cons (.ifS (.or (.not (.val (.isi (.var 0) "tuple"))) (.not (.chain .LtE .LtE (.k (.int 2)) (.bi .len (.cons (.var 0) .nil)) (.gk (.int 4))))) (.cons (.ret (.k (.bl false))) .nil) .nil) (.cons (.ifS (.not (.val (.bi .all (.cons (.lc (.mk (.one 1) (.seq (.var 0)) .nil [1]) (.call 19 (.cons (.var 1) .nil))) .nil)))) (.cons (.ret (.k (.bl false))) .nil) .nil) (.cons (.ret (.and (.cmp .LtE (.bi .sum (.cons (.ix (.var 0) (.k (.int 0))) .nil)) (.gk (.int 12))) (.bi .all (.cons (.lc (.mk (.one 1) (.seq (.var 0)) .nil [1]) (.cmp .Eq (.bi .sum (.cons (.var 1) .nil)) (.bi .sum (.cons (.ix (.var 0) (.k (.int 0))) .nil)))) .nil)))) .nil)))
abbrev i_are_lots : Nat := 26
def c_is_empty : CSs := (.cons (.ret (.and (.isi (.var 0) "tuple") (.cmp .Eq (.bi .len (.cons (.var 0) .nil)) (.k (.int 0))))) .nil)
abbrev i_is_empty : Nat := 27
def c_hook_row : CSs := (.cons (.asg (.name 1) (.lst (.cons (.k (.int 1)) .nil))) (.cons (.forS (.one 2) (.seq (.var 0)) (.cons (.asg (.name 3) (.bin .Add (.var 1) (.bin .Mult (.lst (.cons (.k (.int 0)) .nil)) (.var 2)))) (.cons (.forS (.many [4, 5]) (.enum (.var 1)) (.cons (.augS .Add (.var 3) (.bin .Add (.var 4) (.var 2)) (.ite (.cmp .Eq (.bin .Mod (.var 2) (.k (.int 2))) (.k (.int 1))) (.var 5) (.neg (.var 5)))) .nil)) (.cons (.asg (.name 1) (.var 3)) .nil)))) (.cons (.par [6, 7] (.cons (.lst .nil) (.cons (.k (.int 0)) .nil))) (.cons (.forS (.one 5) (.seq (.sl (.var 1) .none (.some (.neg (.k (.int 1)))))) (.cons (.asg (.name 7) (.bin .Sub (.var 5) (.var 7))) (.cons (.expr (.meth .append (.var 6) (.cons (.var 7) .nil))) .nil))) (.cons (.ret (.var 6)) .nil)))))
abbrev i_hook_row : Nat := 28
def c_stepped : CSs := (.cons (.asg (.name 1) (.k (.int 1))) (.cons (.forS (.one 2) (.range (.cons (.k (.int 1)) (.cons (.bin .Add (.var 0) (.k (.int 1))) .nil))) (.cons (.asg (.name 1) (.bin .Mult (.var 1) (.var 2))) .nil)) (.cons (.ret (.var 1)) .nil)))
abbrev i_stepped : Nat := 29
def c_turns_with : CSs := (.cons (.asg (.name 1) (.call 29 (.cons (.bi .sum (.cons (.var 0) .nil)) .nil))) (.cons (.forS (.one 2) (.seq (.var 0)) (.cons (.asg (.name 1) (.bin .FloorDiv (.var 1) (.var 2))) .nil)) (.cons (.forS (.one 2) (.range (.cons (.k (.int 1)) (.cons (.bin .Add (.gk (.int 40)) (.k (.int 1))) .nil))) (.cons (.asg (.name 1) (.bin .FloorDiv (.var 1) (.call 29 (.cons (.meth .count (.var 0) (.cons (.var 2) .nil)) .nil)))) .nil)) (.cons (.ret (.var 1)) .nil))))
abbrev i_turns_with : Nat := 30
def c_summed : CSs := (.cons (.par [1, 2, 3] (.cons (.bi .sum (.cons (.ix (.var 0) (.k (.int 0))) .nil)) (.cons (.k (.int 0)) (.cons (.k (.int 1)) .nil)))) (.cons (.par [4, 5] (.cons (.lc (.mk (.one 11) (.seq (.var 0)) .nil [11]) (.call 28 (.cons (.var 11) .nil))) (.cons (.k (.int 1)) .nil))) (.cons (.forS (.one 6) (.range (.cons (.var 1) .nil)) (.cons (.par [7, 8] (.cons (.ite (.cmp .Eq (.bin .Mod (.var 6) (.k (.int 2))) (.k (.int 0))) (.k (.int 1)) (.neg (.k (.int 1)))) (.cons (.k (.int 1)) .nil))) (.cons (.forS (.one 9) (.seq (.var 4)) (.cons (.asg (.name 7) (.bin .Mult (.var 7) (.ix (.var 9) (.var 6)))) .nil)) (.cons (.forS (.one 10) (.range (.cons (.bin .Sub (.bi .len (.cons (.var 0) .nil)) (.k (.int 1))) .nil)) (.cons (.asg (.name 8) (.bin .Mult (.var 8) (.var 5))) .nil)) (.cons (.par [2, 3] (.cons (.bin .Add (.bin .Mult (.var 2) (.var 8)) (.bin .Mult (.var 7) (.var 3))) (.cons (.bin .Mult (.var 3) (.var 8)) .nil))) (.cons (.asg (.name 5) (.bin .FloorDiv (.bin .Mult (.var 5) (.bin .Sub (.bin .Sub (.var 1) (.k (.int 1))) (.var 6))) (.bin .Add (.var 6) (.k (.int 1))))) .nil)))))) (.cons (.forS (.one 11) (.seq (.var 0)) (.cons (.asg (.name 2) (.bin .Mult (.var 2) (.call 30 (.cons (.var 11) .nil)))) .nil)) (.cons (.ret (.bin .FloorDiv (.var 2) (.bin .Mult (.var 3) (.call 29 (.cons (.var 1) .nil))))) .nil)))))
abbrev i_summed : Nat := 31
def c_count_shown : CSs := (.cons (.ret (.and (.call 26 (.cons (.var 0) .nil)) (.and (.call 18 (.cons (.var 1) .nil)) (.and (.call 27 (.cons (.var 2) .nil)) (.cmp .Eq (.call 31 (.cons (.var 0) .nil)) (.var 1)))))) .nil)
abbrev i_count_shown : Nat := 32
def c_often : CSs := (.cons (.par [2, 3] (.cons (.lrange true (.cons (.bi .len (.cons (.var 0) .nil)) .nil)) (.cons (.var 0) .nil))) (.cons (.whileS (.cmp .Gt (.var 1) (.k (.int 0))) (.cons (.ifS (.cmp .Eq (.bin .Mod (.var 1) (.k (.int 2))) (.k (.int 1))) (.cons (.asg (.name 2) (.call 16 (.cons (.var 2) (.cons (.var 3) .nil)))) .nil) .nil) (.cons (.par [3, 1] (.cons (.call 16 (.cons (.var 3) (.cons (.var 3) .nil))) (.cons (.bin .FloorDiv (.var 1) (.k (.int 2))) .nil))) .nil))) (.cons (.ret (.var 2)) .nil)))
abbrev i_often : Nat := 33
def c_root_shown : CSs := (.cons (.ifS (.or (.not (.val (.call 21 (.cons (.var 0) .nil)))) (.or (.not (.val (.call 18 (.cons (.var 1) .nil)))) (.not (.chain .LtE .LtE (.k (.int 1)) (.var 1) (.gk (.int 1000)))))) (.cons (.ret (.k (.bl false))) .nil) .nil) (.cons (.ret (.and (.call 21 (.cons (.var 2) .nil)) (.and (.cmp .Eq (.bi .len (.cons (.var 2) .nil)) (.bi .len (.cons (.var 0) .nil))) (.cmp .Eq (.call 33 (.cons (.var 2) (.cons (.var 1) .nil))) (.var 0))))) .nil))
abbrev i_root_shown : Nat := 34
def c_accepts : CSs := (.cons (.ifS (.or (.not (.val (.isi (.var 0) "tuple"))) (.or (.cmp .NotEq (.bi .len (.cons (.var 0) .nil)) (.k (.int 3))) (.not (.val (.isi (.ix (.var 0) (.k (.int 0))) "str"))))) (.cons (.ret (.k (.bl false))) .nil) .nil) (.cons (.asg (.tup (.cons (.name 2) (.cons (.name 3) (.cons (.name 4) .nil)))) (.var 0)) (.cons (.ifS (.cmp .Eq (.var 2) (.k (.str "ring"))) (.cons (.ret (.call 22 (.cons (.var 3) (.cons (.var 4) (.cons (.var 1) .nil))))) .nil) .nil) (.cons (.ifS (.cmp .Eq (.var 2) (.k (.str "no ring"))) (.cons (.ret (.call 24 (.cons (.var 3) (.cons (.var 4) (.cons (.var 1) .nil))))) .nil) .nil) (.cons (.ifS (.cmp .Eq (.var 2) (.k (.str "completed"))) (.cons (.ret (.call 25 (.cons (.var 3) (.cons (.var 4) (.cons (.var 1) .nil))))) .nil) .nil) (.cons (.ifS (.cmp .Eq (.var 2) (.k (.str "count"))) (.cons (.ret (.call 32 (.cons (.var 3) (.cons (.var 4) (.cons (.var 1) .nil))))) .nil) .nil) (.cons (.ret (.and (.cmp .Eq (.var 2) (.k (.str "root"))) (.call 34 (.cons (.var 3) (.cons (.var 4) (.cons (.var 1) .nil)))))) .nil)))))))
abbrev i_accepts : Nat := 35
def c__law_right : CSs := (.cons (.forS (.many [1, 2]) (.seq (.call 12 (.cons (.var 0) .nil))) (.cons (.ifS (.or (.cmp .IsNot (.call 35 (.cons (.var 1) (.cons (.var 2) .nil))) (.k (.bl true))) (.cmp .IsNot (.callK 35 0 2 .nil [1, 0] (.cons (.var 2) (.cons (.var 1) .nil))) (.k (.bl true)))) (.cons (.ret (.k (.bl false))) .nil) .nil) (.cons (.forS (.one 3) (.seq (.call 14 (.cons (.var 0) (.cons (.var 1) .nil)))) (.cons (.ifS (.cmp .IsNot (.call 35 (.cons (.var 3) (.cons (.var 2) .nil))) (.k (.bl false))) (.cons (.ret (.k (.bl false))) .nil) .nil) .nil)) (.cons (.asg (.name 4) (.lst (.cons (.k .non) (.cons (.k (.bl true)) (.cons (.k (.bl false)) (.cons (.lst .nil) (.cons (.dnew false) (.cons (.k (.str "")) (.cons (.k (.str "ringed")) (.cons (.tup (.cons (.k .non) .nil)) (.cons (.tup (.cons (.tup .nil) .nil)) (.cons (.tup (.cons (.lst .nil) .nil)) (.cons (.bin .Pow (.k (.int 10)) (.k (.int 40))) (.cons (.neg (.k (.int 1))) (.cons (.tup (.cons (.k (.int 1)) (.cons (.k (.int 2)) .nil))) (.cons (.k (.str "sign rings")) .nil)))))))))))))))) (.cons (.asg (.name 4) (.bin .Add (.var 4) (.lst (.cons (.tup (.cons (.var 2) .nil)) (.cons (.tup (.cons (.var 2) (.cons (.var 2) (.cons (.var 2) .nil)))) (.cons (.lst (.cons (.var 2) .nil)) (.cons (.tup (.cons (.k (.str "rings")) (.cons (.k (.str "sign")) .nil))) (.cons (.tup (.cons (.k (.int 0)) (.cons (.k (.int 0)) .nil))) (.cons (.tup (.cons (.tup (.cons (.k (.int 0)) .nil)) (.cons (.k (.int 0)) .nil))) (.cons (.tup (.cons (.k (.int 41)) .nil)) .nil)))))))))) (.cons (.forS (.one 5) (.seq (.var 4)) (.cons (.ifS (.cmp .IsNot (.call 35 (.cons (.var 1) (.cons (.var 5) .nil))) (.k (.bl false))) (.cons (.ret (.k (.bl false))) .nil) .nil) .nil)) .nil)))))) (.cons (.ret (.k (.bl true))) .nil))
abbrev i__law_right : Nat := 36
def c__law_vat : CSs := (.cons (.asg (.name 2) (.ite (.cmp .Lt (.var 1) (.bi .len (.cons (.var 0) .nil))) (.bi .int (.cons (.ix (.var 0) (.var 1)) .nil)) (.bin .Add (.bin .Mult (.k (.int 43)) (.var 1)) (.k (.int 29))))) (.cons (.asg (.name 3) (.bin .Add (.k (.int 60013)) (.bin .Mult (.k (.int 7001)) (.var 1)))) (.cons (.forS (.one 4) (.seq (.bin .Add (.sl (.var 0) .none (.some (.k (.int 48)))) (.lst (.cons (.var 2) .nil)))) (.cons (.asg (.name 3) (.bin .Mod (.bi .int (.cons (.bin .Add (.bin .Add (.bin .Mult (.var 3) (.k (.int 44017))) (.bi .int (.cons (.var 4) .nil))) (.k (.int 53))) .nil)) (.k (.int 2147483353)))) .nil)) (.cons (.ret (.lst (.cons (.ite (.or (.cmp .Lt (.var 2) (.k (.int 0))) (.cmp .GtE (.var 2) (.bin .Pow (.k (.int 10)) (.k (.int 18))))) (.bi .abs (.cons (.var 2) .nil)) (.k (.int 0))) (.cons (.var 3) (.cons (.k (.int 0)) .nil))))) .nil))))
abbrev i__law_vat : Nat := 37
def c_law : CSs := (.cons (.ret (.cmp .Eq (.lc (.mk (.one 1) (.range (.cons (.bi .max (.cons (.k (.int 2)) (.cons (.bi .min (.cons (.bi .len (.cons (.var 0) .nil)) (.cons (.k (.int 4)) .nil))) .nil))) .nil)) (.one (.not (.val (.call 36 (.cons (.call 37 (.cons (.var 0) (.cons (.var 1) .nil))) .nil))))) [1]) (.var 1)) (.lst .nil))) .nil)
abbrev i_law : Nat := 38
def c__law_is_round : CSs := (.cons (.ret (.cmp .Eq (.bi .len (.cons (.call 8 (.cons (.call 5 (.cons (.var 0) (.cons (.var 1) .nil))) .nil)) .nil)) (.k (.int 1)))) .nil)
abbrev i__law_is_round : Nat := 39
def c__law_is_number : CSs := (.cons (.ret (.and (.isi (.var 0) "int") (.and (.not (.isi (.var 0) "bool")) (.chain .LtE .LtE (.var 1) (.var 0) (.var 2))))) .nil)
abbrev i__law_is_number : Nat := 40
def c__law_is_kind : CSs := (.cons (.ifS (.or (.not (.val (.isi (.var 0) "tuple"))) (.or (.cmp .Eq (.var 0) (.tup .nil)) (.cmp .NotEq (.lc (.mk (.one 1) (.seq (.var 0)) (.one (.not (.val (.call 40 (.cons (.var 1) (.cons (.k (.int 1)) (.cons (.k (.int 40)) .nil))))))) [1]) (.var 1)) (.lst .nil)))) (.cons (.ret (.k (.bl false))) .nil) .nil) (.cons (.ret (.and (.cmp .LtE (.bi .sum (.cons (.var 0) .nil)) (.k (.int 40))) (.cmp .Eq (.bi .list (.cons (.var 0) .nil)) (.rev (.bi .sorted (.cons (.var 0) .nil)))))) .nil))
abbrev i__law_is_kind : Nat := 41
def c__law_is_turn : CSs := (.cons (.ifS (.or (.not (.val (.isi (.var 0) "tuple"))) (.not (.chain .LtE .LtE (.k (.int 1)) (.bi .len (.cons (.var 0) .nil)) (.k (.int 40))))) (.cons (.ret (.k (.bl false))) .nil) .nil) (.cons (.ifS (.cmp .NotEq (.lc (.mk (.one 1) (.seq (.var 0)) (.one (.not (.val (.call 40 (.cons (.var 1) (.cons (.k (.int 0)) (.cons (.bin .Sub (.bi .len (.cons (.var 0) .nil)) (.k (.int 1))) .nil))))))) [1]) (.var 1)) (.lst .nil)) (.cons (.ret (.k (.bl false))) .nil) .nil) (.cons (.ret (.cmp .Eq (.lenset (.var 0)) (.bi .len (.cons (.var 0) .nil)))) .nil)))
abbrev i__law_is_turn : Nat := 42
def c__law_due : CSs := (.cons (.ifS (.or (.not (.val (.call 41 (.cons (.var 0) .nil)))) (.or (.not (.val (.call 41 (.cons (.var 1) .nil)))) (.or (.not (.val (.isi (.var 2) "tuple"))) (.cmp .NotEq (.bi .len (.cons (.var 2) .nil)) (.k (.int 2)))))) (.cons (.ret (.k (.bl false))) .nil) .nil) (.cons (.ifS (.or (.not (.val (.call 42 (.cons (.ix (.var 2) (.k (.int 0))) .nil)))) (.or (.not (.val (.call 42 (.cons (.ix (.var 2) (.k (.int 1))) .nil)))) (.cmp .NotEq (.bi .len (.cons (.ix (.var 2) (.k (.int 0))) .nil)) (.bi .len (.cons (.ix (.var 2) (.k (.int 1))) .nil))))) (.cons (.ret (.k (.bl false))) .nil) .nil) (.cons (.ret (.and (.cmp .Eq (.lc (.mk (.one 3) (.seq (.var 2)) .nil [3]) (.call 9 (.cons (.var 3) .nil))) (.lst (.cons (.var 0) (.cons (.var 1) .nil)))) (.call 39 (.cons (.ix (.var 2) (.k (.int 0))) (.cons (.ix (.var 2) (.k (.int 1))) .nil))))) .nil)))
abbrev i__law_due : Nat := 43
def c__law_bent_turn : CSs := (.cons (.par [2, 3, 4] (.cons (.call 1 (.cons (.var 0) (.cons (.k (.int 9)) .nil))) (.cons (.call 1 (.cons (.var 0) (.cons (.bi .len (.cons (.var 1) .nil)) .nil))) (.cons (.call 1 (.cons (.var 0) (.cons (.bi .len (.cons (.var 1) .nil)) .nil))) .nil)))) (.cons (.ifS (.cmp .Lt (.var 2) (.k (.int 3))) (.cons (.asg (.name 5) (.bi .list (.cons (.var 1) .nil))) (.cons (.asg (.tup (.cons (.sub (.var 5) (.var 3)) (.cons (.sub (.var 5) (.var 4)) .nil))) (.tup (.cons (.ix (.var 5) (.var 4)) (.cons (.ix (.var 5) (.var 3)) .nil)))) (.cons (.ret (.bi .tuple (.cons (.var 5) .nil))) .nil))) .nil) (.cons (.ifS (.cmp .Eq (.var 2) (.k (.int 3))) (.cons (.asg (.name 6) (.lst (.cons (.bi .list (.cons (.var 1) .nil)) (.cons (.sl (.var 1) (.some (.k (.int 1))) .none) (.cons (.bin .Add (.var 1) (.tup (.cons (.bi .len (.cons (.var 1) .nil)) .nil))) (.cons (.rev (.var 1)) (.cons (.k .non) (.cons (.tup .nil) (.cons (.k (.str "turn")) (.cons (.tup (.cons (.var 1) .nil)) .nil)))))))))) (.cons (.ret (.call 13 (.cons (.var 0) (.cons (.bin .Add (.var 6) (.lst (.cons (.bin .Add (.sl (.var 1) (.some (.k (.int 1))) .none) (.sl (.var 1) .none (.some (.k (.int 1))))) .nil))) .nil)))) .nil)) .nil) (.cons (.ifS (.cmp .Eq (.var 2) (.k (.int 4))) (.cons (.asg (.name 7) (.call 13 (.cons (.var 0) (.cons (.lst (.cons (.k (.bl true)) (.cons (.k .non) (.cons (.k (.str "0")) (.cons (.neg (.k (.int 1))) (.cons (.bi .len (.cons (.var 1) .nil)) (.cons (.ix (.var 1) (.var 4)) (.cons (.tup (.cons (.k (.int 0)) .nil)) .nil)))))))) .nil)))) (.cons (.ret (.bin .Add (.bin .Add (.sl (.var 1) .none (.some (.var 3))) (.tup (.cons (.var 7) .nil))) (.sl (.var 1) (.some (.bin .Add (.var 3) (.k (.int 1)))) .none))) .nil)) .nil) (.cons (.ifS (.cmp .Eq (.var 2) (.k (.int 5))) (.cons (.ret (.call 6 (.cons (.var 1) .nil))) .nil) .nil) (.cons (.ret (.ite (.cmp .Eq (.var 2) (.k (.int 6))) (.call 5 (.cons (.var 1) (.cons (.var 1) .nil))) (.var 1))) .nil))))))
abbrev i__law_bent_turn : Nat := 44
def c__law_odd_kind : CSs := (.cons (.asg (.name 2) (.lst (.cons (.k .non) (.cons (.k (.str "kind")) (.cons (.k (.int 3)) (.cons (.k (.bl true)) (.cons (.lst .nil) (.cons (.dnew false) (.cons (.tup .nil) (.cons (.lst (.cons (.var 1) .nil)) (.cons (.tup (.cons (.k (.int 0)) .nil)) (.cons (.tup (.cons (.var 1) (.cons (.k (.int 0)) .nil))) (.cons (.tup (.cons (.neg (.k (.int 1))) .nil)) (.cons (.tup (.cons (.k (.int 1)) (.cons (.k (.int 2)) .nil))) (.cons (.tup (.cons (.k (.int 41)) .nil)) (.cons (.bin .Mult (.tup (.cons (.k (.int 1)) .nil)) (.k (.int 41))) (.cons (.tup (.cons (.k (.bl true)) .nil)) .nil))))))))))))))))) (.cons (.ret (.call 13 (.cons (.var 0) (.cons (.bin .Add (.var 2) (.lst (.cons (.tup (.cons (.k (.str "1")) .nil)) (.cons (.tup (.cons (.tup (.cons (.k (.int 1)) .nil)) .nil)) (.cons (.tup (.cons (.k .non) .nil)) (.cons (.tup (.cons (.k (.int 20)) (.cons (.k (.int 21)) .nil))) (.cons (.tup (.cons (.k (.int 2)) (.cons (.k (.int 3)) (.cons (.k (.int 1)) .nil)))) (.cons (.tup (.cons (.bin .Pow (.k (.int 10)) (.k (.int 40))) .nil)) (.cons (.tup (.cons (.k (.int 2)) (.cons (.k (.bl true)) .nil))) .nil))))))))) .nil)))) .nil))
abbrev i__law_odd_kind : Nat := 45
def c__law_right__2 : CSs := (.cons (.forS (.one 1) (.seq (.lst (.cons (.bin .Add (.k (.int 1)) (.call 1 (.cons (.var 0) (.cons (.k (.int 4)) .nil)))) (.cons (.bin .Add (.k (.int 3)) (.call 1 (.cons (.var 0) (.cons (.k (.int 8)) .nil)))) (.cons (.call 13 (.cons (.var 0) (.cons (.lst (.cons (.k (.int 20)) (.cons (.k (.int 39)) (.cons (.k (.int 40)) .nil)))) .nil))) .nil))))) (.cons (.asg (.tup (.cons (.name 2) (.cons (.name 3) .nil))) (.call 7 (.cons (.var 0) (.cons (.var 1) .nil)))) (.cons (.par [4, 5] (.cons (.call 9 (.cons (.var 2) .nil)) (.cons (.call 9 (.cons (.var 3) .nil)) .nil))) (.cons (.ifS (.cmp .IsNot (.call 35 (.cons (.tup (.cons (.k (.str "ring")) (.cons (.var 4) (.cons (.var 5) .nil)))) (.cons (.tup (.cons (.var 2) (.cons (.var 3) .nil))) .nil))) (.k (.bl true))) (.cons (.ret (.k (.bl false))) .nil) .nil) (.cons (.forS (.one 6) (.range (.cons (.k (.int 6)) .nil)) (.cons (.asg (.name 7) (.ite (.cmp .Lt (.var 6) (.k (.int 3))) (.tup (.cons (.call 44 (.cons (.var 0) (.cons (.var 2) .nil))) (.cons (.var 3) .nil))) (.tup (.cons (.var 2) (.cons (.call 44 (.cons (.var 0) (.cons (.var 3) .nil))) .nil))))) (.cons (.asg (.name 8) (.lst (.cons (.var 7) (.cons (.tup (.cons (.var 3) (.cons (.var 2) .nil))) (.cons (.tup (.cons (.var 2) (.cons (.var 2) .nil))) (.cons (.tup (.cons (.call 6 (.cons (.var 2) .nil)) (.cons (.var 3) .nil))) (.cons (.tup (.cons (.var 2) (.cons (.var 3) .nil))) .nil))))))) (.cons (.forS (.one 9) (.seq (.bin .Add (.var 8) (.lst (.cons (.bi .list (.cons (.var 7) .nil)) (.cons (.tup (.cons (.var 2) (.cons (.var 3) (.cons (.var 2) .nil)))) (.cons (.tup (.cons (.var 2) .nil)) .nil)))))) (.cons (.ifS (.cmp .NotEq (.bi .repr (.cons (.call 35 (.cons (.tup (.cons (.k (.str "ring")) (.cons (.var 4) (.cons (.var 5) .nil)))) (.cons (.var 9) .nil))) .nil)) (.bi .repr (.cons (.call 43 (.cons (.var 4) (.cons (.var 5) (.cons (.var 9) .nil)))) .nil))) (.cons (.ret (.k (.bl false))) .nil) .nil) .nil)) (.cons (.asg (.name 10) (.call 13 (.cons (.var 0) (.cons (.lst (.cons (.var 5) (.cons (.var 4) (.cons (.call 4 (.cons (.var 0) (.cons (.var 1) .nil))) (.cons (.call 4 (.cons (.var 0) (.cons (.bin .Add (.k (.int 1)) (.call 1 (.cons (.var 0) (.cons (.k (.int 40)) .nil)))) .nil))) .nil))))) .nil)))) (.cons (.asg (.name 10) (.call 13 (.cons (.var 0) (.cons (.lst (.cons (.var 10) (.cons (.var 10) (.cons (.bi .list (.cons (.var 10) .nil)) (.cons (.rev (.var 10)) (.cons (.bin .Add (.var 10) (.tup (.cons (.k (.int 0)) .nil))) (.cons (.call 45 (.cons (.var 0) (.cons (.var 1) .nil))) .nil))))))) .nil)))) (.cons (.forS (.one 11) (.seq (.lst (.cons (.tup (.cons (.k (.str "ring")) (.cons (.var 10) (.cons (.var 5) .nil)))) (.cons (.tup (.cons (.k (.str "ring")) (.cons (.var 4) (.cons (.var 10) .nil)))) .nil)))) (.cons (.asg (.name 12) (.call 43 (.cons (.ix (.var 11) (.k (.int 1))) (.cons (.ix (.var 11) (.k (.int 2))) (.cons (.tup (.cons (.var 2) (.cons (.var 3) .nil))) .nil))))) (.cons (.ifS (.cmp .NotEq (.bi .repr (.cons (.call 35 (.cons (.var 11) (.cons (.tup (.cons (.var 2) (.cons (.var 3) .nil))) .nil))) .nil)) (.bi .repr (.cons (.var 12) .nil))) (.cons (.ret (.k (.bl false))) .nil) .nil) .nil))) .nil))))))) .nil))))) (.cons (.ret (.cmp .Is (.call 35 (.cons (.tup (.cons (.k (.str "ring")) (.cons (.tup (.cons (.k (.int 1)) .nil)) (.cons (.tup (.cons (.k (.int 1)) .nil)) .nil)))) (.cons (.tup (.cons (.tup (.cons (.k (.int 0)) .nil)) (.cons (.tup (.cons (.k (.int 0)) .nil)) .nil))) .nil))) (.k (.bl true)))) .nil))
abbrev i__law_right__2 : Nat := 46
def c_law__2 : CSs := (.cons (.ret (.cmp .Eq (.lc (.mk (.one 1) (.range (.cons (.bi .max (.cons (.k (.int 2)) (.cons (.bi .min (.cons (.bi .len (.cons (.var 0) .nil)) (.cons (.k (.int 5)) .nil))) .nil))) .nil)) (.one (.not (.val (.call 46 (.cons (.call 37 (.cons (.var 0) (.cons (.var 1) .nil))) .nil))))) [1]) (.var 1)) (.lst .nil))) .nil)
abbrev i_law__2 : Nat := 47
def c__law_due__2 : CSs := (.cons (.ifS (.or (.not (.val (.call 41 (.cons (.var 0) .nil)))) (.or (.not (.val (.call 41 (.cons (.var 1) .nil)))) (.cmp .NotEq (.bi .sum (.cons (.var 0) .nil)) (.bi .sum (.cons (.var 1) .nil))))) (.cons (.ret (.k (.bl false))) .nil) .nil) (.cons (.ret (.and (.isi (.var 2) "str") (.cmp .Eq (.var 2) (.call 10 (.cons (.var 0) (.cons (.var 1) .nil)))))) .nil))
abbrev i__law_due__2 : Nat := 48
def c__law_right__3 : CSs := (.cons (.forS (.one 1) (.range (.cons (.k (.int 10)) .nil)) (.cons (.asg (.name 2) (.bin .Add (.k (.int 1)) (.call 1 (.cons (.var 0) (.cons (.call 13 (.cons (.var 0) (.cons (.lst (.cons (.k (.int 4)) (.cons (.k (.int 10)) (.cons (.k (.int 40)) .nil)))) .nil))) .nil))))) (.cons (.par [3, 4] (.cons (.call 4 (.cons (.var 0) (.cons (.var 2) .nil))) (.cons (.call 4 (.cons (.var 0) (.cons (.var 2) .nil))) .nil))) (.cons (.ifS (.cmp .Eq (.call 1 (.cons (.var 0) (.cons (.k (.int 5)) .nil))) (.k (.int 0))) (.cons (.asg (.name 4) (.call 4 (.cons (.var 0) (.cons (.bin .Add (.k (.int 1)) (.call 1 (.cons (.var 0) (.cons (.k (.int 40)) .nil)))) .nil)))) .nil) .nil) (.cons (.ifS (.cmp .Eq (.call 1 (.cons (.var 0) (.cons (.k (.int 4)) .nil))) (.k (.int 0))) (.cons (.asg (.name 3) (.call 13 (.cons (.var 0) (.cons (.lst (.cons (.rev (.var 3)) (.cons (.bi .list (.cons (.var 3) .nil)) (.cons (.bin .Add (.var 3) (.tup (.cons (.k (.int 0)) .nil))) (.cons (.call 45 (.cons (.var 0) (.cons (.var 2) .nil))) .nil))))) .nil)))) .nil) .nil) (.cons (.forS (.one 5) (.seq (.lst (.cons (.k (.str "sign")) (.cons (.k (.str "rings")) (.cons (.k .non) (.cons (.k (.str "Sign")) (.cons (.k (.str "rings ")) (.cons (.k (.str "")) (.cons (.tup (.cons (.k (.str "sign")) .nil)) (.cons (.lst (.cons (.k (.str "rings")) .nil)) (.cons (.k (.str "size")) (.cons (.k (.str "handles")) (.cons (.k (.bl true)) .nil))))))))))))) (.cons (.asg (.name 6) (.call 48 (.cons (.var 3) (.cons (.var 4) (.cons (.var 5) .nil))))) (.cons (.ifS (.cmp .NotEq (.bi .repr (.cons (.call 35 (.cons (.tup (.cons (.k (.str "no ring")) (.cons (.var 3) (.cons (.var 4) .nil)))) (.cons (.var 5) .nil))) .nil)) (.bi .repr (.cons (.var 6) .nil))) (.cons (.ret (.k (.bl false))) .nil) .nil) .nil))) .nil)))))) (.cons (.asg (.name 7) (.lst (.cons (.tup (.cons (.tup (.cons (.k (.int 2)) (.cons (.k (.int 1)) .nil))) (.cons (.tup (.cons (.k (.int 3)) .nil)) (.cons (.k (.str "sign")) .nil)))) (.cons (.tup (.cons (.tup (.cons (.k (.int 2)) (.cons (.k (.int 1)) (.cons (.k (.int 1)) (.cons (.k (.int 1)) .nil))))) (.cons (.tup (.cons (.k (.int 2)) (.cons (.k (.int 1)) (.cons (.k (.int 1)) (.cons (.k (.int 1)) .nil))))) (.cons (.k (.str "rings")) .nil)))) (.cons (.tup (.cons (.tup (.cons (.k (.int 1)) (.cons (.k (.int 1)) .nil))) (.cons (.tup (.cons (.k (.int 1)) (.cons (.k (.int 1)) .nil))) (.cons (.k (.str "sign")) .nil)))) .nil))))) (.cons (.expr (.meth .append (.var 7) (.cons (.tup (.cons (.tup (.cons (.k (.int 1)) (.cons (.k (.int 1)) (.cons (.k (.int 1)) .nil)))) (.cons (.tup (.cons (.k (.int 1)) (.cons (.k (.int 1)) (.cons (.k (.int 1)) .nil)))) (.cons (.k (.str "rings")) .nil)))) .nil))) (.cons (.ret (.cmp .Eq (.lc (.mk (.one 8) (.seq (.var 7)) (.one (.cmp .IsNot (.call 35 (.cons (.tup (.cons (.k (.str "no ring")) (.cons (.ix (.var 8) (.k (.int 0))) (.cons (.ix (.var 8) (.k (.int 1))) .nil)))) (.cons (.ix (.var 8) (.k (.int 2))) .nil))) (.k (.bl true)))) [8]) (.var 8)) (.lst .nil))) .nil))))
abbrev i__law_right__3 : Nat := 49
def c_law__3 : CSs := (.cons (.ret (.cmp .Eq (.lc (.mk (.one 1) (.range (.cons (.bi .max (.cons (.k (.int 2)) (.cons (.bi .min (.cons (.bi .len (.cons (.var 0) .nil)) (.cons (.k (.int 6)) .nil))) .nil))) .nil)) (.one (.not (.val (.call 49 (.cons (.call 37 (.cons (.var 0) (.cons (.var 1) .nil))) .nil))))) [1]) (.var 1)) (.lst .nil))) .nil)
abbrev i_law__3 : Nat := 50
def c__law_odd_turn : CSs := (.cons (.asg (.name 2) (.lrange true (.cons (.var 1) .nil))) (.cons (.asg (.name 3) (.lst (.cons (.k .non) (.cons (.k (.str "turn")) (.cons (.k (.int 3)) (.cons (.k (.bl true)) (.cons (.lst .nil) (.cons (.dnew false) (.cons (.tup .nil) (.cons (.bi .list (.cons (.var 2) .nil)) (.cons (.bin .Add (.var 2) (.tup (.cons (.k (.int 0)) .nil))) (.cons (.bin .Add (.sl (.var 2) (.some (.k (.int 1))) .none) (.tup (.cons (.var 1) .nil))) (.cons (.bin .Mult (.tup (.cons (.k .non) .nil)) (.var 1)) (.cons (.bin .Mult (.tup (.cons (.k (.str "0")) .nil)) (.var 1)) .nil)))))))))))))) (.cons (.ret (.call 13 (.cons (.var 0) (.cons (.bin .Add (.var 3) (.lst (.cons (.bin .Add (.tup (.cons (.k (.bl true)) .nil)) (.sl (.var 2) (.some (.k (.int 1))) .none)) (.cons (.bin .Add (.sl (.var 2) (.some (.k (.int 1))) .none) (.tup (.cons (.neg (.k (.int 1))) .nil))) (.cons (.lrange true (.cons (.k (.int 41)) .nil)) (.cons (.tup (.cons (.var 2) .nil)) (.cons (.bin .Add (.var 2) (.tup (.cons (.bin .Add (.var 1) (.k (.int 1))) .nil))) .nil))))))) .nil)))) .nil)))
abbrev i__law_odd_turn : Nat := 51
def c__law_due__3 : CSs := (.cons (.ifS (.or (.not (.val (.call 42 (.cons (.var 0) .nil)))) (.or (.not (.val (.call 41 (.cons (.var 1) .nil)))) (.or (.not (.val (.call 42 (.cons (.var 2) .nil)))) (.cmp .NotEq (.bi .len (.cons (.var 2) .nil)) (.bi .len (.cons (.var 0) .nil)))))) (.cons (.ret (.k (.bl false))) .nil) .nil) (.cons (.ret (.and (.cmp .Eq (.call 9 (.cons (.var 2) .nil)) (.var 1)) (.call 39 (.cons (.var 0) (.cons (.var 2) .nil))))) .nil))
abbrev i__law_due__3 : Nat := 52
def c__law_right__4 : CSs := (.cons (.forS (.one 1) (.seq (.lst (.cons (.bin .Add (.k (.int 1)) (.call 1 (.cons (.var 0) (.cons (.k (.int 4)) .nil)))) (.cons (.bin .Add (.k (.int 3)) (.call 1 (.cons (.var 0) (.cons (.k (.int 8)) .nil)))) (.cons (.call 13 (.cons (.var 0) (.cons (.lst (.cons (.k (.int 20)) (.cons (.k (.int 39)) (.cons (.k (.int 40)) .nil)))) .nil))) .nil))))) (.cons (.asg (.tup (.cons (.name 2) (.cons (.name 3) .nil))) (.call 7 (.cons (.var 0) (.cons (.var 1) .nil)))) (.cons (.asg (.name 4) (.call 9 (.cons (.var 3) .nil))) (.cons (.ifS (.cmp .IsNot (.call 35 (.cons (.tup (.cons (.k (.str "completed")) (.cons (.var 2) (.cons (.var 4) .nil)))) (.cons (.var 3) .nil))) (.k (.bl true))) (.cons (.ret (.k (.bl false))) .nil) .nil) (.cons (.forS (.one 5) (.range (.cons (.k (.int 6)) .nil)) (.cons (.asg (.name 6) (.call 13 (.cons (.var 0) (.cons (.lst (.cons (.var 4) (.cons (.var 4) (.cons (.call 4 (.cons (.var 0) (.cons (.var 1) .nil))) (.cons (.rev (.var 4)) (.cons (.bi .list (.cons (.var 4) .nil)) (.cons (.call 45 (.cons (.var 0) (.cons (.var 1) .nil))) .nil))))))) .nil)))) (.cons (.asg (.name 7) (.call 44 (.cons (.var 0) (.cons (.var 2) .nil)))) (.cons (.asg (.name 8) (.lst (.cons (.var 3) (.cons (.call 44 (.cons (.var 0) (.cons (.var 3) .nil))) (.cons (.call 6 (.cons (.var 3) .nil)) (.cons (.tup (.cons (.var 3) .nil)) (.cons (.call 51 (.cons (.var 0) (.cons (.var 1) .nil))) .nil))))))) (.cons (.forS (.one 9) (.seq (.lst (.cons (.tup (.cons (.k (.str "completed")) (.cons (.var 2) (.cons (.var 6) .nil)))) (.cons (.tup (.cons (.k (.str "completed")) (.cons (.var 7) (.cons (.var 4) .nil)))) (.cons (.tup (.cons (.k (.str "completed")) (.cons (.var 2) (.cons (.var 4) .nil)))) .nil))))) (.cons (.forS (.one 10) (.seq (.var 8)) (.cons (.asg (.name 11) (.call 52 (.cons (.ix (.var 9) (.k (.int 1))) (.cons (.ix (.var 9) (.k (.int 2))) (.cons (.var 10) .nil))))) (.cons (.ifS (.cmp .NotEq (.bi .repr (.cons (.call 35 (.cons (.var 9) (.cons (.var 10) .nil))) .nil)) (.bi .repr (.cons (.var 11) .nil))) (.cons (.ret (.k (.bl false))) .nil) .nil) .nil))) .nil)) .nil))))) .nil))))) (.cons (.ret (.cmp .Is (.call 35 (.cons (.tup (.cons (.k (.str "completed")) (.cons (.tup (.cons (.k (.int 0)) (.cons (.k (.int 1)) .nil))) (.cons (.tup (.cons (.k (.int 2)) .nil)) .nil)))) (.cons (.tup (.cons (.k (.int 1)) (.cons (.k (.int 0)) .nil))) .nil))) (.k (.bl true)))) .nil))
abbrev i__law_right__4 : Nat := 53
def c_law__4 : CSs := (.cons (.ret (.cmp .Eq (.lc (.mk (.one 1) (.range (.cons (.bi .max (.cons (.k (.int 2)) (.cons (.bi .min (.cons (.bi .len (.cons (.var 0) .nil)) (.cons (.k (.int 5)) .nil))) .nil))) .nil)) (.one (.not (.val (.call 53 (.cons (.call 37 (.cons (.var 0) (.cons (.var 1) .nil))) .nil))))) [1]) (.var 1)) (.lst .nil))) .nil)
abbrev i_law__4 : Nat := 54
def c__law_due__4 : CSs := (.cons (.ifS (.or (.not (.val (.call 42 (.cons (.var 0) .nil)))) (.not (.val (.call 40 (.cons (.var 1) (.cons (.k (.int 1)) (.cons (.k (.int 1000)) .nil))))))) (.cons (.ret (.k (.bl false))) .nil) .nil) (.cons (.ret (.and (.call 42 (.cons (.var 2) .nil)) (.and (.cmp .Eq (.bi .len (.cons (.var 2) .nil)) (.bi .len (.cons (.var 0) .nil))) (.cmp .Eq (.call 11 (.cons (.var 2) (.cons (.var 1) .nil))) (.var 0))))) .nil))
abbrev i__law_due__4 : Nat := 55
def c__law_right__5 : CSs := (.cons (.forS (.one 1) (.seq (.lst (.cons (.bin .Add (.k (.int 1)) (.call 1 (.cons (.var 0) (.cons (.k (.int 4)) .nil)))) (.cons (.bin .Add (.k (.int 3)) (.call 1 (.cons (.var 0) (.cons (.k (.int 8)) .nil)))) (.cons (.call 13 (.cons (.var 0) (.cons (.lst (.cons (.k (.int 20)) (.cons (.k (.int 39)) (.cons (.k (.int 40)) .nil)))) .nil))) .nil))))) (.cons (.asg (.name 2) (.call 3 (.cons (.var 0) (.cons (.call 4 (.cons (.var 0) (.cons (.var 1) .nil))) .nil)))) (.cons (.asg (.name 3) (.call 13 (.cons (.var 0) (.cons (.lst (.cons (.k (.int 1)) (.cons (.k (.int 2)) (.cons (.k (.int 3)) (.cons (.k (.int 1000)) (.cons (.bin .Add (.k (.int 1)) (.call 1 (.cons (.var 0) (.cons (.k (.int 1000)) .nil)))) .nil)))))) .nil)))) (.cons (.asg (.name 4) (.call 11 (.cons (.var 2) (.cons (.var 3) .nil)))) (.cons (.ifS (.cmp .IsNot (.call 35 (.cons (.tup (.cons (.k (.str "root")) (.cons (.var 4) (.cons (.var 3) .nil)))) (.cons (.var 2) .nil))) (.k (.bl true))) (.cons (.ret (.k (.bl false))) .nil) .nil) (.cons (.forS (.one 5) (.range (.cons (.k (.int 6)) .nil)) (.cons (.asg (.name 6) (.call 13 (.cons (.var 0) (.cons (.lst (.cons (.bin .Add (.var 3) (.k (.int 1))) (.cons (.bin .Mult (.var 3) (.k (.int 2))) (.cons (.k (.int 0)) (.cons (.neg (.k (.int 1))) (.cons (.k (.int 1001)) (.cons (.k .non) (.cons (.k (.bl true)) (.cons (.k (.str "2")) (.cons (.tup (.cons (.k (.int 2)) .nil)) (.cons (.bin .Pow (.k (.int 10)) (.k (.int 40))) (.cons (.k (.int 1)) (.cons (.k (.int 1000)) .nil))))))))))))) .nil)))) (.cons (.asg (.name 7) (.call 44 (.cons (.var 0) (.cons (.var 4) .nil)))) (.cons (.forS (.one 8) (.seq (.lst (.cons (.tup (.cons (.k (.str "root")) (.cons (.var 4) (.cons (.var 6) .nil)))) (.cons (.tup (.cons (.k (.str "root")) (.cons (.var 7) (.cons (.var 3) .nil)))) (.cons (.tup (.cons (.k (.str "root")) (.cons (.var 4) (.cons (.var 3) .nil)))) .nil))))) (.cons (.forS (.one 9) (.seq (.lst (.cons (.var 2) (.cons (.call 44 (.cons (.var 0) (.cons (.var 2) .nil))) (.cons (.var 4) (.cons (.call 51 (.cons (.var 0) (.cons (.var 1) .nil))) .nil)))))) (.cons (.ifS (.cmp .NotEq (.bi .repr (.cons (.call 35 (.cons (.var 8) (.cons (.var 9) .nil))) .nil)) (.bi .repr (.cons (.call 55 (.cons (.ix (.var 8) (.k (.int 1))) (.cons (.ix (.var 8) (.k (.int 2))) (.cons (.var 9) .nil)))) .nil))) (.cons (.ret (.k (.bl false))) .nil) .nil) .nil)) .nil)) .nil)))) .nil)))))) (.cons (.ret (.and (.cmp .Is (.call 35 (.cons (.tup (.cons (.k (.str "root")) (.cons (.tup (.cons (.k (.int 0)) .nil)) (.cons (.k (.int 1000)) .nil)))) (.cons (.tup (.cons (.k (.int 0)) .nil)) .nil))) (.k (.bl true))) (.cmp .Is (.call 35 (.cons (.tup (.cons (.k (.str "root")) (.cons (.tup (.cons (.k (.int 0)) .nil)) (.cons (.k (.int 1001)) .nil)))) (.cons (.tup (.cons (.k (.int 0)) .nil)) .nil))) (.k (.bl false))))) .nil))
abbrev i__law_right__5 : Nat := 56
def c_law__5 : CSs := (.cons (.ret (.cmp .Eq (.lc (.mk (.one 1) (.range (.cons (.bi .max (.cons (.k (.int 2)) (.cons (.bi .min (.cons (.bi .len (.cons (.var 0) .nil)) (.cons (.k (.int 5)) .nil))) .nil))) .nil)) (.one (.not (.val (.call 56 (.cons (.call 37 (.cons (.var 0) (.cons (.var 1) .nil))) .nil))))) [1]) (.var 1)) (.lst .nil))) .nil)
abbrev i_law__5 : Nat := 57
def c__law_renamed : CSs := (.cons (.ret (.call 5 (.cons (.call 5 (.cons (.call 6 (.cons (.var 1) .nil)) (.cons (.var 0) .nil))) (.cons (.var 1) .nil)))) .nil)
abbrev i__law_renamed : Nat := 58
def c__law_right__6 : CSs := (.cons (.forS (.one 1) (.seq (.lst (.cons (.bin .Add (.k (.int 2)) (.call 1 (.cons (.var 0) (.cons (.k (.int 4)) .nil)))) (.cons (.bin .Add (.k (.int 4)) (.call 1 (.cons (.var 0) (.cons (.k (.int 8)) .nil)))) (.cons (.call 13 (.cons (.var 0) (.cons (.lst (.cons (.k (.int 20)) (.cons (.k (.int 39)) (.cons (.k (.int 40)) .nil)))) .nil))) .nil))))) (.cons (.asg (.tup (.cons (.name 2) (.cons (.name 3) .nil))) (.call 7 (.cons (.var 0) (.cons (.var 1) .nil)))) (.cons (.asg (.name 4) (.call 3 (.cons (.var 0) (.cons (.call 4 (.cons (.var 0) (.cons (.var 1) .nil))) .nil)))) (.cons (.par [5, 6] (.cons (.call 9 (.cons (.var 2) .nil)) (.cons (.call 9 (.cons (.var 3) .nil)) .nil))) (.cons (.par [7, 8] (.cons (.call 58 (.cons (.var 2) (.cons (.var 4) .nil))) (.cons (.call 58 (.cons (.var 3) (.cons (.var 4) .nil))) .nil))) (.cons (.asg (.name 9) (.lst (.cons (.call 35 (.cons (.tup (.cons (.k (.str "ring")) (.cons (.var 5) (.cons (.var 6) .nil)))) (.cons (.tup (.cons (.var 7) (.cons (.var 8) .nil))) .nil))) (.cons (.call 35 (.cons (.tup (.cons (.k (.str "ring")) (.cons (.var 6) (.cons (.var 5) .nil)))) (.cons (.tup (.cons (.var 8) (.cons (.var 7) .nil))) .nil))) .nil)))) (.cons (.expr (.meth .append (.var 9) (.cons (.call 35 (.cons (.tup (.cons (.k (.str "completed")) (.cons (.var 7) (.cons (.var 6) .nil)))) (.cons (.var 8) .nil))) .nil))) (.cons (.ifS (.cmp .NotEq (.var 9) (.bin .Mult (.lst (.cons (.k (.bl true)) .nil)) (.k (.int 3)))) (.cons (.ret (.k (.bl false))) .nil) .nil) (.cons (.ifS (.cmp .NotEq (.bi .repr (.cons (.call 35 (.cons (.tup (.cons (.k (.str "ring")) (.cons (.var 5) (.cons (.var 6) .nil)))) (.cons (.tup (.cons (.var 7) (.cons (.var 3) .nil))) .nil))) .nil)) (.bi .repr (.cons (.call 39 (.cons (.var 7) (.cons (.var 3) .nil))) .nil))) (.cons (.ret (.k (.bl false))) .nil) .nil) (.cons (.ifS (.cmp .NotEq (.bi .repr (.cons (.call 35 (.cons (.tup (.cons (.k (.str "completed")) (.cons (.var 2) (.cons (.var 6) .nil)))) (.cons (.var 8) .nil))) .nil)) (.bi .repr (.cons (.call 39 (.cons (.var 2) (.cons (.var 8) .nil))) .nil))) (.cons (.ret (.k (.bl false))) .nil) .nil) (.cons (.asg (.name 10) (.bin .Add (.k (.int 1)) (.call 1 (.cons (.var 0) (.cons (.k (.int 12)) .nil))))) (.cons (.asg (.name 11) (.call 11 (.cons (.var 2) (.cons (.var 10) .nil)))) (.cons (.ifS (.cmp .IsNot (.call 35 (.cons (.tup (.cons (.k (.str "root")) (.cons (.call 58 (.cons (.var 11) (.cons (.var 4) .nil))) (.cons (.var 10) .nil)))) (.cons (.var 7) .nil))) (.k (.bl true))) (.cons (.ret (.k (.bl false))) .nil) .nil) (.cons (.asg (.name 12) (.cmp .Eq (.call 11 (.cons (.var 7) (.cons (.var 10) .nil))) (.var 11))) (.cons (.ifS (.cmp .NotEq (.bi .repr (.cons (.call 35 (.cons (.tup (.cons (.k (.str "root")) (.cons (.var 11) (.cons (.var 10) .nil)))) (.cons (.var 7) .nil))) .nil)) (.bi .repr (.cons (.var 12) .nil))) (.cons (.ret (.k (.bl false))) .nil) .nil) .nil))))))))))))))) (.cons (.ret (.k (.bl true))) .nil))
abbrev i__law_right__6 : Nat := 59
def c_law__6 : CSs := (.cons (.ret (.cmp .Eq (.lc (.mk (.one 1) (.range (.cons (.bi .max (.cons (.k (.int 2)) (.cons (.bi .min (.cons (.bi .len (.cons (.var 0) .nil)) (.cons (.k (.int 5)) .nil))) .nil))) .nil)) (.one (.not (.val (.call 59 (.cons (.call 37 (.cons (.var 0) (.cons (.var 1) .nil))) .nil))))) [1]) (.var 1)) (.lst .nil))) .nil)
abbrev i_law__6 : Nat := 60
def D : List Def := [⟨2, 8, c__law_made_turn⟩, ⟨2, 4, c__law_dip⟩, ⟨2, 4, c__law_mixed⟩, ⟨2, 2, c__law_turn⟩, ⟨2, 6, c__law_lots⟩, ⟨2, 3, c__law_led⟩, ⟨1, 2, c__law_back⟩, ⟨2, 4, c__law_pair⟩, ⟨1, 5, c__law_walked⟩, ⟨1, 2, c__law_kind⟩, ⟨2, 3, c__law_hurdle⟩, ⟨2, 6, c__law_often⟩, ⟨1, 8, c__law_goods⟩, ⟨2, 2, c__law_of⟩, ⟨2, 5, c__law_bents⟩, ⟨1, 5, c_lengths_in⟩, ⟨2, 3, c_led_on⟩, ⟨2, 2, c_is_round⟩, ⟨1, 1, c_is_whole⟩, ⟨1, 3, c_are_lengths⟩, ⟨2, 2, c_are_one_size⟩, ⟨1, 4, c_is_row⟩, ⟨3, 3, c_ring_shown⟩, ⟨2, 3, c_hurdle⟩, ⟨3, 3, c_no_ring_shown⟩, ⟨3, 3, c_completed_shown⟩, ⟨1, 2, c_are_lots⟩, ⟨1, 1, c_is_empty⟩, ⟨1, 8, c_hook_row⟩, ⟨1, 3, c_stepped⟩, ⟨1, 3, c_turns_with⟩, ⟨1, 12, c_summed⟩, ⟨3, 3, c_count_shown⟩, ⟨2, 4, c_often⟩, ⟨3, 3, c_root_shown⟩, ⟨2, 5, c_accepts⟩, ⟨1, 6, c__law_right⟩, ⟨2, 5, c__law_vat⟩, ⟨1, 2, c_law⟩, ⟨2, 2, c__law_is_round⟩, ⟨3, 3, c__law_is_number⟩, ⟨1, 2, c__law_is_kind⟩, ⟨1, 2, c__law_is_turn⟩, ⟨3, 4, c__law_due⟩, ⟨2, 8, c__law_bent_turn⟩, ⟨2, 3, c__law_odd_kind⟩, ⟨1, 13, c__law_right__2⟩, ⟨1, 2, c_law__2⟩, ⟨3, 3, c__law_due__2⟩, ⟨1, 9, c__law_right__3⟩, ⟨1, 2, c_law__3⟩, ⟨2, 4, c__law_odd_turn⟩, ⟨3, 3, c__law_due__3⟩, ⟨1, 12, c__law_right__4⟩, ⟨1, 2, c_law__4⟩, ⟨3, 3, c__law_due__4⟩, ⟨1, 10, c__law_right__5⟩, ⟨1, 2, c_law__5⟩, ⟨2, 2, c__law_renamed⟩, ⟨1, 13, c__law_right__6⟩, ⟨1, 2, c_law__6⟩]
end GD

/-! EvP: the plain side: equations of the evaluator, by values. -/
namespace EV
open PySem PySem.Spec PyProof.Rows L2
theorem get_lt {M : Mem} {r : Nat} {o : Ob} (h : M[r]? = some o) : r < M.length := (List.getElem?_eq_some_iff.mp h).1
theorem calmM_app : ∀ {M M1 g : Mem}, calmM M M1 = true → calmM M (M1 ++ g) = true
  | [], _, _, _ => by simp [calmM]
  | _ :: _, [], _, h => by simp [calmM] at h
  | o :: M, o' :: M1, g, h => by
    simp only [calmM, List.cons_append, Bool.and_eq_true] at h ⊢
    exact ⟨h.1, calmM_app h.2⟩
theorem calmM_self : ∀ {M : Mem}, calmM M M = true
  | [] => by simp [calmM]
  | o :: M => by simp [calmM, calmM_self (M := M)]
theorem calmM_set {o : Ob} (h : pureOb o = true) : ∀ {M : Mem} {r : Nat}, calmM M (M.set r o) = true
  | [], _ => by simp [calmM]
  | x :: M, 0 => by simp [calmM, h, calmM_self]
  | x :: M, r + 1 => by simp [calmM, calmM_set h]
theorem trim_same {M M' : Mem} {w : W} (h : M'.length = M.length) : trim M w M' = .ok w M' := by
  have ht : M'.take M.length = M' := List.take_of_length_le (by omega)
  unfold trim
  split
  · split
    · rw [ht]
    · unfold trimL
      split
      · split
        · next q hq =>
          rw [List.getElem?_eq_none (by omega)]
        · rfl
      · rfl
  · rfl
theorem trim_app {M g : Mem} {w : W} (h : pureW w = true) : trim M w (M ++ g) = .ok w M := by
  unfold trim
  rw [if_pos (calmM_app calmM_self), if_pos h]
  simp
theorem trim_id {M : Mem} {w : W} : trim M w M = .ok w M := trim_same rfl
theorem trim_newL {M g : Mem} {q : Nat} {xs : List W} (hq : M.length ≤ q) (hx : (M ++ g)[q]? = some (.lst xs)) (hp : pureWs xs = true) : trim M (.ref q) (M ++ g) = .ok (.ref M.length) (M ++ [.lst xs]) := by
  unfold trim
  rw [if_pos (calmM_app calmM_self), if_neg (by simp [pureW])]
  unfold trimL
  simp only [if_pos hq, hx, if_pos hp]
  simp
theorem trim_setA {M g : Mem} {r : Nat} {o : Ob} {w : W} (ho : pureOb o = true) (h : pureW w = true) : trim M w (M.set r o ++ g) = .ok w (M.set r o) := by
  unfold trim
  rw [if_pos (calmM_app (calmM_set ho)), if_pos h]
  simp
theorem trim_setL {M g : Mem} {r q : Nat} {o : Ob} {xs : List W} (ho : pureOb o = true) (hq : M.length ≤ q) (hx : (M.set r o ++ g)[q]? = some (.lst xs)) (hp : pureWs xs = true) : trim M (.ref q) (M.set r o ++ g) = .ok (.ref M.length) (M.set r o ++ [.lst xs]) := by
  unfold trim
  rw [if_pos (calmM_app (calmM_set ho)), if_neg (by simp [pureW])]
  unfold trimL
  simp only [if_pos hq, hx, if_pos hp]
  simp
theorem log_lt {x : Int} {n : Nat} (h : x.natAbs < 2 ^ n) (hn : 0 < n) : x.natAbs.log2 < n := by
  by_cases h0 : x.natAbs = 0
  · rw [h0]; simpa using hn
  · exact (Nat.log2_lt h0).mpr h
/-- small enough to be multiplied -/
def mulOk (a b : Int) : Prop := a.natAbs.log2 + b.natAbs.log2 < 1000000
theorem mulOk_of {a b : Int} (ha : a.natAbs < 2 ^ 200) (hb : b.natAbs < 2 ^ 200) : mulOk a b := by
  have e1 := log_lt ha (by decide)
  have e2 := log_lt hb (by decide)
  unfold mulOk
  omega
section
variable {M : Mem} {a b : Int}
theorem bin_add : binW .Add (.int a) (.int b) M = .ok (.int (a + b)) M := rfl
theorem bin_sub : binW .Sub (.int a) (.int b) M = .ok (.int (a - b)) M := rfl
theorem bin_mul (h : mulOk a b) : binW .Mult (.int a) (.int b) M = .ok (.int (a * b)) M := if_pos h
theorem bin_fdiv (h : 0 < b) (h2 : b < 2 ^ 200) : binW .FloorDiv (.int a) (.int b) M = .ok (.int (a / b)) M :=
  if_pos ⟨h, Nat.lt_trans (log_lt (n := 200) (by omega) (by decide)) (by decide)⟩
theorem bin_mod (h : 0 < b) : binW .Mod (.int a) (.int b) M = .ok (.int (a % b)) M := if_pos h
theorem bin_pow (h : 0 ≤ b) (h1 : b ≤ 1000000) (h2 : a.natAbs < 2 ^ 64) : binW .Pow (.int a) (.int b) M = .ok (.int (a ^ b.toNat)) M := if_pos ⟨h, h1, h2⟩
theorem bin_addT {xs ys : List W} (h : xs.length + ys.length ≤ sizeLine) : binW .Add (.tup xs) (.tup ys) M = .ok (.tup (xs ++ ys)) M := if_pos h
theorem bin_addL {p q : Nat} {xs ys : List W} (h1 : M[p]? = some (.lst xs)) (h2 : M[q]? = some (.lst ys)) (h : xs.length + ys.length ≤ sizeLine) : binW .Add (.ref p) (.ref q) M = .ok (.ref M.length) (M ++ [.lst (xs ++ ys)]) := by
  simp only [binW, h1, h2, if_pos h, newOb]
/-- what a new object leaves in its place -/
theorem app_at {g : Mem} {r : Nat} {o : Ob} (h : M[r]? = some o) : (M ++ g)[r]? = some o := by
  rw [List.getElem?_append_left (get_lt h)]
  exact h
theorem app_new {o : Ob} {g : Mem} : (M ++ o :: g)[M.length]? = some o := by simp
theorem set_at {r : Nat} {o o' : Ob} (h : M[r]? = some o) : (M.set r o')[r]? = some o' := List.getElem?_set_self (get_lt h)
theorem post_get {α : Type} {r : R α} {Q : α → Mem → Prop} (h : r.post Q noE) : ∃ a M, r = .ok a M ∧ Q a M := by
  cases r with
  | ok a M => exact ⟨a, M, rfl, h⟩
  | exc _ _ _ => exact h.elim
  | bad => exact h.elim
end
end EV
namespace EV
open PySem PySem.Spec PyProof.Rows L2
def CSs.nth : CSs → Nat → CS
  | .nil, _ => .pass
  | .cons s _, 0 => s
  | .cons _ ss, n + 1 => ss.nth n
def CS.bd : CS → CSs
  | .whileS _ a => a
  | .forS _ _ a => a
  | .ifS _ a _ => a
  | _ => .nil
def CS.ts : CS → CB
  | .whileS c _ => c
  | .ifS c _ _ => c
  | _ => .val (.k .non)
theorem call_eq {D : List Def} {d : Def} {k f : Nat} {args : List W} {M : Mem} (hd : D[f]? = some d) (hl : args.length = d.ps) : callN D (k + 1) f args M = finW M (evSs (callN D k) d.body (args.map some ++ List.replicate (d.n - d.ps) none) M) := by
  show (match D[f]? with
    | none => R.bad
    | some d => if args.length = d.ps then finW M (evSs (callN D k) d.body (args.map some ++ List.replicate (d.n - d.ps) none) M) else .bad) = _
  rw [hd]
  exact if_pos hl
theorem call_at {D : List Def} {d : Def} {k f : Nat} {args : List W} {M : Mem} {b : CSs} {ρ : Sl} (hd : D[f]? = some d) (hl : args.length = d.ps) (hb : d.body = b) (hρ : args.map some ++ List.replicate (d.n - d.ps) none = ρ) : callN D (k + 1) f args M = finW M (evSs (callN D k) b ρ M) := by
  rw [call_eq hd hl, hb, hρ]
/-- what stands stays, but at S -/
def Same (S : List Nat) (M M' : Mem) : Prop := M.length ≤ M'.length ∧ ∀ j o, j ∉ S → M[j]? = some o → M'[j]? = some o
theorem Same.refl {S : List Nat} {M : Mem} : Same S M M := ⟨Nat.le_refl _, fun _ _ _ h => h⟩
theorem Same.trans {S : List Nat} {M M1 M2 : Mem} (a : Same S M M1) (b : Same S M1 M2) : Same S M M2 := ⟨Nat.le_trans a.1 b.1, fun j o h e => b.2 j o h (a.2 j o h e)⟩
theorem Same.app {S : List Nat} {M g : Mem} : Same S M (M ++ g) := ⟨by simp, fun _ _ _ h => app_at h⟩
theorem Same.set {S : List Nat} {M : Mem} {r : Nat} {o : Ob} (h : r ∈ S) : Same S M (M.set r o) := ⟨by simp, fun j o' hj e => by
  rw [List.getElem?_set_ne (show r ≠ j from fun z => hj (by rw [← z]; exact h))]
  exact e⟩
theorem Same.more {S S' : List Nat} {M M' : Mem} (h : Same S M M') (hs : ∀ j ∈ S, j ∈ S') : Same S' M M' := ⟨h.1, fun j o hj e => h.2 j o (fun z => hj (hs j z)) e⟩
theorem Same.take {M M' : Mem} {r : Nat} {o : Ob} (h : Same [r] M M') (hr : r < M.length) (ho : M'[r]? = some o) : M'.take M.length = M.set r o := by
  apply List.ext_getElem?
  intro j
  rw [List.getElem?_take]
  by_cases hj : j < M.length
  · rw [if_pos hj]
    by_cases e : j = r
    · subst e
      rw [ho, List.getElem?_set_self hj]
    · rw [List.getElem?_set_ne (Ne.symm e), List.getElem?_eq_getElem hj]
      exact h.2 j _ (by simpa using e) (List.getElem?_eq_getElem hj)
  · rw [if_neg hj, List.getElem?_eq_none (by simp; omega)]
theorem Same.split {M M' : Mem} {r : Nat} {o : Ob} (h : Same [r] M M') (hr : r < M.length) (ho : M'[r]? = some o) : M' = M.set r o ++ M'.drop M.length := by
  conv => lhs; rw [← List.take_append_drop M.length M', h.take hr ho]
theorem trim_of_same {M M' : Mem} {r : Nat} {o : Ob} {w : W} (h : Same [r] M M') (hr : r < M.length) (ho : M'[r]? = some o) (po : pureOb o = true) (pw : pureW w = true) : trim M w M' = .ok w (M.set r o) := by
  rw [h.split hr ho]
  exact trim_setA po pw
theorem trim_of_sameL {M M' : Mem} {r q : Nat} {o : Ob} {xs : List W} (h : Same [r] M M') (hr : r < M.length) (ho : M'[r]? = some o) (po : pureOb o = true) (hq : M.length ≤ q) (hx : M'[q]? = some (.lst xs)) (hp : pureWs xs = true) : trim M (.ref q) M' = .ok (.ref M.length) (M.set r o ++ [.lst xs]) := by
  have e := h.split hr ho
  rw [e] at hx ⊢
  exact trim_setL po hq hx hp
theorem take_at {M M' : Mem} (h : M'.take M.length = M) {r : Nat} {o : Ob} (hr : r < M.length) (e : M'[r]? = some o) : M[r]? = some o := by
  rw [← h, List.getElem?_take, if_pos hr]
  exact e
end EV
namespace EV
open PySem PySem.Spec PyProof.Rows L2
theorem evSs_cons {cf : Nat → List W → Mem → R W} {s : CS} {ss : CSs} {ρ ρ1 : Sl} {M M1 : Mem} (h : evS cf s ρ M = .ok (.nx ρ1) M1) : evSs cf (.cons s ss) ρ M = evSs cf ss ρ1 M1 := by
  rw [evSs, h]
  rfl
theorem evSs_ret {cf : Nat → List W → Mem → R W} {s : CS} {ss : CSs} {ρ : Sl} {M M1 : Mem} {w : W} (h : evS cf s ρ M = .ok (.ret w) M1) : evSs cf (.cons s ss) ρ M = .ok (.ret w) M1 := by
  rw [evSs, h]
  rfl
theorem mapO_ints : ∀ xs : List Int, mapO toInt (xs.map W.int) = some xs
  | [] => rfl
  | x :: xs => by simp [mapO, toInt, mapO_ints xs]
end EV
namespace EV
open PySem PySem.Spec PyProof.Rows L2
/-! ### values without references, as data -/
mutual
def dP : W → PyData
  | .non => .none
  | .bl b => .bool b
  | .int i => .int i
  | .str x => .str x
  | .tup xs => .tuple (dPs xs)
  | .ref _ => .none
def dPs : List W → List PyData
  | [] => []
  | x :: xs => dP x :: dPs xs
end
mutual
def fitW : Nat → W → Bool
  | 0, _ => false
  | n + 1, .tup xs => fitWs n xs
  | _ + 1, .str x => PyData.canLay0 (.str x)
  | _ + 1, .ref _ => false
  | _ + 1, _ => true
def fitWs : Nat → List W → Bool
  | _, [] => true
  | n, x :: xs => fitW n x && fitWs n xs
end
mutual
theorem toD_fit {M : Mem} : ∀ {n : Nat} {w : W}, fitW n w = true → toD M n w = some (dP w) ∧ (dP w).canLay0 = true ∧ (dP w).depth ≤ n
  | 0, w, h => by simp [fitW] at h
  | n + 1, .non, _ => ⟨rfl, rfl, by simp [dP, PyData.depth]⟩
  | n + 1, .bl b, _ => ⟨rfl, rfl, by simp [dP, PyData.depth]⟩
  | n + 1, .int b, _ => ⟨rfl, rfl, by simp [dP, PyData.depth]⟩
  | n + 1, .str b, h => ⟨rfl, by simpa [fitW, dP] using h, by simp [dP, PyData.depth]⟩
  | n + 1, .ref b, h => by simp [fitW] at h
  | n + 1, .tup xs, h => by
    obtain ⟨h1, h2, h3⟩ := toD_fits (M := M) (n := n) (ws := xs) (by simpa [fitW] using h)
    refine ⟨by simp [toD, h1, dP], by simpa [dP, PyData.canLay0] using h2, ?_⟩
    simp only [dP, PyData.depth]
    omega
theorem toD_fits {M : Mem} : ∀ {n : Nat} {ws : List W}, fitWs n ws = true → mapO (toD M n) ws = some (dPs ws) ∧ PyData.canLayAll0 (dPs ws) = true ∧ PyData.depthAll (dPs ws) ≤ n
  | n, [], _ => ⟨rfl, rfl, by simp [dPs, PyData.depthAll]⟩
  | n, x :: xs, h => by
    simp only [fitWs, Bool.and_eq_true] at h
    obtain ⟨h1, h2, h3⟩ := toD_fit (M := M) (n := n) (w := x) h.1
    obtain ⟨k1, k2, k3⟩ := toD_fits (M := M) (n := n) (ws := xs) h.2
    refine ⟨by simp [mapO, h1, k1, dPs], by simp [dPs, PyData.canLayAll0, h2, k2], ?_⟩
    simp only [dPs, PyData.depthAll]
    omega
end
theorem data_fit {M : Mem} {w : W} (h : fitW 12 w = true) : dataW M w = some (dP w) := by
  obtain ⟨h1, h2, h3⟩ := toD_fit (M := M) h
  unfold dataW dataFuel
  rw [h1]
  simp only
  rw [if_pos (by unfold SeqAt.shaped; rw [h2]; exact decide_eq_true (by omega))]
theorem data_lst {M : Mem} {r : Nat} {xs : List W} (e : M[r]? = some (.lst xs)) (h : fitWs 11 xs = true) : dataW M (.ref r) = some (.list (dPs xs)) := by
  obtain ⟨h1, h2, h3⟩ := toD_fits (M := M) h
  unfold dataW dataFuel
  have e1 : toD M 12 (.ref r) = some (.list (dPs xs)) := by simp [toD, e, h1]
  rw [e1]
  simp only
  rw [if_pos (by
    unfold SeqAt.shaped
    rw [show (PyData.list (dPs xs)).canLay0 = true by simpa [PyData.canLay0] using h2]
    exact decide_eq_true (by simp only [PyData.depth]; omega))]
theorem eq_fit {M : Mem} {x y : W} (h1 : fitW 12 x = true) (h2 : fitW 12 y = true) : eqW M x y = some (PyData.eqv (dP x) (dP y)) := by
  unfold eqW
  rw [data_fit h1, data_fit h2]
theorem eq_lst {M : Mem} {p q : Nat} {xs ys : List W} (e1 : M[p]? = some (.lst xs)) (e2 : M[q]? = some (.lst ys)) (h1 : fitWs 11 xs = true) (h2 : fitWs 11 ys = true) : eqW M (.ref p) (.ref q) = some (PyData.eqvAll (dPs xs) (dPs ys)) := by
  unfold eqW
  rw [data_lst e1 h1, data_lst e2 h2]
  rfl
theorem fit_ints {n : Nat} : ∀ xs : List Int, fitWs (n + 1) (xs.map W.int) = true
  | [] => rfl
  | x :: xs => by simp [fitWs, fitW, fit_ints xs]
theorem dPs_ints : ∀ xs : List Int, dPs (xs.map W.int) = xs.map PyData.int
  | [] => rfl
  | x :: xs => by simp [dPs, dP, dPs_ints xs]
theorem eqv_ints : ∀ xs ys : List Int, PyData.eqvAll (xs.map PyData.int) (ys.map PyData.int) = decide (xs = ys)
  | [], [] => rfl
  | [], _ :: _ => rfl
  | _ :: _, [] => rfl
  | x :: xs, y :: ys => by
    simp only [List.map_cons, PyData.eqvAll, eqv_ints xs ys, PyData.eqv, List.cons.injEq]
    by_cases h : x = y <;> simp [h]
theorem eqv_nil : ∀ ds : List PyData, PyData.eqvAll ds [] = ds.isEmpty
  | [] => rfl
  | _ :: _ => rfl
theorem dPs_empty : ∀ xs : List W, (dPs xs).isEmpty = xs.isEmpty
  | [] => rfl
  | _ :: _ => rfl
/-! ### loops over items -/
theorem gOf_tup {M : Mem} {xs : List W} : gOf M (.tup xs) = [] := rfl
theorem guards_nil {M : Mem} : guards [] M = true := rfl
theorem guards_lst {M : Mem} {r : Nat} {xs : List W} (h : M[r]? = some (.lst xs)) : guards [(r, xs)] M = true := by simp [guards, h]
end EV
namespace EV
open PySem PySem.Spec PyProof.Rows L2
/-- a comprehension whose parts change nothing -/
theorem lcL_pure {g : Itm → Sl → Mem → R Sl} {t : Sl → Mem → R Bool} {el : Sl → Mem → R W} {gs : List (Nat × List W)} {ρ : Sl} {M : Mem} {p : W → Bool} {f : W → W} (hg : ∀ acc, guards gs (M ++ [.lst acc]) = true) : ∀ (xs acc : List W),
    (∀ x ∈ xs, ∀ acc, ∃ ρx, g (.one x) ρ (M ++ [.lst acc]) = .ok ρx (M ++ [.lst acc]) ∧ t ρx (M ++ [.lst acc]) = .ok (p x) (M ++ [.lst acc]) ∧ (p x = true → el ρx (M ++ [.lst acc]) = .ok (f x) (M ++ [.lst acc]))) → acc.length + xs.length ≤ sizeLine →
    lcL M.length g t el gs ρ (xs.map .one) (M ++ [.lst acc]) = .ok () (M ++ [.lst (acc ++ (xs.filter p).map f)])
  | [], acc, _, _ => by simp [lcL, hg]
  | x :: xs, acc, h, hl => by
    obtain ⟨ρx, h1, h2, h3⟩ := h x List.mem_cons_self acc
    simp only [List.length_cons] at hl
    rw [List.map_cons, lcL, if_pos (hg acc), h1]
    simp only [R.bind]
    rw [h2]
    simp only
    cases hp : p x with
    | false =>
      simp only [Bool.false_eq_true, if_false]
      rw [lcL_pure hg xs acc (fun y hy => h y (List.mem_cons_of_mem _ hy)) (by omega), List.filter_cons_of_neg (by rw [hp]; simp)]
    | true =>
      simp only [if_true]
      rw [h3 hp]
      simp only [app_new]
      rw [if_pos (by omega)]
      have e : (M ++ [Ob.lst acc]).set M.length (.lst (acc ++ [f x])) = M ++ [.lst (acc ++ [f x])] := by simp
      rw [e, lcL_pure hg xs (acc ++ [f x]) (fun y hy => h y (List.mem_cons_of_mem _ hy)) (by simp; omega), List.filter_cons_of_pos hp]
      simp
/-- the type is known -/
def known (M : Mem) (w : W) : Bool := (tyW M w).isSome
theorem known_app {M g : Mem} {w : W} (h : known M w = true) : known (M ++ g) w = true := by
  unfold known at h ⊢
  cases w with
  | ref r =>
    simp only [tyW] at h ⊢
    cases q : M[r]? with
    | none => rw [q] at h; cases h
    | some o => rw [app_at q]; rw [q] at h; exact h
  | _ => rfl
def isIntW : W → Bool
  | .int _ => true
  | _ => false
def isStrW : W → Bool
  | .str _ => true
  | _ => false
def isTupW : W → Bool
  | .tup _ => true
  | _ => false
theorem isi_tuple {M : Mem} {w : W} (h : known M w = true) : isiW "tuple" M w = some (isTupW w) := by
  unfold known at h
  cases w with
  | ref r =>
    simp only [tyW] at h
    cases q : M[r]? with
    | none => rw [q] at h; cases h
    | some o => rw [q] at h; cases o <;> simp [isiW, tyW, q, isTupW] at h ⊢
  | _ => simp [isiW, tyW, isTupW]
theorem isi_str {M : Mem} {w : W} (h : known M w = true) : isiW "str" M w = some (isStrW w) := by
  unfold known at h
  cases w with
  | ref r =>
    simp only [tyW] at h
    cases q : M[r]? with
    | none => rw [q] at h; cases h
    | some o => rw [q] at h; cases o <;> simp [isiW, tyW, q, isStrW] at h ⊢
  | _ => simp [isiW, tyW, isStrW]
def isBlW : W → Bool
  | .bl _ => true
  | _ => false
theorem isi_bool {M : Mem} {w : W} (h : known M w = true) : isiW "bool" M w = some (isBlW w) := by
  unfold known at h
  cases w with
  | ref r =>
    simp only [tyW] at h
    cases q : M[r]? with
    | none => rw [q] at h; cases h
    | some o => rw [q] at h; cases o <;> simp [isiW, tyW, q, isBlW] at h ⊢
  | _ => simp [isiW, tyW, isBlW]
theorem isi_int {M : Mem} {w : W} (h : known M w = true) : isiW "int" M w = some (isIntW w || isBlW w) := by
  unfold known at h
  cases w with
  | ref r =>
    simp only [tyW] at h
    cases q : M[r]? with
    | none => rw [q] at h; cases h
    | some o => rw [q] at h; cases o <;> simp [isiW, tyW, q, isBlW, isIntW] at h ⊢
  | _ => simp [isiW, tyW, isBlW, isIntW]
end EV
namespace EV
open PySem PySem.Spec PyProof.Rows L2
theorem eq_ii {M : Mem} {a b : Int} : eqW M (.int a) (.int b) = some (decide (a = b)) := by
  rw [eq_fit rfl rfl]
  simp only [dP, PyData.eqv, Option.some.injEq]
  by_cases h : a = b <;> simp [h]
theorem eq_ss {M : Mem} {a b : Str} (ha : PyData.canLay0 (.str a) = true) (hb : PyData.canLay0 (.str b) = true) : eqW M (.str a) (.str b) = some (decide (a = b)) := by
  rw [eq_fit (by simpa [fitW] using ha) (by simpa [fitW] using hb)]
  simp only [dP, PyData.eqv, Option.some.injEq]
  by_cases h : a = b <;> simp [h]
theorem eq_bb {M : Mem} {a b : Bool} : eqW M (.bl a) (.bl b) = some (decide (a = b)) := by
  rw [eq_fit rfl rfl]
  simp only [dP, PyData.eqv, Option.some.injEq]
  cases a <;> cases b <;> rfl
end EV
namespace EV
open PySem PySem.Spec PyProof.Rows L2
theorem fitWs_iff {n : Nat} : ∀ {xs : List W}, fitWs n xs = true ↔ ∀ x ∈ xs, fitW n x = true
  | [] => by simp [fitWs]
  | x :: xs => by simp [fitWs, fitWs_iff (xs := xs)]
theorem fitWs_filter {n : Nat} {xs : List W} {p : W → Bool} (h : fitWs n xs = true) : fitWs n (xs.filter p) = true :=
  fitWs_iff.mpr fun x hx => fitWs_iff.mp h x (List.mem_filter.mp hx).1
theorem trim_appR {M M' g : Mem} {w : W} (h : pureW w = true) (e : M' = M ++ g) : trim M w M' = .ok w M := by rw [e]; exact trim_app h
end EV
namespace EV
open PySem PySem.Spec PyProof.Rows L2
theorem pure_ints : ∀ xs : List Int, pureWs (xs.map W.int) = true
  | [] => rfl
  | x :: xs => by simp [pureWs, pureW, pure_ints xs]
section
variable {M g : Mem} {o0 o1 o2 o3 o4 o5 o6 : Ob}
theorem at0 : (M ++ o0 :: g)[M.length]? = some o0 := by simp
theorem at1 : (M ++ o0 :: o1 :: g)[M.length + 1]? = some o1 := by rw [List.getElem?_append_right (by omega)]; simp
theorem at2 : (M ++ o0 :: o1 :: o2 :: g)[M.length + 2]? = some o2 := by rw [List.getElem?_append_right (by omega)]; simp
theorem at3 : (M ++ o0 :: o1 :: o2 :: o3 :: g)[M.length + 3]? = some o3 := by rw [List.getElem?_append_right (by omega)]; simp
theorem at4 : (M ++ o0 :: o1 :: o2 :: o3 :: o4 :: g)[M.length + 4]? = some o4 := by rw [List.getElem?_append_right (by omega)]; simp
theorem at5 : (M ++ o0 :: o1 :: o2 :: o3 :: o4 :: o5 :: g)[M.length + 5]? = some o5 := by rw [List.getElem?_append_right (by omega)]; simp
theorem at6 : (M ++ o0 :: o1 :: o2 :: o3 :: o4 :: o5 :: o6 :: g)[M.length + 6]? = some o6 := by rw [List.getElem?_append_right (by omega)]; simp
end
/-- a loop by an invariant -/
theorem forL_inv {g : Itm → Sl → Mem → R Sl} {body : Sl → Mem → R Fl} {gs : List (Nat × List W)} {Inv : Sl → Mem → Prop} (hg : ∀ ρ M, Inv ρ M → guards gs M = true) : ∀ (xs : List Itm) (ρ : Sl) (M : Mem),
    (∀ x ∈ xs, ∀ ρ M, Inv ρ M → ∃ ρ1 M1 ρ2 M2, g x ρ M = .ok ρ1 M1 ∧ body ρ1 M1 = .ok (.nx ρ2) M2 ∧ Inv ρ2 M2) → Inv ρ M → ∃ ρ' M', forL g body gs xs ρ M = .ok (.nx ρ') M' ∧ Inv ρ' M'
  | [], ρ, M, _, h => ⟨ρ, M, by simp [forL, hg ρ M h], h⟩
  | x :: xs, ρ, M, hs, h => by
    obtain ⟨ρ1, M1, ρ2, M2, e1, e2, h2⟩ := hs x List.mem_cons_self ρ M h
    obtain ⟨ρ3, M3, e3, h3⟩ := forL_inv hg xs ρ2 M2 (fun y hy => hs y (List.mem_cons_of_mem _ hy)) h2
    refine ⟨ρ3, M3, ?_, h3⟩
    rw [forL, if_pos (hg ρ M h), e1]
    simp only [R.bind]
    rw [e2]
    exact e3
/-- a loop by an invariant, of the turn too -/
theorem forL_ix {g : Itm → Sl → Mem → R Sl} {body : Sl → Mem → R Fl} {gs : List (Nat × List W)} {Inv : Nat → Sl → Mem → Prop} (hg : ∀ i ρ M, Inv i ρ M → guards gs M = true) : ∀ (xs : List Itm) (n : Nat) (ρ : Sl) (M : Mem),
    (∀ i x, xs[i]? = some x → ∀ ρ M, Inv (n + i) ρ M → ∃ ρ1 M1 ρ2 M2, g x ρ M = .ok ρ1 M1 ∧ body ρ1 M1 = .ok (.nx ρ2) M2 ∧ Inv (n + i + 1) ρ2 M2) → Inv n ρ M → ∃ ρ' M', forL g body gs xs ρ M = .ok (.nx ρ') M' ∧ Inv (n + xs.length) ρ' M'
  | [], n, ρ, M, _, h => ⟨ρ, M, by simp [forL, hg n ρ M h], h⟩
  | x :: xs, n, ρ, M, hs, h => by
    obtain ⟨ρ1, M1, ρ2, M2, e1, e2, h2⟩ := hs 0 x rfl ρ M h
    obtain ⟨ρ3, M3, e3, h3⟩ := forL_ix hg xs (n + 1) ρ2 M2 (fun i y hy ρ M hI => by
      obtain ⟨a, b, c, d, k1, k2, k3⟩ := hs (i + 1) y (by simpa using hy) ρ M (by rw [show n + (i + 1) = n + 1 + i by omega]; exact hI)
      exact ⟨a, b, c, d, k1, k2, by rw [show n + 1 + i + 1 = n + (i + 1) + 1 by omega]; exact k3⟩) h2
    refine ⟨ρ3, M3, ?_, by rw [show n + (x :: xs).length = n + 1 + xs.length by simp; omega]; exact h3⟩
    rw [forL, if_pos (hg n ρ M h), e1]
    simp only [R.bind]
    rw [e2]
    exact e3
end EV
namespace EV
open PySem PySem.Spec PyProof.Rows L2
/-! ### equations one by one, without loops -/
theorem mo_append_list : mtOk .append "list" = true := by decide +kernel
theorem mo_pop_list : mtOk .pop "list" = true := by decide +kernel
theorem mo_extend_list : mtOk .extend "list" = true := by decide +kernel
theorem mo_remove_list : mtOk .remove "list" = true := by decide +kernel
theorem mo_count_list : mtOk .count "list" = true := by decide +kernel
theorem mo_count_tuple : mtOk .count "tuple" = true := by decide +kernel
theorem mo_index_list : mtOk .index "list" = true := by decide +kernel
theorem mo_get_dict : mtOk .get "dict" = true := by decide +kernel
theorem mo_index_tuple : mtOk .index "tuple" = true := by decide +kernel
theorem mo_upper_str : mtOk .upper "str" = true := by decide +kernel
theorem mo_isdigit_str : mtOk .isdigit "str" = true := by decide +kernel
theorem mo_split_str : mtOk .split "str" = true := by decide +kernel
theorem mo_join_str : mtOk .join "str" = true := by decide +kernel
theorem ty_list_tuple : (("list" : String) = "tuple") = False := eq_false (by decide +kernel)
theorem ty_list_dict : (("list" : String) = "dict") = False := eq_false (by decide +kernel)
theorem ty_list_str : (("list" : String) = "str") = False := eq_false (by decide +kernel)
theorem ty_tuple_list : (("tuple" : String) = "list") = False := eq_false (by decide +kernel)
theorem ty_tuple_dict : (("tuple" : String) = "dict") = False := eq_false (by decide +kernel)
theorem ty_tuple_str : (("tuple" : String) = "str") = False := eq_false (by decide +kernel)
theorem ty_dict_list : (("dict" : String) = "list") = False := eq_false (by decide +kernel)
theorem ty_dict_tuple : (("dict" : String) = "tuple") = False := eq_false (by decide +kernel)
theorem ty_dict_str : (("dict" : String) = "str") = False := eq_false (by decide +kernel)
theorem ty_str_list : (("str" : String) = "list") = False := eq_false (by decide +kernel)
theorem ty_str_tuple : (("str" : String) = "tuple") = False := eq_false (by decide +kernel)
theorem ty_str_dict : (("str" : String) = "dict") = False := eq_false (by decide +kernel)
section
variable {cf : Nat → List W → Mem → R W} {ρ : Sl} {M : Mem}
theorem xe_var {i : Nat} : evE cf (.var i) ρ M = match ρ[i]? with
    | some (some w) => .ok w M
    | _ => .bad := id rfl
theorem xe_k {w : W} : evE cf (.k w) ρ M = .ok w M := id rfl
theorem xe_gk {w : W} : evE cf (.gk w) ρ M = .ok w M := id rfl
theorem xe_bin {op a b} : evE cf (.bin op a b) ρ M = (evE cf a ρ M).bind fun x M1 => (evE cf b ρ M1).bind fun y M2 => binW op x y M2 := id rfl
theorem xe_neg {a} : evE cf (.neg a) ρ M = (evE cf a ρ M).bind fun x M1 => match x with
    | .int i => .ok (.int (-i)) M1
    | _ => .bad := id rfl
theorem xe_not {a} : evE cf (.not a) ρ M = (evE cf a ρ M).bind fun x M1 => match x with
    | .bl b => .ok (.bl (!b)) M1
    | _ => .bad := id rfl
theorem xe_and {a b} : evE cf (.and a b) ρ M = (evE cf a ρ M).bind fun x M1 => match x with
    | .bl c => if c = true then evE cf b ρ M1 else .ok (.bl false) M1
    | _ => .bad := id rfl
theorem xe_or {a b} : evE cf (.or a b) ρ M = (evE cf a ρ M).bind fun x M1 => match x with
    | .bl c => if c = true then .ok (.bl true) M1 else evE cf b ρ M1
    | _ => .bad := id rfl
theorem xe_ite {c a b} : evE cf (.ite c a b) ρ M = (evB cf c ρ M).bind fun c M1 => if c = true then evE cf a ρ M1 else evE cf b ρ M1 := id rfl
theorem xe_cmp {op a b} : evE cf (.cmp op a b) ρ M = (evE cf a ρ M).bind fun x M1 => (evE cf b ρ M1).bind fun y M2 => (cmpW op x y M2).bind fun c M3 => .ok (.bl c) M3 := id rfl
theorem xe_chain {op op' a b c} : evE cf (.chain op op' a b c) ρ M = (evE cf a ρ M).bind fun x M1 => (evE cf b ρ M1).bind fun y M2 => (cmpW op x y M2).bind fun d M3 =>
      if d = true then (evE cf c ρ M3).bind fun z M4 => (cmpW op' y z M4).bind fun d' M5 => .ok (.bl d') M5 else .ok (.bl false) M3 := id rfl
theorem xe_tup {es} : evE cf (.tup es) ρ M = (evEs cf es ρ M).bind fun xs M1 => newT xs M1 := id rfl
theorem xe_lst {es} : evE cf (.lst es) ρ M = (evEs cf es ρ M).bind fun xs M1 => newL xs M1 := id rfl
theorem xe_call {f es} : evE cf (.call f es) ρ M = (evEs cf es ρ M).bind fun xs M1 => cf f xs M1 := id rfl
theorem xe_callK {f n m es ix ks} : evE cf (.callK f n m es ix ks) ρ M = (evEs cf es ρ M).bind fun xs M1 => (evEs cf ks ρ M1).bind fun ys M2 => if xs.length = n ∧ ys.length = m then match mapO (fun j => (xs ++ ys)[j]?) ix with
    | some zs => cf f zs M2
    | none => .bad
    else .bad := id rfl
theorem xe_bi {b es} : evE cf (.bi b es) ρ M = (evEs cf es ρ M).bind fun xs M1 => biW b xs M1 := id rfl
theorem xe_lrange {t es} : evE cf (.lrange t es) ρ M = (evEs cf es ρ M).bind fun xs M1 => match rangeW xs with
    | some ys => if ys.length ≤ 16777216 then (if t = true then .ok (.tup ys) M1 else newOb (.lst ys) M1) else .bad
    | none => .bad := id rfl
theorem xe_isi {a t} : evE cf (.isi a t) ρ M = (evE cf a ρ M).bind fun x M1 => match isiW t M1 x with
    | some b => .ok (.bl b) M1
    | none => .bad := id rfl
theorem xe_meth {m o es} : evE cf (.meth m o es) ρ M = (evE cf o ρ M).bind fun x M1 => match tyW M1 x with
    | some ty => if mtOk m ty = true then (evEs cf es ρ M1).bind fun xs M2 => mtW ty m x xs M2 else .bad
    | none => .bad := id rfl
theorem xe_ix {a i} : evE cf (.ix a i) ρ M = (evE cf a ρ M).bind fun x M1 => (evE cf i ρ M1).bind fun y M2 => itemW x y M2 := id rfl
theorem xe_sl {a lo hi} : evE cf (.sl a lo hi) ρ M = (evE cf a ρ M).bind fun x M1 => (evO cf lo ρ M1).bind fun l M2 => (evO cf hi ρ M2).bind fun u M3 => sliceW x l u M3 := id rfl
theorem xe_rev {a} : evE cf (.rev a) ρ M = (evE cf a ρ M).bind fun x M1 => match x with
    | .tup xs => .ok (.tup xs.reverse) M1
    | .ref r => match M1[r]? with
      | some (.lst xs) => newOb (.lst xs.reverse) M1
      | _ => .bad
    | _ => .bad := id rfl
theorem xe_dnew {t} : evE cf (.dnew t) ρ M = if t = true then .bad else newOb (.dK []) M := id rfl
theorem xe_lenset {a} : evE cf (.lenset a) ρ M = (evE cf a ρ M).bind fun x M1 => match x with
    | .tup xs => match mapO toInt xs with
      | some ns => if ns.length ≤ 1000 then .ok (.int (distinct ns).length) M1 else .bad
      | none => .bad
    | _ => .bad := id rfl
theorem xe_lc {g it t own e} : evE cf (.lc (.mk g it t own) e) ρ M = (evI cf it ρ M).bind fun p M1 =>
      ((lcL M1.length (evN g) (evTs cf t) (evE cf e) p.2 (wipeW ρ own) p.1 (M1 ++ [.lst []])).calm).bind fun _ M2 => .ok (.ref M1.length) M2 := id rfl
theorem xs_pass : evS cf .pass ρ M = .ok (.nx ρ) M := id rfl
theorem xs_expr {e} : evS cf (.expr e) ρ M = (evE cf e ρ M).stm ρ fun _ M1 => .ok (.nx ρ) M1 := id rfl
theorem xs_asg {g e} : evS cf (.asg g e) ρ M = (evE cf e ρ M).stm ρ fun w M1 => ((evG cf g w ρ M1).calm).bind fun ρ1 M2 => .ok (.nx ρ1) M2 := id rfl
theorem xs_par {is es} : evS cf (.par is es) ρ M = (evEs cf es ρ M).stm ρ fun ws M1 => match setAll is ws ρ with
    | some ρ1 => .ok (.nx ρ1) M1
    | none => .bad := id rfl
theorem xs_setLc {i c e} : evS cf (.setLc i c e) ρ M = (evE cf (.lc c e) ρ M).stm ρ fun w M1 => .ok (.nx (ρ.set i (some w))) M1 := id rfl
theorem xs_augS {op o i e} : evS cf (.augS op o i e) ρ M = (evE cf o ρ M).stm ρ fun x M1 => (evE cf i ρ M1).stm ρ fun y M2 => ((itemL x y M2).calm).bind fun z M3 => (evE cf e ρ M3).stm ρ fun v M4 =>
      ((ipW op z v M4).calm).bind fun u M5 => ((storeW x y u M5).calm).bind fun _ M6 => .ok (.nx ρ) M6 := id rfl
theorem xs_aug {op i e} : evS cf (.aug op i e) ρ M = match ρ[i]? with
    | some (some z) => (evE cf e ρ M).stm ρ fun v M1 => ((ipW op z v M1).calm).bind fun u M2 => .ok (.nx (ρ.set i (some u))) M2
    | _ => .bad := id rfl
theorem xs_ret {e} : evS cf (.ret e) ρ M = (evE cf e ρ M).stm ρ fun w M1 => .ok (.ret w) M1 := id rfl
theorem xs_retN : evS cf .retN ρ M = .ok (.ret .non) M := id rfl
theorem xs_if {c a b} : evS cf (.ifS c a b) ρ M = (evB cf c ρ M).stm ρ fun c M1 => if c = true then evSs cf a ρ M1 else evSs cf b ρ M1 := id rfl
theorem xs_for {g it a} : evS cf (.forS g it a) ρ M = (evI cf it ρ M).stm ρ fun p M1 => forL (evN g) (evSs cf a) p.2 p.1 ρ M1 := id rfl
theorem xs_while {c a} : evS cf (.whileS c a) ρ M = whileL (evB cf c) (evSs cf a) whileFuel ρ M := id rfl
theorem xss_nil : evSs cf .nil ρ M = .ok (.nx ρ) M := id rfl
theorem xss_cons {s ss} : evSs cf (.cons s ss) ρ M = (evS cf s ρ M).bind fun f M1 => match f with
    | .nx ρ1 => evSs cf ss ρ1 M1
    | f => .ok f M1 := id rfl
theorem xa_nil : evEs cf .nil ρ M = .ok [] M := id rfl
theorem xa_cons {e es} : evEs cf (.cons e es) ρ M = (evE cf e ρ M).bind fun x M1 => (evEs cf es ρ M1).bind fun xs M2 => .ok (x :: xs) M2 := id rfl
theorem xa_star {e es} : evEs cf (.star e es) ρ M = (evE cf e ρ M).bind fun x M1 => match spreadW x M1 with
    | some ys => (evEs cf es ρ M1).bind fun xs M2 => .ok (ys ++ xs) M2
    | none => .bad := id rfl
theorem xb_val {e} : evB cf (.val e) ρ M = (evE cf e ρ M).bind fun x M1 => truthW x M1 := id rfl
theorem xb_cmp {op a b} : evB cf (.cmp op a b) ρ M = (evE cf a ρ M).bind fun x M1 => (evE cf b ρ M1).bind fun y M2 => cmpW op x y M2 := id rfl
theorem xb_chain {op op' a b c} : evB cf (.chain op op' a b c) ρ M = (evE cf a ρ M).bind fun x M1 => (evE cf b ρ M1).bind fun y M2 => (cmpW op x y M2).bind fun d M3 =>
      if d = true then (evE cf c ρ M3).bind fun z M4 => cmpW op' y z M4 else .ok false M3 := id rfl
theorem xb_not {b} : evB cf (.not b) ρ M = (evB cf b ρ M).bind fun c M1 => .ok (!c) M1 := id rfl
theorem xb_and {a b} : evB cf (.and a b) ρ M = (evB cf a ρ M).bind fun c M1 => if c = true then evB cf b ρ M1 else .ok false M1 := id rfl
theorem xb_or {a b} : evB cf (.or a b) ρ M = (evB cf a ρ M).bind fun c M1 => if c = true then .ok true M1 else evB cf b ρ M1 := id rfl
theorem xo_none : evO cf .none ρ M = .ok none M := id rfl
theorem xo_some {e} : evO cf (.some e) ρ M = (evE cf e ρ M).bind fun x M1 => match x with
    | .int i => .ok (some i) M1
    | _ => .bad := id rfl
theorem xg_name {i w} : evG cf (.name i) w ρ M = .ok (ρ.set i (some w)) M := id rfl
theorem xg_tup {gs w} : evG cf (.tup gs) w ρ M = match seqW M w with
    | some xs => evGs cf gs xs ρ M
    | none => .bad := id rfl
theorem xg_sub {o i w} : evG cf (.sub o i) w ρ M = (evE cf o ρ M).bind fun x M1 => (evE cf i ρ M1).bind fun y M2 => (storeW x y w M2).bind fun _ M3 => .ok ρ M3 := id rfl
theorem xgs_nil {ws} : evGs cf .nil ws ρ M = match ws with
    | [] => .ok ρ M
    | _ => .bad := id rfl
theorem xgs_cons {g gs ws} : evGs cf (.cons g gs) ws ρ M = match ws with
    | w :: ws => (evG cf g w ρ M).bind fun ρ1 M1 => evGs cf gs ws ρ1 M1
    | [] => .bad := id rfl
theorem xi_seq {e} : evI cf (.seq e) ρ M = (evE cf e ρ M).bind fun x M1 => iterW x M1 := id rfl
theorem xi_enum {e} : evI cf (.enum e) ρ M = (evE cf e ρ M).bind fun x M1 => match x with
    | .ref r => match seqW M1 x with
      | some xs => .ok (enumT 0 xs, gOf M1 x) M1
      | none => .bad
    | _ => .bad := id rfl
theorem xi_zip {a b} : evI cf (.zip a b) ρ M = (evE cf a ρ M).bind fun x M1 => (evE cf b ρ M1).bind fun y M2 => match x, y with
    | .ref _, .ref _ => match seqW M2 x, seqW M2 y with
      | some xs, some ys => .ok (zipT xs ys, gOf M2 x ++ gOf M2 y) M2
      | _, _ => .bad
    | .tup xs, .tup ys => .ok (zipT xs ys, []) M2
    | _, _ => .bad := id rfl
theorem xt_nil : evTs cf .nil ρ M = .ok true M := id rfl
theorem xt_one {b} : evTs cf (.one b) ρ M = evB cf b ρ M := id rfl
end
/-- a comprehension's list, by what its turns leave -/
theorem ev_lc_by {cf : Nat → List W → Mem → R W} {ρ : Sl} {M : Mem} {g it t own e} {its : List Itm} {gs : List (Nat × List W)} {ys : List W} (hi : evI cf it ρ M = .ok (its, gs) M)
    (hl : lcL M.length (evN g) (evTs cf t) (evE cf e) gs (wipeW ρ own) its (M ++ [.lst []]) = .ok () (M ++ [.lst ys])) : evE cf (.lc (.mk g it t own) e) ρ M = .ok (.ref M.length) (M ++ [.lst ys]) := by
  rw [xe_lc, hi]
  simp only [R.bind, hl, R.calm]
end EV

/-! Pm: turns of seats as lists, their rings. Plain. -/
namespace PM

theorem nodup_len {α : Type} [BEq α] [LawfulBEq α] : ∀ {l m : List α}, l.Nodup → (∀ x ∈ l, x ∈ m) → l.length ≤ m.length
  | [], _, _, _ => Nat.zero_le _
  | a :: l, m, h, hs => by
    have ha : a ∈ m := hs a List.mem_cons_self
    obtain ⟨h1, h2⟩ := List.nodup_cons.mp h
    have := nodup_len (l := l) (m := m.erase a) h2 fun x hx => (List.mem_erase_of_ne (fun (e : x = a) => h1 (e ▸ hx))).mpr (hs x (List.mem_cons_of_mem _ hx))
    rw [List.length_erase_of_mem ha] at this
    have := List.length_pos_of_mem ha
    simp only [List.length_cons]
    omega
theorem nodup_full {α : Type} [BEq α] [LawfulBEq α] : ∀ {l m : List α}, l.Nodup → (∀ x ∈ l, x ∈ m) → m.length ≤ l.length → l.Perm m
  | [], m, _, _, hl => by
    have : m = [] := List.length_eq_zero_iff.mp (Nat.le_zero.mp hl)
    rw [this]
  | a :: l, m, h, hs, hl => by
    have ha : a ∈ m := hs a List.mem_cons_self
    obtain ⟨h1, h2⟩ := List.nodup_cons.mp h
    have ih := nodup_full (l := l) (m := m.erase a) h2 (fun x hx => (List.mem_erase_of_ne (fun (e : x = a) => h1 (e ▸ hx))).mpr (hs x (List.mem_cons_of_mem _ hx))) (by
      rw [List.length_erase_of_mem ha]
      simp only [List.length_cons] at hl
      omega)
    exact (ih.cons a).trans (List.perm_cons_erase ha).symm

theorem nodup_inj {α : Type} : ∀ {l : List α}, l.Nodup → ∀ {i j : Nat} (hi : i < l.length) (hj : j < l.length), l[i] = l[j] → i = j
  | [], _, i, j, hi, _, _ => by simp at hi
  | a :: l, h, 0, 0, _, _, _ => rfl
  | a :: l, h, 0, j + 1, hi, hj, e => by
    obtain ⟨h1, h2⟩ := List.nodup_cons.mp h
    simp only [List.getElem_cons_zero, List.getElem_cons_succ] at e
    exact absurd (e ▸ List.getElem_mem _) h1
  | a :: l, h, i + 1, 0, hi, hj, e => by
    obtain ⟨h1, h2⟩ := List.nodup_cons.mp h
    simp only [List.getElem_cons_zero, List.getElem_cons_succ] at e
    exact absurd (e ▸ List.getElem_mem _) h1
  | a :: l, h, i + 1, j + 1, hi, hj, e => by
    obtain ⟨h1, h2⟩ := List.nodup_cons.mp h
    simp only [List.getElem_cons_succ] at e
    simp only [List.length_cons] at hi hj
    exact congrArg (· + 1) (nodup_inj h2 (by omega) (by omega) e)
/-- a turn -/
structure Tn (p : List Nat) : Prop where
  lt : ∀ x ∈ p, x < p.length
  nd : p.Nodup
def ap (p : List Nat) (i : Nat) : Nat := p.getD i 0
def it (p : List Nat) : Nat → Nat → Nat
  | 0, i => i
  | k + 1, i => ap p (it p k i)
theorem ap_get {p : List Nat} {i : Nat} (h : i < p.length) : p[i]? = some (ap p i) := by
  simp [ap, List.getD_eq_getElem?_getD, List.getElem?_eq_getElem h]
theorem ap_getE {p : List Nat} {i : Nat} (h : i < p.length) : p[i] = ap p i := by
  have := ap_get h
  rw [List.getElem?_eq_getElem h] at this
  exact Option.some.inj this
section
variable {p : List Nat} (T : Tn p)
include T
theorem Tn.ap_lt {i : Nat} (h : i < p.length) : ap p i < p.length := T.lt _ (by rw [← ap_getE h]; exact List.getElem_mem h)
theorem Tn.ap_inj {i j : Nat} (hi : i < p.length) (hj : j < p.length) (e : ap p i = ap p j) : i = j := by
  rw [← ap_getE hi, ← ap_getE hj] at e
  exact nodup_inj T.nd hi hj e
theorem Tn.it_lt {i : Nat} (h : i < p.length) : ∀ k, it p k i < p.length
  | 0 => h
  | k + 1 => T.ap_lt (it_lt h k)
theorem Tn.it_inj {i j : Nat} (hi : i < p.length) (hj : j < p.length) : ∀ k, it p k i = it p k j → i = j
  | 0, e => e
  | k + 1, e => it_inj hi hj k (T.ap_inj (T.it_lt hi k) (T.it_lt hj k) e)
end
theorem it_add {p : List Nat} {i : Nat} (a : Nat) : ∀ b, it p (a + b) i = it p b (it p a i)
  | 0 => rfl
  | b + 1 => by
    show ap p (it p (a + b) i) = ap p (it p b (it p a i))
    rw [it_add a b]
theorem it_comm {p : List Nat} {i : Nat} (k : Nat) : it p k (ap p i) = ap p (it p k i) := by
  have h1 : it p (1 + k) i = it p k (it p 1 i) := it_add 1 k
  have h2 : it p (k + 1) i = ap p (it p k i) := rfl
  rw [Nat.add_comm] at h1
  rw [h2] at h1
  exact h1.symm
theorem Tn.mem {p : List Nat} (T : Tn p) {x : Nat} (h : x < p.length) : x ∈ p := by
  have := nodup_full (l := p) (m := List.range p.length) T.nd (fun y hy => List.mem_range.mpr (T.lt y hy)) (by simp)
  exact this.mem_iff.mpr (List.mem_range.mpr h)
theorem Tn.perm {p : List Nat} (T : Tn p) : p.Perm (List.range p.length) := nodup_full (l := p) (m := List.range p.length) T.nd (fun y hy => List.mem_range.mpr (T.lt y hy)) (by simp)
theorem map_nodup {α β : Type} {f : α → β} : ∀ {l : List α}, l.Nodup → (∀ x ∈ l, ∀ y ∈ l, f x = f y → x = y) → (l.map f).Nodup
  | [], _, _ => List.nodup_nil
  | a :: l, h, hf => by
    obtain ⟨h1, h2⟩ := List.nodup_cons.mp h
    rw [List.map_cons, List.nodup_cons]
    refine ⟨fun hm => ?_, map_nodup h2 fun x hx y hy => hf x (List.mem_cons_of_mem _ hx) y (List.mem_cons_of_mem _ hy)⟩
    obtain ⟨y, hy, e⟩ := List.mem_map.mp hm
    exact h1 (hf y (List.mem_cons_of_mem _ hy) a List.mem_cons_self e ▸ hy)
/-- round again -/
theorem Tn.back {p : List Nat} (T : Tn p) {i : Nat} (h : i < p.length) : ∃ k, 0 < k ∧ k ≤ p.length ∧ it p k i = i := by
  apply Classical.byContradiction
  intro hn
  have hne : ∀ a b, a ≤ p.length → b ≤ p.length → it p a i = it p b i → a = b := by
    have key : ∀ a b, a < b → b ≤ p.length → it p a i ≠ it p b i := fun a b hab hb e => by
      apply hn
      refine ⟨b - a, by omega, by omega, ?_⟩
      have e2 : it p b i = it p a (it p (b - a) i) := by rw [← it_add]; congr 1; omega
      rw [e2] at e
      exact (T.it_inj h (T.it_lt h _) a e).symm
    intro a b ha hb e
    rcases Nat.lt_trichotomy a b with c | c | c
    · exact absurd e (key a b c hb)
    · exact c
    · exact absurd e.symm (key b a c ha)
  have nd : ((List.range (p.length + 1)).map fun k => it p k i).Nodup := map_nodup List.nodup_range fun x hx y hy e => hne x y (by simpa [Nat.lt_succ_iff] using hx) (by simpa [Nat.lt_succ_iff] using hy) e
  have := nodup_len (m := List.range p.length) nd fun x hx => by
    obtain ⟨k, _, rfl⟩ := List.mem_map.mp hx
    exact List.mem_range.mpr (T.it_lt h k)
  simp at this
  omega
theorem least {P : Nat → Prop} : ∀ n, (∃ k, k ≤ n ∧ P k) → ∃ k, k ≤ n ∧ P k ∧ ∀ j, j < k → ¬ P j
  | 0, ⟨k, hk, h⟩ => ⟨0, Nat.le_refl _, (Nat.le_zero.mp hk) ▸ h, fun j hj => by omega⟩
  | n + 1, ⟨k, hk, h⟩ => by
    by_cases c : ∃ k, k ≤ n ∧ P k
    · obtain ⟨m, h1, h2, h3⟩ := least n c
      exact ⟨m, by omega, h2, h3⟩
    · have : k = n + 1 := by
        by_cases e : k = n + 1
        · exact e
        · exact absurd ⟨k, by omega, h⟩ c
      subst this
      exact ⟨n + 1, Nat.le_refl _, h, fun j hj hP => c ⟨j, by omega, hP⟩⟩
/-- m is the length of the ring at i -/
structure Per (p : List Nat) (i m : Nat) : Prop where
  pos : 0 < m
  le : m ≤ p.length
  bk : it p m i = i
  ne : ∀ k, 0 < k → k < m → it p k i ≠ i
theorem Tn.per {p : List Nat} (T : Tn p) {i : Nat} (h : i < p.length) : ∃ m, Per p i m := by
  obtain ⟨k, h1, h2, h3⟩ := T.back h
  obtain ⟨m, a, ⟨b, c⟩, d⟩ := least (P := fun k => 0 < k ∧ it p k i = i) p.length ⟨k, h2, h1, h3⟩
  exact ⟨m, b, a, c, fun k k1 k2 e => d k k2 ⟨k1, e⟩⟩
theorem Per.uniq {p : List Nat} {i m m' : Nat} (a : Per p i m) (b : Per p i m') : m = m' := by
  rcases Nat.lt_trichotomy m m' with c | c | c
  · exact absurd a.bk (b.ne m a.pos c)
  · exact c
  · exact absurd b.bk (a.ne m' b.pos c)
theorem Per.mul {p : List Nat} {i m : Nat} (a : Per p i m) : ∀ k, it p (m * k) i = i
  | 0 => rfl
  | k + 1 => by rw [Nat.mul_succ, it_add, a.mul k, a.bk]
theorem Per.mod {p : List Nat} {i m : Nat} (a : Per p i m) (k : Nat) : it p k i = it p (k % m) i := by
  conv => lhs; rw [← Nat.div_add_mod k m, it_add, a.mul]
theorem Per.dvd {p : List Nat} {i m k : Nat} (a : Per p i m) (e : it p k i = i) : m ∣ k := by
  rw [a.mod] at e
  by_cases c : k % m = 0
  · exact Nat.dvd_of_mod_eq_zero c
  · exact absurd e (a.ne _ (by omega) (Nat.mod_lt _ a.pos))
theorem Per.at {p : List Nat} (T : Tn p) {i m : Nat} (hi : i < p.length) (a : Per p i m) (j : Nat) : Per p (it p j i) m := by
  refine ⟨a.pos, a.le, ?_, fun k k1 k2 e => a.ne k k1 k2 ?_⟩
  · rw [← it_add, Nat.add_comm, it_add, a.bk]
  · rw [← it_add, Nat.add_comm, it_add] at e
    exact T.it_inj (T.it_lt hi k) hi j e
theorem Per.inj {p : List Nat} (T : Tn p) {i m j k : Nat} (hi : i < p.length) (a : Per p i m) (hj : j < m) (hk : k < m) (e : it p j i = it p k i) : j = k := by
  have key : ∀ x y, x < y → y < m → it p x i ≠ it p y i := fun x y hxy hy e => by
    have e2 : it p y i = it p x (it p (y - x) i) := by rw [← it_add]; congr 1; omega
    rw [e2] at e
    exact a.ne (y - x) (by omega) (by omega) (T.it_inj hi (T.it_lt hi _) x e).symm
  rcases Nat.lt_trichotomy j k with c | c | c
  · exact absurd e (key j k c hk)
  · exact c
  · exact absurd e.symm (key k j c hj)
/-- the ring at s -/
def walk (p : List Nat) (s : Nat) : Nat → Nat → List Nat
  | 0, _ => []
  | f + 1, x => if x = s then [] else x :: walk p s f (ap p x)
def ring (p : List Nat) (s : Nat) : List Nat := s :: walk p s p.length (ap p s)
theorem walk_eq {p : List Nat} {s m : Nat} (a : Per p s m) : ∀ (d f k : Nat), k + d = m → 0 < k → d ≤ f → walk p s f (it p k s) = (List.range d).map fun j => it p (k + j) s
  | 0, f, k, hk, h0, hf => by
    have : it p k s = s := by rw [show k = m by omega]; exact a.bk
    cases f with
    | zero => rfl
    | succ f => simp [walk, this]
  | d + 1, 0, k, hk, h0, hf => by omega
  | d + 1, f + 1, k, hk, h0, hf => by
    rw [walk, if_neg (a.ne k h0 (by omega))]
    have ih := walk_eq a d f (k + 1) (by omega) (by omega) (by omega)
    rw [show ap p (it p k s) = it p (k + 1) s from rfl, ih, List.range_succ_eq_map]
    simp only [List.map_cons, List.map_map, Nat.add_zero, List.cons.injEq, true_and]
    apply List.map_congr_left
    intro j _
    simp only [Function.comp, Nat.succ_eq_add_one]
    congr 1; omega
theorem ring_eq {p : List Nat} {s m : Nat} (a : Per p s m) : ring p s = (List.range m).map fun j => it p j s := by
  have h := walk_eq a (m - 1) p.length 1 (by have := a.pos; omega) (by decide) (by have := a.le; omega)
  unfold ring
  rw [show ap p s = it p 1 s from rfl, h]
  have : m = (m - 1) + 1 := by have := a.pos; omega
  conv => rhs; rw [this, List.range_succ_eq_map]
  simp only [List.map_cons, List.map_map]
  congr 1
  apply List.map_congr_left
  intro j _
  simp only [Function.comp, Nat.succ_eq_add_one]
  congr 1; omega
theorem ring_len {p : List Nat} {s m : Nat} (a : Per p s m) : (ring p s).length = m := by rw [ring_eq a]; simp
theorem ring_nodup {p : List Nat} (T : Tn p) {s m : Nat} (hs : s < p.length) (a : Per p s m) : (ring p s).Nodup := by
  rw [ring_eq a]
  exact map_nodup List.nodup_range fun x hx y hy e => a.inj T hs (List.mem_range.mp hx) (List.mem_range.mp hy) e
theorem mem_ring {p : List Nat} {s m x : Nat} (a : Per p s m) : x ∈ ring p s ↔ ∃ k, it p k s = x := by
  rw [ring_eq a, List.mem_map]
  constructor
  · rintro ⟨k, _, e⟩; exact ⟨k, e⟩
  · rintro ⟨k, e⟩; exact ⟨k % m, List.mem_range.mpr (Nat.mod_lt _ a.pos), by rw [← a.mod]; exact e⟩
theorem ring_symm {p : List Nat} (T : Tn p) {s x : Nat} (hs : s < p.length) (h : x ∈ ring p s) : s ∈ ring p x := by
  obtain ⟨m, a⟩ := T.per hs
  obtain ⟨k, rfl⟩ := (mem_ring a).mp h
  rw [mem_ring (a.at T hs k)]
  refine ⟨m * k - k, ?_⟩
  rw [← it_add, show k + (m * k - k) = m * k from by
    have : 1 * k ≤ m * k := Nat.mul_le_mul_right k a.pos
    omega, a.mul]
theorem ring_trans {p : List Nat} (T : Tn p) {s x y : Nat} (hs : s < p.length) (h : x ∈ ring p s) (h2 : y ∈ ring p x) : y ∈ ring p s := by
  obtain ⟨m, a⟩ := T.per hs
  obtain ⟨k, rfl⟩ := (mem_ring a).mp h
  obtain ⟨j, rfl⟩ := (mem_ring (a.at T hs k)).mp h2
  rw [mem_ring a]
  exact ⟨k + j, it_add k j⟩
theorem ring_lt {p : List Nat} (T : Tn p) {s x : Nat} (hs : s < p.length) (h : x ∈ ring p s) : x < p.length := by
  obtain ⟨m, a⟩ := T.per hs
  obtain ⟨k, rfl⟩ := (mem_ring a).mp h
  exact T.it_lt hs k
/-- the least of a ring -/
def isRep (p : List Nat) (s : Nat) : Bool := (ring p s).all fun x => decide (s ≤ x)
def rings (p : List Nat) : List (List Nat) := ((List.range p.length).filter (isRep p)).map (ring p)
theorem rep_of {p : List Nat} (T : Tn p) {x : Nat} (hx : x < p.length) : ∃ s, s < p.length ∧ isRep p s = true ∧ x ∈ ring p s ∧ s ≤ x := by
  obtain ⟨s, h1, h2, h3⟩ := least (P := fun s => s ∈ ring p x) x ⟨x, Nat.le_refl _, by simp [ring]⟩
  have hs : s < p.length := by omega
  refine ⟨s, hs, ?_, ring_symm T hx h2, h1⟩
  rw [isRep, List.all_eq_true]
  intro y hy
  have hy2 : y ∈ ring p x := ring_trans T hx h2 hy
  exact decide_eq_true (Nat.le_of_not_lt fun c => h3 y c hy2)
theorem rep_uniq {p : List Nat} (T : Tn p) {x s t : Nat} (hs : s < p.length) (ht : t < p.length) (rs : isRep p s = true) (rt : isRep p t = true) (h1 : x ∈ ring p s) (h2 : x ∈ ring p t) : s = t := by
  rw [isRep, List.all_eq_true] at rs rt
  have hx := ring_lt T hs h1
  have a : t ∈ ring p s := ring_trans T hs h1 (ring_symm T ht h2)
  have b : s ∈ ring p t := ring_symm T hs a
  have := of_decide_eq_true (rs t a)
  have := of_decide_eq_true (rt s b)
  omega
theorem flat_nodup {α β : Type} {f : α → List β} : ∀ {l : List α}, l.Nodup → (∀ a ∈ l, (f a).Nodup) → (∀ a ∈ l, ∀ b ∈ l, ∀ x, x ∈ f a → x ∈ f b → a = b) → ((l.map f).flatten).Nodup
  | [], _, _, _ => List.nodup_nil
  | a :: l, h, hn, hd => by
    obtain ⟨h1, h2⟩ := List.nodup_cons.mp h
    rw [List.map_cons, List.flatten_cons, List.nodup_append]
    refine ⟨hn a List.mem_cons_self, flat_nodup h2 (fun b hb => hn b (List.mem_cons_of_mem _ hb)) (fun b hb c hc => hd b (List.mem_cons_of_mem _ hb) c (List.mem_cons_of_mem _ hc)), fun x hx y hy e => ?_⟩
    obtain ⟨r, hr, hy⟩ := List.mem_flatten.mp hy
    obtain ⟨b, hb, rfl⟩ := List.mem_map.mp hr
    exact h1 (hd a List.mem_cons_self b (List.mem_cons_of_mem _ hb) x hx (e ▸ hy) ▸ hb)
theorem rings_perm {p : List Nat} (T : Tn p) : (rings p).flatten.Perm (List.range p.length) := by
  have nd : (rings p).flatten.Nodup := by
    refine flat_nodup (List.Nodup.sublist List.filter_sublist List.nodup_range) (fun a ha => ?_) (fun a ha b hb x h1 h2 => ?_)
    · have ha := List.mem_range.mp (List.mem_filter.mp ha).1
      obtain ⟨m, pa⟩ := T.per ha
      exact ring_nodup T ha pa
    · exact rep_uniq T (List.mem_range.mp (List.mem_filter.mp ha).1) (List.mem_range.mp (List.mem_filter.mp hb).1) (List.mem_filter.mp ha).2 (List.mem_filter.mp hb).2 h1 h2
  refine (List.perm_ext_iff_of_nodup nd List.nodup_range).mpr fun x => ?_
  rw [List.mem_range, List.mem_flatten]
  constructor
  · rintro ⟨r, hr, hx⟩
    obtain ⟨s, hs, rfl⟩ := List.mem_map.mp hr
    exact ring_lt T (List.mem_range.mp (List.mem_filter.mp hs).1) hx
  · intro hx
    obtain ⟨s, h1, h2, h3, _⟩ := rep_of T hx
    exact ⟨ring p s, List.mem_map.mpr ⟨s, List.mem_filter.mpr ⟨List.mem_range.mpr h1, h2⟩, rfl⟩, h3⟩
end PM

namespace GD
open PySem PySem.Spec PyProof.Rows L2 EV
/-! Q1: drawing -/
def VatO (o : Ob) (C : Nat) : Prop := ∃ a b c : Int, o = .lst [.int a, .int b, .int c] ∧ 0 ≤ a ∧ 0 ≤ b ∧ b < 2147483353 ∧ 0 ≤ c ∧ c ≤ C
theorem VatO.pure {o : Ob} {C : Nat} (h : VatO o C) : pureOb o = true := by
  obtain ⟨a, b, c, rfl, _⟩ := h
  rfl
theorem VatO.more {o : Ob} {C C' : Nat} (h : VatO o C) (hc : C ≤ C') : VatO o C' := by
  obtain ⟨a, b, c, h, h1, h2, h3, h4, h5⟩ := h
  exact ⟨a, b, c, h, h1, h2, h3, h4, by omega⟩
def Vat (M : Mem) (r : Nat) (C : Nat) : Prop := ∃ o, M[r]? = some o ∧ VatO o C
theorem Vat.app {M g : Mem} {r C : Nat} (h : Vat M r C) : Vat (M ++ g) r C := by
  obtain ⟨o, h, t⟩ := h
  exact ⟨o, app_at h, t⟩
theorem Vat.lt {M : Mem} {r C : Nat} (h : Vat M r C) : r < M.length := by
  obtain ⟨o, h, t⟩ := h
  exact get_lt h
theorem Vat.more {M : Mem} {r C C' : Nat} (h : Vat M r C) (hc : C ≤ C') : Vat M r C' := by
  obtain ⟨o, h, t⟩ := h
  exact ⟨o, h, t.more hc⟩
theorem Vat.setNe {M : Mem} {r f C : Nat} {o : Ob} (h : Vat M r C) (hf : f ≠ r) : Vat (M.set f o) r C := by
  obtain ⟨o, h, t⟩ := h
  exact ⟨o, by rw [List.getElem?_set_ne hf]; exact h, t⟩
theorem Vat.of {M : Mem} {r C : Nat} {o : Ob} (hr : r < M.length) (h : VatO o C) : Vat (M.set r o) r C := ⟨o, List.getElem?_set_self hr, h⟩
theorem dip_ok {k r C : Nat} {n : Int} {M : Mem} (h : Vat M r C) (hC : C ≤ 1000000000) (hn : 0 < n) (hn2 : n < 1073741824) :
    ∃ (m : Int) (o : Ob), callN D (k+1) i__law_dip [.ref r, .int n] M = .ok (.int m) (M.set r o) ∧ 0 ≤ m ∧ m < n ∧ VatO o (C + 1) := by
  obtain ⟨o, h, a, b, c, rfl, ha, hb, hb2, hc, hc2⟩ := h
  have hr := get_lt h
  by_cases h0 : 0 < a
  · refine ⟨a % n, .lst [.int (a / n), .int b, .int c], ?_, Int.emod_nonneg _ (by omega), Int.emod_lt_of_pos _ hn, a / n, b, c, rfl, Int.ediv_nonneg ha (by omega), hb, hb2, hc, by omega⟩
    simp [callN, D, c__law_dip, h, h0, hn, hn2, trim_same, evSs, evS, evE, evEs, evB, evG, evGs, evO, evI, evTs, evN, R.bind, R.stm, R.calm, itemW, atI, ixN, biW, storeW, cmpW, bin_add, bin_sub, bin_mod, bin_mul, bin_fdiv, bin_pow, setAll, finW, ofO, seqW, newL, newT, newOb, truthW, mtW, mtOk, mtAll, EV.listAt]
  · have m1 : 0 ≤ b % 27011 := Int.emod_nonneg _ (by decide)
    have m2 : b % 27011 < 27011 := Int.emod_lt_of_pos _ (by decide)
    have l1 : mulOk 17011 (c + 1) := mulOk_of (by decide) (by omega)
    have l2 : mulOk (b + 17011 * (c + 1)) (b % 27011 + 8009) := mulOk_of (by omega) (by omega)
    generalize hB : ((b + 17011 * (c + 1)) * (b % 27011 + 8009) + 11) % 2147483353 = B
    have b1 : 0 ≤ B := by rw [← hB]; exact Int.emod_nonneg _ (by decide)
    have b2 : B < 2147483353 := by rw [← hB]; exact Int.emod_lt_of_pos _ (by decide)
    refine ⟨B / 140 % n, .lst [.int a, .int B, .int (c + 1)], ?_, Int.emod_nonneg _ (by omega), Int.emod_lt_of_pos _ hn, a, B, c + 1, rfl, ha, b1, b2, by omega, by omega⟩
    have hs : ∀ o, (M.set r o)[r]? = some o := fun o => List.getElem?_set_self hr
    simp [callN, D, c__law_dip, h, h0, hn, hs, l1, l2, hB, evSs, evS, evE, evEs, evB, evG, evGs, evO, evI, evTs, evN, R.bind, R.stm, R.calm, itemW, atI, ixN, biW, storeW, cmpW, bin_add, bin_sub, bin_mod, bin_mul, bin_fdiv, bin_pow, setAll, finW, ofO, seqW, newL, newT, newOb, truthW, mtW, mtOk, mtAll, EV.listAt, trim_same, List.set_set]
theorem of_ok {k r q C : Nat} {xs : List W} {M : Mem} (h : Vat M r C) (hC : C ≤ 1000000000) (hq : M[q]? = some (.lst xs)) (hqr : q ≠ r) (h0 : 0 < xs.length) (hl : xs.length < 1000) :
    ∃ (w : W) (o : Ob), w ∈ xs ∧ callN D (k+2) i__law_of [.ref r, .ref q] M = .ok w (M.set r o) ∧ VatO o (C + 1) := by
  obtain ⟨m, o, e, m0, m1, v⟩ := dip_ok (k := k) (n := (xs.length : Int)) h hC (by omega) (by omega)
  have hr := h.lt
  have hq2 : (M.set r o)[q]? = some (.lst xs) := by rw [List.getElem?_set_ne (Ne.symm hqr)]; exact hq
  have hm : m.toNat < xs.length := by omega
  refine ⟨xs[m.toNat], o, List.getElem_mem hm, ?_, v⟩
  rw [call_eq (d := ⟨2, 2, c__law_of⟩) rfl rfl]
  simp [c__law_of, evSs, evS, evE, evEs, evB, evG, evGs, evO, evI, evTs, evN, R.bind, R.stm, R.calm, itemW, atI, ixN, biW, storeW, cmpW, bin_add, bin_sub, bin_mod, bin_mul, bin_fdiv, bin_pow, setAll, finW, ofO, seqW, newL, newT, newOb, truthW, mtW, mtOk, mtAll, EV.listAt, hq, e, hq2, m0, m1, hm, trim_same]
/-! ### lots -/
theorem lots_turn {k r f C : Nat} {size way rest : Int} {x5 : Option W} {xs : List Int} {M : Mem} (h : Vat M r C) (hC : C ≤ 900000000) (hf : M[f]? = some (.lst (xs.map .int))) (hfr : f ≠ r) (w0 : 0 ≤ way) (w1 : way < 5) (r0 : 0 < rest) (r1 : rest ≤ 40) (s0 : 1 ≤ size) (s1 : size ≤ 40) (hl : xs.length < 1000) :
    ∃ (m : Int) (y : W) (M' : Mem), evSs (callN D (k+1)) (CS.bd (c__law_lots.nth 1)) [some (.ref r), some (.int size), some (.int way), some (.ref f), some (.int rest), x5] M
      = .ok (.nx [some (.ref r), some (.int size), some (.int way), some (.ref f), some (.int (rest - m)), some y]) M' ∧ 1 ≤ m ∧ m ≤ rest ∧ M'[f]? = some (.lst ((xs ++ [m]).map .int)) ∧ Vat M' r (C + 1) ∧ Same [r, f] M M' := by
  generalize hmo : ([rest, rest, if 2 < rest then 2 else rest, if 3 < rest then 3 else rest, if 1 + size / 2 < rest then 1 + size / 2 else rest] : List Int)[way.toNat]? = mo
  have hw : way = 0 ∨ way = 1 ∨ way = 2 ∨ way = 3 ∨ way = 4 := by omega
  obtain ⟨most, hmost, mo0, mo1⟩ : ∃ most, mo = some most ∧ 1 ≤ most ∧ most ≤ rest := by
    rcases hw with rfl | rfl | rfl | rfl | rfl
    · exact ⟨rest, by rw [← hmo]; rfl, by omega, by omega⟩
    · exact ⟨rest, by rw [← hmo]; rfl, by omega, by omega⟩
    · refine ⟨if 2 < rest then 2 else rest, by rw [← hmo]; rfl, ?_, ?_⟩ <;> split <;> omega
    · refine ⟨if 3 < rest then 3 else rest, by rw [← hmo]; rfl, ?_, ?_⟩ <;> split <;> omega
    · refine ⟨if 1 + size / 2 < rest then 1 + size / 2 else rest, by rw [← hmo]; rfl, ?_, ?_⟩ <;> split <;> omega
  subst hmost
  generalize ht : (Ob.lst [.int rest, .int rest, .int (if 2 < rest then 2 else rest), .int (if 3 < rest then 3 else rest), .int (if 1 + size / 2 < rest then 1 + size / 2 else rest)]) = t
  obtain ⟨m, o, e, m0, m1, v⟩ := dip_ok (k := k) (n := most) (h.app (g := [t])) (by omega) (by omega) (by omega)
  have v := Vat.of (h.app (g := [t])).lt v
  have hf1 : ((M ++ [t]).set r o)[f]? = some (.lst (xs.map .int)) := by
    rw [List.getElem?_set_ne (Ne.symm hfr)]
    exact app_at hf
  refine ⟨1 + m, .int most, ((M ++ [t]).set r o).set f (.lst ((xs ++ [1 + m]).map .int)), ?_, by omega, by omega, set_at hf1, v.setNe hfr, ?_⟩
  · have hsz : sizeLine = 16777216 := sizeLine_eq
    have hl2 : xs.length < 16777216 := by omega
    have hlast : (xs.map W.int ++ [.int (1 + m)])[xs.length]? = some (.int (1 + m)) := by
      rw [List.getElem?_append_right (by simp)]
      simp
    have hs := fun o' => set_at (o' := o') hf1
    have hx1 : (1 : Int) ≤ (xs.length : Int) + 1 := by omega
    have hx2 : (-1 + ((xs.length : Int) + 1)).toNat = xs.length := by omega
    have hf0 : ∀ g, (M ++ g)[f]? = some (.lst (xs.map .int)) := fun g => app_at hf
    rcases hw with rfl | rfl | rfl | rfl | rfl
    all_goals
      simp only [Int.toNat_zero, Int.toNat_one, Int.reduceToNat, List.getElem?_cons_zero, List.getElem?_cons_succ, Option.some.injEq] at hmo
      subst hmo
      subst ht
      simp [CS.bd, CSs.nth, c__law_lots, evSs, evS, evE, evEs, evB, evG, evGs, evO, evI, evTs, evN, R.bind, R.stm, R.calm, itemW, atI, ixN, biW, storeW, cmpW, bin_add, bin_sub, bin_mod, bin_mul, bin_fdiv, bin_pow, setAll, finW, ofO, seqW, newL, newT, newOb, truthW, mtW, mtOk, mtAll, EV.listAt, tyW, hsz, e, hf1, hf0, hl2, hs, hlast, hx1, hx2]
  · exact (Same.app.trans (Same.set (by simp))).trans (Same.set (by simp))
theorem lots_loop {k r f : Nat} {size way : Int} (hfr : f ≠ r) (w0 : 0 ≤ way) (w1 : way < 5) (s0 : 1 ≤ size) (s1 : size ≤ 40) : ∀ (n fuel C : Nat) (rest : Int) (x5 : Option W) (xs : List Int) (M : Mem), rest = n → n ≤ 40 → n < fuel → Vat M r C → C + n ≤ 900000000 → M[f]? = some (.lst (xs.map .int)) → xs.length + n ≤ 100 → (∀ x ∈ xs, 1 ≤ x) →
    ∃ (ys : List Int) (ρ : Sl) (M' : Mem), whileL (evB (callN D (k+1)) (CS.ts (c__law_lots.nth 1))) (evSs (callN D (k+1)) (CS.bd (c__law_lots.nth 1))) fuel [some (.ref r), some (.int size), some (.int way), some (.ref f), some (.int rest), x5] M = .ok (.nx ρ) M' ∧
      ρ[3]? = some (some (.ref f)) ∧ M'[f]? = some (.lst (ys.map .int)) ∧ ys.sum = xs.sum + rest ∧ (∀ y ∈ ys, 1 ≤ y) ∧ ys.length ≤ xs.length + n ∧ Vat M' r (C + n) ∧ Same [r, f] M M' := by
  intro n
  induction n using Nat.strongRecOn with
  | ind n ih =>
    intro fuel C rest x5 xs M hrest hn hfu hv hC hf hl hx
    cases fuel with
    | zero => omega
    | succ fuel =>
      by_cases h0 : n = 0
      · subst h0
        have h1 : rest = 0 := hrest
        subst h1
        refine ⟨xs, [some (.ref r), some (.int size), some (.int way), some (.ref f), some (.int 0), x5], M, ?_, rfl, hf, by simp, hx, by omega, hv, .refl⟩
        simp [whileL, CS.ts, CSs.nth, c__law_lots, evSs, evS, evE, evEs, evB, evG, evGs, evO, evI, evTs, evN, R.bind, R.stm, R.calm, itemW, atI, ixN, biW, storeW, cmpW, bin_add, bin_sub, bin_mod, bin_mul, bin_fdiv, bin_pow, setAll, finW, ofO, seqW, newL, newT, newOb, truthW, mtW, mtOk, mtAll, EV.listAt]
      · obtain ⟨m, y, M1, e, m0, m1, hf1, hv1, hs1⟩ := lots_turn (k := k) (size := size) (x5 := x5) hv (by omega) hf hfr w0 w1 (rest := rest) (by omega) (by omega) s0 s1 (by omega)
        obtain ⟨ys, ρ, M2, e2, k1, k2, k3, k4, k5, k6, k7⟩ := ih (n - m.toNat) (by omega) fuel (C + 1) (rest - m) (some y) (xs ++ [m]) M1 (by omega) (by omega) (by omega) hv1 (by omega) hf1 (by simp; omega) (fun x hx' => by
          rcases List.mem_append.mp hx' with z | z
          · exact hx x z
          · rw [List.mem_singleton.mp z]; exact m0)
        refine ⟨ys, ρ, M2, ?_, k1, k2, ?_, k4, ?_, k6.more (by omega), hs1.trans k7⟩
        · have ht : evB (callN D (k+1)) (CS.ts (c__law_lots.nth 1)) [some (.ref r), some (.int size), some (.int way), some (.ref f), some (.int rest), x5] M = .ok true M := by
            have : (0 : Int) < rest := by omega
            simp [CS.ts, CSs.nth, c__law_lots, evSs, evS, evE, evEs, evB, evG, evGs, evO, evI, evTs, evN, R.bind, R.stm, R.calm, itemW, atI, ixN, biW, storeW, cmpW, bin_add, bin_sub, bin_mod, bin_mul, bin_fdiv, bin_pow, setAll, finW, ofO, seqW, newL, newT, newOb, truthW, mtW, mtOk, mtAll, EV.listAt, this]
          rw [whileL, ht]
          show ((evSs (callN D (k+1)) (CS.bd (c__law_lots.nth 1)) _ M).bind _) = _
          rw [e]
          exact e2
        · rw [k3]; simp; omega
        · simp at k5; omega
/-- new places of a call are none of the old ones -/
theorem Same.less {M M2 : Mem} {r : Nat} {S : List Nat} {g : Mem} {o : Ob} (h : Same S (M.set r o ++ g) M2) (hS : ∀ j ∈ S, j < M.length → j = r) : Same [r] M M2 := by
  refine ⟨by have := h.1; simp at this; omega, fun j ob hj ej => h.2 j ob (fun z => ?_) (app_at ?_)⟩
  · exact hj (by simp [hS j z (get_lt ej)])
  · rw [List.getElem?_set_ne (Ne.symm (by simpa using hj))]
    exact ej
/-- drawn lengths -/
theorem lots_ok {k r C : Nat} {size : Int} {M : Mem} (h : Vat M r C) (hC : C ≤ 800000000) (s0 : 1 ≤ size) (s1 : size ≤ 40) :
    ∃ (ys : List Int) (o : Ob), callN D (k+2) i__law_lots [.ref r, .int size] M = .ok (.tup ((sortI ys).reverse.map .int)) (M.set r o) ∧ ys.sum = size ∧ (∀ y ∈ ys, 1 ≤ y) ∧ ys.length ≤ 40 ∧ VatO o (C + 41) := by
  obtain ⟨m, o, e, m0, m1, v⟩ := dip_ok (k := k) (n := 5) h (by omega) (by omega) (by omega)
  have hr := h.lt
  have v := Vat.of hr v
  have hfr : M.length ≠ r := by omega
  have hnew : (M.set r o ++ [.lst []])[M.length]? = some (.lst (([] : List Int).map .int)) := by
    have := app_new (M := M.set r o) (o := .lst []) (g := [])
    rwa [List.length_set] at this
  obtain ⟨ys, ρ, M2, e2, k1, k2, k3, k4, k5, k6, k7⟩ := lots_loop (k := k) (size := size) (way := m) hfr m0 m1 s0 s1 size.toNat whileFuel (C + 1) size none [] (M.set r o ++ [.lst []]) (by omega) (by omega) (by unfold whileFuel; omega) v.app (by omega) hnew (by simp; omega) (by simp)
  have sm : Same [r] M M2 := Same.less k7 fun j hj hl => by
    simp only [List.mem_cons, List.mem_nil_iff, or_false] at hj
    omega
  obtain ⟨o2, ho2, vo2⟩ := k6
  have e3 : trim M (.tup ((sortI ys).reverse.map .int)) ((M2 ++ [.lst ((sortI ys).map .int)]) ++ [.lst ((sortI ys).map W.int).reverse]) = .ok (.tup ((sortI ys).reverse.map .int)) (M.set r o2) :=
    trim_of_same (sm.trans (Same.app.trans Same.app)) hr (app_at (app_at ho2)) vo2.pure (by simp only [pureW]; exact pure_ints _)
  refine ⟨ys, o2, ?_, by simpa using k3, k4, by simp at k5; omega, vo2.more (by omega)⟩
  rw [call_eq (d := ⟨2, 6, c__law_lots⟩) rfl rfl]
  have hs0 : evS (callN D (k+1)) (c__law_lots.nth 0) [some (.ref r), some (.int size), none, none, none, none] M = .ok (.nx [some (.ref r), some (.int size), some (.int m), some (.ref M.length), some (.int size), none]) (M.set r o ++ [.lst []]) := by
    simp [CSs.nth, c__law_lots, evSs, evS, evE, evEs, evB, evG, evGs, evO, evI, evTs, evN, R.bind, R.stm, R.calm, itemW, atI, ixN, biW, storeW, cmpW, bin_add, bin_sub, bin_mod, bin_mul, bin_fdiv, bin_pow, setAll, finW, ofO, seqW, newL, newT, newOb, truthW, mtW, mtOk, mtAll, EV.listAt, e]
  have hs1 : evS (callN D (k+1)) (c__law_lots.nth 1) [some (.ref r), some (.int size), some (.int m), some (.ref M.length), some (.int size), none] (M.set r o ++ [.lst []]) = .ok (.nx ρ) M2 := e2
  have hs2 : evS (callN D (k+1)) (c__law_lots.nth 2) ρ M2 = .ok (.ret (.tup ((sortI ys).reverse.map .int))) ((M2 ++ [.lst ((sortI ys).map .int)]) ++ [.lst ((sortI ys).map W.int).reverse]) := by
    simp [CSs.nth, c__law_lots, evSs, evS, evE, evEs, evB, evG, evGs, evO, evI, evTs, evN, R.bind, R.stm, R.calm, itemW, atI, ixN, biW, storeW, cmpW, bin_add, bin_sub, bin_mod, bin_mul, bin_fdiv, bin_pow, setAll, finW, ofO, seqW, newL, newT, newOb, truthW, mtW, mtOk, mtAll, EV.listAt, k1, k2, mapO_ints, List.map_reverse]
  show finW M (evSs (callN D (k+1)) (.cons (c__law_lots.nth 0) (.cons (c__law_lots.nth 1) (.cons (c__law_lots.nth 2) .nil))) [some (.ref r), some (.int size), none, none, none, none] M) = _
  rw [evSs_cons hs0, evSs_cons hs1, evSs, hs2]
  exact e3
end GD

namespace GD
open PySem PySem.Spec PyProof.Rows L2 EV
/-! Q2: a drawn order -/
mutual
theorem fit_pureW : ∀ {n : Nat} {w : W}, fitW n w = true → pureW w = true
  | 0, _, h => by simp [fitW] at h
  | n + 1, .tup xs, h => by simp only [fitW] at h; simp only [pureW]; exact fit_pureWs h
  | n + 1, .str x, _ => rfl
  | n + 1, .ref x, h => by simp [fitW] at h
  | n + 1, .non, _ => rfl
  | n + 1, .bl _, _ => rfl
  | n + 1, .int _, _ => rfl
theorem fit_pureWs : ∀ {n : Nat} {ws : List W}, fitWs n ws = true → pureWs ws = true
  | _, [], _ => rfl
  | n, x :: xs, h => by
    simp only [fitWs, Bool.and_eq_true] at h
    simp only [pureWs, fit_pureW h.1, fit_pureWs h.2, Bool.and_self]
end
theorem ne_nil {M : Mem} {p : Nat} {xs : List W} (h : M[p]? = some (.lst xs)) (hf : fitWs 11 xs = true) : cmpW .NotEq (.ref p) (.ref M.length) (M ++ [.lst []]) = .ok (!xs.isEmpty) (M ++ [.lst []]) := by
  have e := eq_lst (app_at (g := [.lst []]) h) at0 hf (ys := []) rfl
  simp only [cmpW, e, ofO, Option.map_some, dPs, eqv_nil, dPs_empty]
theorem Same.more2 {S S' : List Nat} {M M1 M2 : Mem} (a : Same S M M1) (b : Same S' M1 M2) (h : ∀ j ∈ S', j ∈ S) : Same S M M2 := a.trans (b.more h)
theorem erase_perm {α : Type} : ∀ {l : List α} {i : Nat} (h : i < l.length), (l[i] :: l.eraseIdx i).Perm l
  | [], _, h => by simp at h
  | a :: l, 0, _ => by simp
  | a :: l, i + 1, h => by
    simp only [List.getElem_cons_succ, List.eraseIdx_cons_succ]
    exact (List.Perm.swap _ _ _).trans ((erase_perm (by simpa using h)).cons a)
theorem mixed_loop {k r l f : Nat} {a1 : Option W} (hl : l ≠ r) (hf : f ≠ r) (hlf : l ≠ f) : ∀ (n fuel C : Nat) (xs ys : List W) (M : Mem), xs.length = n → n < fuel → Vat M r C → C + n ≤ 900000000 → M[l]? = some (.lst xs) → M[f]? = some (.lst ys) → fitWs 11 xs = true → n + ys.length ≤ 100000 →
    ∃ (zs : List W) (M' : Mem), whileL (evB (callN D (k+1)) (CS.ts (c__law_mixed.nth 1))) (evSs (callN D (k+1)) (CS.bd (c__law_mixed.nth 1))) fuel [some (.ref r), a1, some (.ref l), some (.ref f)] M = .ok (.nx [some (.ref r), a1, some (.ref l), some (.ref f)]) M' ∧
      M'[f]? = some (.lst (ys ++ zs)) ∧ zs.Perm xs ∧ Vat M' r (C + n) ∧ Same [r, l, f] M M'
  | 0, fuel, C, xs, ys, M, hn, hfu, hv, hC, h1, h2, hfit, hs => by
    have : xs = [] := List.length_eq_zero_iff.mp hn
    subst this
    cases fuel with
    | zero => omega
    | succ fuel =>
      refine ⟨[], M ++ [.lst []], ?_, by simpa using app_at h2, .refl _, hv.app, Same.app⟩
      have e := ne_nil h1 rfl
      simp only [whileL, CS.ts, CSs.nth, c__law_mixed, evB, evE, evEs, R.bind, R.stm, newL, newOb, List.getElem?_cons_succ, List.getElem?_cons_zero, List.length_nil, Nat.zero_le, if_true, e, List.isEmpty_nil, Bool.not_true, Bool.false_eq_true, if_false]
  | n + 1, fuel, C, xs, ys, M, hn, hfu, hv, hC, h1, h2, hfit, hs => by
    cases fuel with
    | zero => omega
    | succ fuel =>
      have e := ne_nil h1 hfit
      have hne : xs.isEmpty = false := by cases xs <;> simp at hn ⊢
      obtain ⟨m, o, ed, m0, m1, v⟩ := dip_ok (k := k) (n := (xs.length : Int)) (hv.app (g := [.lst []])) (by omega) (by omega) (by omega)
      have hlen := (hv.app (g := [.lst []])).lt
      have v1 := Vat.of hlen v
      have hm : m.toNat < xs.length := by omega
      have b1 : ((M ++ [Ob.lst []]).set r o)[l]? = some (.lst xs) := by rw [List.getElem?_set_ne (Ne.symm hl)]; exact app_at h1
      have b2 : (((M ++ [Ob.lst []]).set r o).set l (.lst (xs.eraseIdx m.toNat)))[f]? = some (.lst ys) := by
        rw [List.getElem?_set_ne hlf, List.getElem?_set_ne (Ne.symm hf)]; exact app_at h2
      have hel : (xs.eraseIdx m.toNat).length = n := by rw [List.length_eraseIdx_of_lt hm]; omega
      obtain ⟨zs, M', e2, k1, k2, k3, k4⟩ := mixed_loop (k := k) (a1 := a1) hl hf hlf n fuel (C + 1) (xs.eraseIdx m.toNat) (ys ++ [xs[m.toNat]]) ((((M ++ [Ob.lst []]).set r o).set l (.lst (xs.eraseIdx m.toNat))).set f (.lst (ys ++ [xs[m.toNat]]))) hel (by omega)
        ((v1.setNe hl).setNe hf) (by omega) (by rw [List.getElem?_set_ne (Ne.symm hlf)]; exact set_at b1) (set_at b2) (fitWs_iff.mpr fun x hx => fitWs_iff.mp hfit x (List.mem_of_mem_eraseIdx hx)) (by simp; omega)
      refine ⟨xs[m.toNat] :: zs, M', ?_, by rw [k1]; simp, ?_, k3.more (by omega), ?_⟩
      · have hsz : sizeLine = 16777216 := sizeLine_eq
        have hy : ys.length < 16777216 := by omega
        have hg : xs[m.toNat]? = some xs[m.toNat] := List.getElem?_eq_getElem hm
        have b3 : (M ++ [Ob.lst []])[f]? = some (.lst ys) := app_at h2
        have b4 : (M ++ [Ob.lst []])[l]? = some (.lst xs) := app_at h1
        have hb : evSs (callN D (k+1)) (CS.bd (c__law_mixed.nth 1)) [some (.ref r), a1, some (.ref l), some (.ref f)] (M ++ [.lst []]) = .ok (.nx [some (.ref r), a1, some (.ref l), some (.ref f)]) ((((M ++ [Ob.lst []]).set r o).set l (.lst (xs.eraseIdx m.toNat))).set f (.lst (ys ++ [xs[m.toNat]]))) := by
          simp [CS.bd, CSs.nth, c__law_mixed, evSs, evS, evE, evEs, evB, evG, evGs, evO, evI, evTs, evN, R.bind, R.stm, R.calm, itemW, atI, ixN, biW, storeW, cmpW, bin_add, bin_sub, bin_mod, bin_mul, bin_fdiv, bin_pow, setAll, finW, ofO, seqW, newL, newT, newOb, truthW, mtW, mtOk, mtAll, EV.listAt, tyW, b3, b4, ed, b1, b2, m0, m1, hm, hy, hsz, hg]
        have ht : evB (callN D (k+1)) (CS.ts (c__law_mixed.nth 1)) [some (.ref r), a1, some (.ref l), some (.ref f)] M = .ok true (M ++ [.lst []]) := by
          simp only [CS.ts, CSs.nth, c__law_mixed, evB, evE, evEs, R.bind, R.stm, newL, newOb, List.getElem?_cons_succ, List.getElem?_cons_zero, List.length_nil, Nat.zero_le, if_true, e, hne, Bool.not_false]
        rw [whileL, ht]
        show ((evSs (callN D (k+1)) (CS.bd (c__law_mixed.nth 1)) _ _).bind _) = _
        rw [hb]
        exact e2
      · refine (k2.cons _).trans ?_
        exact erase_perm hm
      · exact (((Same.app.trans (Same.set (by simp))).trans (Same.set (by simp))).trans (Same.set (by simp))).trans k4
theorem mixed_ok {k r q C : Nat} {xs : List W} {M : Mem} (h : Vat M r C) (hC : C + xs.length ≤ 800000000) (hq : M[q]? = some (.lst xs)) (hfit : fitWs 11 xs = true) (hl : xs.length ≤ 10000) :
    ∃ (ys : List W) (o : Ob), callN D (k+2) i__law_mixed [.ref r, .ref q] M = .ok (.ref M.length) (M.set r o ++ [.lst ys]) ∧ ys.Perm xs ∧ VatO o (C + xs.length) := by
  have hr := h.lt
  obtain ⟨zs, M', e2, k1, k2, k3, k4⟩ := mixed_loop (k := k) (r := r) (l := M.length) (f := M.length + 1) (a1 := some (.ref q)) (by omega) (by omega) (by omega) xs.length whileFuel C xs [] (M ++ [.lst xs, .lst []]) rfl (by unfold whileFuel; omega) h.app (by omega) at0 at1 hfit (by simp; omega)
  have sm : Same [r] M M' := ⟨by have := k4.1; simp at this; omega, fun j ob hj ej => k4.2 j ob (by
      have := get_lt ej
      simp only [List.mem_cons, List.mem_nil_iff, or_false, not_or] at hj ⊢
      exact ⟨hj, by omega, by omega⟩) (app_at ej)⟩
  obtain ⟨o2, ho2, vo2⟩ := k3
  rw [List.nil_append] at k1
  have pz : pureWs zs = true := fit_pureWs (fitWs_iff.mpr fun x hx => fitWs_iff.mp hfit x (k2.mem_iff.mp hx))
  refine ⟨zs, o2, ?_, k2, vo2⟩
  rw [call_eq (d := ⟨2, 4, c__law_mixed⟩) rfl rfl]
  have hs0 : evS (callN D (k+1)) (c__law_mixed.nth 0) [some (.ref r), some (.ref q), none, none] M = .ok (.nx [some (.ref r), some (.ref q), some (.ref M.length), some (.ref (M.length + 1))]) (M ++ [.lst xs, .lst []]) := by
    simp [CSs.nth, c__law_mixed, evSs, evS, evE, evEs, evB, evG, evGs, evO, evI, evTs, evN, R.bind, R.stm, R.calm, itemW, atI, ixN, biW, storeW, cmpW, bin_add, bin_sub, bin_mod, bin_mul, bin_fdiv, bin_pow, setAll, finW, ofO, seqW, newL, newT, newOb, truthW, mtW, mtOk, mtAll, EV.listAt, hq]
  have hs1 : evS (callN D (k+1)) (c__law_mixed.nth 1) [some (.ref r), some (.ref q), some (.ref M.length), some (.ref (M.length + 1))] (M ++ [.lst xs, .lst []]) = .ok (.nx [some (.ref r), some (.ref q), some (.ref M.length), some (.ref (M.length + 1))]) M' := e2
  have hs2 : evS (callN D (k+1)) (c__law_mixed.nth 2) [some (.ref r), some (.ref q), some (.ref M.length), some (.ref (M.length + 1))] M' = .ok (.ret (.ref (M.length + 1))) M' := by
    simp [CSs.nth, c__law_mixed, evSs, evS, evE, evEs, evB, evG, evGs, evO, evI, evTs, evN, R.bind, R.stm, R.calm, itemW, atI, ixN, biW, storeW, cmpW, bin_add, bin_sub, bin_mod, bin_mul, bin_fdiv, bin_pow, setAll, finW, ofO, seqW, newL, newT, newOb, truthW, mtW, mtOk, mtAll, EV.listAt]
  show finW M (evSs (callN D (k+1)) (.cons (c__law_mixed.nth 0) (.cons (c__law_mixed.nth 1) (.cons (c__law_mixed.nth 2) .nil))) [some (.ref r), some (.ref q), none, none] M) = _
  rw [evSs_cons hs0, evSs_cons hs1, evSs_ret hs2]
  exact trim_of_sameL sm hr ho2 vo2.pure (by omega) k1 pz
end GD

namespace GD
open PySem PySem.Spec PyProof.Rows L2 EV PM
/-! Q3: turns as tuples -/
def iN (p : List Nat) : List W := p.map fun (n : Nat) => .int (n : Int)
abbrev tN (p : List Nat) : W := .tup (iN p)
theorem iN_length (p : List Nat) : (iN p).length = p.length := by simp [iN]
theorem iN_get {p : List Nat} {i : Nat} (h : i < p.length) : (iN p)[i]? = some (.int (ap p i)) := by simp [iN, ap_get h]
theorem iN_ints (p : List Nat) : iN p = (p.map fun (n : Nat) => (n : Int)).map W.int := by simp [iN]
theorem iN_mapO (p : List Nat) : mapO toInt (iN p) = some (p.map fun (n : Nat) => (n : Int)) := by rw [iN_ints, mapO_ints]
theorem iN_fit {n : Nat} (p : List Nat) : fitWs (n + 1) (iN p) = true := by rw [iN_ints]; exact fit_ints _
theorem iN_pure (p : List Nat) : pureWs (iN p) = true := by rw [iN_ints]; exact pure_ints _
theorem tN_pure (p : List Nat) : pureW (tN p) = true := by simp only [pureW]; exact iN_pure p
theorem iN_app (p q : List Nat) : iN (p ++ q) = iN p ++ iN q := by simp [iN]
theorem range_iN (n : Nat) : rangeI 0 (n : Int) = iN (List.range n) := by
  unfold rangeI iN
  rw [Int.sub_zero, Int.toNat_natCast]
  simp
theorem atI_lt {xs : List W} {j : Nat} (h : j < xs.length) : atI xs (j : Int) = xs[j]? := by
  simp only [atI, ixN]
  rw [if_pos (by omega), if_pos (by omega)]
  simp
theorem item_tN {p : List Nat} {i : Nat} {M : Mem} (h : i < p.length) : itemW (tN p) (.int (i : Int)) M = .ok (.int (ap p i)) M := by
  simp only [itemW]
  rw [atI_lt (by rw [iN_length]; exact h), iN_get h]
  rfl
/-- a comprehension without a test -/
theorem lcL_map {g : Itm → Sl → Mem → R Sl} {t : Sl → Mem → R Bool} {el : Sl → Mem → R W} {gs : List (Nat × List W)} {ρ : Sl} {M : Mem} {f : W → W} {xs : List W} (hg : ∀ acc, guards gs (M ++ [.lst acc]) = true)
    (h : ∀ x ∈ xs, ∀ acc, ∃ ρx, g (.one x) ρ (M ++ [.lst acc]) = .ok ρx (M ++ [.lst acc]) ∧ t ρx (M ++ [.lst acc]) = .ok true (M ++ [.lst acc]) ∧ el ρx (M ++ [.lst acc]) = .ok (f x) (M ++ [.lst acc])) (hl : xs.length ≤ sizeLine) :
    lcL M.length g t el gs ρ (xs.map .one) (M ++ [.lst []]) = .ok () (M ++ [.lst (xs.map f)]) := by
  have := lcL_pure (p := fun _ => true) (f := f) hg xs [] (fun x hx acc => by
    obtain ⟨ρx, h1, h2, h3⟩ := h x hx acc
    exact ⟨ρx, h1, h2, fun _ => h3⟩) (by simpa using hl)
  rw [this, List.nil_append, List.filter_eq_self.mpr (fun _ _ => rfl)]
theorem lcN {g : Itm → Sl → Mem → R Sl} {t : Sl → Mem → R Bool} {el : Sl → Mem → R W} {gs : List (Nat × List W)} {ρ : Sl} {M : Mem} {f : Nat → W} {p : List Nat} (hg : ∀ acc, guards gs (M ++ [.lst acc]) = true)
    (h : ∀ x ∈ p, ∀ acc, ∃ ρx, g (.one (.int (x : Int))) ρ (M ++ [.lst acc]) = .ok ρx (M ++ [.lst acc]) ∧ t ρx (M ++ [.lst acc]) = .ok true (M ++ [.lst acc]) ∧ el ρx (M ++ [.lst acc]) = .ok (f x) (M ++ [.lst acc])) (hl : p.length ≤ 1000) :
    lcL M.length g t el gs ρ ((iN p).map .one) (M ++ [.lst []]) = .ok () (M ++ [.lst (p.map f)]) := by
  have e := lcL_map (M := M) (g := g) (t := t) (el := el) (gs := gs) (ρ := ρ) (f := fun w => match w with | .int i => f i.toNat | w => w) (xs := iN p) hg (fun x hx acc => by
    obtain ⟨n, hn, rfl⟩ := List.mem_map.mp hx
    simpa using h n hn acc) (by rw [iN_length, sizeLine_eq]; omega)
  rw [e]
  simp [iN]
theorem ev_lcN {cf : Nat → List W → Mem → R W} {ρ : Sl} {M : Mem} {it i e} {gs : List (Nat × List W)} {p : List Nat} {f : Nat → W} (hi : evI cf it ρ M = .ok ((iN p).map .one, gs) M) (hg : ∀ acc, guards gs (M ++ [.lst acc]) = true)
    (h : ∀ x ∈ p, ∀ acc, evE cf e ((wipeW ρ [i]).set i (some (.int (x : Int)))) (M ++ [.lst acc]) = .ok (f x) (M ++ [.lst acc])) (hl : p.length ≤ 1000) :
    evE cf (.lc (.mk (.one i) it .nil [i]) e) ρ M = .ok (.ref M.length) (M ++ [.lst (p.map f)]) :=
  ev_lc_by hi (lcN hg (fun x hx acc => ⟨_, rfl, rfl, h x hx acc⟩) hl)
theorem ev_lcNN {cf : Nat → List W → Mem → R W} {ρ : Sl} {M : Mem} {it i e} {gs : List (Nat × List W)} {p : List Nat} {f : Nat → Nat} (hi : evI cf it ρ M = .ok ((iN p).map .one, gs) M) (hg : ∀ acc, guards gs (M ++ [.lst acc]) = true)
    (h : ∀ x ∈ p, ∀ acc, evE cf e ((wipeW ρ [i]).set i (some (.int (x : Int)))) (M ++ [.lst acc]) = .ok (.int (f x : Nat)) (M ++ [.lst acc])) (hl : p.length ≤ 1000) :
    evE cf (.lc (.mk (.one i) it .nil [i]) e) ρ M = .ok (.ref M.length) (M ++ [.lst (iN (p.map f))]) := by
  rw [ev_lcN (f := fun n => .int (f n : Nat)) hi hg h hl]
  simp [iN]
theorem tup_pure {ys : List W} (h : pureWs ys = true) : pureW (.tup ys) = true := by simpa only [pureW] using h
theorem led_ok {k : Nat} {p q : List Nat} {M : Mem} (h : ∀ x ∈ p, x < q.length) (hl : p.length ≤ 1000) : callN D (k+1) i__law_led [tN p, tN q] M = .ok (tN (p.map (ap q))) M := by
  rw [call_eq (d := ⟨2, 3, c__law_led⟩) rfl rfl]
  have e := ev_lcNN (cf := callN D k) (ρ := [some (tN p), some (tN q), none]) (M := M) (it := .seq (.var 0)) (i := 2) (e := .ix (.var 1) (.var 2)) (gs := []) (p := p) (f := ap q) rfl (fun _ => guards_nil) (fun x hx acc => item_tN (h x hx)) hl
  simp [c__law_led, xss_nil, xss_cons, xe_var, xe_k, xe_gk, xe_bin, xe_neg, xe_not, xe_and, xe_or, xe_ite, xe_cmp, xe_chain, xe_tup, xe_lst, xe_call, xe_callK, xe_bi, xe_isi, xe_meth, xe_ix, xe_sl, xe_rev, xe_dnew, xe_lenset, xs_pass, xs_expr, xs_asg, xs_par, xs_setLc, xs_augS, xs_aug, xs_ret, xs_retN, xs_if, xa_nil, xa_cons, xa_star, xb_val, xb_cmp, xb_chain, xb_not, xb_and, xb_or, xo_none, xo_some, xg_name, xg_tup, xg_sub, xgs_nil, xgs_cons, xi_seq, xi_enum, xi_zip, xt_nil, xt_one, evN, R.bind, R.stm, R.calm, itemW, atI, ixN, biW, storeW, cmpW, bin_add, bin_sub, bin_mod, bin_mul, bin_fdiv, bin_pow, setAll, finW, ofO, seqW, newL, newT, newOb, truthW, mtW, EV.listAt, mo_append_list, mo_pop_list, mo_extend_list, mo_remove_list, mo_count_list, mo_count_tuple, mo_index_list, mo_get_dict, mo_index_tuple, mo_upper_str, mo_isdigit_str, mo_split_str, mo_join_str, ty_list_tuple, ty_list_dict, ty_list_str, ty_tuple_list, ty_tuple_dict, ty_tuple_str, ty_dict_list, ty_dict_tuple, ty_dict_str, ty_str_list, ty_str_tuple, ty_str_dict, e]
  exact trim_app (tN_pure _)
theorem ledOn_ok {k : Nat} {p q : List Nat} {M : Mem} (h : ∀ x ∈ p, x < q.length) (hl : p.length ≤ 1000) : callN D (k+1) i_led_on [tN p, tN q] M = .ok (tN (p.map (ap q))) M := by
  rw [call_eq (d := ⟨2, 3, c_led_on⟩) rfl rfl]
  have e := ev_lcNN (cf := callN D k) (ρ := [some (tN p), some (tN q), none]) (M := M) (it := .seq (.var 0)) (i := 2) (e := .ix (.var 1) (.var 2)) (gs := []) (p := p) (f := ap q) rfl (fun _ => guards_nil) (fun x hx acc => item_tN (h x hx)) hl
  simp [c_led_on, xss_nil, xss_cons, xe_var, xe_k, xe_gk, xe_bin, xe_neg, xe_not, xe_and, xe_or, xe_ite, xe_cmp, xe_chain, xe_tup, xe_lst, xe_call, xe_callK, xe_bi, xe_isi, xe_meth, xe_ix, xe_sl, xe_rev, xe_dnew, xe_lenset, xs_pass, xs_expr, xs_asg, xs_par, xs_setLc, xs_augS, xs_aug, xs_ret, xs_retN, xs_if, xa_nil, xa_cons, xa_star, xb_val, xb_cmp, xb_chain, xb_not, xb_and, xb_or, xo_none, xo_some, xg_name, xg_tup, xg_sub, xgs_nil, xgs_cons, xi_seq, xi_enum, xi_zip, xt_nil, xt_one, evN, R.bind, R.stm, R.calm, itemW, atI, ixN, biW, storeW, cmpW, bin_add, bin_sub, bin_mod, bin_mul, bin_fdiv, bin_pow, setAll, finW, ofO, seqW, newL, newT, newOb, truthW, mtW, EV.listAt, mo_append_list, mo_pop_list, mo_extend_list, mo_remove_list, mo_count_list, mo_count_tuple, mo_index_list, mo_get_dict, mo_index_tuple, mo_upper_str, mo_isdigit_str, mo_split_str, mo_join_str, ty_list_tuple, ty_list_dict, ty_list_str, ty_tuple_list, ty_tuple_dict, ty_tuple_str, ty_dict_list, ty_dict_tuple, ty_dict_str, ty_str_list, ty_str_tuple, ty_str_dict, e]
  exact trim_app (tN_pure _)
/-- the turn that leads back -/
def inv (p : List Nat) : List Nat := (List.range p.length).map fun s => p.idxOf s
theorem idx_cast (p : List Nat) (s : Nat) : (p.map fun (n : Nat) => (n : Int)).idxOf (s : Int) = p.idxOf s := by
  induction p with
  | nil => rfl
  | cons a p ih =>
    have hb : ((a : Int) == (s : Int)) = (a == s) := by
      by_cases e : a = s
      · rw [e, beq_self_eq_true, beq_self_eq_true]
      · rw [beq_eq_false_iff_ne.mpr e, beq_eq_false_iff_ne.mpr (by omega)]
    rw [List.map_cons, List.idxOf_cons, List.idxOf_cons, ih, hb]
theorem rangeW_n {n : Nat} (h : n ≤ 1000) : rangeW [.int (n : Int)] = some (iN (List.range n)) := by
  have hs : smallI (n : Int) = true := by
    unfold smallI
    exact decide_eq_true (by omega)
  simp [rangeW, hs, range_iN]
theorem mt_idx {x : Nat} {p : List Nat} {M : Mem} (hx : x ∈ p) : mtW "tuple" .index (tN p) [.int (x : Int)] M = .ok (.int (p.idxOf x : Nat)) M := by
  have hx2 : (x : Int) ∈ p.map fun (n : Nat) => (n : Int) := List.mem_map.mpr ⟨x, hx, rfl⟩
  show (match mapO toInt (iN p) with
          | some ns => if (x : Int) ∈ ns then R.ok (W.int (ns.idxOf (x : Int) : Nat)) M else .bad
          | none => .bad) = _
  rw [iN_mapO]
  simp only [if_pos hx2, idx_cast]
theorem back_e {k x : Nat} {p : List Nat} {M : Mem} (hx : x ∈ p) : evE (callN D k) (.meth .index (.var 0) (.cons (.var 1) .nil)) [some (tN p), some (.int (x : Int))] M = .ok (.int (p.idxOf x : Nat)) M := by
  have h := mt_idx (M := M) hx
  simp only [xe_meth, xe_var, evEs, R.bind, tyW, h, List.getElem?_cons_zero, List.getElem?_cons_succ, mo_index_tuple, if_true]
theorem ei_range_by {cf : Nat → List W → Mem → R W} {ρ : Sl} {xs ys : List W} {es} {M M1 : Mem} (e : evEs cf es ρ M = .ok xs M1) (h : rangeW xs = some ys) : evI cf (.range es) ρ M = .ok (ys.map .one, []) M1 := by
  simp only [evI, e, R.bind, h]
theorem ei_range_n {cf : Nat → List W → Mem → R W} {ρ : Sl} {n : Nat} {es} {M M1 : Mem} (e : evEs cf es ρ M = .ok [.int (n : Int)] M1) (hl : n ≤ 1000) : evI cf (.range es) ρ M = .ok ((iN (List.range n)).map .one, []) M1 := ei_range_by e (rangeW_n hl)
theorem ee_len {cf : Nat → List W → Mem → R W} {ρ : Sl} {i : Nat} {xs : List W} {M : Mem} (h : ρ[i]? = some (some (.tup xs))) : evEs cf (.cons (.bi .len (.cons (.var i) .nil)) .nil) ρ M = .ok [.int (xs.length : Int)] M := by
  simp only [evEs, xe_bi, xe_var, h, R.bind, biW]
theorem ei_rlen {cf : Nat → List W → Mem → R W} {ρ : Sl} {i n : Nat} {xs : List W} {M : Mem} (h : ρ[i]? = some (some (.tup xs))) (hx : xs.length = n) (hl : n ≤ 1000) : evI cf (.range (.cons (.bi .len (.cons (.var i) .nil)) .nil)) ρ M = .ok ((iN (List.range n)).map .one, []) M := by
  subst hx
  exact ei_range_n (ee_len h) hl
/-- list(range(..)) -/
theorem xe_lrange_by {cf : Nat → List W → Mem → R W} {ρ : Sl} {xs ys : List W} {es t} {M M1 : Mem} (e : evEs cf es ρ M = .ok xs M1) (h : rangeW xs = some ys) (hl : ys.length ≤ 16777216) : evE cf (.lrange t es) ρ M = if t = true then .ok (.tup ys) M1 else newOb (.lst ys) M1 := by
  simp only [xe_lrange, e, R.bind, h, if_pos hl]
theorem back_l {k : Nat} {p : List Nat} {M : Mem} (T : Tn p) (hl : p.length ≤ 1000) : evE (callN D k) (.lc (.mk (.one 1) (.range (.cons (.bi .len (.cons (.var 0) .nil)) .nil)) .nil [1]) (.meth .index (.var 0) (.cons (.var 1) .nil))) [some (tN p), none] M = .ok (.ref M.length) (M ++ [.lst (iN (inv p))]) :=
  ev_lcNN (f := fun n => p.idxOf n) (ei_rlen rfl (iN_length p) hl) (fun _ => guards_nil) (fun x hx acc => back_e (T.mem (List.mem_range.mp hx))) (by rw [List.length_range]; exact hl)
theorem back_f {p ip : List Nat} {M : Mem} {cf : Nat → List W → Mem → R W} (e : evE cf (.lc (.mk (.one 1) (.range (.cons (.bi .len (.cons (.var 0) .nil)) .nil)) .nil [1]) (.meth .index (.var 0) (.cons (.var 1) .nil))) [some (tN p), none] M = .ok (.ref M.length) (M ++ [.lst (iN ip)])) : finW M (evSs cf c__law_back [some (tN p), none] M) = .ok (tN ip) M := by
  simp only [c__law_back, xss_nil, xss_cons, xe_var, xe_k, xe_gk, xe_bin, xe_neg, xe_not, xe_and, xe_or, xe_ite, xe_cmp, xe_chain, xe_tup, xe_lst, xe_call, xe_callK, xe_bi, xe_isi, xe_meth, xe_ix, xe_sl, xe_rev, xe_dnew, xe_lenset, xs_pass, xs_expr, xs_asg, xs_par, xs_setLc, xs_augS, xs_aug, xs_ret, xs_retN, xs_if, xa_nil, xa_cons, xa_star, xb_val, xb_cmp, xb_chain, xb_not, xb_and, xb_or, xo_none, xo_some, xg_name, xg_tup, xg_sub, xgs_nil, xgs_cons, xi_seq, xi_enum, xi_zip, xt_nil, xt_one, evN, R.bind, R.stm, R.calm, itemW, atI, ixN, biW, storeW, cmpW, bin_add, bin_sub, bin_mod, bin_mul, bin_fdiv, bin_pow, setAll, finW, ofO, seqW, newL, newT, newOb, truthW, mo_append_list, mo_pop_list, mo_extend_list, mo_remove_list, mo_count_list, mo_count_tuple, mo_index_list, mo_get_dict, mo_index_tuple, mo_upper_str, mo_isdigit_str, mo_split_str, mo_join_str, ty_list_tuple, ty_list_dict, ty_list_str, ty_tuple_list, ty_tuple_dict, ty_tuple_str, ty_dict_list, ty_dict_tuple, ty_dict_str, ty_str_list, ty_str_tuple, ty_str_dict, e, at0]
  exact trim_app (tN_pure _)
theorem back_g {k : Nat} {p : List Nat} {M : Mem} : callN D (k+1) i__law_back [tN p] M = finW M (evSs (callN D k) c__law_back [some (tN p), none] M) := call_at (d := ⟨1, 2, c__law_back⟩) rfl rfl rfl rfl
theorem back_ok {k : Nat} {p : List Nat} {M : Mem} (T : Tn p) (hl : p.length ≤ 1000) : callN D (k+1) i__law_back [tN p] M = .ok (tN (inv p)) M := back_g.trans (back_f (back_l T hl))
end GD

namespace GD
open PySem PySem.Spec PyProof.Rows L2 EV PM
/-! Q4: rings by walking -/
theorem atI_last {xs : List W} {j : Nat} (h : xs.length = j + 1) : atI xs (-1) = xs[j]? := by
  simp only [atI, ixN]
  rw [if_neg (by decide), if_pos (by omega)]
  have : (-1 + (xs.length : Int)).toNat = j := by omega
  rw [this]
  rfl
def orb (p : List Nat) (s j : Nat) : List Nat := (List.range j).map fun i => it p i s
theorem orb_len {p s j} : (orb p s j).length = j := by simp [orb]
theorem orb_get {p s j i} (h : i < j) : (orb p s j)[i]? = some (it p i s) := by simp [orb, List.getElem?_map, List.getElem?_range h]
theorem orb_succ {p s j} : orb p s (j + 1) = orb p s j ++ [it p j s] := by simp [orb, List.range_succ]
theorem orb_last {p s j} : atI (iN (orb p s (j + 1))) (-1) = some (.int (it p j s : Nat)) := by
  rw [atI_last (j := j) (by rw [iN_length, orb_len])]
  simp [iN, orb_get (Nat.lt_succ_self j)]
theorem in_ints {M : Mem} {r x : Nat} {G : List Nat} (h : M[r]? = some (.lst (iN G))) : inW M (.int (x : Int)) (.ref r) = some (decide (x ∈ G)) := by
  have h1 : dataW M (.int (x : Int)) = some (.int x) := data_fit rfl
  have h2 : dataW M (.ref r) = some (.list (dPs (iN G))) := data_lst h (iN_fit G)
  have h3 : (dPs (iN G)).any (fun z => PyData.eqv z (.int x)) = decide (x ∈ G) := by
    clear h h2
    rw [iN_ints, dPs_ints, List.map_map]
    induction G with
    | nil => rfl
    | cons a G ih =>
      simp only [List.map_cons, List.any_cons, ih, Function.comp, PyData.eqv, List.mem_cons, Bool.decide_or]
      congr 1
      by_cases e : x = a
      · subst e; simp
      · have : ¬ ((a : Int) = (x : Int)) := by omega
        simp [e, this]
  simp only [inW, h, h1, h2, h3]
theorem atI_tN {p : List Nat} {i : Nat} (h : i < p.length) : atI (iN p) (i : Int) = some (.int (ap p i)) := by
  rw [atI_lt (by rw [iN_length]; exact h), iN_get h]
theorem ring_loop {k q s m : Nat} {p : List Nat} {a1 a2 : Option W} (T : Tn p) (hs : s < p.length) (P : Per p s m) : ∀ (d j fuel : Nat) (M : Mem), j + d + 1 = m → d < fuel → M[q]? = some (.lst (iN (orb p s (j + 1)))) → m ≤ 1000 →
    ∃ W1 B1, evS (callN D k) (((CS.bd (c__law_walked.nth 1)).nth 0).bd.nth 1) [some (tN p), a1, a2, some (.int (s : Int)), some (.ref q)] M = whileL W1 B1 whileFuel [some (tN p), a1, a2, some (.int (s : Int)), some (.ref q)] M ∧
    whileL W1 B1 fuel [some (tN p), a1, a2, some (.int (s : Int)), some (.ref q)] M = .ok (.nx [some (tN p), a1, a2, some (.int (s : Int)), some (.ref q)]) (M.set q (.lst (iN (orb p s m)))) := by
  intro d j fuel M hm hf hq hm1
  refine ⟨_, _, rfl, ?_⟩
  have hsz : sizeLine = 16777216 := sizeLine_eq
  induction d generalizing j fuel M with
  | zero =>
    cases fuel with
    | zero => omega
    | succ fuel =>
      have hj : j + 1 = m := by omega
      have hb : it p (j + 1) s = s := by rw [hj]; exact P.bk
      have hi := atI_tN (T.it_lt hs j)
      have hap : ap p (it p j s) = s := hb
      rw [hap] at hi
      have hset : M.set q (.lst (iN (orb p s m))) = M := by
        rw [← hj]
        apply List.ext_getElem?
        intro i
        by_cases e : i = q
        · subst e; rw [List.getElem?_set_self (get_lt hq), hq]
        · rw [List.getElem?_set_ne (Ne.symm e)]
      rw [hset]
      have hl := orb_last (p := p) (s := s) (j := j)
      simp only [whileL, xb_cmp, xe_ix, xe_var, xe_neg, xe_k, R.bind, R.stm, itemW, hq, hl, ofO, hi, List.getElem?_cons_zero, List.getElem?_cons_succ, cmpW, eq_ii, Option.map_some, decide_true, Bool.not_true, Bool.false_eq_true, if_false]
  | succ d ih =>
    cases fuel with
    | zero => omega
    | succ fuel =>
      have hne : it p (j + 1) s ≠ s := P.ne (j + 1) (by omega) (by omega)
      have hne' : ¬ ((ap p (it p j s) : Int) = (s : Int)) := fun e => hne (by
        have : ap p (it p j s) = s := by omega
        exact this)
      have hi := atI_tN (T.it_lt hs j)
      have hl := orb_last (p := p) (s := s) (j := j)
      have hlen : (iN (orb p s (j + 1))).length < 16777216 := by rw [iN_length, orb_len]; omega
      have e1 : iN (orb p s (j + 1)) ++ [.int (ap p (it p j s) : Nat)] = iN (orb p s (j + 2)) := by
        rw [orb_succ (j := j + 1), iN_app]; rfl
      have ih' := ih (j + 1) fuel (M.set q (.lst (iN (orb p s (j + 2))))) (by omega) (by omega) (set_at hq)
      rw [List.set_set] at ih'
      rw [← ih']
      rw [whileL]
      simp only [xb_cmp, xe_ix, xe_var, xe_neg, xe_k, R.bind, R.stm, itemW, hq, hl, ofO, hi, List.getElem?_cons_zero, List.getElem?_cons_succ, cmpW, eq_ii, Option.map_some, decide_eq_false hne', Bool.not_false, if_true]
      have hb : evSs (callN D k) (.cons (.expr (.meth .append (.var 4) (.cons (.ix (.var 0) (.ix (.var 4) (.neg (.k (.int 1))))) .nil))) .nil) [some (tN p), a1, a2, some (.int (s : Int)), some (.ref q)] M = .ok (.nx [some (tN p), a1, a2, some (.int (s : Int)), some (.ref q)]) (M.set q (.lst (iN (orb p s (j + 2))))) := by
        simp only [xss_nil, xss_cons, xe_var, xe_k, xe_gk, xe_bin, xe_neg, xe_not, xe_and, xe_or, xe_ite, xe_cmp, xe_chain, xe_tup, xe_lst, xe_call, xe_callK, xe_bi, xe_isi, xe_meth, xe_ix, xe_sl, xe_rev, xe_dnew, xe_lenset, xs_pass, xs_expr, xs_asg, xs_par, xs_setLc, xs_augS, xs_aug, xs_ret, xs_retN, xs_if, xa_nil, xa_cons, xa_star, xb_val, xb_cmp, xb_chain, xb_not, xb_and, xb_or, xo_none, xo_some, xg_name, xg_tup, xg_sub, xgs_nil, xgs_cons, xi_seq, xi_enum, xi_zip, xt_nil, xt_one, evN, R.bind, R.stm, R.calm, itemW, biW, storeW, cmpW, bin_add, bin_sub, bin_mod, bin_mul, bin_fdiv, bin_pow, setAll, finW, ofO, seqW, newL, newT, newOb, truthW, mtW, EV.listAt, mo_append_list, mo_pop_list, mo_extend_list, mo_remove_list, mo_count_list, mo_count_tuple, mo_index_list, mo_get_dict, mo_index_tuple, mo_upper_str, mo_isdigit_str, mo_split_str, mo_join_str, ty_list_tuple, ty_list_dict, ty_list_str, ty_tuple_list, ty_tuple_dict, ty_tuple_str, ty_dict_list, ty_dict_tuple, ty_dict_str, ty_str_list, ty_str_tuple, ty_str_dict, tyW, hq, hl, hi, List.getElem?_cons_zero, List.getElem?_cons_succ, hsz, hlen, and_self, if_true, e1]
      rw [hb]
def Reps (p : List Nat) (s : Nat) : List Nat := (List.range s).filter (isRep p)
theorem reps_succ {p : List Nat} {s : Nat} : Reps p (s + 1) = if isRep p s = true then Reps p s ++ [s] else Reps p s := by
  unfold Reps
  rw [List.range_succ, List.filter_append]
  by_cases h : isRep p s = true
  · simp [h]
  · simp [h]
theorem mem_gone {p : List Nat} (T : Tn p) {s : Nat} (hs : s < p.length) : (∃ r, r ∈ Reps p s ∧ s ∈ ring p r) ↔ isRep p s = false := by
  constructor
  · rintro ⟨r, hr, h⟩
    obtain ⟨h1, h2⟩ := List.mem_filter.mp hr
    have hrs := List.mem_range.mp h1
    cases hc : isRep p s with
    | false => rfl
    | true =>
      have := rep_uniq T (by omega) hs h2 hc h (by simp [ring])
      omega
  · intro h
    obtain ⟨r, h1, h2, h3, h4⟩ := rep_of T hs
    refine ⟨r, List.mem_filter.mpr ⟨List.mem_range.mpr ?_, h2⟩, h3⟩
    rcases Nat.lt_or_eq_of_le h4 with c | c
    · exact c
    · subst c; rw [h] at h2; cases h2
/-- what the loop of _law_walked keeps -/
structure WInv (p : List Nat) (M0 : Mem) (s : Nat) (ρ : Sl) (M : Mem) : Prop where
  ex : ∃ (gp : Nat) (G : List Nat) (x3 x4 : Option W), ρ = [some (tN p), some (.ref gp), some (.ref (M0.length + 1)), x3, x4] ∧ M[gp]? = some (.lst (iN G)) ∧ M0.length ≤ gp ∧ gp ≠ M0.length + 1 ∧ (∀ x, x ∈ G ↔ ∃ r, r ∈ Reps p s ∧ x ∈ ring p r) ∧ G.length ≤ 1000 * s
  fd : M[M0.length + 1]? = some (.lst ((Reps p s).map fun r => tN (ring p r)))
  sm : Same [] M0 M
theorem walked_step {k : Nat} {p : List Nat} {M0 : Mem} (T : Tn p) (hl : p.length ≤ 1000) {s : Nat} {ρ : Sl} {M : Mem} (hs : s < p.length) (I : WInv p M0 s ρ M) :
    ∃ ρ1 ρ2 M2, evN (.one 3) (.one (.int (s : Int))) ρ M = .ok ρ1 M ∧ evSs (callN D k) (CS.bd (c__law_walked.nth 1)) ρ1 M = .ok (.nx ρ2) M2 ∧ WInv p M0 (s + 1) ρ2 M2 := by
  obtain ⟨⟨gp, G, x3, x4, rfl, hg, hgp, hne, hG, hGl⟩, hfd, hsm⟩ := I
  have hin := in_ints (x := s) hg
  have hlt := get_lt hg
  have hlf := get_lt hfd
  have hm0 : M0.length ≤ M.length := hsm.1
  have hmem : decide (s ∈ G) = !isRep p s := by
    by_cases h : isRep p s = true
    · rw [h]
      exact decide_eq_false fun z => by
        have := (mem_gone T hs).mp ((hG s).mp z)
        rw [h] at this
        cases this
    · have h' : isRep p s = false := by simpa using h
      rw [h']
      exact decide_eq_true ((hG s).mpr ((mem_gone T hs).mpr h'))
  rw [hmem] at hin
  cases hrep : isRep p s with
  | false =>
    rw [hrep] at hin
    refine ⟨_, [some (tN p), some (.ref gp), some (.ref (M0.length + 1)), some (.int (s : Int)), x4], M, rfl, ?_, ⟨⟨gp, G, _, _, rfl, hg, hgp, hne, ?_, by omega⟩, ?_, hsm⟩⟩
    · simp [CS.bd, CSs.nth, c__law_walked, xss_nil, xss_cons, xe_var, xe_k, xe_gk, xe_bin, xe_neg, xe_not, xe_and, xe_or, xe_ite, xe_cmp, xe_chain, xe_tup, xe_lst, xe_call, xe_callK, xe_bi, xe_isi, xe_meth, xe_ix, xe_sl, xe_rev, xe_dnew, xe_lenset, xs_pass, xs_expr, xs_asg, xs_par, xs_setLc, xs_augS, xs_aug, xs_ret, xs_retN, xs_if, xa_nil, xa_cons, xa_star, xb_val, xb_cmp, xb_chain, xb_not, xb_and, xb_or, xo_none, xo_some, xg_name, xg_tup, xg_sub, xgs_nil, xgs_cons, xi_seq, xi_enum, xi_zip, xt_nil, xt_one, evN, R.bind, R.stm, R.calm, itemW, atI, ixN, biW, storeW, cmpW, bin_add, bin_sub, bin_mod, bin_mul, bin_fdiv, bin_pow, setAll, finW, ofO, seqW, newL, newT, newOb, truthW, mtW, EV.listAt, mo_append_list, mo_pop_list, mo_extend_list, mo_remove_list, mo_count_list, mo_count_tuple, mo_index_list, mo_get_dict, mo_index_tuple, mo_upper_str, mo_isdigit_str, mo_split_str, mo_join_str, ty_list_tuple, ty_list_dict, ty_list_str, ty_tuple_list, ty_tuple_dict, ty_tuple_str, ty_dict_list, ty_dict_tuple, ty_dict_str, ty_str_list, ty_str_tuple, ty_str_dict, hin]
    · rw [reps_succ, hrep]; exact hG
    · rw [reps_succ, hrep]; exact hfd
  | true =>
    rw [hrep] at hin
    obtain ⟨m, P⟩ := T.per hs
    have hml := P.le
    have h1 : (M ++ [Ob.lst [.int (s : Int)]])[M.length]? = some (.lst (iN (orb p s 1))) := by rw [at0]; simp [orb, iN, it]
    obtain ⟨W1, B1, e1, e2⟩ := ring_loop (k := k) (q := M.length) (a1 := some (.ref gp)) (a2 := some (.ref (M0.length + 1))) T hs P (m - 1) 0 whileFuel (M ++ [Ob.lst [.int (s : Int)]]) (by have := P.pos; omega) (by unfold whileFuel; omega) h1 (by omega)
    rw [e2] at e1
    have hset : (M ++ [Ob.lst [.int (s : Int)]]).set M.length (.lst (iN (orb p s m))) = M ++ [.lst (iN (orb p s m))] := by simp
    rw [hset] at e1
    have horb : orb p s m = ring p s := (ring_eq P).symm
    rw [horb] at e1
    have hrl := ring_len P
    have b1 : (M ++ [Ob.lst (iN (ring p s))])[gp]? = some (.lst (iN G)) := app_at hg
    have b2 : (M ++ [Ob.lst (iN (ring p s))])[M.length]? = some (.lst (iN (ring p s))) := at0
    have hsz : sizeLine = 16777216 := sizeLine_eq
    have hs1000 : s < 1000 := by omega
    have b3 := bin_addL b1 b2 (by rw [hsz, iN_length, iN_length, hrl]; omega)
    have b4 : ((M ++ [Ob.lst (iN (ring p s))]) ++ [Ob.lst (iN G ++ iN (ring p s))])[M0.length + 1]? = some (.lst ((Reps p s).map fun r => tN (ring p r))) := app_at (app_at hfd)
    have b5 : ((M ++ [Ob.lst (iN (ring p s))]) ++ [Ob.lst (iN G ++ iN (ring p s))])[M.length]? = some (.lst (iN (ring p s))) := app_at b2
    have hrl2 : (Reps p s).length < 16777216 := by
      have : (Reps p s).length ≤ s := by
        have := List.length_filter_le (isRep p) (List.range s)
        simpa [Reps] using this
      omega
    refine ⟨[some (tN p), some (.ref gp), some (.ref (M0.length + 1)), some (.int (s : Int)), x4], [some (tN p), some (.ref (M.length + 1)), some (.ref (M0.length + 1)), some (.int (s : Int)), some (.ref M.length)], ((M ++ [Ob.lst (iN (ring p s))]) ++ [Ob.lst (iN G ++ iN (ring p s))]).set (M0.length + 1) (Ob.lst (((Reps p s).map fun r => tN (ring p r)) ++ [tN (ring p s)])), rfl, ?_, ⟨⟨M.length + 1, G ++ ring p s, _, _, rfl, ?_, by omega, by omega, ?_, ?_⟩, ?_, ?_⟩⟩
    · have hbody : evSs (callN D k) (((CS.bd (c__law_walked.nth 1)).nth 0).bd) [some (tN p), some (.ref gp), some (.ref (M0.length + 1)), some (.int (s : Int)), x4] M = .ok (.nx [some (tN p), some (.ref (M.length + 1)), some (.ref (M0.length + 1)), some (.int (s : Int)), some (.ref M.length)]) (((M ++ [Ob.lst (iN (ring p s))]) ++ [Ob.lst (iN G ++ iN (ring p s))]).set (M0.length + 1) (Ob.lst (((Reps p s).map fun r => tN (ring p r)) ++ [tN (ring p s)]))) := by
        show evSs (callN D k) (.cons ((((CS.bd (c__law_walked.nth 1)).nth 0).bd).nth 0) (.cons ((((CS.bd (c__law_walked.nth 1)).nth 0).bd).nth 1) (.cons ((((CS.bd (c__law_walked.nth 1)).nth 0).bd).nth 2) (.cons ((((CS.bd (c__law_walked.nth 1)).nth 0).bd).nth 3) .nil)))) _ M = _
        have s0 : evS (callN D k) ((((CS.bd (c__law_walked.nth 1)).nth 0).bd).nth 0) [some (tN p), some (.ref gp), some (.ref (M0.length + 1)), some (.int (s : Int)), x4] M = .ok (.nx [some (tN p), some (.ref gp), some (.ref (M0.length + 1)), some (.int (s : Int)), some (.ref M.length)]) (M ++ [Ob.lst [.int (s : Int)]]) := by
          simp [CS.bd, CSs.nth, c__law_walked, xss_nil, xss_cons, xe_var, xe_k, xe_gk, xe_bin, xe_neg, xe_not, xe_and, xe_or, xe_ite, xe_cmp, xe_chain, xe_tup, xe_lst, xe_call, xe_callK, xe_bi, xe_isi, xe_meth, xe_ix, xe_sl, xe_rev, xe_dnew, xe_lenset, xs_pass, xs_expr, xs_asg, xs_par, xs_setLc, xs_augS, xs_aug, xs_ret, xs_retN, xs_if, xa_nil, xa_cons, xa_star, xb_val, xb_cmp, xb_chain, xb_not, xb_and, xb_or, xo_none, xo_some, xg_name, xg_tup, xg_sub, xgs_nil, xgs_cons, xi_seq, xi_enum, xi_zip, xt_nil, xt_one, evN, R.bind, R.stm, R.calm, itemW, atI, ixN, biW, storeW, cmpW, bin_add, bin_sub, bin_mod, bin_mul, bin_fdiv, bin_pow, setAll, finW, ofO, seqW, newL, newT, newOb, truthW, mtW, EV.listAt, mo_append_list, mo_pop_list, mo_extend_list, mo_remove_list, mo_count_list, mo_count_tuple, mo_index_list, mo_get_dict, mo_index_tuple, mo_upper_str, mo_isdigit_str, mo_split_str, mo_join_str, ty_list_tuple, ty_list_dict, ty_list_str, ty_tuple_list, ty_tuple_dict, ty_tuple_str, ty_dict_list, ty_dict_tuple, ty_dict_str, ty_str_list, ty_str_tuple, ty_str_dict, hsz]
        have s2 : evS (callN D k) ((((CS.bd (c__law_walked.nth 1)).nth 0).bd).nth 2) [some (tN p), some (.ref gp), some (.ref (M0.length + 1)), some (.int (s : Int)), some (.ref M.length)] (M ++ [Ob.lst (iN (ring p s))]) = .ok (.nx [some (tN p), some (.ref (M.length + 1)), some (.ref (M0.length + 1)), some (.int (s : Int)), some (.ref M.length)]) ((M ++ [Ob.lst (iN (ring p s))]) ++ [Ob.lst (iN G ++ iN (ring p s))]) := by
          simp only [CS.bd, CSs.nth, c__law_walked, xss_nil, xss_cons, xe_var, xe_k, xe_gk, xe_bin, xe_neg, xe_not, xe_and, xe_or, xe_ite, xe_cmp, xe_chain, xe_tup, xe_lst, xe_call, xe_callK, xe_bi, xe_isi, xe_meth, xe_ix, xe_sl, xe_rev, xe_dnew, xe_lenset, xs_pass, xs_expr, xs_asg, xs_par, xs_setLc, xs_augS, xs_aug, xs_ret, xs_retN, xs_if, xa_nil, xa_cons, xa_star, xb_val, xb_cmp, xb_chain, xb_not, xb_and, xb_or, xo_none, xo_some, xg_name, xg_tup, xg_sub, xgs_nil, xgs_cons, xi_seq, xi_enum, xi_zip, xt_nil, xt_one, evN, R.bind, R.stm, R.calm, itemW, atI, ixN, biW, storeW, cmpW, bin_add, bin_sub, bin_mod, bin_mul, bin_fdiv, bin_pow, setAll, finW, ofO, seqW, newL, newT, newOb, truthW, mtW, EV.listAt, mo_append_list, mo_pop_list, mo_extend_list, mo_remove_list, mo_count_list, mo_count_tuple, mo_index_list, mo_get_dict, mo_index_tuple, mo_upper_str, mo_isdigit_str, mo_split_str, mo_join_str, ty_list_tuple, ty_list_dict, ty_list_str, ty_tuple_list, ty_tuple_dict, ty_tuple_str, ty_dict_list, ty_dict_tuple, ty_dict_str, ty_str_list, ty_str_tuple, ty_str_dict, List.getElem?_cons_zero, List.getElem?_cons_succ, b3, List.set_cons_succ, List.set_cons_zero, List.length_append, List.length_cons, List.length_nil, Nat.zero_add]
        have s3 : evS (callN D k) ((((CS.bd (c__law_walked.nth 1)).nth 0).bd).nth 3) [some (tN p), some (.ref (M.length + 1)), some (.ref (M0.length + 1)), some (.int (s : Int)), some (.ref M.length)] ((M ++ [Ob.lst (iN (ring p s))]) ++ [Ob.lst (iN G ++ iN (ring p s))]) = .ok (.nx [some (tN p), some (.ref (M.length + 1)), some (.ref (M0.length + 1)), some (.int (s : Int)), some (.ref M.length)]) (((M ++ [Ob.lst (iN (ring p s))]) ++ [Ob.lst (iN G ++ iN (ring p s))]).set (M0.length + 1) (Ob.lst (((Reps p s).map fun r => tN (ring p r)) ++ [tN (ring p s)]))) := by
          simp only [CS.bd, CSs.nth, c__law_walked, xss_nil, xss_cons, xe_var, xe_k, xe_gk, xe_bin, xe_neg, xe_not, xe_and, xe_or, xe_ite, xe_cmp, xe_chain, xe_tup, xe_lst, xe_call, xe_callK, xe_bi, xe_isi, xe_meth, xe_ix, xe_sl, xe_rev, xe_dnew, xe_lenset, xs_pass, xs_expr, xs_asg, xs_par, xs_setLc, xs_augS, xs_aug, xs_ret, xs_retN, xs_if, xa_nil, xa_cons, xa_star, xb_val, xb_cmp, xb_chain, xb_not, xb_and, xb_or, xo_none, xo_some, xg_name, xg_tup, xg_sub, xgs_nil, xgs_cons, xi_seq, xi_enum, xi_zip, xt_nil, xt_one, evN, R.bind, R.stm, R.calm, itemW, atI, ixN, biW, storeW, cmpW, bin_add, bin_sub, bin_mod, bin_mul, bin_fdiv, bin_pow, setAll, finW, ofO, seqW, newL, newT, newOb, truthW, mtW, EV.listAt, mo_append_list, mo_pop_list, mo_extend_list, mo_remove_list, mo_count_list, mo_count_tuple, mo_index_list, mo_get_dict, mo_index_tuple, mo_upper_str, mo_isdigit_str, mo_split_str, mo_join_str, ty_list_tuple, ty_list_dict, ty_list_str, ty_tuple_list, ty_tuple_dict, ty_tuple_str, ty_dict_list, ty_dict_tuple, ty_dict_str, ty_str_list, ty_str_tuple, ty_str_dict, List.getElem?_cons_zero, List.getElem?_cons_succ, tyW, b4, b5, List.length_map, hsz, hrl2, and_self, if_true]
        rw [evSs_cons s0, evSs_cons e1, evSs_cons s2, evSs_cons s3, evSs]
      have ht : evB (callN D k) (CS.ts ((CS.bd (c__law_walked.nth 1)).nth 0)) [some (tN p), some (.ref gp), some (.ref (M0.length + 1)), some (.int (s : Int)), x4] M = .ok true M := by
        simp [CS.ts, CS.bd, CSs.nth, c__law_walked, xss_nil, xss_cons, xe_var, xe_k, xe_gk, xe_bin, xe_neg, xe_not, xe_and, xe_or, xe_ite, xe_cmp, xe_chain, xe_tup, xe_lst, xe_call, xe_callK, xe_bi, xe_isi, xe_meth, xe_ix, xe_sl, xe_rev, xe_dnew, xe_lenset, xs_pass, xs_expr, xs_asg, xs_par, xs_setLc, xs_augS, xs_aug, xs_ret, xs_retN, xs_if, xa_nil, xa_cons, xa_star, xb_val, xb_cmp, xb_chain, xb_not, xb_and, xb_or, xo_none, xo_some, xg_name, xg_tup, xg_sub, xgs_nil, xgs_cons, xi_seq, xi_enum, xi_zip, xt_nil, xt_one, evN, R.bind, R.stm, R.calm, itemW, atI, ixN, biW, storeW, cmpW, bin_add, bin_sub, bin_mod, bin_mul, bin_fdiv, bin_pow, setAll, finW, ofO, seqW, newL, newT, newOb, truthW, mtW, EV.listAt, mo_append_list, mo_pop_list, mo_extend_list, mo_remove_list, mo_count_list, mo_count_tuple, mo_index_list, mo_get_dict, mo_index_tuple, mo_upper_str, mo_isdigit_str, mo_split_str, mo_join_str, ty_list_tuple, ty_list_dict, ty_list_str, ty_tuple_list, ty_tuple_dict, ty_tuple_str, ty_dict_list, ty_dict_tuple, ty_dict_str, ty_str_list, ty_str_tuple, ty_str_dict, hin]
      show (((evB (callN D k) (CS.ts ((CS.bd (c__law_walked.nth 1)).nth 0)) [some (tN p), some (.ref gp), some (.ref (M0.length + 1)), some (.int (s : Int)), x4] M).stm _ fun c M1 => if c = true then evSs (callN D k) (((CS.bd (c__law_walked.nth 1)).nth 0).bd) _ M1 else _).bind _) = _
      rw [ht]
      simp only [R.stm, if_true]
      rw [hbody]
      rfl
    · rw [List.getElem?_set_ne (by omega), iN_app]
      have := at0 (M := M ++ [Ob.lst (iN (ring p s))]) (o0 := .lst (iN G ++ iN (ring p s))) (g := [])
      rw [List.length_append] at this
      exact this
    · intro x
      rw [List.mem_append, reps_succ, if_pos hrep, hG]
      constructor
      · rintro (⟨r, h1, h2⟩ | h)
        · exact ⟨r, List.mem_append_left _ h1, h2⟩
        · exact ⟨s, by simp, h⟩
      · rintro ⟨r, h1, h2⟩
        rcases List.mem_append.mp h1 with c | c
        · exact .inl ⟨r, c, h2⟩
        · rw [List.mem_singleton.mp c] at h2
          exact .inr h2
    · rw [List.length_append, hrl]; omega
    · rw [set_at b4, reps_succ, if_pos hrep]; simp
    · refine ⟨by have := hsm.1; simp; omega, fun j o hj ho => ?_⟩
      have := get_lt ho
      rw [List.getElem?_set_ne (by omega)]
      exact app_at (app_at (hsm.2 j o hj ho))
theorem Same.split0 {M M' : Mem} (h : Same [] M M') : M' = M ++ M'.drop M.length := by
  have : M'.take M.length = M := by
    apply List.ext_getElem?
    intro j
    rw [List.getElem?_take]
    by_cases hj : j < M.length
    · rw [if_pos hj, List.getElem?_eq_getElem hj]
      exact h.2 j _ (by simp) (List.getElem?_eq_getElem hj)
    · rw [if_neg hj, List.getElem?_eq_none (by omega)]
  conv => lhs; rw [← List.take_append_drop M.length M', this]
theorem trim_of_same0 {M M' : Mem} {q : Nat} {xs : List W} (h : Same [] M M') (hq : M.length ≤ q) (hx : M'[q]? = some (.lst xs)) (hp : pureWs xs = true) : trim M (.ref q) M' = .ok (.ref M.length) (M ++ [.lst xs]) := by
  have e := Same.split0 h
  rw [e] at hx ⊢
  exact trim_newL hq hx hp
theorem trim_of_sameT {M M' : Mem} {w : W} (h : Same [] M M') (hp : pureW w = true) : trim M w M' = .ok w M := by
  rw [Same.split0 h]
  exact trim_app hp
theorem pure_tNs : ∀ L : List (List Nat), pureWs (L.map tN) = true
  | [] => rfl
  | p :: L => by
    rw [List.map_cons]
    simp only [pureWs, tN_pure, pure_tNs L, Bool.and_self]
theorem iN_at {p : List Nat} {i : Nat} {x : Itm} (h : ((iN p).map Itm.one)[i]? = some x) : i < p.length ∧ x = .one (.int (ap p i : Nat)) := by
  have hi : i < p.length := by
    have := (List.getElem?_eq_some_iff.mp h).1
    simpa [iN] using this
  refine ⟨hi, ?_⟩
  rw [List.getElem?_map, iN_get hi] at h
  cases h
  rfl
theorem ap_range {n i : Nat} (h : i < n) : ap (List.range n) i = i := by
  simp [ap, List.getD_eq_getElem?_getD, List.getElem?_range h]
theorem walked_ok {k : Nat} {p : List Nat} {M : Mem} (T : Tn p) (hl : p.length ≤ 1000) : callN D (k+1) i__law_walked [tN p] M = .ok (.ref M.length) (M ++ [.lst ((rings p).map tN)]) := by
  rw [call_at (d := ⟨1, 5, c__law_walked⟩) (b := c__law_walked) (ρ := [some (tN p), none, none, none, none]) rfl rfl rfl rfl]
  have s0 : evS (callN D k) (c__law_walked.nth 0) [some (tN p), none, none, none, none] M = .ok (.nx [some (tN p), some (.ref M.length), some (.ref (M.length + 1)), none, none]) (M ++ [.lst [], .lst []]) := by
    simp [CSs.nth, c__law_walked, xss_nil, xss_cons, xe_var, xe_k, xe_gk, xe_bin, xe_neg, xe_not, xe_and, xe_or, xe_ite, xe_cmp, xe_chain, xe_tup, xe_lst, xe_call, xe_callK, xe_bi, xe_isi, xe_meth, xe_ix, xe_sl, xe_rev, xe_dnew, xe_lenset, xs_pass, xs_expr, xs_asg, xs_par, xs_setLc, xs_augS, xs_aug, xs_ret, xs_retN, xs_if, xa_nil, xa_cons, xa_star, xb_val, xb_cmp, xb_chain, xb_not, xb_and, xb_or, xo_none, xo_some, xg_name, xg_tup, xg_sub, xgs_nil, xgs_cons, xi_seq, xi_enum, xi_zip, xt_nil, xt_one, evN, R.bind, R.stm, R.calm, itemW, atI, ixN, biW, storeW, cmpW, bin_add, bin_sub, bin_mod, bin_mul, bin_fdiv, bin_pow, setAll, finW, ofO, seqW, newL, newT, newOb, truthW, mtW, EV.listAt, mo_append_list, mo_pop_list, mo_extend_list, mo_remove_list, mo_count_list, mo_count_tuple, mo_index_list, mo_get_dict, mo_index_tuple, mo_upper_str, mo_isdigit_str, mo_split_str, mo_join_str, ty_list_tuple, ty_list_dict, ty_list_str, ty_tuple_list, ty_tuple_dict, ty_tuple_str, ty_dict_list, ty_dict_tuple, ty_dict_str, ty_str_list, ty_str_tuple, ty_str_dict]
  have I0 : WInv p M 0 [some (tN p), some (.ref M.length), some (.ref (M.length + 1)), none, none] (M ++ [.lst [], .lst []]) :=
    ⟨⟨M.length, [], none, none, rfl, at0, Nat.le_refl _, by omega, fun x => by simp [Reps], by simp⟩, at1, Same.app⟩
  obtain ⟨ρ', M', e, I⟩ := forL_ix (g := evN (.one 3)) (body := evSs (callN D k) (CS.bd (c__law_walked.nth 1))) (gs := []) (Inv := fun s ρ M' => WInv p M s ρ M') (fun _ _ _ _ => guards_nil) ((iN (List.range p.length)).map .one) 0 _ _ (fun i x hx ρ M1 hI => by
    obtain ⟨hi, rfl⟩ := iN_at hx
    rw [List.length_range] at hi
    rw [ap_range hi]
    rw [Nat.zero_add] at hI ⊢
    obtain ⟨ρ1, ρ2, M2, h1, h2, h3⟩ := walked_step (k := k) T hl hi hI
    exact ⟨ρ1, M1, ρ2, M2, h1, h2, h3⟩) I0
  have hlen : 0 + ((iN (List.range p.length)).map Itm.one).length = p.length := by simp [iN]
  rw [hlen] at I
  obtain ⟨⟨gp, G, x3, x4, rfl, hg, hgp, hne, hG, hGl⟩, hfd, hsm⟩ := I
  have s1 : evS (callN D k) (c__law_walked.nth 1) [some (tN p), some (.ref M.length), some (.ref (M.length + 1)), none, none] (M ++ [.lst [], .lst []]) = .ok (.nx [some (tN p), some (.ref gp), some (.ref (M.length + 1)), x3, x4]) M' := by
    show (evI (callN D k) (.range (.cons (.bi .len (.cons (.var 0) .nil)) .nil)) _ _).stm _ _ = _
    rw [ei_rlen (n := p.length) rfl (iN_length p) hl]
    exact e
  have s2 : evS (callN D k) (c__law_walked.nth 2) [some (tN p), some (.ref gp), some (.ref (M.length + 1)), x3, x4] M' = .ok (.ret (.ref (M.length + 1))) M' := by
    simp [CSs.nth, c__law_walked, xss_nil, xss_cons, xe_var, xe_k, xe_gk, xe_bin, xe_neg, xe_not, xe_and, xe_or, xe_ite, xe_cmp, xe_chain, xe_tup, xe_lst, xe_call, xe_callK, xe_bi, xe_isi, xe_meth, xe_ix, xe_sl, xe_rev, xe_dnew, xe_lenset, xs_pass, xs_expr, xs_asg, xs_par, xs_setLc, xs_augS, xs_aug, xs_ret, xs_retN, xs_if, xa_nil, xa_cons, xa_star, xb_val, xb_cmp, xb_chain, xb_not, xb_and, xb_or, xo_none, xo_some, xg_name, xg_tup, xg_sub, xgs_nil, xgs_cons, xi_seq, xi_enum, xi_zip, xt_nil, xt_one, evN, R.bind, R.stm, R.calm, itemW, atI, ixN, biW, storeW, cmpW, bin_add, bin_sub, bin_mod, bin_mul, bin_fdiv, bin_pow, setAll, finW, ofO, seqW, newL, newT, newOb, truthW, mtW, EV.listAt, mo_append_list, mo_pop_list, mo_extend_list, mo_remove_list, mo_count_list, mo_count_tuple, mo_index_list, mo_get_dict, mo_index_tuple, mo_upper_str, mo_isdigit_str, mo_split_str, mo_join_str, ty_list_tuple, ty_list_dict, ty_list_str, ty_tuple_list, ty_tuple_dict, ty_tuple_str, ty_dict_list, ty_dict_tuple, ty_dict_str, ty_str_list, ty_str_tuple, ty_str_dict]
  show finW M (evSs (callN D k) (.cons (c__law_walked.nth 0) (.cons (c__law_walked.nth 1) (.cons (c__law_walked.nth 2) .nil))) _ M) = _
  rw [evSs_cons s0, evSs_cons s1, evSs_ret s2]
  have e3 : (Reps p p.length).map (fun r => tN (ring p r)) = (rings p).map tN := by simp [Reps, rings, List.map_map, Function.comp]
  rw [e3] at hfd
  exact trim_of_same0 hsm (by omega) hfd (pure_tNs _)
/-- the kind of a turn -/
def kindL (p : List Nat) : List Int := ((rings p).map fun r => (r.length : Int))
def kindW (p : List Nat) : W := .tup ((sortI (kindL p)).reverse.map .int)
theorem kind_of_ok {k : Nat} {p : List Nat} {M : Mem} (T : Tn p) (hl : p.length ≤ 1000) : callN D (k+2) i__law_kind [tN p] M = .ok (kindW p) M := by
  rw [call_at (d := ⟨1, 2, c__law_kind⟩) (b := c__law_kind) (ρ := [some (tN p), none]) rfl rfl rfl rfl]
  have hw := walked_ok (k := k) (M := M) T hl
  have hle : (rings p).length ≤ 1000 := by
    have := List.length_filter_le (isRep p) (List.range p.length)
    simp only [rings, List.length_map]
    simp at this
    omega
  have hlc : evE (callN D (k+1)) (.lc (.mk (.one 1) (.seq (.call 8 (.cons (.var 0) .nil))) .nil [1]) (.bi .len (.cons (.var 1) .nil))) [some (tN p), none] M = .ok (.ref (M.length + 1)) (M ++ [.lst ((rings p).map tN), .lst ((kindL p).map .int)]) := by
    have hi : evI (callN D (k+1)) (.seq (.call 8 (.cons (.var 0) .nil))) [some (tN p), none] M = .ok (((rings p).map tN).map .one, [(M.length, (rings p).map tN)]) (M ++ [.lst ((rings p).map tN)]) := by
      have hw : callN D (k+1) 8 [tN p] M = _ := hw
      simp [xss_nil, xss_cons, xe_var, xe_k, xe_gk, xe_bin, xe_neg, xe_not, xe_and, xe_or, xe_ite, xe_cmp, xe_chain, xe_tup, xe_lst, xe_call, xe_callK, xe_bi, xe_isi, xe_meth, xe_ix, xe_sl, xe_rev, xe_dnew, xe_lenset, xs_pass, xs_expr, xs_asg, xs_par, xs_setLc, xs_augS, xs_aug, xs_ret, xs_retN, xs_if, xa_nil, xa_cons, xa_star, xb_val, xb_cmp, xb_chain, xb_not, xb_and, xb_or, xo_none, xo_some, xg_name, xg_tup, xg_sub, xgs_nil, xgs_cons, xi_seq, xi_enum, xi_zip, xt_nil, xt_one, evN, R.bind, R.stm, R.calm, itemW, atI, ixN, biW, storeW, cmpW, bin_add, bin_sub, bin_mod, bin_mul, bin_fdiv, bin_pow, setAll, finW, ofO, seqW, newL, newT, newOb, truthW, mtW, EV.listAt, mo_append_list, mo_pop_list, mo_extend_list, mo_remove_list, mo_count_list, mo_count_tuple, mo_index_list, mo_get_dict, mo_index_tuple, mo_upper_str, mo_isdigit_str, mo_split_str, mo_join_str, ty_list_tuple, ty_list_dict, ty_list_str, ty_tuple_list, ty_tuple_dict, ty_tuple_str, ty_dict_list, ty_dict_tuple, ty_dict_str, ty_str_list, ty_str_tuple, ty_str_dict, hw, iterW, gOf]
    rw [xe_lc, hi]
    simp only [R.bind]
    rw [lcL_map (f := fun w => match w with | .tup xs => .int xs.length | w => w) (fun acc => guards_lst (app_at at0)) (fun x hx acc => ⟨[some (tN p), some x], rfl, rfl, ?_⟩) (by rw [List.length_map, sizeLine_eq]; omega)]
    · have e4 : ((rings p).map tN).map (fun w => match w with | .tup xs => W.int xs.length | w => w) = (kindL p).map .int := by
        simp [kindL, List.map_map, Function.comp, iN_length]
      rw [e4]
      simp [R.calm]
    · obtain ⟨r, hr, rfl⟩ := List.mem_map.mp hx
      simp [xss_nil, xss_cons, xe_var, xe_k, xe_gk, xe_bin, xe_neg, xe_not, xe_and, xe_or, xe_ite, xe_cmp, xe_chain, xe_tup, xe_lst, xe_call, xe_callK, xe_bi, xe_isi, xe_meth, xe_ix, xe_sl, xe_rev, xe_dnew, xe_lenset, xs_pass, xs_expr, xs_asg, xs_par, xs_setLc, xs_augS, xs_aug, xs_ret, xs_retN, xs_if, xa_nil, xa_cons, xa_star, xb_val, xb_cmp, xb_chain, xb_not, xb_and, xb_or, xo_none, xo_some, xg_name, xg_tup, xg_sub, xgs_nil, xgs_cons, xi_seq, xi_enum, xi_zip, xt_nil, xt_one, evN, R.bind, R.stm, R.calm, itemW, atI, ixN, biW, storeW, cmpW, bin_add, bin_sub, bin_mod, bin_mul, bin_fdiv, bin_pow, setAll, finW, ofO, seqW, newL, newT, newOb, truthW, mtW, EV.listAt, mo_append_list, mo_pop_list, mo_extend_list, mo_remove_list, mo_count_list, mo_count_tuple, mo_index_list, mo_get_dict, mo_index_tuple, mo_upper_str, mo_isdigit_str, mo_split_str, mo_join_str, ty_list_tuple, ty_list_dict, ty_list_str, ty_tuple_list, ty_tuple_dict, ty_tuple_str, ty_dict_list, ty_dict_tuple, ty_dict_str, ty_str_list, ty_str_tuple, ty_str_dict]
  have hd : ∀ g, (M ++ Ob.lst ((rings p).map tN) :: Ob.lst ((kindL p).map .int) :: g)[M.length + 1]? = some (Ob.lst ((kindL p).map .int)) := fun g => at1
  have hsorted : evE (callN D (k+1)) (.bi .sorted (.cons (.lc (.mk (.one 1) (.seq (.call 8 (.cons (.var 0) .nil))) .nil [1]) (.bi .len (.cons (.var 1) .nil))) .nil)) [some (tN p), none] M = .ok (.ref (M.length + 2)) (M ++ [.lst ((rings p).map tN), .lst ((kindL p).map .int), .lst ((sortI (kindL p)).map .int)]) := by
    rw [xe_bi, xa_cons, hlc]
    simp [R.bind, xa_nil, biW, seqW, hd, mapO_ints, newOb]
  have hret : evE (callN D (k+1)) (.bi .tuple (.cons (.rev (.bi .sorted (.cons (.lc (.mk (.one 1) (.seq (.call 8 (.cons (.var 0) .nil))) .nil [1]) (.bi .len (.cons (.var 1) .nil))) .nil))) .nil)) [some (tN p), none] M = .ok (kindW p) (M ++ [.lst ((rings p).map tN), .lst ((kindL p).map .int), .lst ((sortI (kindL p)).map .int), .lst ((sortI (kindL p)).map W.int).reverse]) := by
    rw [xe_bi, xa_cons, xe_rev, hsorted]
    have h2 : ∀ g, (M ++ Ob.lst ((rings p).map tN) :: Ob.lst ((kindL p).map .int) :: Ob.lst ((sortI (kindL p)).map .int) :: g)[M.length + 2]? = some (Ob.lst ((sortI (kindL p)).map .int)) := fun g => at2
    have h3 : ∀ g o, (M ++ Ob.lst ((rings p).map tN) :: Ob.lst ((kindL p).map .int) :: Ob.lst ((sortI (kindL p)).map .int) :: o :: g)[M.length + 3]? = some o := fun g o => at3
    simp [R.bind, xa_nil, biW, h2, h3, newOb, kindW, List.map_reverse]
  have s0 : evS (callN D (k+1)) (c__law_kind.nth 0) [some (tN p), none] M = .ok (.ret (kindW p)) (M ++ [.lst ((rings p).map tN), .lst ((kindL p).map .int), .lst ((sortI (kindL p)).map .int), .lst ((sortI (kindL p)).map W.int).reverse]) := by
    show (evE (callN D (k+1)) _ _ M).stm _ _ = _
    rw [hret]
    rfl
  show finW M (evSs (callN D (k+1)) (.cons (c__law_kind.nth 0) .nil) _ M) = _
  rw [evSs_ret s0]
  exact trim_app (tup_pure (pure_ints _))
end GD

namespace GD
open PySem PySem.Spec PyProof.Rows L2 EV PM
/-! Q5: lengths by walking -/
def vis (p : List Nat) (s x : Nat) : Bool := (Reps p s).any fun r => decide (x ∈ ring p r)
def frF (p : List Nat) (s j x : Nat) : Bool := !(vis p s x) && !decide (x ∈ orb p s j)
def frL (p : List Nat) (s j : Nat) : List W := (List.range p.length).map fun x => .bl (frF p s j x)
theorem frL_len {p s j} : (frL p s j).length = p.length := by simp [frL]
theorem frL_get {p s j x} (h : x < p.length) : (frL p s j)[x]? = some (.bl (frF p s j x)) := by simp [frL, List.getElem?_map, List.getElem?_range h]
theorem vis_rep {p : List Nat} (T : Tn p) {s : Nat} (hs : s < p.length) : vis p s s = !isRep p s := by
  cases h : isRep p s with
  | false =>
    obtain ⟨r, h1, h2⟩ := (mem_gone T hs).mpr h
    exact List.any_eq_true.mpr ⟨r, h1, decide_eq_true h2⟩
  | true =>
    cases hv : vis p s s with
    | false => rfl
    | true =>
      obtain ⟨r, h1, h2⟩ := List.any_eq_true.mp hv
      have := (mem_gone T hs).mp ⟨r, h1, of_decide_eq_true h2⟩
      rw [h] at this
      cases this
theorem vis_ring {p : List Nat} (T : Tn p) {s x : Nat} (hs : s < p.length) (hr : isRep p s = true) (hx : x ∈ ring p s) : vis p s x = false := by
  cases hv : vis p s x with
  | false => rfl
  | true =>
    obtain ⟨r, h1, h2⟩ := List.any_eq_true.mp hv
    obtain ⟨h3, h4⟩ := List.mem_filter.mp h1
    have h5 := List.mem_range.mp h3
    have := rep_uniq T (by omega) hs h4 hr (of_decide_eq_true h2) hx
    omega
theorem frL_set {p : List Nat} (T : Tn p) {s j : Nat} (hs : s < p.length) : (frL p s j).set (it p j s) (.bl false) = frL p s (j + 1) := by
  apply List.ext_getElem?
  intro x
  by_cases hx : x < p.length
  · by_cases e : x = it p j s
    · subst e
      rw [List.getElem?_set_self (by rw [frL_len]; exact hx), frL_get hx]
      simp [frF, orb_succ]
    · rw [List.getElem?_set_ne (Ne.symm e), frL_get hx, frL_get hx]
      simp [frF, orb_succ, e]
  · rw [List.getElem?_eq_none (by simp [frL]; omega), List.getElem?_eq_none (by simp [frL]; omega)]
theorem frL_next {p : List Nat} {s m : Nat} (P : Per p s m) (hr : isRep p s = true) : frL p s m = frL p (s + 1) 0 := by
  unfold frL
  apply List.map_congr_left
  intro x _
  congr 1
  have e : orb p s m = ring p s := (ring_eq P).symm
  unfold frF vis
  rw [e, reps_succ, if_pos hr, List.any_append]
  simp [orb]
theorem frL_stay {p : List Nat} {s : Nat} (hr : isRep p s = false) : frL p s 0 = frL p (s + 1) 0 := by
  unfold frL
  apply List.map_congr_left
  intro x _
  congr 1
  unfold frF vis
  rw [reps_succ, hr]
  simp [orb]
theorem free_at {p : List Nat} (T : Tn p) {s m j : Nat} (hs : s < p.length) (P : Per p s m) (hr : isRep p s = true) (hj : j < m) : frF p s j (it p j s) = true := by
  have h1 : it p j s ∈ ring p s := (mem_ring P).mpr ⟨j, rfl⟩
  have h2 : it p j s ∉ orb p s j := fun h => by
    obtain ⟨i, hi, e⟩ := List.mem_map.mp h
    have hi := List.mem_range.mp hi
    have := P.inj T hs (by omega) hj e
    omega
  simp [frF, vis_ring T hs hr h1, h2]
theorem free_end {p : List Nat} {s m : Nat} (P : Per p s m) : frF p s m (it p m s) = false := by
  have : s ∈ orb p s m := List.mem_map.mpr ⟨0, List.mem_range.mpr P.pos, rfl⟩
  rw [P.bk]
  simp [frF, this]
abbrev lenW : CS := (CS.bd (c_lengths_in.nth 1)).nth 1
theorem at_bl {p : List Nat} {s j x : Nat} (h : x < p.length) : atI (frL p s j) (x : Int) = some (.bl (frF p s j x)) := by
  rw [atI_lt (by rw [frL_len]; exact h), frL_get h]
theorem ix_nat {n x : Nat} (h : x < n) : ixN n (x : Int) = some x := by
  unfold ixN
  rw [if_pos (by omega), if_pos (by omega)]
  simp
theorem len_loop' {k q s m : Nat} {p : List Nat} {a2 : Option W} (T : Tn p) (hs : s < p.length) (P : Per p s m) (hr : isRep p s = true) : ∀ (d j fuel : Nat) (M : Mem), j + d = m → d < fuel → M[q]? = some (.lst (frL p s j)) →
    whileL (evB (callN D k) (CS.ts lenW)) (evSs (callN D k) (CS.bd lenW)) fuel [some (tN p), some (.ref q), a2, some (.int (it p j s : Nat)), some (.int (j : Int))] M = .ok (.nx [some (tN p), some (.ref q), a2, some (.int (it p m s : Nat)), some (.int (m : Int))]) (M.set q (.lst (frL p s m)))
  | 0, j, fuel, M, hm, hf, hq => by
    cases fuel with
    | zero => omega
    | succ fuel =>
      have hj : j = m := by omega
      subst hj
      have ha := at_bl (p := p) (s := s) (j := j) (T.it_lt hs j)
      rw [free_end P] at ha
      have hset : M.set q (.lst (frL p s j)) = M := by
        apply List.ext_getElem?
        intro i
        by_cases e : i = q
        · subst e; rw [List.getElem?_set_self (get_lt hq), hq]
        · rw [List.getElem?_set_ne (Ne.symm e)]
      rw [hset]
      simp only [whileL, CS.ts, CS.bd, CSs.nth, lenW, c_lengths_in, xss_nil, xss_cons, xe_var, xe_k, xe_gk, xe_bin, xe_neg, xe_not, xe_and, xe_or, xe_ite, xe_cmp, xe_chain, xe_tup, xe_lst, xe_call, xe_callK, xe_bi, xe_isi, xe_meth, xe_ix, xe_sl, xe_rev, xe_dnew, xe_lenset, xs_pass, xs_expr, xs_asg, xs_par, xs_setLc, xs_augS, xs_aug, xs_ret, xs_retN, xs_if, xa_nil, xa_cons, xa_star, xb_val, xb_cmp, xb_chain, xb_not, xb_and, xb_or, xo_none, xo_some, xg_name, xg_tup, xg_sub, xgs_nil, xgs_cons, xi_seq, xi_enum, xi_zip, xt_nil, xt_one, evN, R.bind, R.stm, R.calm, itemW, biW, storeW, cmpW, bin_add, bin_sub, bin_mod, bin_mul, bin_fdiv, bin_pow, setAll, finW, ofO, seqW, newL, newT, newOb, truthW, mtW, EV.listAt, mo_append_list, mo_pop_list, mo_extend_list, mo_remove_list, mo_count_list, mo_count_tuple, mo_index_list, mo_get_dict, mo_index_tuple, mo_upper_str, mo_isdigit_str, mo_split_str, mo_join_str, ty_list_tuple, ty_list_dict, ty_list_str, ty_tuple_list, ty_tuple_dict, ty_tuple_str, ty_dict_list, ty_dict_tuple, ty_dict_str, ty_str_list, ty_str_tuple, ty_str_dict, hq, ha, List.getElem?_cons_zero, List.getElem?_cons_succ, Bool.false_eq_true, if_false]
  | d + 1, j, fuel, M, hm, hf, hq => by
    cases fuel with
    | zero => omega
    | succ fuel =>
      have hlt := T.it_lt hs j
      have ha := at_bl (p := p) (s := s) (j := j) hlt
      rw [free_at T hs P hr (by omega)] at ha
      have hi := atI_tN hlt
      have hx := ix_nat (n := (frL p s j).length) (x := it p j s) (by rw [frL_len]; exact hlt)
      have ih := len_loop' (k := k) (a2 := a2) T hs P hr d (j + 1) fuel (M.set q (.lst (frL p s (j + 1)))) (by omega) (by omega) (set_at hq)
      rw [List.set_set] at ih
      rw [← ih]
      have ht : evB (callN D k) (CS.ts lenW) [some (tN p), some (.ref q), a2, some (.int (it p j s : Nat)), some (.int (j : Int))] M = .ok true M := by
        simp only [CS.ts, CS.bd, CSs.nth, lenW, c_lengths_in, xss_nil, xss_cons, xe_var, xe_k, xe_gk, xe_bin, xe_neg, xe_not, xe_and, xe_or, xe_ite, xe_cmp, xe_chain, xe_tup, xe_lst, xe_call, xe_callK, xe_bi, xe_isi, xe_meth, xe_ix, xe_sl, xe_rev, xe_dnew, xe_lenset, xs_pass, xs_expr, xs_asg, xs_par, xs_setLc, xs_augS, xs_aug, xs_ret, xs_retN, xs_if, xa_nil, xa_cons, xa_star, xb_val, xb_cmp, xb_chain, xb_not, xb_and, xb_or, xo_none, xo_some, xg_name, xg_tup, xg_sub, xgs_nil, xgs_cons, xi_seq, xi_enum, xi_zip, xt_nil, xt_one, evN, R.bind, R.stm, R.calm, itemW, biW, storeW, cmpW, bin_add, bin_sub, bin_mod, bin_mul, bin_fdiv, bin_pow, setAll, finW, ofO, seqW, newL, newT, newOb, truthW, mtW, EV.listAt, mo_append_list, mo_pop_list, mo_extend_list, mo_remove_list, mo_count_list, mo_count_tuple, mo_index_list, mo_get_dict, mo_index_tuple, mo_upper_str, mo_isdigit_str, mo_split_str, mo_join_str, ty_list_tuple, ty_list_dict, ty_list_str, ty_tuple_list, ty_tuple_dict, ty_tuple_str, ty_dict_list, ty_dict_tuple, ty_dict_str, ty_str_list, ty_str_tuple, ty_str_dict, hq, ha, List.getElem?_cons_zero, List.getElem?_cons_succ]
      have hb : evSs (callN D k) (CS.bd lenW) [some (tN p), some (.ref q), a2, some (.int (it p j s : Nat)), some (.int (j : Int))] M = .ok (.nx [some (tN p), some (.ref q), a2, some (.int (it p (j + 1) s : Nat)), some (.int ((j + 1 : Nat) : Int))]) (M.set q (.lst (frL p s (j + 1)))) := by
        have e2 : (frL p s j).set (it p j s) (.bl false) = frL p s (j + 1) := frL_set T hs
        have e3 : it p (j + 1) s = ap p (it p j s) := rfl
        have e4 : ((j + 1 : Nat) : Int) = (j : Int) + 1 := by omega
        rw [e3, e4]
        simp only [CS.bd, CSs.nth, lenW, c_lengths_in, xss_nil, xss_cons, xe_var, xe_k, xe_gk, xe_bin, xe_neg, xe_not, xe_and, xe_or, xe_ite, xe_cmp, xe_chain, xe_tup, xe_lst, xe_call, xe_callK, xe_bi, xe_isi, xe_meth, xe_ix, xe_sl, xe_rev, xe_dnew, xe_lenset, xs_pass, xs_expr, xs_asg, xs_par, xs_setLc, xs_augS, xs_aug, xs_ret, xs_retN, xs_if, xa_nil, xa_cons, xa_star, xb_val, xb_cmp, xb_chain, xb_not, xb_and, xb_or, xo_none, xo_some, xg_name, xg_tup, xg_sub, xgs_nil, xgs_cons, xi_seq, xi_enum, xi_zip, xt_nil, xt_one, evN, R.bind, R.stm, R.calm, itemW, biW, storeW, cmpW, bin_add, bin_sub, bin_mod, bin_mul, bin_fdiv, bin_pow, setAll, finW, ofO, seqW, newL, newT, newOb, truthW, mtW, EV.listAt, mo_append_list, mo_pop_list, mo_extend_list, mo_remove_list, mo_count_list, mo_count_tuple, mo_index_list, mo_get_dict, mo_index_tuple, mo_upper_str, mo_isdigit_str, mo_split_str, mo_join_str, ty_list_tuple, ty_list_dict, ty_list_str, ty_tuple_list, ty_tuple_dict, ty_tuple_str, ty_dict_list, ty_dict_tuple, ty_dict_str, ty_str_list, ty_str_tuple, ty_str_dict, hq, hx, e2, hi, List.getElem?_cons_zero, List.getElem?_cons_succ, List.set_cons_succ, List.set_cons_zero]
      rw [whileL, ht]
      simp only [R.stm, if_true]
      rw [hb]
      rfl
theorem while_stop {t : Sl → Mem → R Bool} {body : Sl → Mem → R Fl} {ρ : Sl} {M M1 : Mem} (h : t ρ M = .ok false M1) : whileL t body whileFuel ρ M = .ok (.nx ρ) M1 := by
  show whileL t body (999999 + 1) ρ M = _
  rw [whileL, h]
  simp [R.stm]
structure LInv (p : List Nat) (M0 : Mem) (s : Nat) (ρ : Sl) (M : Mem) : Prop where
  ex : ∃ (x3 x4 : Option W), ρ = [some (tN p), some (.ref M0.length), some (.ref (M0.length + 1)), x3, x4]
  fr : M[M0.length]? = some (.lst (frL p s 0))
  fd : M[M0.length + 1]? = some (.lst (((Reps p s).map fun r => ((ring p r).length : Int)).map .int))
  sm : Same [] M0 M
theorem len_step {k : Nat} {p : List Nat} {M0 : Mem} (T : Tn p) (hl : p.length ≤ 1000) {s : Nat} {ρ : Sl} {M : Mem} (hs : s < p.length) (I : LInv p M0 s ρ M) :
    ∃ ρ1 ρ2 M2, evN (.one 3) (.one (.int (s : Int))) ρ M = .ok ρ1 M ∧ evSs (callN D k) (CS.bd (c_lengths_in.nth 1)) ρ1 M = .ok (.nx ρ2) M2 ∧ LInv p M0 (s + 1) ρ2 M2 := by
  obtain ⟨⟨x3, x4, rfl⟩, hfr, hfd, hsm⟩ := I
  have hsz : sizeLine = 16777216 := sizeLine_eq
  have s0 : evS (callN D k) ((CS.bd (c_lengths_in.nth 1)).nth 0) [some (tN p), some (.ref M0.length), some (.ref (M0.length + 1)), some (.int (s : Int)), x4] M = .ok (.nx [some (tN p), some (.ref M0.length), some (.ref (M0.length + 1)), some (.int (s : Int)), some (.int 0)]) M := by
    simp [CSs.nth, CS.bd, c_lengths_in, xss_nil, xss_cons, xe_var, xe_k, xe_gk, xe_bin, xe_neg, xe_not, xe_and, xe_or, xe_ite, xe_cmp, xe_chain, xe_tup, xe_lst, xe_call, xe_callK, xe_bi, xe_isi, xe_meth, xe_ix, xe_sl, xe_rev, xe_dnew, xe_lenset, xs_pass, xs_expr, xs_asg, xs_par, xs_setLc, xs_augS, xs_aug, xs_ret, xs_retN, xs_if, xa_nil, xa_cons, xa_star, xb_val, xb_cmp, xb_chain, xb_not, xb_and, xb_or, xo_none, xo_some, xg_name, xg_tup, xg_sub, xgs_nil, xgs_cons, xi_seq, xi_enum, xi_zip, xt_nil, xt_one, evN, R.bind, R.stm, R.calm, itemW, atI, ixN, biW, storeW, cmpW, bin_add, bin_sub, bin_mod, bin_mul, bin_fdiv, bin_pow, setAll, finW, ofO, seqW, newL, newT, newOb, truthW, mtW, EV.listAt, mo_append_list, mo_pop_list, mo_extend_list, mo_remove_list, mo_count_list, mo_count_tuple, mo_index_list, mo_get_dict, mo_index_tuple, mo_upper_str, mo_isdigit_str, mo_split_str, mo_join_str, ty_list_tuple, ty_list_dict, ty_list_str, ty_tuple_list, ty_tuple_dict, ty_tuple_str, ty_dict_list, ty_dict_tuple, ty_dict_str, ty_str_list, ty_str_tuple, ty_str_dict]
  refine ⟨[some (tN p), some (.ref M0.length), some (.ref (M0.length + 1)), some (.int (s : Int)), x4], ?_⟩
  cases hrep : isRep p s with
  | false =>
    have ha := at_bl (p := p) (s := s) (j := 0) hs
    have hf : frF p s 0 s = false := by simp [frF, vis_rep T hs, hrep]
    rw [hf] at ha
    refine ⟨[some (tN p), some (.ref M0.length), some (.ref (M0.length + 1)), some (.int (s : Int)), some (.int 0)], M, rfl, ?_, ⟨⟨_, _, rfl⟩, by rw [hfr, frL_stay hrep], by rw [hfd, reps_succ, hrep]; rfl, hsm⟩⟩
    have s1 : evS (callN D k) lenW [some (tN p), some (.ref M0.length), some (.ref (M0.length + 1)), some (.int (s : Int)), some (.int 0)] M = .ok (.nx [some (tN p), some (.ref M0.length), some (.ref (M0.length + 1)), some (.int (s : Int)), some (.int 0)]) M := by
      show whileL (evB (callN D k) (CS.ts lenW)) (evSs (callN D k) (CS.bd lenW)) whileFuel _ M = _
      refine while_stop ?_
      simp only [CS.ts, CS.bd, CSs.nth, lenW, c_lengths_in, xss_nil, xss_cons, xe_var, xe_k, xe_gk, xe_bin, xe_neg, xe_not, xe_and, xe_or, xe_ite, xe_cmp, xe_chain, xe_tup, xe_lst, xe_call, xe_callK, xe_bi, xe_isi, xe_meth, xe_ix, xe_sl, xe_rev, xe_dnew, xe_lenset, xs_pass, xs_expr, xs_asg, xs_par, xs_setLc, xs_augS, xs_aug, xs_ret, xs_retN, xs_if, xa_nil, xa_cons, xa_star, xb_val, xb_cmp, xb_chain, xb_not, xb_and, xb_or, xo_none, xo_some, xg_name, xg_tup, xg_sub, xgs_nil, xgs_cons, xi_seq, xi_enum, xi_zip, xt_nil, xt_one, evN, R.bind, R.stm, R.calm, itemW, biW, storeW, cmpW, bin_add, bin_sub, bin_mod, bin_mul, bin_fdiv, bin_pow, setAll, finW, ofO, seqW, newL, newT, newOb, truthW, mtW, EV.listAt, mo_append_list, mo_pop_list, mo_extend_list, mo_remove_list, mo_count_list, mo_count_tuple, mo_index_list, mo_get_dict, mo_index_tuple, mo_upper_str, mo_isdigit_str, mo_split_str, mo_join_str, ty_list_tuple, ty_list_dict, ty_list_str, ty_tuple_list, ty_tuple_dict, ty_tuple_str, ty_dict_list, ty_dict_tuple, ty_dict_str, ty_str_list, ty_str_tuple, ty_str_dict, hfr, ha, List.getElem?_cons_zero, List.getElem?_cons_succ]
    have s2 : evS (callN D k) ((CS.bd (c_lengths_in.nth 1)).nth 2) [some (tN p), some (.ref M0.length), some (.ref (M0.length + 1)), some (.int (s : Int)), some (.int 0)] M = .ok (.nx [some (tN p), some (.ref M0.length), some (.ref (M0.length + 1)), some (.int (s : Int)), some (.int 0)]) M := by
      simp [CSs.nth, CS.bd, c_lengths_in, xss_nil, xss_cons, xe_var, xe_k, xe_gk, xe_bin, xe_neg, xe_not, xe_and, xe_or, xe_ite, xe_cmp, xe_chain, xe_tup, xe_lst, xe_call, xe_callK, xe_bi, xe_isi, xe_meth, xe_ix, xe_sl, xe_rev, xe_dnew, xe_lenset, xs_pass, xs_expr, xs_asg, xs_par, xs_setLc, xs_augS, xs_aug, xs_ret, xs_retN, xs_if, xa_nil, xa_cons, xa_star, xb_val, xb_cmp, xb_chain, xb_not, xb_and, xb_or, xo_none, xo_some, xg_name, xg_tup, xg_sub, xgs_nil, xgs_cons, xi_seq, xi_enum, xi_zip, xt_nil, xt_one, evN, R.bind, R.stm, R.calm, itemW, atI, ixN, biW, storeW, cmpW, bin_add, bin_sub, bin_mod, bin_mul, bin_fdiv, bin_pow, setAll, finW, ofO, seqW, newL, newT, newOb, truthW, mtW, EV.listAt, mo_append_list, mo_pop_list, mo_extend_list, mo_remove_list, mo_count_list, mo_count_tuple, mo_index_list, mo_get_dict, mo_index_tuple, mo_upper_str, mo_isdigit_str, mo_split_str, mo_join_str, ty_list_tuple, ty_list_dict, ty_list_str, ty_tuple_list, ty_tuple_dict, ty_tuple_str, ty_dict_list, ty_dict_tuple, ty_dict_str, ty_str_list, ty_str_tuple, ty_str_dict]
    show evSs (callN D k) (.cons ((CS.bd (c_lengths_in.nth 1)).nth 0) (.cons lenW (.cons ((CS.bd (c_lengths_in.nth 1)).nth 2) .nil))) _ M = _
    rw [evSs_cons s0, evSs_cons s1, evSs_cons s2, evSs]
  | true =>
    obtain ⟨m, P⟩ := T.per hs
    have e := len_loop' (k := k) (a2 := some (.ref (M0.length + 1))) T hs P hrep m 0 whileFuel M (by omega) (by have := P.le; unfold whileFuel; omega) hfr
    rw [P.bk] at e
    have b1 : (M.set M0.length (.lst (frL p s m)))[M0.length + 1]? = some (.lst (((Reps p s).map fun r => ((ring p r).length : Int)).map .int)) := by
      rw [List.getElem?_set_ne (by omega)]; exact hfd
    have hrl := ring_len P
    have hlen : (((Reps p s).map fun r => ((ring p r).length : Int)).map W.int).length < 16777216 := by
      have := List.length_filter_le (isRep p) (List.range s)
      simp only [List.length_map, Reps]
      simp at this
      omega
    refine ⟨[some (tN p), some (.ref M0.length), some (.ref (M0.length + 1)), some (.int (s : Int)), some (.int (m : Int))], (M.set M0.length (.lst (frL p s m))).set (M0.length + 1) (Ob.lst (((Reps p s).map fun r => ((ring p r).length : Int)).map .int ++ [.int (m : Int)])), rfl, ?_, ⟨⟨_, _, rfl⟩, ?_, ?_, ?_⟩⟩
    · have s1 : evS (callN D k) lenW [some (tN p), some (.ref M0.length), some (.ref (M0.length + 1)), some (.int (s : Int)), some (.int 0)] M = .ok (.nx [some (tN p), some (.ref M0.length), some (.ref (M0.length + 1)), some (.int (s : Int)), some (.int (m : Int))]) (M.set M0.length (.lst (frL p s m))) := e
      have hm0 : (0 : Int) < (m : Int) := by have := P.pos; omega
      have s2 : evS (callN D k) ((CS.bd (c_lengths_in.nth 1)).nth 2) [some (tN p), some (.ref M0.length), some (.ref (M0.length + 1)), some (.int (s : Int)), some (.int (m : Int))] (M.set M0.length (.lst (frL p s m))) = .ok (.nx [some (tN p), some (.ref M0.length), some (.ref (M0.length + 1)), some (.int (s : Int)), some (.int (m : Int))]) ((M.set M0.length (.lst (frL p s m))).set (M0.length + 1) (Ob.lst (((Reps p s).map fun r => ((ring p r).length : Int)).map .int ++ [.int (m : Int)]))) := by
        simp only [CSs.nth, CS.bd, c_lengths_in, xss_nil, xss_cons, xe_var, xe_k, xe_gk, xe_bin, xe_neg, xe_not, xe_and, xe_or, xe_ite, xe_cmp, xe_chain, xe_tup, xe_lst, xe_call, xe_callK, xe_bi, xe_isi, xe_meth, xe_ix, xe_sl, xe_rev, xe_dnew, xe_lenset, xs_pass, xs_expr, xs_asg, xs_par, xs_setLc, xs_augS, xs_aug, xs_ret, xs_retN, xs_if, xa_nil, xa_cons, xa_star, xb_val, xb_cmp, xb_chain, xb_not, xb_and, xb_or, xo_none, xo_some, xg_name, xg_tup, xg_sub, xgs_nil, xgs_cons, xi_seq, xi_enum, xi_zip, xt_nil, xt_one, evN, R.bind, R.stm, R.calm, itemW, atI, ixN, biW, storeW, cmpW, bin_add, bin_sub, bin_mod, bin_mul, bin_fdiv, bin_pow, setAll, finW, ofO, seqW, newL, newT, newOb, truthW, mtW, EV.listAt, mo_append_list, mo_pop_list, mo_extend_list, mo_remove_list, mo_count_list, mo_count_tuple, mo_index_list, mo_get_dict, mo_index_tuple, mo_upper_str, mo_isdigit_str, mo_split_str, mo_join_str, ty_list_tuple, ty_list_dict, ty_list_str, ty_tuple_list, ty_tuple_dict, ty_tuple_str, ty_dict_list, ty_dict_tuple, ty_dict_str, ty_str_list, ty_str_tuple, ty_str_dict, List.getElem?_cons_zero, List.getElem?_cons_succ, decide_eq_true hm0, if_true, tyW, b1, hsz, hlen, and_self]
      show evSs (callN D k) (.cons ((CS.bd (c_lengths_in.nth 1)).nth 0) (.cons lenW (.cons ((CS.bd (c_lengths_in.nth 1)).nth 2) .nil))) _ M = _
      rw [evSs_cons s0, evSs_cons s1, evSs_cons s2, evSs]
    · rw [List.getElem?_set_ne (by omega), set_at hfr, frL_next P hrep]
    · rw [set_at b1, reps_succ, if_pos hrep]
      simp [hrl]
    · refine ⟨by have := hsm.1; simp; omega, fun j o hj ho => ?_⟩
      have := get_lt ho
      rw [List.getElem?_set_ne (by omega), List.getElem?_set_ne (by omega)]
      exact hsm.2 j o hj ho
theorem lengths_in_ok {k : Nat} {p : List Nat} {M : Mem} (T : Tn p) (hl : p.length ≤ 1000) : callN D (k+1) i_lengths_in [tN p] M = .ok (kindW p) M := by
  rw [call_at (d := ⟨1, 5, c_lengths_in⟩) (b := c_lengths_in) (ρ := [some (tN p), none, none, none, none]) rfl rfl rfl rfl]
  have hfree : p.map (fun _ => W.bl true) = frL p 0 0 := by
    apply List.ext_getElem?
    intro i
    by_cases h : i < p.length
    · rw [frL_get h, List.getElem?_map, ap_get h]
      simp [frF, vis, Reps, orb]
    · rw [List.getElem?_eq_none (by simp; omega), List.getElem?_eq_none (by rw [frL_len]; omega)]
  have hlc : evE (callN D k) (.lc (.mk (.one 3) (.seq (.var 0)) .nil [3]) (.k (.bl true))) [some (tN p), none, none, none, none] M = .ok (.ref M.length) (M ++ [.lst (frL p 0 0)]) := by
    rw [← hfree]
    exact ev_lcN (f := fun _ => .bl true) (gs := []) rfl (fun _ => guards_nil) (fun x hx acc => rfl) hl
  have s0 : evS (callN D k) (c_lengths_in.nth 0) [some (tN p), none, none, none, none] M = .ok (.nx [some (tN p), some (.ref M.length), some (.ref (M.length + 1)), none, none]) (M ++ [.lst (frL p 0 0), .lst []]) := by
    show (evEs (callN D k) (.cons _ (.cons (.lst .nil) .nil)) _ M).stm _ _ = _
    rw [xa_cons, hlc]
    simp [xss_nil, xss_cons, xe_var, xe_k, xe_gk, xe_bin, xe_neg, xe_not, xe_and, xe_or, xe_ite, xe_cmp, xe_chain, xe_tup, xe_lst, xe_call, xe_callK, xe_bi, xe_isi, xe_meth, xe_ix, xe_sl, xe_rev, xe_dnew, xe_lenset, xs_pass, xs_expr, xs_asg, xs_par, xs_setLc, xs_augS, xs_aug, xs_ret, xs_retN, xs_if, xa_nil, xa_cons, xa_star, xb_val, xb_cmp, xb_chain, xb_not, xb_and, xb_or, xo_none, xo_some, xg_name, xg_tup, xg_sub, xgs_nil, xgs_cons, xi_seq, xi_enum, xi_zip, xt_nil, xt_one, evN, R.bind, R.stm, R.calm, itemW, atI, ixN, biW, storeW, cmpW, bin_add, bin_sub, bin_mod, bin_mul, bin_fdiv, bin_pow, setAll, finW, ofO, seqW, newL, newT, newOb, truthW, mtW, EV.listAt, mo_append_list, mo_pop_list, mo_extend_list, mo_remove_list, mo_count_list, mo_count_tuple, mo_index_list, mo_get_dict, mo_index_tuple, mo_upper_str, mo_isdigit_str, mo_split_str, mo_join_str, ty_list_tuple, ty_list_dict, ty_list_str, ty_tuple_list, ty_tuple_dict, ty_tuple_str, ty_dict_list, ty_dict_tuple, ty_dict_str, ty_str_list, ty_str_tuple, ty_str_dict]
  have I0 : LInv p M 0 [some (tN p), some (.ref M.length), some (.ref (M.length + 1)), none, none] (M ++ [.lst (frL p 0 0), .lst []]) :=
    ⟨⟨none, none, rfl⟩, at0, at1, Same.app⟩
  obtain ⟨ρ', M', e, I⟩ := forL_ix (g := evN (.one 3)) (body := evSs (callN D k) (CS.bd (c_lengths_in.nth 1))) (gs := []) (Inv := fun s ρ M' => LInv p M s ρ M') (fun _ _ _ _ => guards_nil) ((iN (List.range p.length)).map .one) 0 _ _ (fun i x hx ρ M1 hI => by
    obtain ⟨hi, rfl⟩ := iN_at hx
    rw [List.length_range] at hi
    rw [ap_range hi]
    rw [Nat.zero_add] at hI ⊢
    obtain ⟨ρ1, ρ2, M2, h1, h2, h3⟩ := len_step (k := k) T hl hi hI
    exact ⟨ρ1, M1, ρ2, M2, h1, h2, h3⟩) I0
  have hlen : 0 + ((iN (List.range p.length)).map Itm.one).length = p.length := by simp [iN]
  rw [hlen] at I
  obtain ⟨⟨x3, x4, rfl⟩, hfr, hfd, hsm⟩ := I
  have s1 : evS (callN D k) (c_lengths_in.nth 1) [some (tN p), some (.ref M.length), some (.ref (M.length + 1)), none, none] (M ++ [.lst (frL p 0 0), .lst []]) = .ok (.nx [some (tN p), some (.ref M.length), some (.ref (M.length + 1)), x3, x4]) M' := by
    show (evI (callN D k) (.range (.cons (.bi .len (.cons (.var 0) .nil)) .nil)) _ _).stm _ _ = _
    rw [ei_rlen (n := p.length) rfl (iN_length p) hl]
    exact e
  have e3 : (Reps p p.length).map (fun r => ((ring p r).length : Int)) = kindL p := by simp [Reps, kindL, rings, List.map_map, Function.comp]
  rw [e3] at hfd
  have s2 : evS (callN D k) (c_lengths_in.nth 2) [some (tN p), some (.ref M.length), some (.ref (M.length + 1)), x3, x4] M' = .ok (.ret (kindW p)) (M' ++ [.lst ((sortI (kindL p)).map .int), .lst ((sortI (kindL p)).map W.int).reverse]) := by
    simp [CSs.nth, c_lengths_in, xss_nil, xss_cons, xe_var, xe_k, xe_gk, xe_bin, xe_neg, xe_not, xe_and, xe_or, xe_ite, xe_cmp, xe_chain, xe_tup, xe_lst, xe_call, xe_callK, xe_bi, xe_isi, xe_meth, xe_ix, xe_sl, xe_rev, xe_dnew, xe_lenset, xs_pass, xs_expr, xs_asg, xs_par, xs_setLc, xs_augS, xs_aug, xs_ret, xs_retN, xs_if, xa_nil, xa_cons, xa_star, xb_val, xb_cmp, xb_chain, xb_not, xb_and, xb_or, xo_none, xo_some, xg_name, xg_tup, xg_sub, xgs_nil, xgs_cons, xi_seq, xi_enum, xi_zip, xt_nil, xt_one, evN, R.bind, R.stm, R.calm, itemW, atI, ixN, biW, storeW, cmpW, bin_add, bin_sub, bin_mod, bin_mul, bin_fdiv, bin_pow, setAll, finW, ofO, seqW, newL, newT, newOb, truthW, mtW, EV.listAt, mo_append_list, mo_pop_list, mo_extend_list, mo_remove_list, mo_count_list, mo_count_tuple, mo_index_list, mo_get_dict, mo_index_tuple, mo_upper_str, mo_isdigit_str, mo_split_str, mo_join_str, ty_list_tuple, ty_list_dict, ty_list_str, ty_tuple_list, ty_tuple_dict, ty_tuple_str, ty_dict_list, ty_dict_tuple, ty_dict_str, ty_str_list, ty_str_tuple, ty_str_dict, hfd, mapO_ints, kindW, List.map_reverse]
  show finW M (evSs (callN D k) (.cons (c_lengths_in.nth 0) (.cons (c_lengths_in.nth 1) (.cons (c_lengths_in.nth 2) .nil))) _ M) = _
  rw [evSs_cons s0, evSs_cons s1, evSs_ret s2]
  exact trim_of_sameT (hsm.trans Same.app) (tup_pure (pure_ints _))
end GD

namespace GD
open PySem PySem.Spec PyProof.Rows L2 EV
/-- falling from last, each at least 1 -/
def chain (last : Int) : List W → Bool
  | [] => true
  | x :: xs => match x with
    | .int i => decide (1 ≤ i) && decide (i ≤ last) && chain i xs
    | _ => false
def sumW (xs : List W) : Int := ((mapO toInt xs).getD []).sum
def areLen : W → Bool
  | .tup xs => !xs.isEmpty && chain 40 xs && decide (sumW xs ≤ 40)
  | _ => false
theorem chain_ints : ∀ {xs : List W} {last : Int}, chain last xs = true → ∃ ns : List Int, xs = ns.map .int
  | [], _, _ => ⟨[], rfl⟩
  | x :: xs, last, h => by
    unfold chain at h
    split at h
    · next i =>
      simp only [Bool.and_eq_true] at h
      obtain ⟨ns, e⟩ := chain_ints h.2
      exact ⟨i :: ns, by rw [e]; rfl⟩
    · cases h
theorem whole_ok {k : Nat} {w : W} {M : Mem} (h : known M w = true) : callN D (k+1) i_is_whole [w] M = .ok (.bl (isIntW w)) M := by
  rw [call_eq (d := ⟨1, 1, c_is_whole⟩) rfl rfl]
  simp [c_is_whole, evSs, evS, evE, evEs, evB, evG, evGs, evO, evI, evTs, evN, R.bind, R.stm, R.calm, itemW, atI, ixN, biW, storeW, cmpW, bin_add, bin_sub, bin_mod, bin_mul, bin_fdiv, bin_pow, setAll, finW, ofO, seqW, newL, newT, newOb, truthW, mtW, mtOk, mtAll, EV.listAt, isi_int h, isi_bool h, trim_id]
  cases w <;> simp [isIntW, isBlW, trim_id]
abbrev lenB : CSs := CS.bd (c_are_lengths.nth 2)
theorem len_turn {k : Nat} {v x : W} {last : Int} {x2 : Option W} {M : Mem} (h : known M x = true) :
    evSs (callN D (k+1)) lenB [some v, some (.int last), some x] M = match x with
      | .int i => if (decide (1 ≤ i) && decide (i ≤ last)) = true then .ok (.nx [some v, some (.int i), some (.int i)]) M else .ok (.ret (.bl false)) M
      | _ => .ok (.ret (.bl false)) M := by
  cases x with
  | int i =>
    by_cases h1 : 1 ≤ i
    · by_cases h2 : i ≤ last
      · simp [lenB, CS.bd, CSs.nth, c_are_lengths, evSs, evS, evE, evEs, evB, evG, evGs, evO, evI, evTs, evN, R.bind, R.stm, R.calm, itemW, atI, ixN, biW, storeW, cmpW, bin_add, bin_sub, bin_mod, bin_mul, bin_fdiv, bin_pow, setAll, finW, ofO, seqW, newL, newT, newOb, truthW, mtW, mtOk, mtAll, EV.listAt, whole_ok h, isIntW, h1, h2]
      · simp [lenB, CS.bd, CSs.nth, c_are_lengths, evSs, evS, evE, evEs, evB, evG, evGs, evO, evI, evTs, evN, R.bind, R.stm, R.calm, itemW, atI, ixN, biW, storeW, cmpW, bin_add, bin_sub, bin_mod, bin_mul, bin_fdiv, bin_pow, setAll, finW, ofO, seqW, newL, newT, newOb, truthW, mtW, mtOk, mtAll, EV.listAt, whole_ok h, isIntW, h1, h2]
    · simp [lenB, CS.bd, CSs.nth, c_are_lengths, evSs, evS, evE, evEs, evB, evG, evGs, evO, evI, evTs, evN, R.bind, R.stm, R.calm, itemW, atI, ixN, biW, storeW, cmpW, bin_add, bin_sub, bin_mod, bin_mul, bin_fdiv, bin_pow, setAll, finW, ofO, seqW, newL, newT, newOb, truthW, mtW, mtOk, mtAll, EV.listAt, whole_ok h, isIntW, h1]
  | _ => simp [lenB, CS.bd, CSs.nth, c_are_lengths, evSs, evS, evE, evEs, evB, evG, evGs, evO, evI, evTs, evN, R.bind, R.stm, R.calm, itemW, atI, ixN, biW, storeW, cmpW, bin_add, bin_sub, bin_mod, bin_mul, bin_fdiv, bin_pow, setAll, finW, ofO, seqW, newL, newT, newOb, truthW, mtW, mtOk, mtAll, EV.listAt, whole_ok h, isIntW]
theorem len_loop {k : Nat} {v : W} {M : Mem} : ∀ (xs : List W) (last : Int) (x2 : Option W), (∀ x ∈ xs, known M x = true) →
    (chain last xs = true → ∃ l' x2', forL (evN (.one 2)) (evSs (callN D (k+1)) lenB) [] (xs.map .one) [some v, some (.int last), x2] M = .ok (.nx [some v, l', x2']) M) ∧
    (chain last xs = false → forL (evN (.one 2)) (evSs (callN D (k+1)) lenB) [] (xs.map .one) [some v, some (.int last), x2] M = .ok (.ret (.bl false)) M)
  | [], last, x2, _ => ⟨fun _ => ⟨some (.int last), x2, by simp [forL, guards_nil]⟩, fun h => by cases h⟩
  | x :: xs, last, x2, hk => by
    have ht := len_turn (k := k) (v := v) (last := last) (x2 := x2) (hk x List.mem_cons_self)
    have hstep : forL (evN (.one 2)) (evSs (callN D (k+1)) lenB) [] ((x :: xs).map .one) [some v, some (.int last), x2] M = (evSs (callN D (k+1)) lenB [some v, some (.int last), some x] M).bind fun f M2 => match f with
      | .nx ρ2 => forL (evN (.one 2)) (evSs (callN D (k+1)) lenB) [] (xs.map .one) ρ2 M2
      | .cont ρ2 => forL (evN (.one 2)) (evSs (callN D (k+1)) lenB) [] (xs.map .one) ρ2 M2
      | .brk ρ2 => .ok (.nx ρ2) M2
      | .ret w => .ok (.ret w) M2
      | .exc c fs ρ2 => .ok (.exc c fs ρ2) M2 := by
      rw [List.map_cons, forL, if_pos guards_nil]
      rfl
    rw [hstep, ht]
    cases x with
    | int i =>
      simp only
      by_cases hc : (decide (1 ≤ i) && decide (i ≤ last)) = true
      · rw [if_pos hc]
        have ih := len_loop (k := k) (v := v) xs i (some (.int i)) (fun y hy => hk y (List.mem_cons_of_mem _ hy))
        simp only [chain, hc, Bool.true_and, R.bind]
        exact ih
      · rw [if_neg hc]
        have hc' : (decide (1 ≤ i) && decide (i ≤ last)) = false := by simpa using hc
        exact ⟨fun h => (by simp [chain, hc'] at h), fun _ => rfl⟩
    | _ => exact ⟨fun h => (by simp [chain] at h), fun _ => rfl⟩
/-- the elements' types are known -/
def goodK (M : Mem) : W → Bool
  | .tup xs => xs.all (known M)
  | w => known M w
theorem goodK_known {M : Mem} {w : W} (h : goodK M w = true) : known M w = true := by
  cases w <;> first | exact h | rfl
theorem lengths_ok {k : Nat} {w : W} {M : Mem} (h : goodK M w = true) : callN D (k+2) i_are_lengths [w] M = .ok (.bl (areLen w)) M := by
  rw [call_eq (d := ⟨1, 3, c_are_lengths⟩) rfl rfl]
  have hk := goodK_known h
  cases w with
  | tup xs =>
    have hall : ∀ x ∈ xs, known M x = true := by simpa [goodK] using h
    show finW M (evSs (callN D (k+1)) (.cons (c_are_lengths.nth 0) (.cons (c_are_lengths.nth 1) (.cons (c_are_lengths.nth 2) (.cons (c_are_lengths.nth 3) .nil)))) [some (.tup xs), none, none] M) = _
    cases xs with
    | nil =>
      have hs0 : evS (callN D (k+1)) (c_are_lengths.nth 0) [some (.tup []), none, none] M = .ok (.ret (.bl false)) M := by
        simp [CSs.nth, c_are_lengths, evSs, evS, evE, evEs, evB, evG, evGs, evO, evI, evTs, evN, R.bind, R.stm, R.calm, itemW, atI, ixN, biW, storeW, cmpW, bin_add, bin_sub, bin_mod, bin_mul, bin_fdiv, bin_pow, setAll, finW, ofO, seqW, newL, newT, newOb, truthW, mtW, mtOk, mtAll, EV.listAt, isi_tuple hk, isTupW, eq_ii]
      rw [evSs_ret hs0]
      simp [finW, R.bind, R.calm, trim_id, areLen]
    | cons x xs =>
      have hne : ¬ ((xs.length : Int) + 1 = 0) := by omega
      have hs0 : evS (callN D (k+1)) (c_are_lengths.nth 0) [some (.tup (x :: xs)), none, none] M = .ok (.nx [some (.tup (x :: xs)), none, none]) M := by
        simp [CSs.nth, c_are_lengths, evSs, evS, evE, evEs, evB, evG, evGs, evO, evI, evTs, evN, R.bind, R.stm, R.calm, itemW, atI, ixN, biW, storeW, cmpW, bin_add, bin_sub, bin_mod, bin_mul, bin_fdiv, bin_pow, setAll, finW, ofO, seqW, newL, newT, newOb, truthW, mtW, mtOk, mtAll, EV.listAt, isi_tuple hk, isTupW, eq_ii, hne]
      have hs1 : evS (callN D (k+1)) (c_are_lengths.nth 1) [some (.tup (x :: xs)), none, none] M = .ok (.nx [some (.tup (x :: xs)), some (.int 40), none]) M := by
        simp [CSs.nth, c_are_lengths, evSs, evS, evE, evEs, evB, evG, evGs, evO, evI, evTs, evN, R.bind, R.stm, R.calm, itemW, atI, ixN, biW, storeW, cmpW, bin_add, bin_sub, bin_mod, bin_mul, bin_fdiv, bin_pow, setAll, finW, ofO, seqW, newL, newT, newOb, truthW, mtW, mtOk, mtAll, EV.listAt]
      rw [evSs_cons hs0, evSs_cons hs1]
      have hf : evS (callN D (k+1)) (c_are_lengths.nth 2) [some (.tup (x :: xs)), some (.int 40), none] M = forL (evN (.one 2)) (evSs (callN D (k+1)) lenB) [] ((x :: xs).map .one) [some (.tup (x :: xs)), some (.int 40), none] M := rfl
      obtain ⟨l1, l2⟩ := len_loop (k := k) (v := .tup (x :: xs)) (M := M) (x :: xs) 40 none hall
      cases hc : chain 40 (x :: xs) with
      | false =>
        rw [evSs_ret (hf.trans (l2 hc))]
        simp [finW, R.bind, R.calm, trim_id, areLen, hc]
      | true =>
        obtain ⟨l', x2', e⟩ := l1 hc
        obtain ⟨ns, hns⟩ := chain_ints hc
        rw [evSs_cons (hf.trans e)]
        have hs3 : evS (callN D (k+1)) (c_are_lengths.nth 3) [some (.tup (x :: xs)), l', x2'] M = .ok (.ret (.bl (decide (sumW (x :: xs) ≤ 40)))) M := by
          rw [hns]
          simp [CSs.nth, c_are_lengths, evSs, evS, evE, evEs, evB, evG, evGs, evO, evI, evTs, evN, R.bind, R.stm, R.calm, itemW, atI, ixN, biW, storeW, cmpW, bin_add, bin_sub, bin_mod, bin_mul, bin_fdiv, bin_pow, setAll, finW, ofO, seqW, newL, newT, newOb, truthW, mtW, mtOk, mtAll, EV.listAt, mapO_ints, sumW]
        rw [evSs_ret hs3]
        simp [finW, R.bind, R.calm, trim_id, areLen, hc]
  | _ => simp [c_are_lengths, evSs, evS, evE, evEs, evB, evG, evGs, evO, evI, evTs, evN, R.bind, R.stm, R.calm, itemW, atI, ixN, biW, storeW, cmpW, bin_add, bin_sub, bin_mod, bin_mul, bin_fdiv, bin_pow, setAll, finW, ofO, seqW, newL, newT, newOb, truthW, mtW, mtOk, mtAll, EV.listAt, isi_tuple hk, isTupW, areLen, trim_id]
end GD
namespace GD
open PySem PySem.Spec PyProof.Rows L2 EV
def num : W → Bool
  | .int i => decide (1 ≤ i) && decide (i ≤ 40)
  | _ => false
def numsW (xs : List W) : List Int := (mapO toInt xs).getD []
def isKind : W → Bool
  | .tup xs => !xs.isEmpty && xs.all num && (decide (sumW xs ≤ 40) && decide (numsW xs = (sortI (numsW xs)).reverse))
  | _ => false
theorem number_ok {k : Nat} {w : W} {M : Mem} (h : known M w = true) : callN D (k+1) i__law_is_number [w, .int 1, .int 40] M = .ok (.bl (num w)) M := by
  rw [call_eq (d := ⟨3, 3, c__law_is_number⟩) rfl rfl]
  cases w with
  | int i =>
    by_cases h1 : 1 ≤ i
    · simp [c__law_is_number, evSs, evS, evE, evEs, evB, evG, evGs, evO, evI, evTs, evN, R.bind, R.stm, R.calm, itemW, atI, ixN, biW, storeW, cmpW, bin_add, bin_sub, bin_mod, bin_mul, bin_fdiv, bin_pow, setAll, finW, ofO, seqW, newL, newT, newOb, truthW, mtW, mtOk, mtAll, EV.listAt, isi_int h, isi_bool h, isIntW, isBlW, num, h1, trim_id]
    · simp [c__law_is_number, evSs, evS, evE, evEs, evB, evG, evGs, evO, evI, evTs, evN, R.bind, R.stm, R.calm, itemW, atI, ixN, biW, storeW, cmpW, bin_add, bin_sub, bin_mod, bin_mul, bin_fdiv, bin_pow, setAll, finW, ofO, seqW, newL, newT, newOb, truthW, mtW, mtOk, mtAll, EV.listAt, isi_int h, isi_bool h, isIntW, isBlW, num, h1, trim_id]
  | _ => simp [c__law_is_number, evSs, evS, evE, evEs, evB, evG, evGs, evO, evI, evTs, evN, R.bind, R.stm, R.calm, itemW, atI, ixN, biW, storeW, cmpW, bin_add, bin_sub, bin_mod, bin_mul, bin_fdiv, bin_pow, setAll, finW, ofO, seqW, newL, newT, newOb, truthW, mtW, mtOk, mtAll, EV.listAt, isi_int h, isi_bool h, isIntW, isBlW, num, trim_id]
/-- a value that the tests may be given -/
def goodT (M : Mem) : W → Bool
  | .tup xs => xs.all (known M) && fitWs 10 xs && decide (xs.length ≤ 1000)
  | w => known M w
theorem goodT_K {M : Mem} {w : W} (h : goodT M w = true) : goodK M w = true := by
  cases w <;> first | exact h | (simp only [goodT, Bool.and_eq_true] at h; exact h.1.1)
mutual
theorem fit_up : ∀ {n m : Nat} {w : W}, n ≤ m → fitW n w = true → fitW m w = true
  | 0, _, _, _, h => by simp [fitW] at h
  | n + 1, 0, _, h, _ => by omega
  | n + 1, m + 1, .tup xs, hl, h => by
    simp only [fitW] at h ⊢
    exact fit_ups (Nat.le_of_succ_le_succ hl) h
  | n + 1, m + 1, .str x, _, h => by simpa [fitW] using h
  | n + 1, m + 1, .ref x, _, h => by simp [fitW] at h
  | n + 1, m + 1, .non, _, _ => by simp [fitW]
  | n + 1, m + 1, .bl _, _, _ => by simp [fitW]
  | n + 1, m + 1, .int _, _, _ => by simp [fitW]
theorem fit_ups : ∀ {n m : Nat} {ws : List W}, n ≤ m → fitWs n ws = true → fitWs m ws = true
  | _, _, [], _, _ => by simp [fitWs]
  | n, m, x :: xs, hl, h => by
    simp only [fitWs, Bool.and_eq_true] at h ⊢
    exact ⟨fit_up hl h.1, fit_ups hl h.2⟩
end
theorem num_ints : ∀ {xs : List W}, xs.all num = true → ∃ ns : List Int, xs = ns.map .int
  | [], _ => ⟨[], rfl⟩
  | x :: xs, h => by
    simp only [List.all_cons, Bool.and_eq_true] at h
    obtain ⟨ns, e⟩ := num_ints h.2
    cases x with
    | int i => exact ⟨i :: ns, by rw [e]; rfl⟩
    | _ => simp [num] at h
theorem notnum_nil {xs : List W} : (xs.filter (fun x => !num x)).isEmpty = xs.all num := by
  induction xs with
  | nil => rfl
  | cons x xs ih =>
    by_cases h : num x = true
    · simp [List.filter_cons, h, ih]
    · simp [List.filter_cons, h]
theorem kind_end {k : Nat} {ns : List Int} {M : Mem} : ∃ g, evS (callN D (k+1)) (c__law_is_kind.nth 1) [some (.tup (ns.map .int)), none] M = .ok (.ret (.bl (decide (ns.sum ≤ 40) && decide (ns = (sortI ns).reverse)))) (M ++ g) := by
  by_cases h : ns.sum ≤ 40
  · refine ⟨[.lst (ns.map .int), .lst ((sortI ns).map .int), .lst ((sortI ns).reverse.map .int)], ?_⟩
    have a2 : (M ++ [Ob.lst (ns.map .int), .lst ((sortI ns).map .int)])[M.length + 1]? = some (Ob.lst ((sortI ns).map .int)) := by
      rw [List.getElem?_append_right (by omega)]
      simp
    have e1 : eqW (M ++ [Ob.lst (ns.map .int), .lst ((sortI ns).map .int), .lst ((sortI ns).reverse.map .int)]) (.ref M.length) (.ref (M.length + 2)) = some (decide (ns = (sortI ns).reverse)) := by
      have b1 : (M ++ [Ob.lst (ns.map .int), .lst ((sortI ns).map .int), .lst ((sortI ns).reverse.map .int)])[M.length]? = some (Ob.lst (ns.map .int)) := by simp
      have b2 : (M ++ [Ob.lst (ns.map .int), .lst ((sortI ns).map .int), .lst ((sortI ns).reverse.map .int)])[M.length + 2]? = some (Ob.lst ((sortI ns).reverse.map .int)) := by
        rw [List.getElem?_append_right (by omega)]
        simp
      rw [eq_lst b1 b2 (fit_ints _) (fit_ints _), dPs_ints, dPs_ints, eqv_ints]
    rw [List.map_reverse] at e1
    simp [CSs.nth, c__law_is_kind, evSs, evS, evE, evEs, evB, evG, evGs, evO, evI, evTs, evN, R.bind, R.stm, R.calm, itemW, atI, ixN, biW, storeW, cmpW, bin_add, bin_sub, bin_mod, bin_mul, bin_fdiv, bin_pow, setAll, finW, ofO, seqW, newL, newT, newOb, truthW, mtW, mtOk, mtAll, EV.listAt, mapO_ints, h, a2, e1]
  · exact ⟨[], by simp [CSs.nth, c__law_is_kind, evSs, evS, evE, evEs, evB, evG, evGs, evO, evI, evTs, evN, R.bind, R.stm, R.calm, itemW, atI, ixN, biW, storeW, cmpW, bin_add, bin_sub, bin_mod, bin_mul, bin_fdiv, bin_pow, setAll, finW, ofO, seqW, newL, newT, newOb, truthW, mtW, mtOk, mtAll, EV.listAt, mapO_ints, h]⟩
theorem kind_ok {k : Nat} {w : W} {M : Mem} (h : goodT M w = true) : callN D (k+2) i__law_is_kind [w] M = .ok (.bl (isKind w)) M := by
  rw [call_eq (d := ⟨1, 2, c__law_is_kind⟩) rfl rfl]
  have hk := goodK_known (goodT_K h)
  cases w with
  | tup xs =>
    simp only [goodT, Bool.and_eq_true, List.all_eq_true, decide_eq_true_eq] at h
    obtain ⟨⟨hall, hfit⟩, hlen⟩ := h
    have hf11 : fitWs 11 xs = true := fit_ups (by decide) hfit
    show finW M (evSs (callN D (k+1)) (.cons (c__law_is_kind.nth 0) (.cons (c__law_is_kind.nth 1) .nil)) [some (.tup xs), none] M) = _
    have e0 : eqW M (.tup xs) (.tup []) = some xs.isEmpty := by
      rw [eq_fit (by simpa [fitW] using hf11) rfl]
      simp only [dP, dPs, PyData.eqv, eqv_nil, dPs_empty]
    have hsz : sizeLine = 16777216 := sizeLine_eq
    cases hxs : xs.isEmpty with
    | true =>
      have hs0 : evS (callN D (k+1)) (c__law_is_kind.nth 0) [some (.tup xs), none] M = .ok (.ret (.bl false)) M := by
        simp [CSs.nth, c__law_is_kind, evSs, evS, evE, evEs, evB, evG, evGs, evO, evI, evTs, evN, R.bind, R.stm, R.calm, itemW, atI, ixN, biW, storeW, cmpW, bin_add, bin_sub, bin_mod, bin_mul, bin_fdiv, bin_pow, setAll, finW, ofO, seqW, newL, newT, newOb, truthW, mtW, mtOk, mtAll, EV.listAt, isi_tuple hk, isTupW, e0, hxs]
      rw [evSs_ret hs0]
      simp [finW, R.bind, R.calm, trim_id, isKind, hxs]
    | false =>
      have hlc : lcL M.length (evN (.one 1)) (evTs (callN D (k+1)) (.one (.not (.val (.call 40 (.cons (.var 1) (.cons (.k (.int 1)) (.cons (.k (.int 40)) .nil)))))))) (evE (callN D (k+1)) (.var 1)) [] [some (.tup xs), none] (xs.map .one) (M ++ [.lst []])
          = .ok () (M ++ [.lst ([] ++ (xs.filter (fun x => !num x)).map id)]) := by
        refine lcL_pure (fun _ => guards_nil) xs [] (fun x hx acc => ⟨[some (.tup xs), some x], rfl, ?_, fun _ => rfl⟩) (by simp; omega)
        have hn := number_ok (k := k) (M := M ++ [.lst acc]) (known_app (hall x hx))
        simp [evSs, evS, evE, evEs, evB, evG, evGs, evO, evI, evTs, evN, R.bind, R.stm, R.calm, itemW, atI, ixN, biW, storeW, cmpW, bin_add, bin_sub, bin_mod, bin_mul, bin_fdiv, bin_pow, setAll, finW, ofO, seqW, newL, newT, newOb, truthW, mtW, mtOk, mtAll, EV.listAt, hn]
      have e1 : eqW (M ++ [Ob.lst (xs.filter (fun x => !num x)), Ob.lst []]) (.ref M.length) (.ref (M.length + 1)) = some (xs.all num) := by
        have a1 : (M ++ [Ob.lst (xs.filter (fun x => !num x)), Ob.lst []])[M.length]? = some (Ob.lst (xs.filter (fun x => !num x))) := by simp
        have a2 : (M ++ [Ob.lst (xs.filter (fun x => !num x)), Ob.lst []])[M.length + 1]? = some (Ob.lst []) := by
          rw [List.getElem?_append_right (by omega)]
          simp
        rw [eq_lst a1 a2 (fitWs_filter hf11) rfl]
        simp only [dPs, eqv_nil, dPs_empty, notnum_nil]
      simp only [List.nil_append, List.map_id] at hlc
      have hs0 : evS (callN D (k+1)) (c__law_is_kind.nth 0) [some (.tup xs), none] M = if xs.all num = true then .ok (.nx [some (.tup xs), none]) (M ++ [Ob.lst (xs.filter (fun x => !num x)), Ob.lst []]) else .ok (.ret (.bl false)) (M ++ [Ob.lst (xs.filter (fun x => !num x)), Ob.lst []]) := by
        have hE : evE (callN D (k+1)) (.lc (.mk (.one 1) (.seq (.var 0)) (.one (.not (.val (.call 40 (.cons (.var 1) (.cons (.k (.int 1)) (.cons (.k (.int 40)) .nil))))))) [1]) (.var 1)) [some (.tup xs), none] M = .ok (.ref M.length) (M ++ [.lst (xs.filter (fun x => !num x))]) := by
          show ((lcL M.length (evN (.one 1)) (evTs (callN D (k+1)) _) (evE (callN D (k+1)) (.var 1)) [] [some (.tup xs), none] (xs.map .one) (M ++ [.lst []])).calm).bind _ = _
          rw [hlc]
          rfl
        simp only [CSs.nth, c__law_is_kind]
        generalize (CE.lc (.mk (.one 1) (.seq (.var 0)) (.one (.not (.val (.call 40 (.cons (.var 1) (.cons (.k (.int 1)) (.cons (.k (.int 40)) .nil))))))) [1]) (.var 1)) = L at hE ⊢
        simp only [evS, evB, evE, evEs, R.bind, R.stm, hE, isi_tuple hk, isTupW, e0, hxs, cmpW, ofO, truthW, List.getElem?_cons_zero, Bool.not_true, Bool.false_eq_true, if_false, newL, newOb, List.length_nil, Nat.zero_le, if_true, List.length_append, List.length_cons, List.append_assoc, List.cons_append, List.nil_append, newT, Nat.zero_add, e1, Option.map_some]
        cases xs.all num <;> rfl
      cases hn : xs.all num with
      | false =>
        rw [hn] at hs0
        rw [evSs_ret hs0]
        simp [finW, R.bind, R.calm, isKind, hn]
        exact trim_app rfl
      | true =>
        rw [hn] at hs0
        rw [evSs_cons hs0]
        obtain ⟨ns, hns⟩ := num_ints hn
        obtain ⟨g, hs1⟩ := kind_end (k := k) (ns := ns) (M := M ++ [Ob.lst (xs.filter (fun x => !num x)), Ob.lst []])
        rw [← hns] at hs1
        rw [evSs_ret hs1]
        simp only [finW, R.bind, R.calm, isKind, hn, hxs, Bool.not_false, Bool.true_and, List.append_assoc]
        rw [trim_app rfl]
        rw [hns, numsW, mapO_ints, sumW, mapO_ints]
        rfl
  | _ => simp [c__law_is_kind, evSs, evS, evE, evEs, evB, evG, evGs, evO, evI, evTs, evN, R.bind, R.stm, R.calm, itemW, atI, ixN, biW, storeW, cmpW, bin_add, bin_sub, bin_mod, bin_mul, bin_fdiv, bin_pow, setAll, finW, ofO, seqW, newL, newT, newOb, truthW, mtW, mtOk, mtAll, EV.listAt, isi_tuple hk, isTupW, isKind, trim_id]
end GD
namespace GD
open PySem PySem.Spec PyProof.Rows L2 EV
theorem chain_iff : ∀ (ns : List Int) (last : Int), chain last (ns.map .int) = true ↔ (∀ n ∈ ns, 1 ≤ n ∧ n ≤ last) ∧ ns.Pairwise (fun a b => b ≤ a)
  | [], _ => by simp [chain]
  | n :: ns, last => by
    simp only [List.map_cons, chain, Bool.and_eq_true, decide_eq_true_eq, chain_iff ns n, List.mem_cons, forall_eq_or_imp, List.pairwise_cons]
    constructor
    · rintro ⟨⟨h1, h2⟩, h3, h4⟩
      exact ⟨⟨⟨h1, h2⟩, fun x hx => ⟨(h3 x hx).1, Int.le_trans (h3 x hx).2 h2⟩⟩, fun x hx => (h3 x hx).2, h4⟩
    · rintro ⟨⟨⟨h1, h2⟩, h3⟩, h4, h5⟩
      exact ⟨⟨h1, h2⟩, fun x hx => ⟨(h3 x hx).1, h4 x hx⟩, h5⟩
theorem desc_iff (ns : List Int) : ns = (sortI ns).reverse ↔ ns.Pairwise (fun a b => b ≤ a) := by
  constructor
  · intro h
    rw [h, List.pairwise_reverse]
    exact sortI_sorted ns
  · intro h
    have h1 : ns.reverse.Pairwise (· ≤ ·) := by
      rw [List.pairwise_reverse]
      exact h
    have h2 : ns.reverse = sortI ns := sorted_one ((List.reverse_perm ns).trans (sortI_perm ns).symm) h1 (sortI_sorted ns)
    rw [← h2, List.reverse_reverse]
theorem num_all (ns : List Int) : (ns.map W.int).all num = true ↔ ∀ n ∈ ns, 1 ≤ n ∧ n ≤ 40 := by
  simp [num]
theorem kind_len (w : W) : areLen w = isKind w := by
  cases w with
  | tup xs =>
    have key : chain 40 xs = (xs.all num && decide (numsW xs = (sortI (numsW xs)).reverse)) := by
      cases hc : chain 40 xs with
      | true =>
        obtain ⟨ns, rfl⟩ := chain_ints hc
        obtain ⟨h1, h2⟩ := (chain_iff ns 40).mp hc
        rw [(num_all ns).mpr h1]
        simp only [numsW, mapO_ints, Option.getD_some, Bool.true_and]
        exact (decide_eq_true ((desc_iff ns).mpr h2)).symm
      | false =>
        cases hn : xs.all num with
        | false => rfl
        | true =>
          obtain ⟨ns, rfl⟩ := num_ints hn
          simp only [numsW, mapO_ints, Option.getD_some, Bool.true_and]
          refine (decide_eq_false fun h => ?_).symm
          have := (chain_iff ns 40).mpr ⟨(num_all ns).mp hn, (desc_iff ns).mp h⟩
          rw [hc] at this
          cases this
    simp only [areLen, isKind, key]
    cases !xs.isEmpty <;> cases xs.all num <;> cases decide (sumW xs ≤ 40) <;> cases decide (numsW xs = (sortI (numsW xs)).reverse) <;> rfl
  | _ => rfl
/-! ### what bars two kinds -/
def hW (s : Int) : W := if s % 2 = 0 then (if s < 0 then .str "rings" else .non) else .str "sign"
abbrev spare (a b : List Int) : Int := a.sum + 1 - (a.length : Int) - (b.length : Int)
theorem hurdle_ok {k : Nat} {a b : List Int} {M : Mem} : callN D (k+1) i_hurdle [.tup (a.map .int), .tup (b.map .int)] M = .ok (hW (spare a b)) M := by
  rw [call_eq (d := ⟨2, 3, c_hurdle⟩) rfl rfl]
  by_cases h : spare a b % 2 = 0
  · by_cases h2 : spare a b < 0
    · simp [c_hurdle, evSs, evS, evE, evEs, evB, evG, evGs, evO, evI, evTs, evN, R.bind, R.stm, R.calm, itemW, atI, ixN, biW, storeW, cmpW, bin_add, bin_sub, bin_mod, bin_mul, bin_fdiv, bin_pow, setAll, finW, ofO, seqW, newL, newT, newOb, truthW, mtW, mtOk, mtAll, EV.listAt, mapO_ints, eq_ii, h, h2, hW, trim_id]
    · simp [c_hurdle, evSs, evS, evE, evEs, evB, evG, evGs, evO, evI, evTs, evN, R.bind, R.stm, R.calm, itemW, atI, ixN, biW, storeW, cmpW, bin_add, bin_sub, bin_mod, bin_mul, bin_fdiv, bin_pow, setAll, finW, ofO, seqW, newL, newT, newOb, truthW, mtW, mtOk, mtAll, EV.listAt, mapO_ints, eq_ii, h, h2, hW, trim_id]
  · simp [c_hurdle, evSs, evS, evE, evEs, evB, evG, evGs, evO, evI, evTs, evN, R.bind, R.stm, R.calm, itemW, atI, ixN, biW, storeW, cmpW, bin_add, bin_sub, bin_mod, bin_mul, bin_fdiv, bin_pow, setAll, finW, ofO, seqW, newL, newT, newOb, truthW, mtW, mtOk, mtAll, EV.listAt, mapO_ints, eq_ii, h, hW, trim_id]
theorem lawHurdle_ok {k : Nat} {a b : List Int} {M : Mem} : callN D (k+1) i__law_hurdle [.tup (a.map .int), .tup (b.map .int)] M = .ok (hW (spare a b)) M := by
  rw [call_eq (d := ⟨2, 3, c__law_hurdle⟩) rfl rfl]
  by_cases h : spare a b % 2 = 0
  · have h1 : ¬ (spare a b % 2 = 1) := by omega
    by_cases h2 : spare a b < 0
    · simp [c__law_hurdle, evSs, evS, evE, evEs, evB, evG, evGs, evO, evI, evTs, evN, R.bind, R.stm, R.calm, itemW, atI, ixN, biW, storeW, cmpW, bin_add, bin_sub, bin_mod, bin_mul, bin_fdiv, bin_pow, setAll, finW, ofO, seqW, newL, newT, newOb, truthW, mtW, mtOk, mtAll, EV.listAt, mapO_ints, eq_ii, h, h1, h2, hW, trim_id]
    · simp [c__law_hurdle, evSs, evS, evE, evEs, evB, evG, evGs, evO, evI, evTs, evN, R.bind, R.stm, R.calm, itemW, atI, ixN, biW, storeW, cmpW, bin_add, bin_sub, bin_mod, bin_mul, bin_fdiv, bin_pow, setAll, finW, ofO, seqW, newL, newT, newOb, truthW, mtW, mtOk, mtAll, EV.listAt, mapO_ints, eq_ii, h, h1, h2, hW, trim_id]
  · have h1 : spare a b % 2 = 1 := by omega
    simp [c__law_hurdle, evSs, evS, evE, evEs, evB, evG, evGs, evO, evI, evTs, evN, R.bind, R.stm, R.calm, itemW, atI, ixN, biW, storeW, cmpW, bin_add, bin_sub, bin_mod, bin_mul, bin_fdiv, bin_pow, setAll, finW, ofO, seqW, newL, newT, newOb, truthW, mtW, mtOk, mtAll, EV.listAt, mapO_ints, eq_ii, h, h1, hW, trim_id]
end GD

namespace GD
open PySem PySem.Spec PyProof.Rows L2 EV PM
/-! Q7: what is a turn -/
def goodF (n : Nat) : List Nat → List W → Bool
  | _, [] => true
  | q, x :: xs => match x with
    | .int i => decide (0 ≤ i) && decide (i < n) && !decide (i.toNat ∈ q) && goodF n (q ++ [i.toNat]) xs
    | _ => false
def isT : W → Bool
  | .tup xs => decide (1 ≤ xs.length) && decide (xs.length ≤ 40) && goodF xs.length [] xs
  | _ => false
theorem goodF_iff {n : Nat} {xs : List W} {q : List Nat} (hq : q.Nodup) : goodF n q xs = true ↔ ∃ p, xs = iN p ∧ (∀ x ∈ p, x < n) ∧ (q ++ p).Nodup := by
  induction xs generalizing q with
  | nil => exact ⟨fun _ => ⟨[], rfl, by simp, by simpa using hq⟩, fun _ => rfl⟩
  | cons x xs IH =>
    constructor
    · intro h
      unfold goodF at h
      split at h
      · next i =>
        simp only [Bool.and_eq_true, decide_eq_true_eq, Bool.not_eq_true', decide_eq_false_iff_not] at h
        obtain ⟨⟨⟨h0, h1⟩, h2⟩, h3⟩ := h
        have hq2 : (q ++ [i.toNat]).Nodup := by
          rw [List.nodup_append]
          exact ⟨hq, by simp, fun a ha b hb e => h2 (by rw [List.mem_singleton.mp hb] at e; rw [← e]; exact ha)⟩
        obtain ⟨p, e, k1, k2⟩ := (IH hq2).mp h3
        refine ⟨i.toNat :: p, ?_, ?_, by simpa using k2⟩
        · rw [e]; simp [iN]; omega
        · intro y hy
          rcases List.mem_cons.mp hy with rfl | z
          · omega
          · exact k1 y z
      · cases h
    · rintro ⟨p, e, k1, k2⟩
      cases p with
      | nil => simp [iN] at e
      | cons a p =>
        simp only [iN, List.map_cons, List.cons.injEq] at e
        obtain ⟨rfl, rfl⟩ := e
        have ha := k1 a List.mem_cons_self
        have h2 : a ∉ q := fun z => by
          rw [List.nodup_append] at k2
          exact k2.2.2 a z a List.mem_cons_self rfl
        have k3 : (q ++ [a] ++ p).Nodup := by simpa using k2
        have hq2 : (q ++ [a]).Nodup := (List.nodup_append.mp k3).1
        have ih := (IH hq2).mpr ⟨p, rfl, fun y hy => k1 y (List.mem_cons_of_mem _ hy), k3⟩
        simp only [goodF, Int.toNat_natCast]
        rw [ih]
        simp [h2]
        exact ha
theorem isT_iff {w : W} : isT w = true ↔ ∃ p, w = tN p ∧ Tn p ∧ 1 ≤ p.length ∧ p.length ≤ 40 := by
  cases w with
  | tup xs =>
    simp only [isT, Bool.and_eq_true, decide_eq_true_eq, goodF_iff List.nodup_nil, List.nil_append]
    constructor
    · rintro ⟨⟨h1, h2⟩, p, rfl, h3, h4⟩
      rw [iN_length] at h1 h2 h3
      exact ⟨p, rfl, ⟨h3, h4⟩, h1, h2⟩
    · rintro ⟨p, e, T, h1, h2⟩
      cases e
      rw [iN_length]
      exact ⟨⟨h1, h2⟩, p, rfl, T.lt, T.nd⟩
  | _ => exact ⟨fun h => (by cases h), fun ⟨p, e, _⟩ => (by cases e)⟩
/-! ### is_row -/
def frQ (n : Nat) (q : List Nat) : List W := (List.range n).map fun x => .bl (!decide (x ∈ q))
theorem frQ_len {n q} : (frQ n q).length = n := by simp [frQ]
theorem frQ_get {n : Nat} {q : List Nat} {x : Nat} (h : x < n) : (frQ n q)[x]? = some (.bl (!decide (x ∈ q))) := by simp [frQ, List.getElem?_map, List.getElem?_range h]
theorem frQ_set {n : Nat} {q : List Nat} {i : Nat} (h : i < n) : (frQ n q).set i (.bl false) = frQ n (q ++ [i]) := by
  apply List.ext_getElem?
  intro x
  by_cases hx : x < n
  · by_cases e : x = i
    · subst e
      rw [List.getElem?_set_self (by rw [frQ_len]; exact hx), frQ_get hx]
      simp
    · rw [List.getElem?_set_ne (Ne.symm e), frQ_get hx, frQ_get hx]
      simp [e]
  · rw [List.getElem?_eq_none (by simp [frQ]; omega), List.getElem?_eq_none (by simp [frQ]; omega)]
abbrev rowB : CSs := CS.bd (c_is_row.nth 2)
theorem row_turn {k f : Nat} {xs : List W} {x : W} {q : List Nat} {a3 : Option W} {M : Mem} (hf : M[f]? = some (.lst (frQ xs.length q))) (h : known M x = true) :
    evSs (callN D (k+1)) rowB [some (.tup xs), some (.ref f), some x, a3] M = match x with
      | .int i => if (decide (0 ≤ i) && decide (i < xs.length) && !decide (i.toNat ∈ q)) = true then .ok (.nx [some (.tup xs), some (.ref f), some (.int i), a3]) (M.set f (.lst (frQ xs.length (q ++ [i.toNat])))) else .ok (.ret (.bl false)) M
      | _ => .ok (.ret (.bl false)) M := by
  cases x with
  | int i =>
    by_cases h1 : 0 ≤ i
    · by_cases h2 : i < (xs.length : Int)
      · obtain ⟨n, rfl⟩ := Int.eq_ofNat_of_zero_le h1
        have hn : n < xs.length := by omega
        have ha : atI (frQ xs.length q) (n : Int) = some (.bl (!decide (n ∈ q))) := by rw [atI_lt (by rw [frQ_len]; exact hn), frQ_get hn]
        have hx := ix_nat (n := (frQ xs.length q).length) (x := n) (by rw [frQ_len]; exact hn)
        have hs := frQ_set (q := q) hn
        by_cases h3 : n ∈ q
        · simp [rowB, CS.bd, CSs.nth, c_is_row, xss_nil, xss_cons, xe_var, xe_k, xe_gk, xe_bin, xe_neg, xe_not, xe_and, xe_or, xe_ite, xe_cmp, xe_chain, xe_tup, xe_lst, xe_call, xe_callK, xe_bi, xe_isi, xe_meth, xe_ix, xe_sl, xe_rev, xe_dnew, xe_lenset, xs_pass, xs_expr, xs_asg, xs_par, xs_setLc, xs_augS, xs_aug, xs_ret, xs_retN, xs_if, xa_nil, xa_cons, xa_star, xb_val, xb_cmp, xb_chain, xb_not, xb_and, xb_or, xo_none, xo_some, xg_name, xg_tup, xg_sub, xgs_nil, xgs_cons, xi_seq, xi_enum, xi_zip, xt_nil, xt_one, evN, R.bind, R.stm, R.calm, itemW, biW, storeW, cmpW, bin_add, bin_sub, bin_mod, bin_mul, bin_fdiv, bin_pow, setAll, finW, ofO, seqW, newL, newT, newOb, truthW, mtW, EV.listAt, mo_append_list, mo_pop_list, mo_extend_list, mo_remove_list, mo_count_list, mo_count_tuple, mo_index_list, mo_get_dict, mo_index_tuple, mo_upper_str, mo_isdigit_str, mo_split_str, mo_join_str, ty_list_tuple, ty_list_dict, ty_list_str, ty_tuple_list, ty_tuple_dict, ty_tuple_str, ty_dict_list, ty_dict_tuple, ty_dict_str, ty_str_list, ty_str_tuple, ty_str_dict, whole_ok h, isIntW, h1, h2, hf, ha, h3]
        · simp [rowB, CS.bd, CSs.nth, c_is_row, xss_nil, xss_cons, xe_var, xe_k, xe_gk, xe_bin, xe_neg, xe_not, xe_and, xe_or, xe_ite, xe_cmp, xe_chain, xe_tup, xe_lst, xe_call, xe_callK, xe_bi, xe_isi, xe_meth, xe_ix, xe_sl, xe_rev, xe_dnew, xe_lenset, xs_pass, xs_expr, xs_asg, xs_par, xs_setLc, xs_augS, xs_aug, xs_ret, xs_retN, xs_if, xa_nil, xa_cons, xa_star, xb_val, xb_cmp, xb_chain, xb_not, xb_and, xb_or, xo_none, xo_some, xg_name, xg_tup, xg_sub, xgs_nil, xgs_cons, xi_seq, xi_enum, xi_zip, xt_nil, xt_one, evN, R.bind, R.stm, R.calm, itemW, biW, storeW, cmpW, bin_add, bin_sub, bin_mod, bin_mul, bin_fdiv, bin_pow, setAll, finW, ofO, seqW, newL, newT, newOb, truthW, mtW, EV.listAt, mo_append_list, mo_pop_list, mo_extend_list, mo_remove_list, mo_count_list, mo_count_tuple, mo_index_list, mo_get_dict, mo_index_tuple, mo_upper_str, mo_isdigit_str, mo_split_str, mo_join_str, ty_list_tuple, ty_list_dict, ty_list_str, ty_tuple_list, ty_tuple_dict, ty_tuple_str, ty_dict_list, ty_dict_tuple, ty_dict_str, ty_str_list, ty_str_tuple, ty_str_dict, whole_ok h, isIntW, h1, h2, hf, ha, h3, hx, hs]
      · simp [rowB, CS.bd, CSs.nth, c_is_row, xss_nil, xss_cons, xe_var, xe_k, xe_gk, xe_bin, xe_neg, xe_not, xe_and, xe_or, xe_ite, xe_cmp, xe_chain, xe_tup, xe_lst, xe_call, xe_callK, xe_bi, xe_isi, xe_meth, xe_ix, xe_sl, xe_rev, xe_dnew, xe_lenset, xs_pass, xs_expr, xs_asg, xs_par, xs_setLc, xs_augS, xs_aug, xs_ret, xs_retN, xs_if, xa_nil, xa_cons, xa_star, xb_val, xb_cmp, xb_chain, xb_not, xb_and, xb_or, xo_none, xo_some, xg_name, xg_tup, xg_sub, xgs_nil, xgs_cons, xi_seq, xi_enum, xi_zip, xt_nil, xt_one, evN, R.bind, R.stm, R.calm, itemW, biW, storeW, cmpW, bin_add, bin_sub, bin_mod, bin_mul, bin_fdiv, bin_pow, setAll, finW, ofO, seqW, newL, newT, newOb, truthW, mtW, EV.listAt, mo_append_list, mo_pop_list, mo_extend_list, mo_remove_list, mo_count_list, mo_count_tuple, mo_index_list, mo_get_dict, mo_index_tuple, mo_upper_str, mo_isdigit_str, mo_split_str, mo_join_str, ty_list_tuple, ty_list_dict, ty_list_str, ty_tuple_list, ty_tuple_dict, ty_tuple_str, ty_dict_list, ty_dict_tuple, ty_dict_str, ty_str_list, ty_str_tuple, ty_str_dict, whole_ok h, isIntW, h1, h2]
    · simp [rowB, CS.bd, CSs.nth, c_is_row, xss_nil, xss_cons, xe_var, xe_k, xe_gk, xe_bin, xe_neg, xe_not, xe_and, xe_or, xe_ite, xe_cmp, xe_chain, xe_tup, xe_lst, xe_call, xe_callK, xe_bi, xe_isi, xe_meth, xe_ix, xe_sl, xe_rev, xe_dnew, xe_lenset, xs_pass, xs_expr, xs_asg, xs_par, xs_setLc, xs_augS, xs_aug, xs_ret, xs_retN, xs_if, xa_nil, xa_cons, xa_star, xb_val, xb_cmp, xb_chain, xb_not, xb_and, xb_or, xo_none, xo_some, xg_name, xg_tup, xg_sub, xgs_nil, xgs_cons, xi_seq, xi_enum, xi_zip, xt_nil, xt_one, evN, R.bind, R.stm, R.calm, itemW, biW, storeW, cmpW, bin_add, bin_sub, bin_mod, bin_mul, bin_fdiv, bin_pow, setAll, finW, ofO, seqW, newL, newT, newOb, truthW, mtW, EV.listAt, mo_append_list, mo_pop_list, mo_extend_list, mo_remove_list, mo_count_list, mo_count_tuple, mo_index_list, mo_get_dict, mo_index_tuple, mo_upper_str, mo_isdigit_str, mo_split_str, mo_join_str, ty_list_tuple, ty_list_dict, ty_list_str, ty_tuple_list, ty_tuple_dict, ty_tuple_str, ty_dict_list, ty_dict_tuple, ty_dict_str, ty_str_list, ty_str_tuple, ty_str_dict, whole_ok h, isIntW, h1]
  | _ => simp [rowB, CS.bd, CSs.nth, c_is_row, xss_nil, xss_cons, xe_var, xe_k, xe_gk, xe_bin, xe_neg, xe_not, xe_and, xe_or, xe_ite, xe_cmp, xe_chain, xe_tup, xe_lst, xe_call, xe_callK, xe_bi, xe_isi, xe_meth, xe_ix, xe_sl, xe_rev, xe_dnew, xe_lenset, xs_pass, xs_expr, xs_asg, xs_par, xs_setLc, xs_augS, xs_aug, xs_ret, xs_retN, xs_if, xa_nil, xa_cons, xa_star, xb_val, xb_cmp, xb_chain, xb_not, xb_and, xb_or, xo_none, xo_some, xg_name, xg_tup, xg_sub, xgs_nil, xgs_cons, xi_seq, xi_enum, xi_zip, xt_nil, xt_one, evN, R.bind, R.stm, R.calm, itemW, biW, storeW, cmpW, bin_add, bin_sub, bin_mod, bin_mul, bin_fdiv, bin_pow, setAll, finW, ofO, seqW, newL, newT, newOb, truthW, mtW, EV.listAt, mo_append_list, mo_pop_list, mo_extend_list, mo_remove_list, mo_count_list, mo_count_tuple, mo_index_list, mo_get_dict, mo_index_tuple, mo_upper_str, mo_isdigit_str, mo_split_str, mo_join_str, ty_list_tuple, ty_list_dict, ty_list_str, ty_tuple_list, ty_tuple_dict, ty_tuple_str, ty_dict_list, ty_dict_tuple, ty_dict_str, ty_str_list, ty_str_tuple, ty_str_dict, whole_ok h, isIntW]
theorem row_loop {k : Nat} {ys : List W} {M0 : Mem} : ∀ (xs : List W) (q : List Nat) (a2 a3 : Option W) (g : Mem), (∀ x ∈ xs, known M0 x = true) →
    ∃ g', (goodF ys.length q xs = true → ∃ a2', forL (evN (.one 2)) (evSs (callN D (k+1)) rowB) [] (xs.map .one) [some (.tup ys), some (.ref M0.length), a2, a3] (M0 ++ .lst (frQ ys.length q) :: g) = .ok (.nx [some (.tup ys), some (.ref M0.length), a2', a3]) (M0 ++ g')) ∧
    (goodF ys.length q xs = false → forL (evN (.one 2)) (evSs (callN D (k+1)) rowB) [] (xs.map .one) [some (.tup ys), some (.ref M0.length), a2, a3] (M0 ++ .lst (frQ ys.length q) :: g) = .ok (.ret (.bl false)) (M0 ++ g'))
  | [], q, a2, a3, g, _ => ⟨.lst (frQ ys.length q) :: g, fun _ => ⟨a2, by simp [forL, guards_nil]⟩, fun h => by cases h⟩
  | x :: xs, q, a2, a3, g, hk => by
    have hkn : known (M0 ++ Ob.lst (frQ ys.length q) :: g) x = true := known_app (hk x List.mem_cons_self)
    have ht := row_turn (k := k) (xs := ys) (q := q) (a3 := a3) (f := M0.length) (M := M0 ++ Ob.lst (frQ ys.length q) :: g) at0 hkn
    have hstep : forL (evN (.one 2)) (evSs (callN D (k+1)) rowB) [] ((x :: xs).map .one) [some (.tup ys), some (.ref M0.length), a2, a3] (M0 ++ .lst (frQ ys.length q) :: g) = (evSs (callN D (k+1)) rowB [some (.tup ys), some (.ref M0.length), some x, a3] (M0 ++ .lst (frQ ys.length q) :: g)).bind fun f M2 => match f with
      | .nx ρ2 => forL (evN (.one 2)) (evSs (callN D (k+1)) rowB) [] (xs.map .one) ρ2 M2
      | .cont ρ2 => forL (evN (.one 2)) (evSs (callN D (k+1)) rowB) [] (xs.map .one) ρ2 M2
      | .brk ρ2 => .ok (.nx ρ2) M2
      | .ret w => .ok (.ret w) M2
      | .exc c fs ρ2 => .ok (.exc c fs ρ2) M2 := by
      rw [List.map_cons, forL, if_pos guards_nil]
      rfl
    rw [hstep, ht]
    cases x with
    | int i =>
      simp only
      by_cases hc : (decide (0 ≤ i) && decide (i < ys.length) && !decide (i.toNat ∈ q)) = true
      · rw [if_pos hc]
        have hset : (M0 ++ Ob.lst (frQ ys.length q) :: g).set M0.length (.lst (frQ ys.length (q ++ [i.toNat]))) = M0 ++ .lst (frQ ys.length (q ++ [i.toNat])) :: g := by simp
        rw [hset]
        have ih := row_loop (k := k) (ys := ys) (M0 := M0) xs (q ++ [i.toNat]) (some (.int i)) a3 g (fun y hy => hk y (List.mem_cons_of_mem _ hy))
        simp only [goodF, hc, Bool.true_and, R.bind]
        exact ih
      · rw [if_neg hc]
        have hc' : (decide (0 ≤ i) && decide (i < ys.length) && !decide (i.toNat ∈ q)) = false := by simpa using hc
        exact ⟨_, fun h => (by simp [goodF, hc'] at h), fun _ => rfl⟩
    | _ => exact ⟨_, fun h => (by simp [goodF] at h), fun _ => rfl⟩
theorem lc_true {k : Nat} {xs : List W} {a1 a2 a3 : Option W} {M : Mem} (hl : xs.length ≤ 1000) : evE (callN D k) (.lc (.mk (.one 3) (.seq (.var 0)) .nil [3]) (.k (.bl true))) [some (.tup xs), a1, a2, a3] M = .ok (.ref M.length) (M ++ [.lst (frQ xs.length [])]) := by
  have e : xs.map (fun _ => W.bl true) = frQ xs.length [] := by
    apply List.ext_getElem?
    intro i
    by_cases h : i < xs.length
    · rw [frQ_get h, List.getElem?_map, List.getElem?_eq_getElem h]; simp
    · rw [List.getElem?_eq_none (by simp; omega), List.getElem?_eq_none (by rw [frQ_len]; omega)]
  rw [← e]
  exact ev_lc_by (gs := []) (its := xs.map .one) rfl (lcL_map (fun _ => guards_nil) (fun x hx acc => ⟨_, rfl, rfl, rfl⟩) (by rw [sizeLine_eq]; omega))
theorem is_row_ok {k : Nat} {w : W} {M : Mem} (h : goodK M w = true) : callN D (k+2) i_is_row [w] M = .ok (.bl (isT w)) M := by
  rw [call_at (d := ⟨1, 4, c_is_row⟩) (b := c_is_row) (ρ := [some w, none, none, none]) rfl rfl rfl rfl]
  have hk := goodK_known h
  cases w with
  | tup xs =>
    have hall : ∀ x ∈ xs, known M x = true := by simpa [goodK] using h
    show finW M (evSs (callN D (k+1)) (.cons (c_is_row.nth 0) (.cons (c_is_row.nth 1) (.cons (c_is_row.nth 2) (.cons (c_is_row.nth 3) .nil)))) [some (.tup xs), none, none, none] M) = _
    by_cases h1 : 1 ≤ xs.length
    · by_cases h2 : xs.length ≤ 40
      · have h1' : (1 : Int) ≤ (xs.length : Int) := by omega
        have h2' : (xs.length : Int) ≤ 40 := by omega
        have s0 : evS (callN D (k+1)) (c_is_row.nth 0) [some (.tup xs), none, none, none] M = .ok (.nx [some (.tup xs), none, none, none]) M := by
          simp [CSs.nth, c_is_row, xss_nil, xss_cons, xe_var, xe_k, xe_gk, xe_bin, xe_neg, xe_not, xe_and, xe_or, xe_ite, xe_cmp, xe_chain, xe_tup, xe_lst, xe_call, xe_callK, xe_bi, xe_isi, xe_meth, xe_ix, xe_sl, xe_rev, xe_dnew, xe_lenset, xs_pass, xs_expr, xs_asg, xs_par, xs_setLc, xs_augS, xs_aug, xs_ret, xs_retN, xs_if, xa_nil, xa_cons, xa_star, xb_val, xb_cmp, xb_chain, xb_not, xb_and, xb_or, xo_none, xo_some, xg_name, xg_tup, xg_sub, xgs_nil, xgs_cons, xi_seq, xi_enum, xi_zip, xt_nil, xt_one, evN, R.bind, R.stm, R.calm, itemW, atI, ixN, biW, storeW, cmpW, bin_add, bin_sub, bin_mod, bin_mul, bin_fdiv, bin_pow, setAll, finW, ofO, seqW, newL, newT, newOb, truthW, mtW, EV.listAt, mo_append_list, mo_pop_list, mo_extend_list, mo_remove_list, mo_count_list, mo_count_tuple, mo_index_list, mo_get_dict, mo_index_tuple, mo_upper_str, mo_isdigit_str, mo_split_str, mo_join_str, ty_list_tuple, ty_list_dict, ty_list_str, ty_tuple_list, ty_tuple_dict, ty_tuple_str, ty_dict_list, ty_dict_tuple, ty_dict_str, ty_str_list, ty_str_tuple, ty_str_dict, isi_tuple hk, isTupW, h1', h2']
        have s1 : evS (callN D (k+1)) (c_is_row.nth 1) [some (.tup xs), none, none, none] M = .ok (.nx [some (.tup xs), some (.ref M.length), none, none]) (M ++ [.lst (frQ xs.length [])]) := by
          show (evE (callN D (k+1)) (.lc (.mk (.one 3) (.seq (.var 0)) .nil [3]) (.k (.bl true))) _ M).stm _ _ = _
          rw [lc_true (by omega)]
          rfl
        rw [evSs_cons s0, evSs_cons s1]
        obtain ⟨g', l1, l2⟩ := row_loop (k := k) (ys := xs) (M0 := M) xs [] none none [] hall
        have hf : evS (callN D (k+1)) (c_is_row.nth 2) [some (.tup xs), some (.ref M.length), none, none] (M ++ [.lst (frQ xs.length [])]) = forL (evN (.one 2)) (evSs (callN D (k+1)) rowB) [] (xs.map .one) [some (.tup xs), some (.ref M.length), none, none] (M ++ [.lst (frQ xs.length [])]) := rfl
        cases hc : goodF xs.length [] xs with
        | false =>
          rw [evSs_ret (hf.trans (l2 hc))]
          simp only [finW, R.bind, R.calm]
          rw [trim_app rfl]
          simp [isT, hc]
        | true =>
          obtain ⟨a2', e⟩ := l1 hc
          rw [evSs_cons (hf.trans e)]
          have s3 : evS (callN D (k+1)) (c_is_row.nth 3) [some (.tup xs), some (.ref M.length), a2', none] (M ++ g') = .ok (.ret (.bl true)) (M ++ g') := by
            simp [CSs.nth, c_is_row, xss_nil, xss_cons, xe_var, xe_k, xe_gk, xe_bin, xe_neg, xe_not, xe_and, xe_or, xe_ite, xe_cmp, xe_chain, xe_tup, xe_lst, xe_call, xe_callK, xe_bi, xe_isi, xe_meth, xe_ix, xe_sl, xe_rev, xe_dnew, xe_lenset, xs_pass, xs_expr, xs_asg, xs_par, xs_setLc, xs_augS, xs_aug, xs_ret, xs_retN, xs_if, xa_nil, xa_cons, xa_star, xb_val, xb_cmp, xb_chain, xb_not, xb_and, xb_or, xo_none, xo_some, xg_name, xg_tup, xg_sub, xgs_nil, xgs_cons, xi_seq, xi_enum, xi_zip, xt_nil, xt_one, evN, R.bind, R.stm, R.calm, itemW, atI, ixN, biW, storeW, cmpW, bin_add, bin_sub, bin_mod, bin_mul, bin_fdiv, bin_pow, setAll, finW, ofO, seqW, newL, newT, newOb, truthW, mtW, EV.listAt, mo_append_list, mo_pop_list, mo_extend_list, mo_remove_list, mo_count_list, mo_count_tuple, mo_index_list, mo_get_dict, mo_index_tuple, mo_upper_str, mo_isdigit_str, mo_split_str, mo_join_str, ty_list_tuple, ty_list_dict, ty_list_str, ty_tuple_list, ty_tuple_dict, ty_tuple_str, ty_dict_list, ty_dict_tuple, ty_dict_str, ty_str_list, ty_str_tuple, ty_str_dict]
          rw [evSs_ret s3]
          simp only [finW, R.bind, R.calm]
          rw [trim_app rfl]
          simp [isT, hc, h1, h2]
      · have h1' : (1 : Int) ≤ (xs.length : Int) := by omega
        have h2' : ¬ (xs.length : Int) ≤ 40 := by omega
        have s0 : evS (callN D (k+1)) (c_is_row.nth 0) [some (.tup xs), none, none, none] M = .ok (.ret (.bl false)) M := by
          simp [CSs.nth, c_is_row, xss_nil, xss_cons, xe_var, xe_k, xe_gk, xe_bin, xe_neg, xe_not, xe_and, xe_or, xe_ite, xe_cmp, xe_chain, xe_tup, xe_lst, xe_call, xe_callK, xe_bi, xe_isi, xe_meth, xe_ix, xe_sl, xe_rev, xe_dnew, xe_lenset, xs_pass, xs_expr, xs_asg, xs_par, xs_setLc, xs_augS, xs_aug, xs_ret, xs_retN, xs_if, xa_nil, xa_cons, xa_star, xb_val, xb_cmp, xb_chain, xb_not, xb_and, xb_or, xo_none, xo_some, xg_name, xg_tup, xg_sub, xgs_nil, xgs_cons, xi_seq, xi_enum, xi_zip, xt_nil, xt_one, evN, R.bind, R.stm, R.calm, itemW, atI, ixN, biW, storeW, cmpW, bin_add, bin_sub, bin_mod, bin_mul, bin_fdiv, bin_pow, setAll, finW, ofO, seqW, newL, newT, newOb, truthW, mtW, EV.listAt, mo_append_list, mo_pop_list, mo_extend_list, mo_remove_list, mo_count_list, mo_count_tuple, mo_index_list, mo_get_dict, mo_index_tuple, mo_upper_str, mo_isdigit_str, mo_split_str, mo_join_str, ty_list_tuple, ty_list_dict, ty_list_str, ty_tuple_list, ty_tuple_dict, ty_tuple_str, ty_dict_list, ty_dict_tuple, ty_dict_str, ty_str_list, ty_str_tuple, ty_str_dict, isi_tuple hk, isTupW, h1', h2']
        rw [evSs_ret s0]
        simp [finW, R.bind, R.calm, trim_id, isT, h2]
    · have h1' : ¬ (1 : Int) ≤ (xs.length : Int) := by omega
      have s0 : evS (callN D (k+1)) (c_is_row.nth 0) [some (.tup xs), none, none, none] M = .ok (.ret (.bl false)) M := by
        simp [CSs.nth, c_is_row, xss_nil, xss_cons, xe_var, xe_k, xe_gk, xe_bin, xe_neg, xe_not, xe_and, xe_or, xe_ite, xe_cmp, xe_chain, xe_tup, xe_lst, xe_call, xe_callK, xe_bi, xe_isi, xe_meth, xe_ix, xe_sl, xe_rev, xe_dnew, xe_lenset, xs_pass, xs_expr, xs_asg, xs_par, xs_setLc, xs_augS, xs_aug, xs_ret, xs_retN, xs_if, xa_nil, xa_cons, xa_star, xb_val, xb_cmp, xb_chain, xb_not, xb_and, xb_or, xo_none, xo_some, xg_name, xg_tup, xg_sub, xgs_nil, xgs_cons, xi_seq, xi_enum, xi_zip, xt_nil, xt_one, evN, R.bind, R.stm, R.calm, itemW, atI, ixN, biW, storeW, cmpW, bin_add, bin_sub, bin_mod, bin_mul, bin_fdiv, bin_pow, setAll, finW, ofO, seqW, newL, newT, newOb, truthW, mtW, EV.listAt, mo_append_list, mo_pop_list, mo_extend_list, mo_remove_list, mo_count_list, mo_count_tuple, mo_index_list, mo_get_dict, mo_index_tuple, mo_upper_str, mo_isdigit_str, mo_split_str, mo_join_str, ty_list_tuple, ty_list_dict, ty_list_str, ty_tuple_list, ty_tuple_dict, ty_tuple_str, ty_dict_list, ty_dict_tuple, ty_dict_str, ty_str_list, ty_str_tuple, ty_str_dict, isi_tuple hk, isTupW, h1']
      rw [evSs_ret s0]
      simp [finW, R.bind, R.calm, trim_id, isT, h1]
  | _ => simp [c_is_row, xss_nil, xss_cons, xe_var, xe_k, xe_gk, xe_bin, xe_neg, xe_not, xe_and, xe_or, xe_ite, xe_cmp, xe_chain, xe_tup, xe_lst, xe_call, xe_callK, xe_bi, xe_isi, xe_meth, xe_ix, xe_sl, xe_rev, xe_dnew, xe_lenset, xs_pass, xs_expr, xs_asg, xs_par, xs_setLc, xs_augS, xs_aug, xs_ret, xs_retN, xs_if, xa_nil, xa_cons, xa_star, xb_val, xb_cmp, xb_chain, xb_not, xb_and, xb_or, xo_none, xo_some, xg_name, xg_tup, xg_sub, xgs_nil, xgs_cons, xi_seq, xi_enum, xi_zip, xt_nil, xt_one, evN, R.bind, R.stm, R.calm, itemW, atI, ixN, biW, storeW, cmpW, bin_add, bin_sub, bin_mod, bin_mul, bin_fdiv, bin_pow, setAll, finW, ofO, seqW, newL, newT, newOb, truthW, mtW, EV.listAt, mo_append_list, mo_pop_list, mo_extend_list, mo_remove_list, mo_count_list, mo_count_tuple, mo_index_list, mo_get_dict, mo_index_tuple, mo_upper_str, mo_isdigit_str, mo_split_str, mo_join_str, ty_list_tuple, ty_list_dict, ty_list_str, ty_tuple_list, ty_tuple_dict, ty_tuple_str, ty_dict_list, ty_dict_tuple, ty_dict_str, ty_str_list, ty_str_tuple, ty_str_dict, isi_tuple hk, isTupW, isT, trim_id]
/-! ### _law_is_turn -/
def numIn (a b : Int) : W → Bool
  | .int i => decide (a ≤ i) && decide (i ≤ b)
  | _ => false
theorem numIn_ok {k : Nat} {a b : Int} {w : W} {M : Mem} (h : known M w = true) : callN D (k+1) i__law_is_number [w, .int a, .int b] M = .ok (.bl (numIn a b w)) M := by
  rw [call_eq (d := ⟨3, 3, c__law_is_number⟩) rfl rfl]
  cases w with
  | int i =>
    by_cases h1 : a ≤ i
    · simp [c__law_is_number, xss_nil, xss_cons, xe_var, xe_k, xe_gk, xe_bin, xe_neg, xe_not, xe_and, xe_or, xe_ite, xe_cmp, xe_chain, xe_tup, xe_lst, xe_call, xe_callK, xe_bi, xe_isi, xe_meth, xe_ix, xe_sl, xe_rev, xe_dnew, xe_lenset, xs_pass, xs_expr, xs_asg, xs_par, xs_setLc, xs_augS, xs_aug, xs_ret, xs_retN, xs_if, xa_nil, xa_cons, xa_star, xb_val, xb_cmp, xb_chain, xb_not, xb_and, xb_or, xo_none, xo_some, xg_name, xg_tup, xg_sub, xgs_nil, xgs_cons, xi_seq, xi_enum, xi_zip, xt_nil, xt_one, evN, R.bind, R.stm, R.calm, itemW, atI, ixN, biW, storeW, cmpW, bin_add, bin_sub, bin_mod, bin_mul, bin_fdiv, bin_pow, setAll, finW, ofO, seqW, newL, newT, newOb, truthW, mtW, EV.listAt, mo_append_list, mo_pop_list, mo_extend_list, mo_remove_list, mo_count_list, mo_count_tuple, mo_index_list, mo_get_dict, mo_index_tuple, mo_upper_str, mo_isdigit_str, mo_split_str, mo_join_str, ty_list_tuple, ty_list_dict, ty_list_str, ty_tuple_list, ty_tuple_dict, ty_tuple_str, ty_dict_list, ty_dict_tuple, ty_dict_str, ty_str_list, ty_str_tuple, ty_str_dict, isi_int h, isi_bool h, isIntW, isBlW, numIn, h1, trim_id]
    · simp [c__law_is_number, xss_nil, xss_cons, xe_var, xe_k, xe_gk, xe_bin, xe_neg, xe_not, xe_and, xe_or, xe_ite, xe_cmp, xe_chain, xe_tup, xe_lst, xe_call, xe_callK, xe_bi, xe_isi, xe_meth, xe_ix, xe_sl, xe_rev, xe_dnew, xe_lenset, xs_pass, xs_expr, xs_asg, xs_par, xs_setLc, xs_augS, xs_aug, xs_ret, xs_retN, xs_if, xa_nil, xa_cons, xa_star, xb_val, xb_cmp, xb_chain, xb_not, xb_and, xb_or, xo_none, xo_some, xg_name, xg_tup, xg_sub, xgs_nil, xgs_cons, xi_seq, xi_enum, xi_zip, xt_nil, xt_one, evN, R.bind, R.stm, R.calm, itemW, atI, ixN, biW, storeW, cmpW, bin_add, bin_sub, bin_mod, bin_mul, bin_fdiv, bin_pow, setAll, finW, ofO, seqW, newL, newT, newOb, truthW, mtW, EV.listAt, mo_append_list, mo_pop_list, mo_extend_list, mo_remove_list, mo_count_list, mo_count_tuple, mo_index_list, mo_get_dict, mo_index_tuple, mo_upper_str, mo_isdigit_str, mo_split_str, mo_join_str, ty_list_tuple, ty_list_dict, ty_list_str, ty_tuple_list, ty_tuple_dict, ty_tuple_str, ty_dict_list, ty_dict_tuple, ty_dict_str, ty_str_list, ty_str_tuple, ty_str_dict, isi_int h, isi_bool h, isIntW, isBlW, numIn, h1, trim_id]
  | _ => simp [c__law_is_number, xss_nil, xss_cons, xe_var, xe_k, xe_gk, xe_bin, xe_neg, xe_not, xe_and, xe_or, xe_ite, xe_cmp, xe_chain, xe_tup, xe_lst, xe_call, xe_callK, xe_bi, xe_isi, xe_meth, xe_ix, xe_sl, xe_rev, xe_dnew, xe_lenset, xs_pass, xs_expr, xs_asg, xs_par, xs_setLc, xs_augS, xs_aug, xs_ret, xs_retN, xs_if, xa_nil, xa_cons, xa_star, xb_val, xb_cmp, xb_chain, xb_not, xb_and, xb_or, xo_none, xo_some, xg_name, xg_tup, xg_sub, xgs_nil, xgs_cons, xi_seq, xi_enum, xi_zip, xt_nil, xt_one, evN, R.bind, R.stm, R.calm, itemW, atI, ixN, biW, storeW, cmpW, bin_add, bin_sub, bin_mod, bin_mul, bin_fdiv, bin_pow, setAll, finW, ofO, seqW, newL, newT, newOb, truthW, mtW, EV.listAt, mo_append_list, mo_pop_list, mo_extend_list, mo_remove_list, mo_count_list, mo_count_tuple, mo_index_list, mo_get_dict, mo_index_tuple, mo_upper_str, mo_isdigit_str, mo_split_str, mo_join_str, ty_list_tuple, ty_list_dict, ty_list_str, ty_tuple_list, ty_tuple_dict, ty_tuple_str, ty_dict_list, ty_dict_tuple, ty_dict_str, ty_str_list, ty_str_tuple, ty_str_dict, isi_int h, isi_bool h, isIntW, isBlW, numIn, trim_id]
theorem distinct_len : ∀ {ns : List Int}, (distinct ns).length = ns.length ↔ ns.Nodup
  | [] => by simp [distinct]
  | x :: xs => by
    have hle : (distinct xs).length ≤ xs.length := nodup_le nodup_distinct fun y hy => mem_distinct.mp hy
    unfold distinct
    split
    · next h =>
      constructor
      · intro e; simp only [List.length_cons] at e; omega
      · intro e; exact absurd h (List.nodup_cons.mp e).1
    · next h =>
      rw [List.length_cons, List.length_cons, List.nodup_cons]
      constructor
      · intro e; exact ⟨h, distinct_len.mp (by omega)⟩
      · rintro ⟨_, e⟩; rw [distinct_len.mpr e]
theorem numIn_nats {n : Nat} : ∀ {xs : List W}, xs.all (numIn 0 ((n : Int) - 1)) = true → ∃ p, xs = iN p ∧ ∀ x ∈ p, x < n
  | [], _ => ⟨[], rfl, by simp⟩
  | x :: xs, h => by
    simp only [List.all_cons, Bool.and_eq_true] at h
    obtain ⟨p, e, hp⟩ := numIn_nats h.2
    cases x with
    | int i =>
      simp only [numIn, Bool.and_eq_true, decide_eq_true_eq] at h
      refine ⟨i.toNat :: p, by rw [e]; simp [iN]; omega, fun y hy => ?_⟩
      rcases List.mem_cons.mp hy with rfl | z
      · omega
      · exact hp y z
    | _ => simp [numIn] at h
theorem nodup_cast {p : List Nat} : (p.map fun (n : Nat) => (n : Int)).Nodup ↔ p.Nodup := by
  constructor
  · intro h
    induction p with
    | nil => exact List.nodup_nil
    | cons a p ih =>
      rw [List.map_cons, List.nodup_cons] at h
      exact List.nodup_cons.mpr ⟨fun z => h.1 (List.mem_map.mpr ⟨a, z, rfl⟩), ih h.2⟩
  · intro h
    exact map_nodup h fun x _ y _ e => by omega
theorem isT_law {xs : List W} (h1 : 1 ≤ xs.length) (h2 : xs.length ≤ 40) : isT (.tup xs) = (xs.all (numIn 0 ((xs.length : Int) - 1)) && match mapO toInt xs with | some ns => decide ((distinct ns).length = xs.length) | none => false) := by
  cases h : isT (.tup xs) with
  | true =>
    obtain ⟨p, e, T, _, _⟩ := isT_iff.mp h
    cases e
    rw [iN_mapO]
    have ha : (iN p).all (numIn 0 (((iN p).length : Int) - 1)) = true := by
      rw [List.all_eq_true]
      intro x hx
      obtain ⟨n, hn, rfl⟩ := List.mem_map.mp hx
      have := T.lt n hn
      rw [iN_length]
      simp [numIn]
      omega
    rw [ha]
    simp only [Bool.true_and]
    refine (decide_eq_true ?_).symm
    rw [distinct_len.mpr (nodup_cast.mpr T.nd)]
    simp [iN]
  | false =>
    cases ha : xs.all (numIn 0 ((xs.length : Int) - 1)) with
    | false => rfl
    | true =>
      obtain ⟨p, e, hp⟩ := numIn_nats ha
      subst e
      rw [iN_mapO]
      simp only [Bool.true_and]
      refine (decide_eq_false fun hd => ?_).symm
      have hn : p.Nodup := nodup_cast.mp (distinct_len.mp (by rw [hd]; simp [iN]))
      rw [iN_length] at h1 h2 hp
      have := isT_iff.mpr ⟨p, rfl, ⟨hp, hn⟩, h1, h2⟩
      rw [h] at this
      cases this
theorem is_turn_ok {k : Nat} {w : W} {M : Mem} (h : goodT M w = true) : callN D (k+2) i__law_is_turn [w] M = .ok (.bl (isT w)) M := by
  rw [call_at (d := ⟨1, 2, c__law_is_turn⟩) (b := c__law_is_turn) (ρ := [some w, none]) rfl rfl rfl rfl]
  have hk := goodK_known (goodT_K h)
  cases w with
  | tup xs =>
    simp only [goodT, Bool.and_eq_true, List.all_eq_true, decide_eq_true_eq] at h
    obtain ⟨⟨hall, hfit⟩, hlen⟩ := h
    have hf11 : fitWs 11 xs = true := fit_ups (by decide) hfit
    show finW M (evSs (callN D (k+1)) (.cons (c__law_is_turn.nth 0) (.cons (c__law_is_turn.nth 1) (.cons (c__law_is_turn.nth 2) .nil))) [some (.tup xs), none] M) = _
    by_cases h1 : 1 ≤ xs.length
    · by_cases h2 : xs.length ≤ 40
      · have h1' : (1 : Int) ≤ (xs.length : Int) := by omega
        have h2' : (xs.length : Int) ≤ 40 := by omega
        have s0 : evS (callN D (k+1)) (c__law_is_turn.nth 0) [some (.tup xs), none] M = .ok (.nx [some (.tup xs), none]) M := by
          simp [CSs.nth, c__law_is_turn, xss_nil, xss_cons, xe_var, xe_k, xe_gk, xe_bin, xe_neg, xe_not, xe_and, xe_or, xe_ite, xe_cmp, xe_chain, xe_tup, xe_lst, xe_call, xe_callK, xe_bi, xe_isi, xe_meth, xe_ix, xe_sl, xe_rev, xe_dnew, xe_lenset, xs_pass, xs_expr, xs_asg, xs_par, xs_setLc, xs_augS, xs_aug, xs_ret, xs_retN, xs_if, xa_nil, xa_cons, xa_star, xb_val, xb_cmp, xb_chain, xb_not, xb_and, xb_or, xo_none, xo_some, xg_name, xg_tup, xg_sub, xgs_nil, xgs_cons, xi_seq, xi_enum, xi_zip, xt_nil, xt_one, evN, R.bind, R.stm, R.calm, itemW, atI, ixN, biW, storeW, cmpW, bin_add, bin_sub, bin_mod, bin_mul, bin_fdiv, bin_pow, setAll, finW, ofO, seqW, newL, newT, newOb, truthW, mtW, EV.listAt, mo_append_list, mo_pop_list, mo_extend_list, mo_remove_list, mo_count_list, mo_count_tuple, mo_index_list, mo_get_dict, mo_index_tuple, mo_upper_str, mo_isdigit_str, mo_split_str, mo_join_str, ty_list_tuple, ty_list_dict, ty_list_str, ty_tuple_list, ty_tuple_dict, ty_tuple_str, ty_dict_list, ty_dict_tuple, ty_dict_str, ty_str_list, ty_str_tuple, ty_str_dict, isi_tuple hk, isTupW, h1', h2']
        generalize hb : (xs.length : Int) - 1 = b
        have hE : evE (callN D (k+1)) (.lc (.mk (.one 1) (.seq (.var 0)) (.one (.not (.val (.call 40 (.cons (.var 1) (.cons (.k (.int 0)) (.cons (.bin .Sub (.bi .len (.cons (.var 0) .nil)) (.k (.int 1))) .nil))))))) [1]) (.var 1)) [some (.tup xs), none] M = .ok (.ref M.length) (M ++ [.lst (xs.filter (fun x => !numIn 0 b x))]) := by
          refine ev_lc_by (gs := []) (its := xs.map .one) rfl ?_
          have := lcL_pure (M := M) (g := evN (.one 1)) (t := evTs (callN D (k+1)) (.one (.not (.val (.call 40 (.cons (.var 1) (.cons (.k (.int 0)) (.cons (.bin .Sub (.bi .len (.cons (.var 0) .nil)) (.k (.int 1))) .nil)))))))) (el := evE (callN D (k+1)) (.var 1)) (gs := []) (ρ := [some (.tup xs), none]) (p := fun x => !numIn 0 b x) (f := id) (fun _ => guards_nil) xs [] (fun x hx acc => ⟨[some (.tup xs), some x], rfl, ?_, fun _ => rfl⟩) (by rw [sizeLine_eq]; simp; omega)
          · rw [List.nil_append, List.map_id] at this
            exact this
          · have hn := numIn_ok (k := k) (a := 0) (b := b) (M := M ++ [.lst acc]) (known_app (hall x hx))
            have hn : callN D (k+1) 40 [x, .int 0, .int b] (M ++ [.lst acc]) = _ := hn
            simp [xss_nil, xss_cons, xe_var, xe_k, xe_gk, xe_bin, xe_neg, xe_not, xe_and, xe_or, xe_ite, xe_cmp, xe_chain, xe_tup, xe_lst, xe_call, xe_callK, xe_bi, xe_isi, xe_meth, xe_ix, xe_sl, xe_rev, xe_dnew, xe_lenset, xs_pass, xs_expr, xs_asg, xs_par, xs_setLc, xs_augS, xs_aug, xs_ret, xs_retN, xs_if, xa_nil, xa_cons, xa_star, xb_val, xb_cmp, xb_chain, xb_not, xb_and, xb_or, xo_none, xo_some, xg_name, xg_tup, xg_sub, xgs_nil, xgs_cons, xi_seq, xi_enum, xi_zip, xt_nil, xt_one, evN, R.bind, R.stm, R.calm, itemW, atI, ixN, biW, storeW, cmpW, bin_add, bin_sub, bin_mod, bin_mul, bin_fdiv, bin_pow, setAll, finW, ofO, seqW, newL, newT, newOb, truthW, mtW, EV.listAt, mo_append_list, mo_pop_list, mo_extend_list, mo_remove_list, mo_count_list, mo_count_tuple, mo_index_list, mo_get_dict, mo_index_tuple, mo_upper_str, mo_isdigit_str, mo_split_str, mo_join_str, ty_list_tuple, ty_list_dict, ty_list_str, ty_tuple_list, ty_tuple_dict, ty_tuple_str, ty_dict_list, ty_dict_tuple, ty_dict_str, ty_str_list, ty_str_tuple, ty_str_dict, hb, hn]
        have e1 : cmpW .NotEq (.ref M.length) (.ref (M.length + 1)) (M ++ [Ob.lst (xs.filter (fun x => !numIn 0 b x)), Ob.lst []]) = .ok (!xs.all (numIn 0 b)) (M ++ [Ob.lst (xs.filter (fun x => !numIn 0 b x)), Ob.lst []]) := by
          have := ne_nil (M := M ++ [Ob.lst (xs.filter (fun x => !numIn 0 b x))]) at0 (fitWs_filter hf11)
          have hemp : (xs.filter (fun x => !numIn 0 b x)).isEmpty = xs.all (numIn 0 b) := by
            clear hE s0 this hfit hf11 hall hlen hk h1 h2 h1' h2' hb
            induction xs with
            | nil => rfl
            | cons x xs ih =>
              by_cases hx : numIn 0 b x = true
              · simp [List.filter_cons, hx, ih]
              · simp [List.filter_cons, hx]
          rw [hemp] at this
          simpa using this
        have s1 : evS (callN D (k+1)) (c__law_is_turn.nth 1) [some (.tup xs), none] M = if xs.all (numIn 0 b) = true then .ok (.nx [some (.tup xs), none]) (M ++ [Ob.lst (xs.filter (fun x => !numIn 0 b x)), Ob.lst []]) else .ok (.ret (.bl false)) (M ++ [Ob.lst (xs.filter (fun x => !numIn 0 b x)), Ob.lst []]) := by
          show (evB (callN D (k+1)) (.cmp .NotEq _ (.lst .nil)) _ M).stm _ _ = _
          rw [xb_cmp, hE]
          simp only [R.bind, xe_lst, xa_nil, newL, newOb, List.length_nil, Nat.zero_le, if_true, List.append_assoc, List.length_append, List.length_cons, List.cons_append, List.nil_append, Nat.zero_add, e1, R.stm]
          cases xs.all (numIn 0 b) <;> simp [xss_nil, xss_cons, xe_var, xe_k, xe_gk, xe_bin, xe_neg, xe_not, xe_and, xe_or, xe_ite, xe_cmp, xe_chain, xe_tup, xe_lst, xe_call, xe_callK, xe_bi, xe_isi, xe_meth, xe_ix, xe_sl, xe_rev, xe_dnew, xe_lenset, xs_pass, xs_expr, xs_asg, xs_par, xs_setLc, xs_augS, xs_aug, xs_ret, xs_retN, xs_if, xa_nil, xa_cons, xa_star, xb_val, xb_cmp, xb_chain, xb_not, xb_and, xb_or, xo_none, xo_some, xg_name, xg_tup, xg_sub, xgs_nil, xgs_cons, xi_seq, xi_enum, xi_zip, xt_nil, xt_one, evN, R.bind, R.stm, R.calm, itemW, atI, ixN, biW, storeW, cmpW, bin_add, bin_sub, bin_mod, bin_mul, bin_fdiv, bin_pow, setAll, finW, ofO, seqW, newL, newT, newOb, truthW, mtW, EV.listAt, mo_append_list, mo_pop_list, mo_extend_list, mo_remove_list, mo_count_list, mo_count_tuple, mo_index_list, mo_get_dict, mo_index_tuple, mo_upper_str, mo_isdigit_str, mo_split_str, mo_join_str, ty_list_tuple, ty_list_dict, ty_list_str, ty_tuple_list, ty_tuple_dict, ty_tuple_str, ty_dict_list, ty_dict_tuple, ty_dict_str, ty_str_list, ty_str_tuple, ty_str_dict]
        rw [evSs_cons s0]
        have hT := isT_law h1 h2
        rw [hb] at hT
        cases hn : xs.all (numIn 0 b) with
        | false =>
          rw [hn] at s1 hT
          rw [evSs_ret s1]
          simp only [finW, R.bind, R.calm, hT, Bool.false_and]
          exact trim_app rfl
        | true =>
          rw [hn] at s1 hT
          rw [evSs_cons s1]
          rw [← hb] at hn
          obtain ⟨p, rfl, _⟩ := numIn_nats hn
          have hpl : (p.map fun (n : Nat) => (n : Int)).length ≤ 1000 := by rw [iN_length] at hlen; simpa using hlen
          rw [iN_mapO] at hT
          simp only [Bool.true_and] at hT
          have s2 : evS (callN D (k+1)) (c__law_is_turn.nth 2) [some (tN p), none] (M ++ [Ob.lst ((iN p).filter (fun x => !numIn 0 b x)), Ob.lst []]) = .ok (.ret (.bl (isT (tN p)))) (M ++ [Ob.lst ((iN p).filter (fun x => !numIn 0 b x)), Ob.lst []]) := by
            rw [hT]
            simp only [CSs.nth, c__law_is_turn, xss_nil, xss_cons, xe_var, xe_k, xe_gk, xe_bin, xe_neg, xe_not, xe_and, xe_or, xe_ite, xe_cmp, xe_chain, xe_tup, xe_lst, xe_call, xe_callK, xe_bi, xe_isi, xe_meth, xe_ix, xe_sl, xe_rev, xe_dnew, xe_lenset, xs_pass, xs_expr, xs_asg, xs_par, xs_setLc, xs_augS, xs_aug, xs_ret, xs_retN, xs_if, xa_nil, xa_cons, xa_star, xb_val, xb_cmp, xb_chain, xb_not, xb_and, xb_or, xo_none, xo_some, xg_name, xg_tup, xg_sub, xgs_nil, xgs_cons, xi_seq, xi_enum, xi_zip, xt_nil, xt_one, evN, R.bind, R.stm, R.calm, itemW, atI, ixN, biW, storeW, cmpW, bin_add, bin_sub, bin_mod, bin_mul, bin_fdiv, bin_pow, setAll, finW, ofO, seqW, newL, newT, newOb, truthW, mtW, EV.listAt, mo_append_list, mo_pop_list, mo_extend_list, mo_remove_list, mo_count_list, mo_count_tuple, mo_index_list, mo_get_dict, mo_index_tuple, mo_upper_str, mo_isdigit_str, mo_split_str, mo_join_str, ty_list_tuple, ty_list_dict, ty_list_str, ty_tuple_list, ty_tuple_dict, ty_tuple_str, ty_dict_list, ty_dict_tuple, ty_dict_str, ty_str_list, ty_str_tuple, ty_str_dict, List.getElem?_cons_zero, iN_mapO, if_pos hpl, eq_ii]
            congr 3
            by_cases hd : (distinct (p.map fun (n : Nat) => (n : Int))).length = (iN p).length
            · rw [decide_eq_true hd, decide_eq_true (by rw [hd])]
            · rw [decide_eq_false hd, decide_eq_false (by omega)]
          rw [evSs_ret s2]
          simp only [finW, R.bind, R.calm]
          exact trim_app rfl
      · have h1' : (1 : Int) ≤ (xs.length : Int) := by omega
        have h2' : ¬ (xs.length : Int) ≤ 40 := by omega
        have s0 : evS (callN D (k+1)) (c__law_is_turn.nth 0) [some (.tup xs), none] M = .ok (.ret (.bl false)) M := by
          simp [CSs.nth, c__law_is_turn, xss_nil, xss_cons, xe_var, xe_k, xe_gk, xe_bin, xe_neg, xe_not, xe_and, xe_or, xe_ite, xe_cmp, xe_chain, xe_tup, xe_lst, xe_call, xe_callK, xe_bi, xe_isi, xe_meth, xe_ix, xe_sl, xe_rev, xe_dnew, xe_lenset, xs_pass, xs_expr, xs_asg, xs_par, xs_setLc, xs_augS, xs_aug, xs_ret, xs_retN, xs_if, xa_nil, xa_cons, xa_star, xb_val, xb_cmp, xb_chain, xb_not, xb_and, xb_or, xo_none, xo_some, xg_name, xg_tup, xg_sub, xgs_nil, xgs_cons, xi_seq, xi_enum, xi_zip, xt_nil, xt_one, evN, R.bind, R.stm, R.calm, itemW, atI, ixN, biW, storeW, cmpW, bin_add, bin_sub, bin_mod, bin_mul, bin_fdiv, bin_pow, setAll, finW, ofO, seqW, newL, newT, newOb, truthW, mtW, EV.listAt, mo_append_list, mo_pop_list, mo_extend_list, mo_remove_list, mo_count_list, mo_count_tuple, mo_index_list, mo_get_dict, mo_index_tuple, mo_upper_str, mo_isdigit_str, mo_split_str, mo_join_str, ty_list_tuple, ty_list_dict, ty_list_str, ty_tuple_list, ty_tuple_dict, ty_tuple_str, ty_dict_list, ty_dict_tuple, ty_dict_str, ty_str_list, ty_str_tuple, ty_str_dict, isi_tuple hk, isTupW, h1', h2']
        rw [evSs_ret s0]
        simp [finW, R.bind, R.calm, trim_id, isT, h2]
    · have h1' : ¬ (1 : Int) ≤ (xs.length : Int) := by omega
      have s0 : evS (callN D (k+1)) (c__law_is_turn.nth 0) [some (.tup xs), none] M = .ok (.ret (.bl false)) M := by
        simp [CSs.nth, c__law_is_turn, xss_nil, xss_cons, xe_var, xe_k, xe_gk, xe_bin, xe_neg, xe_not, xe_and, xe_or, xe_ite, xe_cmp, xe_chain, xe_tup, xe_lst, xe_call, xe_callK, xe_bi, xe_isi, xe_meth, xe_ix, xe_sl, xe_rev, xe_dnew, xe_lenset, xs_pass, xs_expr, xs_asg, xs_par, xs_setLc, xs_augS, xs_aug, xs_ret, xs_retN, xs_if, xa_nil, xa_cons, xa_star, xb_val, xb_cmp, xb_chain, xb_not, xb_and, xb_or, xo_none, xo_some, xg_name, xg_tup, xg_sub, xgs_nil, xgs_cons, xi_seq, xi_enum, xi_zip, xt_nil, xt_one, evN, R.bind, R.stm, R.calm, itemW, atI, ixN, biW, storeW, cmpW, bin_add, bin_sub, bin_mod, bin_mul, bin_fdiv, bin_pow, setAll, finW, ofO, seqW, newL, newT, newOb, truthW, mtW, EV.listAt, mo_append_list, mo_pop_list, mo_extend_list, mo_remove_list, mo_count_list, mo_count_tuple, mo_index_list, mo_get_dict, mo_index_tuple, mo_upper_str, mo_isdigit_str, mo_split_str, mo_join_str, ty_list_tuple, ty_list_dict, ty_list_str, ty_tuple_list, ty_tuple_dict, ty_tuple_str, ty_dict_list, ty_dict_tuple, ty_dict_str, ty_str_list, ty_str_tuple, ty_str_dict, isi_tuple hk, isTupW, h1']
      rw [evSs_ret s0]
      simp [finW, R.bind, R.calm, trim_id, isT, h1]
  | _ => simp [c__law_is_turn, xss_nil, xss_cons, xe_var, xe_k, xe_gk, xe_bin, xe_neg, xe_not, xe_and, xe_or, xe_ite, xe_cmp, xe_chain, xe_tup, xe_lst, xe_call, xe_callK, xe_bi, xe_isi, xe_meth, xe_ix, xe_sl, xe_rev, xe_dnew, xe_lenset, xs_pass, xs_expr, xs_asg, xs_par, xs_setLc, xs_augS, xs_aug, xs_ret, xs_retN, xs_if, xa_nil, xa_cons, xa_star, xb_val, xb_cmp, xb_chain, xb_not, xb_and, xb_or, xo_none, xo_some, xg_name, xg_tup, xg_sub, xgs_nil, xgs_cons, xi_seq, xi_enum, xi_zip, xt_nil, xt_one, evN, R.bind, R.stm, R.calm, itemW, atI, ixN, biW, storeW, cmpW, bin_add, bin_sub, bin_mod, bin_mul, bin_fdiv, bin_pow, setAll, finW, ofO, seqW, newL, newT, newOb, truthW, mtW, EV.listAt, mo_append_list, mo_pop_list, mo_extend_list, mo_remove_list, mo_count_list, mo_count_tuple, mo_index_list, mo_get_dict, mo_index_tuple, mo_upper_str, mo_isdigit_str, mo_split_str, mo_join_str, ty_list_tuple, ty_list_dict, ty_list_str, ty_tuple_list, ty_tuple_dict, ty_tuple_str, ty_dict_list, ty_dict_tuple, ty_dict_str, ty_str_list, ty_str_tuple, ty_str_dict, isi_tuple hk, isTupW, isT, trim_id]
end GD

namespace PM
theorem then_tn {p q : List Nat} (T : Tn p) (U : Tn q) (h : p.length = q.length) : Tn (p.map (ap q)) := by
  refine ⟨fun x hx => ?_, map_nodup T.nd fun x hx y hy e => U.ap_inj (h ▸ T.lt x hx) (h ▸ T.lt y hy) e⟩
  obtain ⟨y, hy, rfl⟩ := List.mem_map.mp hx
  rw [List.length_map, h]
  exact U.ap_lt (h ▸ T.lt y hy)
theorem ap_map {p : List Nat} {f : Nat → Nat} {i : Nat} (h : i < p.length) : ap (p.map f) i = f (ap p i) := by
  simp [ap, List.getD_eq_getElem?_getD, List.getElem?_eq_getElem h]
theorem rings_sum {p : List Nat} (T : Tn p) : ((rings p).map List.length).sum = p.length := by
  have := (rings_perm T).length_eq
  rw [List.length_flatten, List.length_range] at this
  exact this
end PM
namespace GD
open PySem PySem.Spec PyProof.Rows L2 EV PM
/-! Q8: one ring -/
theorem eq_tt {M : Mem} {a b : List Int} : eqW M (.tup (a.map .int)) (.tup (b.map .int)) = some (decide (a = b)) := by
  rw [eq_fit (by simpa [fitW] using fit_ints (n := 10) a) (by simpa [fitW] using fit_ints (n := 10) b)]
  simp only [dP, dPs_ints, PyData.eqv, eqv_ints]
theorem kind_one {p : List Nat} (T : Tn p) : decide ((sortI (kindL p)).reverse = [(p.length : Int)]) = decide ((rings p).length = 1) := by
  have hs := rings_sum T
  have hp := sortI_perm (kindL p)
  by_cases h : (rings p).length = 1
  · rw [decide_eq_true h]
    apply decide_eq_true
    obtain ⟨r, hr⟩ := List.length_eq_one_iff.mp h
    rw [hr] at hs
    simp only [List.map_cons, List.map_nil, List.sum_cons, List.sum_nil, Nat.add_zero] at hs
    simp [kindL, hr, sortI, insI, hs]
  · rw [decide_eq_false h]
    apply decide_eq_false
    intro e
    apply h
    have := congrArg List.length e
    rw [List.length_reverse, hp.length_eq] at this
    simpa [kindL] using this
theorem rings_le {p : List Nat} : (rings p).length ≤ p.length := by
  have := List.length_filter_le (isRep p) (List.range p.length)
  simp only [rings, List.length_map]
  simpa using this
theorem lawRound_ok {k : Nat} {p q : List Nat} {M : Mem} (T : Tn p) (U : Tn q) (h : p.length = q.length) (hl : p.length ≤ 1000) : callN D (k+2) i__law_is_round [tN p, tN q] M = .ok (.bl (decide ((rings (p.map (ap q))).length = 1))) M := by
  rw [call_at (d := ⟨2, 2, c__law_is_round⟩) (b := c__law_is_round) (ρ := [some (tN p), some (tN q)]) rfl rfl rfl rfl]
  have e1 : callN D (k+1) 5 [tN p, tN q] M = _ := led_ok (k := k) (M := M) (p := p) (q := q) (fun x hx => h ▸ T.lt x hx) hl
  have e2 : callN D (k+1) 8 [tN (p.map (ap q))] M = _ := walked_ok (k := k) (M := M) (then_tn T U h) (by rw [List.length_map]; exact hl)
  generalize p.map (ap q) = r at e1 e2 ⊢
  have s0 : evS (callN D (k+1)) (c__law_is_round.nth 0) [some (tN p), some (tN q)] M = .ok (.ret (.bl (decide ((rings r).length = 1)))) (M ++ [.lst ((rings r).map tN)]) := by
    simp only [CSs.nth, c__law_is_round, xss_nil, xss_cons, xe_var, xe_k, xe_gk, xe_bin, xe_neg, xe_not, xe_and, xe_or, xe_ite, xe_cmp, xe_chain, xe_tup, xe_lst, xe_call, xe_callK, xe_bi, xe_isi, xe_meth, xe_ix, xe_sl, xe_rev, xe_dnew, xe_lenset, xs_pass, xs_expr, xs_asg, xs_par, xs_setLc, xs_augS, xs_aug, xs_ret, xs_retN, xs_if, xa_nil, xa_cons, xa_star, xb_val, xb_cmp, xb_chain, xb_not, xb_and, xb_or, xo_none, xo_some, xg_name, xg_tup, xg_sub, xgs_nil, xgs_cons, xi_seq, xi_enum, xi_zip, xt_nil, xt_one, evN, R.bind, R.stm, R.calm, itemW, atI, ixN, biW, storeW, cmpW, bin_add, bin_sub, bin_mod, bin_mul, bin_fdiv, bin_pow, setAll, finW, ofO, seqW, newL, newT, newOb, truthW, mtW, EV.listAt, mo_append_list, mo_pop_list, mo_extend_list, mo_remove_list, mo_count_list, mo_count_tuple, mo_index_list, mo_get_dict, mo_index_tuple, mo_upper_str, mo_isdigit_str, mo_split_str, mo_join_str, ty_list_tuple, ty_list_dict, ty_list_str, ty_tuple_list, ty_tuple_dict, ty_tuple_str, ty_dict_list, ty_dict_tuple, ty_dict_str, ty_str_list, ty_str_tuple, ty_str_dict, List.getElem?_cons_zero, List.getElem?_cons_succ, e1, e2, at0, eq_ii, List.length_map]
    congr 3
    by_cases hd : (rings r).length = 1
    · rw [decide_eq_true hd, decide_eq_true (by omega)]
    · rw [decide_eq_false hd, decide_eq_false (by omega)]
  show finW M (evSs (callN D (k+1)) (.cons (c__law_is_round.nth 0) .nil) _ M) = _
  rw [evSs_ret s0]
  exact trim_app rfl
theorem round_ok {k : Nat} {p q : List Nat} {M : Mem} (T : Tn p) (U : Tn q) (h : p.length = q.length) (hl : p.length ≤ 1000) : callN D (k+2) i_is_round [tN p, tN q] M = .ok (.bl (decide ((rings (p.map (ap q))).length = 1))) M := by
  rw [call_at (d := ⟨2, 2, c_is_round⟩) (b := c_is_round) (ρ := [some (tN p), some (tN q)]) rfl rfl rfl rfl]
  have e1 : callN D (k+1) 16 [tN p, tN q] M = _ := ledOn_ok (k := k) (M := M) (p := p) (q := q) (fun x hx => h ▸ T.lt x hx) hl
  have V := then_tn T U h
  have e2 : callN D (k+1) 15 [tN (p.map (ap q))] M = _ := lengths_in_ok (k := k) (M := M) V (by rw [List.length_map]; exact hl)
  have hk := kind_one V
  rw [List.length_map] at hk
  generalize p.map (ap q) = r at e1 e2 hk ⊢
  have e3 : eqW M (kindW r) (.tup [.int (p.length : Int)]) = some (decide ((rings r).length = 1)) := by
    rw [← hk]
    exact eq_tt (a := (sortI (kindL r)).reverse) (b := [(p.length : Int)])
  have s0 : evS (callN D (k+1)) (c_is_round.nth 0) [some (tN p), some (tN q)] M = .ok (.ret (.bl (decide ((rings r).length = 1)))) M := by
    have hz : ([W.int (p.length : Int)]).length ≤ sizeLine := by rw [sizeLine_eq]; simp
    simp only [CSs.nth, c_is_round, xss_nil, xss_cons, xe_var, xe_k, xe_gk, xe_bin, xe_neg, xe_not, xe_and, xe_or, xe_ite, xe_cmp, xe_chain, xe_tup, xe_lst, xe_call, xe_callK, xe_bi, xe_isi, xe_meth, xe_ix, xe_sl, xe_rev, xe_dnew, xe_lenset, xs_pass, xs_expr, xs_asg, xs_par, xs_setLc, xs_augS, xs_aug, xs_ret, xs_retN, xs_if, xa_nil, xa_cons, xa_star, xb_val, xb_cmp, xb_chain, xb_not, xb_and, xb_or, xo_none, xo_some, xg_name, xg_tup, xg_sub, xgs_nil, xgs_cons, xi_seq, xi_enum, xi_zip, xt_nil, xt_one, evN, R.bind, R.stm, R.calm, itemW, atI, ixN, biW, storeW, cmpW, bin_add, bin_sub, bin_mod, bin_mul, bin_fdiv, bin_pow, setAll, finW, ofO, seqW, newL, newT, newOb, truthW, mtW, EV.listAt, mo_append_list, mo_pop_list, mo_extend_list, mo_remove_list, mo_count_list, mo_count_tuple, mo_index_list, mo_get_dict, mo_index_tuple, mo_upper_str, mo_isdigit_str, mo_split_str, mo_join_str, ty_list_tuple, ty_list_dict, ty_list_str, ty_tuple_list, ty_tuple_dict, ty_tuple_str, ty_dict_list, ty_dict_tuple, ty_dict_str, ty_str_list, ty_str_tuple, ty_str_dict, List.getElem?_cons_zero, List.getElem?_cons_succ, e1, e2, iN_length, if_pos hz, e3]
  show finW M (evSs (callN D (k+1)) (.cons (c_is_round.nth 0) .nil) _ M) = _
  rw [evSs_ret s0]
  exact trim_id
end GD

namespace GD
open PySem PySem.Spec PyProof.Rows L2 EV PM
/-! Q9: what is accepted: completed, ring -/
theorem areLen_ints {w : W} (h : areLen w = true) : ∃ ns : List Int, w = .tup (ns.map .int) := by
  cases w with
  | tup xs =>
    simp only [areLen, Bool.and_eq_true] at h
    obtain ⟨ns, e⟩ := chain_ints h.1.2
    exact ⟨ns, by rw [e]⟩
  | _ => cases h
def sumT : W → Int
  | .tup xs => sumW xs
  | _ => 0
def numsT : W → List Int
  | .tup xs => numsW xs
  | _ => []
theorem sumT_ints (ns : List Int) : sumT (.tup (ns.map .int)) = ns.sum := by simp [sumT, sumW, mapO_ints]
theorem numsT_ints (ns : List Int) : numsT (.tup (ns.map .int)) = ns := by simp [numsT, numsW, mapO_ints]
def natsT (w : W) : List Nat := (numsT w).map Int.toNat
theorem natsT_tN (p : List Nat) : natsT (tN p) = p := by
  unfold natsT
  rw [show tN p = .tup ((p.map fun (n : Nat) => (n : Int)).map W.int) by rw [← iN_ints], numsT_ints, List.map_map]
  conv => rhs; rw [← List.map_id p]
  apply List.map_congr_left
  intro x _
  simp
def lenT : W → Nat
  | .tup xs => xs.length
  | _ => 0
def kindI (p : List Nat) : List Int := (sortI (kindL p)).reverse
theorem kindW_eq (p : List Nat) : kindW p = .tup ((kindI p).map .int) := rfl
def roundB (p q : List Nat) : Bool := decide ((rings (p.map (ap q))).length = 1)
def compB (r l p : W) : Bool := isT r && (areLen l && (isT p && (decide (lenT p = lenT r) && (decide (kindI (natsT p) = numsT l) && roundB (natsT r) (natsT p)))))
theorem ne_ii {M : Mem} {a b : Nat} : cmpW .NotEq (.int (a : Int)) (.int (b : Int)) M = .ok (!decide (a = b)) M := by
  simp only [cmpW, eq_ii, ofO, Option.map_some]
  congr 2
  by_cases h : a = b
  · rw [decide_eq_true h, decide_eq_true (by omega)]
  · rw [decide_eq_false h, decide_eq_false (by omega)]
theorem comp_ok {k : Nat} {r l p : W} {M : Mem} (hr : goodT M r = true) (hl : goodT M l = true) (hp : goodT M p = true) : callN D (k+3) i_completed_shown [r, l, p] M = .ok (.bl (compB r l p)) M := by
  rw [call_at (d := ⟨3, 3, c_completed_shown⟩) (b := c_completed_shown) (ρ := [some r, some l, some p]) rfl rfl rfl rfl]
  have e1 : callN D (k+2) 21 [r] M = _ := is_row_ok (k := k) (goodT_K hr)
  have e2 : callN D (k+2) 19 [l] M = _ := lengths_ok (k := k) (goodT_K hl)
  have e3 : callN D (k+2) 21 [p] M = _ := is_row_ok (k := k) (goodT_K hp)
  cases h1 : isT r with
  | false => simp [c_completed_shown, xss_nil, xss_cons, xe_var, xe_k, xe_gk, xe_bin, xe_neg, xe_not, xe_and, xe_or, xe_ite, xe_cmp, xe_chain, xe_tup, xe_lst, xe_call, xe_callK, xe_bi, xe_isi, xe_meth, xe_ix, xe_sl, xe_rev, xe_dnew, xe_lenset, xs_pass, xs_expr, xs_asg, xs_par, xs_setLc, xs_augS, xs_aug, xs_ret, xs_retN, xs_if, xa_nil, xa_cons, xa_star, xb_val, xb_cmp, xb_chain, xb_not, xb_and, xb_or, xo_none, xo_some, xg_name, xg_tup, xg_sub, xgs_nil, xgs_cons, xi_seq, xi_enum, xi_zip, xt_nil, xt_one, evN, R.bind, R.stm, R.calm, itemW, atI, ixN, biW, storeW, cmpW, bin_add, bin_sub, bin_mod, bin_mul, bin_fdiv, bin_pow, setAll, finW, ofO, seqW, newL, newT, newOb, truthW, mtW, EV.listAt, mo_append_list, mo_pop_list, mo_extend_list, mo_remove_list, mo_count_list, mo_count_tuple, mo_index_list, mo_get_dict, mo_index_tuple, mo_upper_str, mo_isdigit_str, mo_split_str, mo_join_str, ty_list_tuple, ty_list_dict, ty_list_str, ty_tuple_list, ty_tuple_dict, ty_tuple_str, ty_dict_list, ty_dict_tuple, ty_dict_str, ty_str_list, ty_str_tuple, ty_str_dict, e1, h1, compB, trim_id]
  | true =>
    cases h2 : areLen l with
    | false => simp [c_completed_shown, xss_nil, xss_cons, xe_var, xe_k, xe_gk, xe_bin, xe_neg, xe_not, xe_and, xe_or, xe_ite, xe_cmp, xe_chain, xe_tup, xe_lst, xe_call, xe_callK, xe_bi, xe_isi, xe_meth, xe_ix, xe_sl, xe_rev, xe_dnew, xe_lenset, xs_pass, xs_expr, xs_asg, xs_par, xs_setLc, xs_augS, xs_aug, xs_ret, xs_retN, xs_if, xa_nil, xa_cons, xa_star, xb_val, xb_cmp, xb_chain, xb_not, xb_and, xb_or, xo_none, xo_some, xg_name, xg_tup, xg_sub, xgs_nil, xgs_cons, xi_seq, xi_enum, xi_zip, xt_nil, xt_one, evN, R.bind, R.stm, R.calm, itemW, atI, ixN, biW, storeW, cmpW, bin_add, bin_sub, bin_mod, bin_mul, bin_fdiv, bin_pow, setAll, finW, ofO, seqW, newL, newT, newOb, truthW, mtW, EV.listAt, mo_append_list, mo_pop_list, mo_extend_list, mo_remove_list, mo_count_list, mo_count_tuple, mo_index_list, mo_get_dict, mo_index_tuple, mo_upper_str, mo_isdigit_str, mo_split_str, mo_join_str, ty_list_tuple, ty_list_dict, ty_list_str, ty_tuple_list, ty_tuple_dict, ty_tuple_str, ty_dict_list, ty_dict_tuple, ty_dict_str, ty_str_list, ty_str_tuple, ty_str_dict, e1, e2, h1, h2, compB, trim_id]
    | true =>
      cases h3 : isT p with
      | false => simp [c_completed_shown, xss_nil, xss_cons, xe_var, xe_k, xe_gk, xe_bin, xe_neg, xe_not, xe_and, xe_or, xe_ite, xe_cmp, xe_chain, xe_tup, xe_lst, xe_call, xe_callK, xe_bi, xe_isi, xe_meth, xe_ix, xe_sl, xe_rev, xe_dnew, xe_lenset, xs_pass, xs_expr, xs_asg, xs_par, xs_setLc, xs_augS, xs_aug, xs_ret, xs_retN, xs_if, xa_nil, xa_cons, xa_star, xb_val, xb_cmp, xb_chain, xb_not, xb_and, xb_or, xo_none, xo_some, xg_name, xg_tup, xg_sub, xgs_nil, xgs_cons, xi_seq, xi_enum, xi_zip, xt_nil, xt_one, evN, R.bind, R.stm, R.calm, itemW, atI, ixN, biW, storeW, cmpW, bin_add, bin_sub, bin_mod, bin_mul, bin_fdiv, bin_pow, setAll, finW, ofO, seqW, newL, newT, newOb, truthW, mtW, EV.listAt, mo_append_list, mo_pop_list, mo_extend_list, mo_remove_list, mo_count_list, mo_count_tuple, mo_index_list, mo_get_dict, mo_index_tuple, mo_upper_str, mo_isdigit_str, mo_split_str, mo_join_str, ty_list_tuple, ty_list_dict, ty_list_str, ty_tuple_list, ty_tuple_dict, ty_tuple_str, ty_dict_list, ty_dict_tuple, ty_dict_str, ty_str_list, ty_str_tuple, ty_str_dict, e1, e2, e3, h1, h2, h3, compB, trim_id]
      | true =>
        obtain ⟨a, rfl, Ta, a1, a2⟩ := isT_iff.mp h1
        obtain ⟨b, rfl, Tb, b1, b2⟩ := isT_iff.mp h3
        obtain ⟨ns, rfl⟩ := areLen_ints h2
        have e4 := ne_ii (M := M) (a := b.length) (b := a.length)
        by_cases h4 : b.length = a.length
        · have e5 : callN D (k+2) 15 [tN b] M = _ := lengths_in_ok (k := k+1) (M := M) Tb (by omega)
          have e6 : callN D (k+2) 17 [tN a, tN b] M = _ := round_ok (k := k) (M := M) Ta Tb h4.symm (by omega)
          have e7 : eqW M (kindW b) (.tup (ns.map .int)) = some (decide (kindI b = ns)) := eq_tt (a := kindI b)
          simp only [compB, h1, h2, h3, natsT_tN, numsT_ints, lenT, iN_length, decide_eq_true h4, Bool.true_and]
          rw [decide_eq_true h4] at e4
          cases h7 : decide (kindI b = ns) with
          | false => rw [h7] at e7; simp [c_completed_shown, xss_nil, xss_cons, xe_var, xe_k, xe_gk, xe_bin, xe_neg, xe_not, xe_and, xe_or, xe_ite, xe_cmp, xe_chain, xe_tup, xe_lst, xe_call, xe_callK, xe_bi, xe_isi, xe_meth, xe_ix, xe_sl, xe_rev, xe_dnew, xe_lenset, xs_pass, xs_expr, xs_asg, xs_par, xs_setLc, xs_augS, xs_aug, xs_ret, xs_retN, xs_if, xa_nil, xa_cons, xa_star, xb_val, xb_cmp, xb_chain, xb_not, xb_and, xb_or, xo_none, xo_some, xg_name, xg_tup, xg_sub, xgs_nil, xgs_cons, xi_seq, xi_enum, xi_zip, xt_nil, xt_one, evN, R.bind, R.stm, R.calm, itemW, atI, ixN, biW, storeW, cmpW, bin_add, bin_sub, bin_mod, bin_mul, bin_fdiv, bin_pow, setAll, finW, ofO, seqW, newL, newT, newOb, truthW, mtW, EV.listAt, mo_append_list, mo_pop_list, mo_extend_list, mo_remove_list, mo_count_list, mo_count_tuple, mo_index_list, mo_get_dict, mo_index_tuple, mo_upper_str, mo_isdigit_str, mo_split_str, mo_join_str, ty_list_tuple, ty_list_dict, ty_list_str, ty_tuple_list, ty_tuple_dict, ty_tuple_str, ty_dict_list, ty_dict_tuple, ty_dict_str, ty_str_list, ty_str_tuple, ty_str_dict, e1, e2, e3, h1, h2, h3, iN_length, eq_ii, h4, e5, e7, trim_id]
          | true => rw [h7] at e7; simp [c_completed_shown, xss_nil, xss_cons, xe_var, xe_k, xe_gk, xe_bin, xe_neg, xe_not, xe_and, xe_or, xe_ite, xe_cmp, xe_chain, xe_tup, xe_lst, xe_call, xe_callK, xe_bi, xe_isi, xe_meth, xe_ix, xe_sl, xe_rev, xe_dnew, xe_lenset, xs_pass, xs_expr, xs_asg, xs_par, xs_setLc, xs_augS, xs_aug, xs_ret, xs_retN, xs_if, xa_nil, xa_cons, xa_star, xb_val, xb_cmp, xb_chain, xb_not, xb_and, xb_or, xo_none, xo_some, xg_name, xg_tup, xg_sub, xgs_nil, xgs_cons, xi_seq, xi_enum, xi_zip, xt_nil, xt_one, evN, R.bind, R.stm, R.calm, itemW, atI, ixN, biW, storeW, cmpW, bin_add, bin_sub, bin_mod, bin_mul, bin_fdiv, bin_pow, setAll, finW, ofO, seqW, newL, newT, newOb, truthW, mtW, EV.listAt, mo_append_list, mo_pop_list, mo_extend_list, mo_remove_list, mo_count_list, mo_count_tuple, mo_index_list, mo_get_dict, mo_index_tuple, mo_upper_str, mo_isdigit_str, mo_split_str, mo_join_str, ty_list_tuple, ty_list_dict, ty_list_str, ty_tuple_list, ty_tuple_dict, ty_tuple_str, ty_dict_list, ty_dict_tuple, ty_dict_str, ty_str_list, ty_str_tuple, ty_str_dict, e1, e2, e3, h1, h2, h3, iN_length, eq_ii, h4, e5, e7, e6, trim_id, roundB]
        · have h5 : ¬ ((b.length : Int) = (a.length : Int)) := by omega
          simp [c_completed_shown, xss_nil, xss_cons, xe_var, xe_k, xe_gk, xe_bin, xe_neg, xe_not, xe_and, xe_or, xe_ite, xe_cmp, xe_chain, xe_tup, xe_lst, xe_call, xe_callK, xe_bi, xe_isi, xe_meth, xe_ix, xe_sl, xe_rev, xe_dnew, xe_lenset, xs_pass, xs_expr, xs_asg, xs_par, xs_setLc, xs_augS, xs_aug, xs_ret, xs_retN, xs_if, xa_nil, xa_cons, xa_star, xb_val, xb_cmp, xb_chain, xb_not, xb_and, xb_or, xo_none, xo_some, xg_name, xg_tup, xg_sub, xgs_nil, xgs_cons, xi_seq, xi_enum, xi_zip, xt_nil, xt_one, evN, R.bind, R.stm, R.calm, itemW, atI, ixN, biW, storeW, cmpW, bin_add, bin_sub, bin_mod, bin_mul, bin_fdiv, bin_pow, setAll, finW, ofO, seqW, newL, newT, newOb, truthW, mtW, EV.listAt, mo_append_list, mo_pop_list, mo_extend_list, mo_remove_list, mo_count_list, mo_count_tuple, mo_index_list, mo_get_dict, mo_index_tuple, mo_upper_str, mo_isdigit_str, mo_split_str, mo_join_str, ty_list_tuple, ty_list_dict, ty_list_str, ty_tuple_list, ty_tuple_dict, ty_tuple_str, ty_dict_list, ty_dict_tuple, ty_dict_str, ty_str_list, ty_str_tuple, ty_str_dict, e1, e2, e3, h1, h2, h3, iN_length, eq_ii, h4, h5, trim_id, compB, lenT]
theorem due3_ok {k : Nat} {r l p : W} {M : Mem} (hr : goodT M r = true) (hl : goodT M l = true) (hp : goodT M p = true) : callN D (k+3) i__law_due__3 [r, l, p] M = .ok (.bl (compB r l p)) M := by
  rw [call_at (d := ⟨3, 3, c__law_due__3⟩) (b := c__law_due__3) (ρ := [some r, some l, some p]) rfl rfl rfl rfl]
  have e1 : callN D (k+2) 42 [r] M = _ := is_turn_ok (k := k) hr
  have e2 : callN D (k+2) 41 [l] M = _ := kind_ok (k := k) hl
  have e3 : callN D (k+2) 42 [p] M = _ := is_turn_ok (k := k) hp
  rw [← kind_len] at e2
  cases h1 : isT r with
  | false => simp [c__law_due__3, xss_nil, xss_cons, xe_var, xe_k, xe_gk, xe_bin, xe_neg, xe_not, xe_and, xe_or, xe_ite, xe_cmp, xe_chain, xe_tup, xe_lst, xe_call, xe_callK, xe_bi, xe_isi, xe_meth, xe_ix, xe_sl, xe_rev, xe_dnew, xe_lenset, xs_pass, xs_expr, xs_asg, xs_par, xs_setLc, xs_augS, xs_aug, xs_ret, xs_retN, xs_if, xa_nil, xa_cons, xa_star, xb_val, xb_cmp, xb_chain, xb_not, xb_and, xb_or, xo_none, xo_some, xg_name, xg_tup, xg_sub, xgs_nil, xgs_cons, xi_seq, xi_enum, xi_zip, xt_nil, xt_one, evN, R.bind, R.stm, R.calm, itemW, atI, ixN, biW, storeW, cmpW, bin_add, bin_sub, bin_mod, bin_mul, bin_fdiv, bin_pow, setAll, finW, ofO, seqW, newL, newT, newOb, truthW, mtW, EV.listAt, mo_append_list, mo_pop_list, mo_extend_list, mo_remove_list, mo_count_list, mo_count_tuple, mo_index_list, mo_get_dict, mo_index_tuple, mo_upper_str, mo_isdigit_str, mo_split_str, mo_join_str, ty_list_tuple, ty_list_dict, ty_list_str, ty_tuple_list, ty_tuple_dict, ty_tuple_str, ty_dict_list, ty_dict_tuple, ty_dict_str, ty_str_list, ty_str_tuple, ty_str_dict, e1, h1, compB, trim_id]
  | true =>
    cases h2 : areLen l with
    | false => simp [c__law_due__3, xss_nil, xss_cons, xe_var, xe_k, xe_gk, xe_bin, xe_neg, xe_not, xe_and, xe_or, xe_ite, xe_cmp, xe_chain, xe_tup, xe_lst, xe_call, xe_callK, xe_bi, xe_isi, xe_meth, xe_ix, xe_sl, xe_rev, xe_dnew, xe_lenset, xs_pass, xs_expr, xs_asg, xs_par, xs_setLc, xs_augS, xs_aug, xs_ret, xs_retN, xs_if, xa_nil, xa_cons, xa_star, xb_val, xb_cmp, xb_chain, xb_not, xb_and, xb_or, xo_none, xo_some, xg_name, xg_tup, xg_sub, xgs_nil, xgs_cons, xi_seq, xi_enum, xi_zip, xt_nil, xt_one, evN, R.bind, R.stm, R.calm, itemW, atI, ixN, biW, storeW, cmpW, bin_add, bin_sub, bin_mod, bin_mul, bin_fdiv, bin_pow, setAll, finW, ofO, seqW, newL, newT, newOb, truthW, mtW, EV.listAt, mo_append_list, mo_pop_list, mo_extend_list, mo_remove_list, mo_count_list, mo_count_tuple, mo_index_list, mo_get_dict, mo_index_tuple, mo_upper_str, mo_isdigit_str, mo_split_str, mo_join_str, ty_list_tuple, ty_list_dict, ty_list_str, ty_tuple_list, ty_tuple_dict, ty_tuple_str, ty_dict_list, ty_dict_tuple, ty_dict_str, ty_str_list, ty_str_tuple, ty_str_dict, e1, e2, h1, h2, compB, trim_id]
    | true =>
      cases h3 : isT p with
      | false => simp [c__law_due__3, xss_nil, xss_cons, xe_var, xe_k, xe_gk, xe_bin, xe_neg, xe_not, xe_and, xe_or, xe_ite, xe_cmp, xe_chain, xe_tup, xe_lst, xe_call, xe_callK, xe_bi, xe_isi, xe_meth, xe_ix, xe_sl, xe_rev, xe_dnew, xe_lenset, xs_pass, xs_expr, xs_asg, xs_par, xs_setLc, xs_augS, xs_aug, xs_ret, xs_retN, xs_if, xa_nil, xa_cons, xa_star, xb_val, xb_cmp, xb_chain, xb_not, xb_and, xb_or, xo_none, xo_some, xg_name, xg_tup, xg_sub, xgs_nil, xgs_cons, xi_seq, xi_enum, xi_zip, xt_nil, xt_one, evN, R.bind, R.stm, R.calm, itemW, atI, ixN, biW, storeW, cmpW, bin_add, bin_sub, bin_mod, bin_mul, bin_fdiv, bin_pow, setAll, finW, ofO, seqW, newL, newT, newOb, truthW, mtW, EV.listAt, mo_append_list, mo_pop_list, mo_extend_list, mo_remove_list, mo_count_list, mo_count_tuple, mo_index_list, mo_get_dict, mo_index_tuple, mo_upper_str, mo_isdigit_str, mo_split_str, mo_join_str, ty_list_tuple, ty_list_dict, ty_list_str, ty_tuple_list, ty_tuple_dict, ty_tuple_str, ty_dict_list, ty_dict_tuple, ty_dict_str, ty_str_list, ty_str_tuple, ty_str_dict, e1, e2, e3, h1, h2, h3, compB, trim_id]
      | true =>
        obtain ⟨a, rfl, Ta, a1, a2⟩ := isT_iff.mp h1
        obtain ⟨b, rfl, Tb, b1, b2⟩ := isT_iff.mp h3
        obtain ⟨ns, rfl⟩ := areLen_ints h2
        by_cases h4 : b.length = a.length
        · have e5 : callN D (k+2) 9 [tN b] M = _ := kind_of_ok (k := k) (M := M) Tb (by omega)
          have e6 : callN D (k+2) 39 [tN a, tN b] M = _ := lawRound_ok (k := k) (M := M) Ta Tb h4.symm (by omega)
          have e7 : eqW M (kindW b) (.tup (ns.map .int)) = some (decide (kindI b = ns)) := eq_tt (a := kindI b)
          simp only [compB, h1, h2, h3, natsT_tN, numsT_ints, lenT, iN_length, decide_eq_true h4, Bool.true_and]
          cases h7 : decide (kindI b = ns) with
          | false => rw [h7] at e7; simp [c__law_due__3, xss_nil, xss_cons, xe_var, xe_k, xe_gk, xe_bin, xe_neg, xe_not, xe_and, xe_or, xe_ite, xe_cmp, xe_chain, xe_tup, xe_lst, xe_call, xe_callK, xe_bi, xe_isi, xe_meth, xe_ix, xe_sl, xe_rev, xe_dnew, xe_lenset, xs_pass, xs_expr, xs_asg, xs_par, xs_setLc, xs_augS, xs_aug, xs_ret, xs_retN, xs_if, xa_nil, xa_cons, xa_star, xb_val, xb_cmp, xb_chain, xb_not, xb_and, xb_or, xo_none, xo_some, xg_name, xg_tup, xg_sub, xgs_nil, xgs_cons, xi_seq, xi_enum, xi_zip, xt_nil, xt_one, evN, R.bind, R.stm, R.calm, itemW, atI, ixN, biW, storeW, cmpW, bin_add, bin_sub, bin_mod, bin_mul, bin_fdiv, bin_pow, setAll, finW, ofO, seqW, newL, newT, newOb, truthW, mtW, EV.listAt, mo_append_list, mo_pop_list, mo_extend_list, mo_remove_list, mo_count_list, mo_count_tuple, mo_index_list, mo_get_dict, mo_index_tuple, mo_upper_str, mo_isdigit_str, mo_split_str, mo_join_str, ty_list_tuple, ty_list_dict, ty_list_str, ty_tuple_list, ty_tuple_dict, ty_tuple_str, ty_dict_list, ty_dict_tuple, ty_dict_str, ty_str_list, ty_str_tuple, ty_str_dict, e1, e2, e3, h1, h2, h3, iN_length, eq_ii, h4, e5, e7, trim_id]
          | true => rw [h7] at e7; simp [c__law_due__3, xss_nil, xss_cons, xe_var, xe_k, xe_gk, xe_bin, xe_neg, xe_not, xe_and, xe_or, xe_ite, xe_cmp, xe_chain, xe_tup, xe_lst, xe_call, xe_callK, xe_bi, xe_isi, xe_meth, xe_ix, xe_sl, xe_rev, xe_dnew, xe_lenset, xs_pass, xs_expr, xs_asg, xs_par, xs_setLc, xs_augS, xs_aug, xs_ret, xs_retN, xs_if, xa_nil, xa_cons, xa_star, xb_val, xb_cmp, xb_chain, xb_not, xb_and, xb_or, xo_none, xo_some, xg_name, xg_tup, xg_sub, xgs_nil, xgs_cons, xi_seq, xi_enum, xi_zip, xt_nil, xt_one, evN, R.bind, R.stm, R.calm, itemW, atI, ixN, biW, storeW, cmpW, bin_add, bin_sub, bin_mod, bin_mul, bin_fdiv, bin_pow, setAll, finW, ofO, seqW, newL, newT, newOb, truthW, mtW, EV.listAt, mo_append_list, mo_pop_list, mo_extend_list, mo_remove_list, mo_count_list, mo_count_tuple, mo_index_list, mo_get_dict, mo_index_tuple, mo_upper_str, mo_isdigit_str, mo_split_str, mo_join_str, ty_list_tuple, ty_list_dict, ty_list_str, ty_tuple_list, ty_tuple_dict, ty_tuple_str, ty_dict_list, ty_dict_tuple, ty_dict_str, ty_str_list, ty_str_tuple, ty_str_dict, e1, e2, e3, h1, h2, h3, iN_length, eq_ii, h4, e5, e7, e6, trim_id, roundB]
        · have h5 : ¬ ((b.length : Int) = (a.length : Int)) := by omega
          simp [c__law_due__3, xss_nil, xss_cons, xe_var, xe_k, xe_gk, xe_bin, xe_neg, xe_not, xe_and, xe_or, xe_ite, xe_cmp, xe_chain, xe_tup, xe_lst, xe_call, xe_callK, xe_bi, xe_isi, xe_meth, xe_ix, xe_sl, xe_rev, xe_dnew, xe_lenset, xs_pass, xs_expr, xs_asg, xs_par, xs_setLc, xs_augS, xs_aug, xs_ret, xs_retN, xs_if, xa_nil, xa_cons, xa_star, xb_val, xb_cmp, xb_chain, xb_not, xb_and, xb_or, xo_none, xo_some, xg_name, xg_tup, xg_sub, xgs_nil, xgs_cons, xi_seq, xi_enum, xi_zip, xt_nil, xt_one, evN, R.bind, R.stm, R.calm, itemW, atI, ixN, biW, storeW, cmpW, bin_add, bin_sub, bin_mod, bin_mul, bin_fdiv, bin_pow, setAll, finW, ofO, seqW, newL, newT, newOb, truthW, mtW, EV.listAt, mo_append_list, mo_pop_list, mo_extend_list, mo_remove_list, mo_count_list, mo_count_tuple, mo_index_list, mo_get_dict, mo_index_tuple, mo_upper_str, mo_isdigit_str, mo_split_str, mo_join_str, ty_list_tuple, ty_list_dict, ty_list_str, ty_tuple_list, ty_tuple_dict, ty_tuple_str, ty_dict_list, ty_dict_tuple, ty_dict_str, ty_str_list, ty_str_tuple, ty_str_dict, e1, e2, e3, h1, h2, h3, iN_length, eq_ii, h4, h5, trim_id, compB, lenT]
/-- the words of claims are unlike -/
theorem word_ne {M : Mem} {a b : Str} (ha : PyData.canLay0 (.str a) = true) (hb : PyData.canLay0 (.str b) = true) (h : decide (a = b) = false) : eqW M (.str a) (.str b) = some false := by rw [eq_ss ha hb, h]
theorem word_eq {M : Mem} {a : Str} (ha : PyData.canLay0 (.str a) = true) : eqW M (.str a) (.str a) = some true := by rw [eq_ss ha ha]; simp
theorem accC_ok {k : Nat} {r l p : W} {M : Mem} (hr : goodT M r = true) (hl : goodT M l = true) (hp : goodT M p = true) : callN D (k+4) i_accepts [.tup [.str "completed", r, l], p] M = .ok (.bl (compB r l p)) M := by
  rw [call_eq (d := ⟨2, 5, c_accepts⟩) rfl rfl]
  have e1 : callN D (k+3) 25 [r, l, p] M = _ := comp_ok (k := k) hr hl hp
  have k1 : known M (.tup [.str "completed", r, l]) = true := rfl
  have k2 : known M (.str "completed") = true := rfl
  have w1 : eqW M (.str "completed") (.str "ring") = some false := word_ne (by decide +kernel) (by decide +kernel) (by decide +kernel)
  have w2 : eqW M (.str "completed") (.str "no ring") = some false := word_ne (by decide +kernel) (by decide +kernel) (by decide +kernel)
  have w3 : eqW M (.str "completed") (.str "completed") = some true := word_eq (by decide +kernel)
  simp [c_accepts, xss_nil, xss_cons, xe_var, xe_k, xe_gk, xe_bin, xe_neg, xe_not, xe_and, xe_or, xe_ite, xe_cmp, xe_chain, xe_tup, xe_lst, xe_call, xe_callK, xe_bi, xe_isi, xe_meth, xe_ix, xe_sl, xe_rev, xe_dnew, xe_lenset, xs_pass, xs_expr, xs_asg, xs_par, xs_setLc, xs_augS, xs_aug, xs_ret, xs_retN, xs_if, xa_nil, xa_cons, xa_star, xb_val, xb_cmp, xb_chain, xb_not, xb_and, xb_or, xo_none, xo_some, xg_name, xg_tup, xg_sub, xgs_nil, xgs_cons, xi_seq, xi_enum, xi_zip, xt_nil, xt_one, evN, R.bind, R.stm, R.calm, itemW, atI, ixN, biW, storeW, cmpW, bin_add, bin_sub, bin_mod, bin_mul, bin_fdiv, bin_pow, setAll, finW, ofO, seqW, newL, newT, newOb, truthW, mtW, EV.listAt, mo_append_list, mo_pop_list, mo_extend_list, mo_remove_list, mo_count_list, mo_count_tuple, mo_index_list, mo_get_dict, mo_index_tuple, mo_upper_str, mo_isdigit_str, mo_split_str, mo_join_str, ty_list_tuple, ty_list_dict, ty_list_str, ty_tuple_list, ty_tuple_dict, ty_tuple_str, ty_dict_list, ty_dict_tuple, ty_dict_str, ty_str_list, ty_str_tuple, ty_str_dict, isi_tuple k1, isTupW, isi_str k2, isStrW, eq_ii, w1, w2, w3, e1, trim_id]
end GD

namespace PM
def rot (b : List Nat) : List Nat := b.drop 1 ++ b.take 1
theorem rot_len {b : List Nat} : (rot b).length = b.length := by simp [rot]; omega
theorem rot_perm {b : List Nat} : (rot b).Perm b := by
  have := List.perm_append_comm (l₁ := b.drop 1) (l₂ := b.take 1)
  rw [List.take_append_drop] at this
  exact this
theorem rot_get {b : List Nat} {j : Nat} (h : j < b.length) : ap (rot b) j = if j + 1 = b.length then ap b 0 else ap b (j + 1) := by
  simp only [ap, rot, List.getD_eq_getElem?_getD]
  split
  · next e =>
    rw [List.getElem?_append_right (by simp; omega)]
    rw [List.length_drop, show j - (b.length - 1) = 0 by omega, List.getElem?_take, if_pos (by omega)]
  · next e =>
    rw [List.getElem?_append_left (by simp; omega), List.getElem?_drop, Nat.add_comm]
def psOf : List Nat → List Nat → List (Nat × Nat)
  | [], _ => []
  | l :: L, S => (S.take l).zip (rot (S.take l)) ++ psOf L (S.drop l)
theorem ps_fst : ∀ {L S : List Nat}, L.sum = S.length → (psOf L S).map (·.1) = S
  | [], S, h => by
    have : S = [] := List.length_eq_zero_iff.mp (by simpa using h.symm)
    subst this; rfl
  | l :: L, S, h => by
    rw [List.sum_cons] at h
    rw [psOf, List.map_append, ps_fst (L := L) (S := S.drop l) (by simp; omega)]
    rw [List.map_fst_zip (by rw [rot_len]; exact Nat.le_refl _), List.take_append_drop]
theorem ps_snd : ∀ {L S : List Nat}, L.sum = S.length → ((psOf L S).map (·.2)).Perm S
  | [], S, h => by
    have : S = [] := List.length_eq_zero_iff.mp (by simpa using h.symm)
    subst this; exact .refl _
  | l :: L, S, h => by
    rw [List.sum_cons] at h
    rw [psOf, List.map_append]
    have h1 := ps_snd (L := L) (S := S.drop l) (by simp; omega)
    rw [List.map_snd_zip (by rw [rot_len]; exact Nat.le_refl _)]
    have h2 := rot_perm (b := S.take l)
    have := h2.append h1
    rw [List.take_append_drop] at this
    exact this
def look (ps : List (Nat × Nat)) (i : Nat) : Nat := ((ps.find? fun q => decide (q.1 = i)).map (·.2)).getD 0
def madeT (ps : List (Nat × Nat)) (n : Nat) : List Nat := (List.range n).map (look ps)
theorem look_mem {ps : List (Nat × Nat)} (h : (ps.map (·.1)).Nodup) {i v : Nat} (hm : (i, v) ∈ ps) : look ps i = v := by
  unfold look
  induction ps with
  | nil => cases hm
  | cons q ps ih =>
    rw [List.map_cons, List.nodup_cons] at h
    rcases List.mem_cons.mp hm with e | e
    · rw [← e]; simp
    · have hne : ¬ q.1 = i := fun c => h.1 (by rw [c]; exact List.mem_map.mpr ⟨(i, v), e, rfl⟩)
      rw [List.find?_cons_of_neg (by simpa using hne)]
      exact ih h.2 e
theorem made_tn {ps : List (Nat × Nat)} {n : Nat} (h1 : (ps.map (·.1)).Perm (List.range n)) (h2 : (ps.map (·.2)).Perm (List.range n)) : Tn (madeT ps n) := by
  have n1 : (ps.map (·.1)).Nodup := h1.nodup_iff.mpr List.nodup_range
  have n2 : (ps.map (·.2)).Nodup := h2.nodup_iff.mpr List.nodup_range
  have key : ∀ i, i < n → ∃ v, (i, v) ∈ ps := fun i hi => by
    obtain ⟨⟨a, v⟩, hm, e⟩ := List.mem_map.mp (h1.mem_iff.mpr (List.mem_range.mpr hi))
    simp only at e
    subst e
    exact ⟨v, hm⟩
  refine ⟨fun x hx => ?_, map_nodup List.nodup_range fun i hi j hj e => ?_⟩
  · obtain ⟨i, hi, rfl⟩ := List.mem_map.mp hx
    obtain ⟨v, hm⟩ := key i (List.mem_range.mp hi)
    rw [look_mem n1 hm]
    simp only [madeT, List.length_map, List.length_range]
    exact List.mem_range.mp (h2.mem_iff.mp (List.mem_map.mpr ⟨(i, v), hm, rfl⟩))
  · obtain ⟨v, hv⟩ := key i (List.mem_range.mp hi)
    obtain ⟨u, hu⟩ := key j (List.mem_range.mp hj)
    rw [look_mem n1 hv, look_mem n1 hu] at e
    subst e
    obtain ⟨a, ha, ea⟩ := List.mem_iff_getElem.mp hv
    obtain ⟨b, hb, eb⟩ := List.mem_iff_getElem.mp hu
    have : a = b := nodup_inj n2 (by simpa using ha) (by simpa using hb) (by simp [ea, eb])
    subst this
    rw [ea] at eb
    exact (Prod.mk.inj eb).1
theorem made_len {ps : List (Nat × Nat)} {n : Nat} : (madeT ps n).length = n := by simp [madeT]
theorem ap_made {ps : List (Nat × Nat)} {n i : Nat} (h : i < n) : ap (madeT ps n) i = look ps i := by
  simp [ap, madeT, List.getD_eq_getElem?_getD, List.getElem?_map, List.getElem?_range h]
/-- one ring through all -/
theorem made_one {S : List Nat} {n : Nat} (hn : 0 < n) (h : S.Perm (List.range n)) : Tn (madeT (psOf [n] S) n) ∧ (rings (madeT (psOf [n] S) n)).length = 1 := by
  have hlen : S.length = n := by simpa using h.length_eq
  have e1 : ([n] : List Nat).sum = S.length := by simp [hlen]
  have f1 := ps_fst (L := [n]) (S := S) e1
  have f2 := ps_snd (L := [n]) (S := S) e1
  have T := made_tn (ps := psOf [n] S) (n := n) (by rw [f1]; exact h) (f2.trans h)
  have nd : S.Nodup := h.nodup_iff.mpr List.nodup_range
  have n1 : ((psOf [n] S).map (·.1)).Nodup := by rw [f1]; exact nd
  have eps : psOf [n] S = S.zip (rot S) := by simp [psOf, List.take_of_length_le (Nat.le_of_eq hlen)]
  have step : ∀ j, j < n → ap (madeT (psOf [n] S) n) (ap S j) = ap (rot S) j := fun j hj => by
    have hlt : ap S j < n := by
      have : ap S j ∈ S := by rw [← ap_getE (by omega)]; exact List.getElem_mem _
      exact List.mem_range.mp (h.mem_iff.mp this)
    rw [ap_made hlt]
    apply look_mem n1
    rw [eps]
    have : (S.zip (rot S))[j]? = some (ap S j, ap (rot S) j) := by
      rw [List.getElem?_zip_eq_some]
      exact ⟨ap_get (by omega), ap_get (by rw [rot_len]; omega)⟩
    exact List.mem_of_getElem? this
  have its : ∀ j, j < n → it (madeT (psOf [n] S) n) j (ap S 0) = ap S j := fun j => by
    induction j with
    | zero => intro _; rfl
    | succ j ih =>
      intro hj
      show ap _ (it _ j _) = _
      rw [ih (by omega), step j (by omega), rot_get (by omega), if_neg (by omega)]
  refine ⟨T, ?_⟩
  have h0 : ap S 0 < (madeT (psOf [n] S) n).length := by
    rw [made_len]
    have : ap S 0 ∈ S := by rw [← ap_getE (by omega)]; exact List.getElem_mem _
    exact List.mem_range.mp (h.mem_iff.mp this)
  obtain ⟨m, P⟩ := T.per h0
  have all : ∀ x, x < n → x ∈ ring (madeT (psOf [n] S) n) (ap S 0) := fun x hx => by
    have hx2 : x ∈ S := h.mem_iff.mpr (List.mem_range.mpr hx)
    obtain ⟨j, hj, e⟩ := List.mem_iff_getElem.mp hx2
    rw [mem_ring P]
    exact ⟨j, by rw [its j (by omega), ← ap_getE hj, e]⟩
  -- one representative
  generalize hp : madeT (psOf [n] S) n = p at *
  have hpl : p.length = n := by rw [← hp, made_len]
  obtain ⟨r, r1, r2, r3, _⟩ := rep_of T h0
  have hmem : r ∈ (List.range p.length).filter (isRep p) := List.mem_filter.mpr ⟨List.mem_range.mpr r1, r2⟩
  have huniq : ∀ x ∈ (List.range p.length).filter (isRep p), x = r := fun x hx => by
    obtain ⟨q1, q2⟩ := List.mem_filter.mp hx
    have q3 := List.mem_range.mp q1
    have a1 : x ∈ ring p (ap S 0) := all x (by omega)
    have a2 : x ∈ ring p r := ring_trans T r1 r3 a1
    exact rep_uniq T q3 r1 q2 r2 (by simp [ring]) a2
  have nd2 : ((List.range p.length).filter (isRep p)).Nodup := List.Nodup.sublist List.filter_sublist List.nodup_range
  have l1 := nodup_len (m := [r]) nd2 fun x hx => by rw [huniq x hx]; simp
  have l2 := List.length_pos_of_mem hmem
  simp only [rings, List.length_map]
  simp only [List.length_cons, List.length_nil] at l1
  omega
end PM

namespace GD
open PySem PySem.Spec PyProof.Rows L2 EV PM
/-! Q11: made turns -/
def kv (ps : List (Nat × Nat)) : List (Key × W) := ps.map fun q => (.inl (q.1 : Int), .int (q.2 : Int))
theorem kv_len {ps} : (kv ps).length = ps.length := by simp [kv]
theorem put_new {ps : List (Nat × Nat)} {x y : Nat} (h : x ∉ ps.map (·.1)) : putW (kv ps) (.inl (x : Int)) (.int (y : Int)) = kv (ps ++ [(x, y)]) := by
  unfold putW
  rw [if_neg]
  · simp [kv]
  · intro hc
    obtain ⟨q, hq, e⟩ := List.any_eq_true.mp hc
    obtain ⟨z, hz, rfl⟩ := List.mem_map.mp hq
    have e := of_decide_eq_true e
    simp only [Sum.inl.injEq] at e
    exact h (List.mem_map.mpr ⟨z, hz, by omega⟩)
theorem find_kv {ps : List (Nat × Nat)} {i : Nat} : ((kv ps).find? fun q => decide (q.1 = (.inl (i : Int) : Key))).map (·.2) = (ps.find? fun q => decide (q.1 = i)).map fun q => W.int (q.2 : Int) := by
  induction ps with
  | nil => rfl
  | cons q ps ih =>
    by_cases e : q.1 = i
    · subst e
      simp [kv]
    · have e2 : ¬ ((q.1 : Int) = (i : Int)) := by omega
      rw [List.find?_cons_of_neg (by simpa using e)]
      simp only [kv, List.map_cons]
      rw [List.find?_cons_of_neg (by simpa using e2)]
      exact ih
theorem get_kv {ps : List (Nat × Nat)} {i : Nat} (h : i ∈ ps.map (·.1)) : ((kv ps).find? fun q => decide (q.1 = (.inl (i : Int) : Key))).map (·.2) = some (.int (look ps i : Nat)) := by
  rw [find_kv]
  unfold look
  cases hf : ps.find? fun q => decide (q.1 = i) with
  | none =>
    obtain ⟨q, hq, e⟩ := List.mem_map.mp h
    have := List.find?_eq_none.mp hf q hq
    simp [e] at this
  | some q => rfl
theorem cut_nat {S : List Nat} {b l : Nat} (h : b + l ≤ S.length) : cutW (iN S) (some (b : Int)) (some ((b + l : Nat) : Int)) = iN ((S.drop b).take l) := by
  unfold cutW
  rw [HT.sIx_nat, HT.sIx_nat, iN_length, Nat.min_eq_left (show b ≤ S.length by omega), Nat.min_eq_left h, Nat.add_sub_cancel_left]
  simp [iN, List.map_take, List.map_drop]
abbrev mtOut : CSs := CS.bd (c__law_made_turn.nth 1)
abbrev mtIn : CSs := CS.bd (mtOut.nth 1)
theorem mt_in_step {k f q j : Nat} {b : List Nat} {ps : List (Nat × Nat)} {a0 a1 a3 a7 : Option W} {M : Mem} (hf : M[f]? = some (.dK (kv ps))) (hq : M[q]? = some (.lst (iN b))) (hj : j < b.length) (hn : ap b j ∉ ps.map (·.1)) (hl : ps.length ≤ 1000) :
    evSs (callN D k) mtIn [a0, a1, some (.ref f), a3, some (.int (b.length : Int)), some (.ref q), some (.int (j : Int)), a7] M = .ok (.nx [a0, a1, some (.ref f), a3, some (.int (b.length : Int)), some (.ref q), some (.int (j : Int)), a7]) (M.set f (.dK (kv (ps ++ [(ap b j, ap (rot b) j)])))) := by
  have h1 := atI_tN hj
  have h2 : atI (iN b) ((j : Int) + 1 - (b.length : Int)) = some (.int (ap (rot b) j : Nat)) := by
    rw [rot_get hj]
    by_cases e : j + 1 = b.length
    · rw [if_pos e]
      have : (j : Int) + 1 - (b.length : Int) = ((0 : Nat) : Int) := by omega
      rw [this]
      exact atI_tN (by omega)
    · rw [if_neg e]
      simp only [atI, ixN]
      rw [if_neg (by omega), if_pos (by rw [iN_length]; omega)]
      have : ((j : Int) + 1 - (b.length : Int) + ((iN b).length : Int)).toNat = j + 1 := by rw [iN_length]; omega
      rw [this]
      exact iN_get (by omega)
  have h3 := put_new (y := ap (rot b) j) hn
  have hz : (kv ps).length < sizeLine := by rw [kv_len, sizeLine_eq]; omega
  simp only [mtIn, mtOut, CS.bd, CSs.nth, c__law_made_turn, xss_nil, xss_cons, xe_var, xe_k, xe_gk, xe_bin, xe_neg, xe_not, xe_and, xe_or, xe_ite, xe_cmp, xe_chain, xe_tup, xe_lst, xe_call, xe_callK, xe_bi, xe_isi, xe_meth, xe_ix, xe_sl, xe_rev, xe_dnew, xe_lenset, xs_pass, xs_expr, xs_asg, xs_par, xs_setLc, xs_augS, xs_aug, xs_ret, xs_retN, xs_if, xa_nil, xa_cons, xa_star, xb_val, xb_cmp, xb_chain, xb_not, xb_and, xb_or, xo_none, xo_some, xg_name, xg_tup, xg_sub, xgs_nil, xgs_cons, xi_seq, xi_enum, xi_zip, xt_nil, xt_one, evN, R.bind, R.stm, R.calm, itemW, biW, storeW, cmpW, bin_add, bin_sub, bin_mod, bin_mul, bin_fdiv, bin_pow, setAll, finW, ofO, seqW, newL, newT, newOb, truthW, mtW, EV.listAt, mo_append_list, mo_pop_list, mo_extend_list, mo_remove_list, mo_count_list, mo_count_tuple, mo_index_list, mo_get_dict, mo_index_tuple, mo_upper_str, mo_isdigit_str, mo_split_str, mo_join_str, ty_list_tuple, ty_list_dict, ty_list_str, ty_tuple_list, ty_tuple_dict, ty_tuple_str, ty_dict_list, ty_dict_tuple, ty_dict_str, ty_str_list, ty_str_tuple, ty_str_dict, List.getElem?_cons_zero, List.getElem?_cons_succ, hq, hf, h1, h2, toKey, h3, if_pos hz]
theorem ap_take {S : List Nat} {l j : Nat} (h : j < l) : ap (S.take l) j = ap S j := by
  simp [ap, List.getD_eq_getElem?_getD, List.getElem?_take, h]
theorem zip_take {b c : List Nat} {j : Nat} (h1 : j < b.length) (h2 : j < c.length) : (b.zip c).take (j + 1) = (b.zip c).take j ++ [(ap b j, ap c j)] := by
  have : (b.zip c)[j]? = some (ap b j, ap c j) := by
    rw [List.getElem?_zip_eq_some]
    exact ⟨ap_get h1, ap_get h2⟩
  rw [List.take_add_one, this]
  rfl
theorem mt_in {k f q : Nat} {b : List Nat} {ps : List (Nat × Nat)} {a0 a1 a3 a6 a7 : Option W} {M : Mem} (hf : M[f]? = some (.dK (kv ps))) (hq : M[q]? = some (.lst (iN b))) (hfq : f ≠ q) (hn : (ps.map (·.1) ++ b).Nodup) (hl : ps.length + b.length ≤ 1000) :
    ∃ a6', evS (callN D k) (mtOut.nth 1) [a0, a1, some (.ref f), a3, some (.int (b.length : Int)), some (.ref q), a6, a7] M = .ok (.nx [a0, a1, some (.ref f), a3, some (.int (b.length : Int)), some (.ref q), a6', a7]) (M.set f (.dK (kv (ps ++ b.zip (rot b))))) := by
  have hi : evI (callN D k) (.range (.cons (.var 4) .nil)) [a0, a1, some (.ref f), a3, some (.int (b.length : Int)), some (.ref q), a6, a7] M = .ok ((iN (List.range b.length)).map .one, []) M := ei_range_n (by simp [xss_nil, xss_cons, xe_var, xe_k, xe_gk, xe_bin, xe_neg, xe_not, xe_and, xe_or, xe_ite, xe_cmp, xe_chain, xe_tup, xe_lst, xe_call, xe_callK, xe_bi, xe_isi, xe_meth, xe_ix, xe_sl, xe_rev, xe_dnew, xe_lenset, xs_pass, xs_expr, xs_asg, xs_par, xs_setLc, xs_augS, xs_aug, xs_ret, xs_retN, xs_if, xa_nil, xa_cons, xa_star, xb_val, xb_cmp, xb_chain, xb_not, xb_and, xb_or, xo_none, xo_some, xg_name, xg_tup, xg_sub, xgs_nil, xgs_cons, xi_seq, xi_enum, xi_zip, xt_nil, xt_one, evN, R.bind, R.stm, R.calm, itemW, atI, ixN, biW, storeW, cmpW, bin_add, bin_sub, bin_mod, bin_mul, bin_fdiv, bin_pow, setAll, finW, ofO, seqW, newL, newT, newOb, truthW, mtW, EV.listAt, mo_append_list, mo_pop_list, mo_extend_list, mo_remove_list, mo_count_list, mo_count_tuple, mo_index_list, mo_get_dict, mo_index_tuple, mo_upper_str, mo_isdigit_str, mo_split_str, mo_join_str, ty_list_tuple, ty_list_dict, ty_list_str, ty_tuple_list, ty_tuple_dict, ty_tuple_str, ty_dict_list, ty_dict_tuple, ty_dict_str, ty_str_list, ty_str_tuple, ty_str_dict]) (by omega)
  obtain ⟨ρ', M', e, ⟨a6', h1⟩, h2⟩ := forL_ix (g := evN (.one 6)) (body := evSs (callN D k) mtIn) (gs := []) (Inv := fun j ρ M' => (∃ a6, ρ = [a0, a1, some (.ref f), a3, some (.int (b.length : Int)), some (.ref q), a6, a7]) ∧ M' = M.set f (.dK (kv (ps ++ (b.zip (rot b)).take j)))) (fun _ _ _ _ => guards_nil) ((iN (List.range b.length)).map .one) 0 [a0, a1, some (.ref f), a3, some (.int (b.length : Int)), some (.ref q), a6, a7] M (fun i x hx ρ M1 hI => by
    obtain ⟨hi, rfl⟩ := iN_at hx
    rw [List.length_range] at hi
    rw [ap_range hi]
    rw [Nat.zero_add] at hI ⊢
    obtain ⟨⟨a6, rfl⟩, rfl⟩ := hI
    have hnd := List.nodup_append.mp hn
    have hst := mt_in_step (k := k) (f := f) (q := q) (j := i) (b := b) (ps := ps ++ (b.zip (rot b)).take i) (a0 := a0) (a1 := a1) (a3 := a3) (a7 := a7) (M := M.set f (.dK (kv (ps ++ (b.zip (rot b)).take i)))) (set_at hf) (by rw [List.getElem?_set_ne hfq]; exact hq) hi (by
      rw [List.map_append, List.mem_append]
      rintro (z | z)
      · exact hnd.2.2 _ z (ap b i) (by rw [← ap_getE hi]; exact List.getElem_mem hi) rfl
      · rw [List.map_take, List.map_fst_zip (by rw [rot_len]; exact Nat.le_refl _)] at z
        obtain ⟨m, hm, e⟩ := List.mem_iff_getElem.mp z
        have hm2 : m < i := by simp at hm; omega
        rw [List.getElem_take, ← ap_getE hi] at e
        have := nodup_inj hnd.2.1 (by omega) hi e
        omega) (by simp [rot_len]; omega)
    refine ⟨_, _, _, _, rfl, hst, ⟨_, rfl⟩, ?_⟩
    rw [List.set_set, List.append_assoc, zip_take hi (by rw [rot_len]; exact hi)]) ⟨⟨a6, rfl⟩, by
      simp only [List.take_zero, List.append_nil]
      apply List.ext_getElem?
      intro i
      by_cases e : i = f
      · subst e; rw [List.getElem?_set_self (get_lt hf), hf]
      · rw [List.getElem?_set_ne (Ne.symm e)]⟩
  refine ⟨a6', ?_⟩
  have hlen : 0 + ((iN (List.range b.length)).map Itm.one).length = (b.zip (rot b)).length := by simp [iN, rot_len]
  rw [hlen, List.take_length] at h2
  show (evI (callN D k) (.range (.cons (.var 4) .nil)) _ M).stm _ _ = _
  rw [hi, ← h1, ← h2]
  exact e
theorem mt_out {k q f : Nat} {S : List Nat} {a0 : Option W} {M0 : Mem} (hl : S.length ≤ 400) (nd : S.Nodup) (hqf : q < f) : ∀ (L : List Nat) (b : Nat) (ps : List (Nat × Nat)) (a4 a5 a6 a7 : Option W) (M : Mem), b + L.sum = S.length → ps.map (·.1) = S.take b → Same [] M0 M → M0.length = f → M[q]? = some (.lst (iN S)) → M[f]? = some (.dK (kv ps)) →
    ∃ a3' a4' a5' a6' M', forL (evN (.one 4)) (evSs (callN D k) mtOut) [] ((iN L).map .one) [a0, some (.ref q), some (.ref f), some (.int (b : Int)), a4, a5, a6, a7] M = .ok (.nx [a0, some (.ref q), some (.ref f), a3', a4', a5', a6', a7]) M' ∧ M'[q]? = some (.lst (iN S)) ∧ M'[f]? = some (.dK (kv (ps ++ psOf L (S.drop b)))) ∧ Same [] M0 M'
  | [], b, ps, a4, a5, a6, a7, M, _, _, hs, _, h1, h2 => ⟨_, a4, a5, a6, M, by simp [iN, forL, guards_nil]; rfl, h1, by simpa [psOf] using h2, hs⟩
  | l :: L, b, ps, a4, a5, a6, a7, M, hb, hp, hs, hf, h1, h2 => by
    rw [List.sum_cons] at hb
    have hbl : b + l ≤ S.length := by omega
    have hblen : ((S.drop b).take l).length = l := by simp; omega
    have hpl : ps.length = b := by
      have := congrArg List.length hp
      simp at this
      omega
    have hc := cut_nat hbl
    have c1 : (M ++ [Ob.lst (iN ((S.drop b).take l))])[f]? = some (.dK (kv ps)) := app_at h2
    have c2 : (M ++ [Ob.lst (iN ((S.drop b).take l))])[M.length]? = some (.lst (iN ((S.drop b).take l))) := at0
    have hfl := get_lt h2
    obtain ⟨a6', e1⟩ := mt_in (k := k) (f := f) (q := M.length) (b := (S.drop b).take l) (ps := ps) (a0 := a0) (a1 := some (.ref q)) (a3 := some (.int (b : Int))) (a6 := a6) (a7 := a7) c1 c2 (by omega) (by
      rw [hp]
      have : (S.take b ++ (S.drop b).take l).Sublist S := by
        have h3 : S.take b ++ (S.drop b).take l = S.take (b + l) := by rw [List.take_add]
        rw [h3]
        exact List.take_sublist _ _
      exact List.Nodup.sublist this nd) (by rw [hblen]; omega)
    rw [hblen] at e1
    have hnl : ((b + l : Nat) : Int) = (b : Int) + (l : Int) := by omega
    have s0 : evS (callN D k) (mtOut.nth 0) [a0, some (.ref q), some (.ref f), some (.int (b : Int)), some (.int (l : Int)), a5, a6, a7] M = .ok (.nx [a0, some (.ref q), some (.ref f), some (.int (b : Int)), some (.int (l : Int)), some (.ref M.length), a6, a7]) (M ++ [Ob.lst (iN ((S.drop b).take l))]) := by
      rw [hnl] at hc
      simp only [mtOut, CS.bd, CSs.nth, c__law_made_turn, xss_nil, xss_cons, xe_var, xe_k, xe_gk, xe_bin, xe_neg, xe_not, xe_and, xe_or, xe_ite, xe_cmp, xe_chain, xe_tup, xe_lst, xe_call, xe_callK, xe_bi, xe_isi, xe_meth, xe_ix, xe_sl, xe_rev, xe_dnew, xe_lenset, xs_pass, xs_expr, xs_asg, xs_par, xs_setLc, xs_augS, xs_aug, xs_ret, xs_retN, xs_if, xa_nil, xa_cons, xa_star, xb_val, xb_cmp, xb_chain, xb_not, xb_and, xb_or, xo_none, xo_some, xg_name, xg_tup, xg_sub, xgs_nil, xgs_cons, xi_seq, xi_enum, xi_zip, xt_nil, xt_one, evN, R.bind, R.stm, R.calm, itemW, atI, ixN, biW, storeW, cmpW, bin_add, bin_sub, bin_mod, bin_mul, bin_fdiv, bin_pow, setAll, finW, ofO, seqW, newL, newT, newOb, truthW, mtW, EV.listAt, mo_append_list, mo_pop_list, mo_extend_list, mo_remove_list, mo_count_list, mo_count_tuple, mo_index_list, mo_get_dict, mo_index_tuple, mo_upper_str, mo_isdigit_str, mo_split_str, mo_join_str, ty_list_tuple, ty_list_dict, ty_list_str, ty_tuple_list, ty_tuple_dict, ty_tuple_str, ty_dict_list, ty_dict_tuple, ty_dict_str, ty_str_list, ty_str_tuple, ty_str_dict, List.getElem?_cons_zero, List.getElem?_cons_succ, sliceW, h1, hc, List.set_cons_succ, List.set_cons_zero]
    have s2 : ∀ M', evS (callN D k) (mtOut.nth 2) [a0, some (.ref q), some (.ref f), some (.int (b : Int)), some (.int (l : Int)), some (.ref M.length), a6', a7] M' = .ok (.nx [a0, some (.ref q), some (.ref f), some (.int ((b + l : Nat) : Int)), some (.int (l : Int)), some (.ref M.length), a6', a7]) M' := fun M' => by
      rw [hnl]
      simp only [mtOut, CS.bd, CSs.nth, c__law_made_turn, xss_nil, xss_cons, xe_var, xe_k, xe_gk, xe_bin, xe_neg, xe_not, xe_and, xe_or, xe_ite, xe_cmp, xe_chain, xe_tup, xe_lst, xe_call, xe_callK, xe_bi, xe_isi, xe_meth, xe_ix, xe_sl, xe_rev, xe_dnew, xe_lenset, xs_pass, xs_expr, xs_asg, xs_par, xs_setLc, xs_augS, xs_aug, xs_ret, xs_retN, xs_if, xa_nil, xa_cons, xa_star, xb_val, xb_cmp, xb_chain, xb_not, xb_and, xb_or, xo_none, xo_some, xg_name, xg_tup, xg_sub, xgs_nil, xgs_cons, xi_seq, xi_enum, xi_zip, xt_nil, xt_one, evN, R.bind, R.stm, R.calm, itemW, atI, ixN, biW, storeW, cmpW, bin_add, bin_sub, bin_mod, bin_mul, bin_fdiv, bin_pow, setAll, finW, ofO, seqW, newL, newT, newOb, truthW, mtW, EV.listAt, mo_append_list, mo_pop_list, mo_extend_list, mo_remove_list, mo_count_list, mo_count_tuple, mo_index_list, mo_get_dict, mo_index_tuple, mo_upper_str, mo_isdigit_str, mo_split_str, mo_join_str, ty_list_tuple, ty_list_dict, ty_list_str, ty_tuple_list, ty_tuple_dict, ty_tuple_str, ty_dict_list, ty_dict_tuple, ty_dict_str, ty_str_list, ty_str_tuple, ty_str_dict, List.getElem?_cons_zero, List.getElem?_cons_succ, List.set_cons_succ, List.set_cons_zero]
    obtain ⟨a3', a4', a5', a6'', M', e, k1, k2, k3⟩ := mt_out (k := k) (a0 := a0) hl nd hqf L (b + l) (ps ++ ((S.drop b).take l).zip (rot ((S.drop b).take l))) (some (.int (l : Int))) (some (.ref M.length)) a6' a7 ((M ++ [Ob.lst (iN ((S.drop b).take l))]).set f (.dK (kv (ps ++ ((S.drop b).take l).zip (rot ((S.drop b).take l)))))) (by omega) (by
      rw [List.map_append, hp, List.map_fst_zip (by rw [rot_len]; exact Nat.le_refl _), List.take_add]) (by
      refine ⟨by have := hs.1; simp; omega, fun j o hj ho => ?_⟩
      have := get_lt ho
      rw [List.getElem?_set_ne (by omega)]
      exact app_at (hs.2 j o hj ho)) hf (by rw [List.getElem?_set_ne (by omega)]; exact app_at h1) (set_at c1)
    refine ⟨a3', a4', a5', a6'', M', ?_, k1, ?_, k3⟩
    · rw [show (iN (l :: L)).map Itm.one = .one (.int (l : Int)) :: (iN L).map .one from rfl, forL, if_pos guards_nil]
      show ((evSs (callN D k) (.cons (mtOut.nth 0) (.cons (mtOut.nth 1) (.cons (mtOut.nth 2) .nil))) [a0, some (.ref q), some (.ref f), some (.int (b : Int)), some (.int (l : Int)), a5, a6, a7] M).bind _) = _
      rw [evSs_cons s0, evSs_cons e1, evSs_cons (s2 _), evSs]
      exact e
    · rw [k2, psOf, List.drop_drop, List.append_assoc]
theorem made_turn_ok {k q : Nat} {L S : List Nat} {M : Mem} (hq : M[q]? = some (.lst (iN S))) (hL : L.sum = S.length) (hl : S.length ≤ 400) (hS : S.Perm (List.range S.length)) : callN D (k+1) i__law_made_turn [tN L, .ref q] M = .ok (tN (madeT (psOf L S) S.length)) M := by
  rw [call_at (d := ⟨2, 8, c__law_made_turn⟩) (b := c__law_made_turn) (ρ := [some (tN L), some (.ref q), none, none, none, none, none, none]) rfl rfl rfl rfl]
  have nd : S.Nodup := hS.nodup_iff.mpr List.nodup_range
  have hqf := get_lt hq
  have s0 : evS (callN D k) (c__law_made_turn.nth 0) [some (tN L), some (.ref q), none, none, none, none, none, none] M = .ok (.nx [some (tN L), some (.ref q), some (.ref M.length), some (.int 0), none, none, none, none]) (M ++ [.dK []]) := by
    simp [CSs.nth, c__law_made_turn, xss_nil, xss_cons, xe_var, xe_k, xe_gk, xe_bin, xe_neg, xe_not, xe_and, xe_or, xe_ite, xe_cmp, xe_chain, xe_tup, xe_lst, xe_call, xe_callK, xe_bi, xe_isi, xe_meth, xe_ix, xe_sl, xe_rev, xe_dnew, xe_lenset, xs_pass, xs_expr, xs_asg, xs_par, xs_setLc, xs_augS, xs_aug, xs_ret, xs_retN, xs_if, xa_nil, xa_cons, xa_star, xb_val, xb_cmp, xb_chain, xb_not, xb_and, xb_or, xo_none, xo_some, xg_name, xg_tup, xg_sub, xgs_nil, xgs_cons, xi_seq, xi_enum, xi_zip, xt_nil, xt_one, evN, R.bind, R.stm, R.calm, itemW, atI, ixN, biW, storeW, cmpW, bin_add, bin_sub, bin_mod, bin_mul, bin_fdiv, bin_pow, setAll, finW, ofO, seqW, newL, newT, newOb, truthW, mtW, EV.listAt, mo_append_list, mo_pop_list, mo_extend_list, mo_remove_list, mo_count_list, mo_count_tuple, mo_index_list, mo_get_dict, mo_index_tuple, mo_upper_str, mo_isdigit_str, mo_split_str, mo_join_str, ty_list_tuple, ty_list_dict, ty_list_str, ty_tuple_list, ty_tuple_dict, ty_tuple_str, ty_dict_list, ty_dict_tuple, ty_dict_str, ty_str_list, ty_str_tuple, ty_str_dict, sizeLine_eq]
  obtain ⟨a3', a4', a5', a6', M', e, k1, k2, k3⟩ := mt_out (k := k) (q := q) (f := M.length) (S := S) (a0 := some (tN L)) (M0 := M) hl nd hqf L 0 [] none none none none (M ++ [.dK []]) (by omega) (by simp) Same.app rfl (app_at hq) at0
  rw [List.nil_append, List.drop_zero] at k2
  have s1 : evS (callN D k) (c__law_made_turn.nth 1) [some (tN L), some (.ref q), some (.ref M.length), some (.int 0), none, none, none, none] (M ++ [.dK []]) = .ok (.nx [some (tN L), some (.ref q), some (.ref M.length), a3', a4', a5', a6', none]) M' := e
  have f1 := ps_fst (L := L) (S := S) hL
  have hlc : evE (callN D k) (.lc (.mk (.one 7) (.range (.cons (.bi .len (.cons (.var 1) .nil)) .nil)) .nil [7]) (.ix (.var 2) (.var 7))) [some (tN L), some (.ref q), some (.ref M.length), a3', a4', a5', a6', none] M' = .ok (.ref M'.length) (M' ++ [.lst (iN (madeT (psOf L S) S.length))]) := by
    refine ev_lcNN (gs := []) (p := List.range S.length) (f := look (psOf L S)) (ei_range_n (by simp [xss_nil, xss_cons, xe_var, xe_k, xe_gk, xe_bin, xe_neg, xe_not, xe_and, xe_or, xe_ite, xe_cmp, xe_chain, xe_tup, xe_lst, xe_call, xe_callK, xe_bi, xe_isi, xe_meth, xe_ix, xe_sl, xe_rev, xe_dnew, xe_lenset, xs_pass, xs_expr, xs_asg, xs_par, xs_setLc, xs_augS, xs_aug, xs_ret, xs_retN, xs_if, xa_nil, xa_cons, xa_star, xb_val, xb_cmp, xb_chain, xb_not, xb_and, xb_or, xo_none, xo_some, xg_name, xg_tup, xg_sub, xgs_nil, xgs_cons, xi_seq, xi_enum, xi_zip, xt_nil, xt_one, evN, R.bind, R.stm, R.calm, itemW, atI, ixN, biW, storeW, cmpW, bin_add, bin_sub, bin_mod, bin_mul, bin_fdiv, bin_pow, setAll, finW, ofO, seqW, newL, newT, newOb, truthW, mtW, EV.listAt, mo_append_list, mo_pop_list, mo_extend_list, mo_remove_list, mo_count_list, mo_count_tuple, mo_index_list, mo_get_dict, mo_index_tuple, mo_upper_str, mo_isdigit_str, mo_split_str, mo_join_str, ty_list_tuple, ty_list_dict, ty_list_str, ty_tuple_list, ty_tuple_dict, ty_tuple_str, ty_dict_list, ty_dict_tuple, ty_dict_str, ty_str_list, ty_str_tuple, ty_str_dict, k1, iN_length]) (by omega)) (fun _ => guards_nil) (fun x hx acc => ?_) (by rw [List.length_range]; omega)
    have hx2 : x ∈ (psOf L S).map (·.1) := by rw [f1]; exact hS.mem_iff.mpr hx
    have hg := get_kv hx2
    have hk2 : (M' ++ [Ob.lst acc])[M.length]? = some (.dK (kv (psOf L S))) := app_at k2
    simp only [xss_nil, xss_cons, xe_var, xe_k, xe_gk, xe_bin, xe_neg, xe_not, xe_and, xe_or, xe_ite, xe_cmp, xe_chain, xe_tup, xe_lst, xe_call, xe_callK, xe_bi, xe_isi, xe_meth, xe_ix, xe_sl, xe_rev, xe_dnew, xe_lenset, xs_pass, xs_expr, xs_asg, xs_par, xs_setLc, xs_augS, xs_aug, xs_ret, xs_retN, xs_if, xa_nil, xa_cons, xa_star, xb_val, xb_cmp, xb_chain, xb_not, xb_and, xb_or, xo_none, xo_some, xg_name, xg_tup, xg_sub, xgs_nil, xgs_cons, xi_seq, xi_enum, xi_zip, xt_nil, xt_one, evN, R.bind, R.stm, R.calm, itemW, atI, ixN, biW, storeW, cmpW, bin_add, bin_sub, bin_mod, bin_mul, bin_fdiv, bin_pow, setAll, finW, ofO, seqW, newL, newT, newOb, truthW, mtW, EV.listAt, mo_append_list, mo_pop_list, mo_extend_list, mo_remove_list, mo_count_list, mo_count_tuple, mo_index_list, mo_get_dict, mo_index_tuple, mo_upper_str, mo_isdigit_str, mo_split_str, mo_join_str, ty_list_tuple, ty_list_dict, ty_list_str, ty_tuple_list, ty_tuple_dict, ty_tuple_str, ty_dict_list, ty_dict_tuple, ty_dict_str, ty_str_list, ty_str_tuple, ty_str_dict, wipeW, List.set_cons_succ, List.set_cons_zero, List.getElem?_cons_zero, List.getElem?_cons_succ, hk2, toKey, hg]
  have s2 : evS (callN D k) (c__law_made_turn.nth 2) [some (tN L), some (.ref q), some (.ref M.length), a3', a4', a5', a6', none] M' = .ok (.ret (tN (madeT (psOf L S) S.length))) (M' ++ [.lst (iN (madeT (psOf L S) S.length))]) := by
    show (evE (callN D k) (.bi .tuple (.cons _ .nil)) _ M').stm _ _ = _
    rw [xe_bi, xa_cons, hlc]
    simp [R.bind, xa_nil, biW, R.stm]
  show finW M (evSs (callN D k) (.cons (c__law_made_turn.nth 0) (.cons (c__law_made_turn.nth 1) (.cons (c__law_made_turn.nth 2) .nil))) _ M) = _
  rw [evSs_cons s0, evSs_cons s1, evSs_ret s2]
  exact trim_of_sameT (k3.trans Same.app) (tN_pure _)
end GD

namespace PM
theorem perm_idx {p : List Nat} {i : Nat} (T : Tn p) (h : i < p.length) : p.idxOf (ap p i) = i := by
  have hm : ap p i ∈ p := by rw [← ap_getE h]; exact List.getElem_mem h
  have hl := List.idxOf_lt_length_of_mem hm
  have := List.getElem_idxOf hl
  exact nodup_inj T.nd hl h (by rw [this, ap_getE h])
end PM
namespace GD
open PySem PySem.Spec PyProof.Rows L2 EV PM
/-! Q12: drawn turns -/
theorem inv_len {p : List Nat} : (inv p).length = p.length := by simp [inv]
theorem inv_at {p : List Nat} {i : Nat} (h : i < p.length) : ap (inv p) i = p.idxOf i := by
  simp [ap, inv, List.getD_eq_getElem?_getD, List.getElem?_map, List.getElem?_range h]
theorem inv_tn {p : List Nat} (T : Tn p) : Tn (inv p) := by
  refine ⟨fun x hx => ?_, map_nodup List.nodup_range fun x hx y hy e => ?_⟩
  · obtain ⟨s, hs, rfl⟩ := List.mem_map.mp hx
    rw [inv_len]
    exact List.idxOf_lt_length_of_mem (T.mem (List.mem_range.mp hs))
  · have hx := T.mem (List.mem_range.mp hx)
    have hy := T.mem (List.mem_range.mp hy)
    have l1 := List.idxOf_lt_length_of_mem hx
    have l2 := List.idxOf_lt_length_of_mem hy
    have e1 := List.getElem_idxOf l1
    have e2 := List.getElem_idxOf l2
    rw [← e1, ← e2]
    simp only [e]
/-- a turn behind its way back -/
theorem led_back {p q : List Nat} (T : Tn p) (h : p.length = q.length) : p.map (ap ((inv p).map (ap q))) = q := by
  apply List.ext_getElem?
  intro i
  by_cases hi : i < p.length
  · rw [List.getElem?_map, ap_get hi, ap_get (h ▸ hi)]
    have hlt : ap p i < (inv p).length := by rw [inv_len]; exact T.ap_lt hi
    simp only [Option.map_some]
    rw [ap_map hlt, inv_at (T.ap_lt hi), perm_idx T hi]
  · rw [List.getElem?_eq_none (by simp; omega), List.getElem?_eq_none (by omega)]
theorem tN_ints {ns : List Int} (h : ∀ n ∈ ns, 0 ≤ n) : ns.map W.int = iN (ns.map Int.toNat) := by
  simp only [iN, List.map_map]
  apply List.map_congr_left
  intro n hn
  have := h n hn
  simp [Function.comp]
  omega
theorem sum_nat {ns : List Int} (h : ∀ n ∈ ns, 0 ≤ n) : ((ns.map Int.toNat).sum : Int) = ns.sum := by
  induction ns with
  | nil => rfl
  | cons a ns ih =>
    have h0 := h a List.mem_cons_self
    have := ih fun n hn => h n (List.mem_cons_of_mem _ hn)
    simp only [List.map_cons, List.sum_cons]
    omega
theorem iN_perm {ys : List W} {n : Nat} (h : ys.Perm (iN (List.range n))) : ∃ S : List Nat, ys = iN S ∧ S.Perm (List.range n) := by
  have hall : ∀ y ∈ ys, ∃ m : Nat, y = .int (m : Int) := fun y hy => by
    obtain ⟨m, _, e⟩ := List.mem_map.mp (h.mem_iff.mp hy)
    exact ⟨m, e.symm⟩
  refine ⟨ys.map fun w => match w with | .int i => i.toNat | _ => 0, ?_, ?_⟩
  · simp only [iN, List.map_map]
    conv => lhs; rw [← List.map_id ys]
    apply List.map_congr_left
    intro y hy
    obtain ⟨m, rfl⟩ := hall y hy
    simp
  · have := h.map fun w => match w with | .int i => i.toNat | _ => 0
    have e : (iN (List.range n)).map (fun w => match w with | .int i => i.toNat | _ => 0) = List.range n := by
      simp only [iN, List.map_map]
      conv => rhs; rw [← List.map_id (List.range n)]
      apply List.map_congr_left
      intro x _
      simp
    rw [e] at this
    exact this
theorem perm_sum {a b : List Int} (h : a.Perm b) : a.sum = b.sum := by
  induction h with
  | nil => rfl
  | cons x _ ih => simp only [List.sum_cons, ih]
  | swap x y l => simp only [List.sum_cons]; omega
  | trans _ _ i1 i2 => exact i1.trans i2
theorem turn_ok {k r C : Nat} {L : List Nat} {M : Mem} (h : Vat M r C) (hC : C ≤ 700000000) (hL : L.sum ≤ 400) :
    ∃ (S : List Nat) (o : Ob), callN D (k+3) i__law_turn [.ref r, tN L] M = .ok (tN (madeT (psOf L S) L.sum)) (M.set r o) ∧ S.Perm (List.range L.sum) ∧ VatO o (C + L.sum) := by
  have hr := h.lt
  obtain ⟨ys, o, e, hp, v⟩ := mixed_ok (k := k) (r := r) (q := M.length) (C := C) (xs := iN (List.range L.sum)) (M := M ++ [.lst (iN (List.range L.sum))]) h.app (by rw [iN_length, List.length_range]; omega) at0 (iN_fit _) (by rw [iN_length, List.length_range]; omega)
  obtain ⟨S, rfl, hS⟩ := iN_perm hp
  rw [iN_length, List.length_range] at v
  have hlen : S.length = L.sum := by simpa using hS.length_eq
  have hsum : (L.map fun (n : Nat) => (n : Int)).sum = (L.sum : Int) := by
    have := sum_nat (ns := L.map fun (n : Nat) => (n : Int)) (by intro n hn; obtain ⟨m, _, rfl⟩ := List.mem_map.mp hn; omega)
    rw [← this, List.map_map]
    congr 2
    conv => rhs; rw [← List.map_id L]
    apply List.map_congr_left
    intro x _
    simp
  have hset : (M ++ [Ob.lst (iN (List.range L.sum))]).set r o = M.set r o ++ [.lst (iN (List.range L.sum))] := List.set_append_left r o hr
  rw [hset] at e
  have e1 : callN D (k+2) 2 [.ref r, .ref M.length] (M ++ [.lst (iN (List.range L.sum))]) = .ok (.ref (M.length + 1)) ((M.set r o ++ [.lst (iN (List.range L.sum))]) ++ [.lst (iN S)]) := by
    have : (M ++ [Ob.lst (iN (List.range L.sum))]).length = M.length + 1 := by simp
    rw [this] at e
    exact e
  have e2 : callN D (k+2) 0 [tN L, .ref (M.length + 1)] ((M.set r o ++ [.lst (iN (List.range L.sum))]) ++ [.lst (iN S)]) = _ := made_turn_ok (k := k+1) (L := L) (S := S) (q := M.length + 1) (M := (M.set r o ++ [.lst (iN (List.range L.sum))]) ++ [.lst (iN S)]) (by
    have := at0 (M := M.set r o ++ [Ob.lst (iN (List.range L.sum))]) (o0 := .lst (iN S)) (g := [])
    simpa using this) hlen.symm (by omega) (by rw [hlen]; exact hS)
  rw [hlen] at e2
  refine ⟨S, o, ?_, hS, v⟩
  rw [call_at (d := ⟨2, 2, c__law_turn⟩) (b := c__law_turn) (ρ := [some (.ref r), some (tN L)]) rfl rfl rfl rfl]
  have hsumE : evEs (callN D (k+2)) (.cons (.bi .sum (.cons (.var 1) .nil)) .nil) [some (.ref r), some (tN L)] M = .ok [.int (L.sum : Int)] M := by
    simp only [xss_nil, xss_cons, xe_var, xe_k, xe_gk, xe_bin, xe_neg, xe_not, xe_and, xe_or, xe_ite, xe_cmp, xe_chain, xe_tup, xe_lst, xe_call, xe_callK, xe_bi, xe_isi, xe_meth, xe_ix, xe_sl, xe_rev, xe_dnew, xe_lenset, xs_pass, xs_expr, xs_asg, xs_par, xs_setLc, xs_augS, xs_aug, xs_ret, xs_retN, xs_if, xa_nil, xa_cons, xa_star, xb_val, xb_cmp, xb_chain, xb_not, xb_and, xb_or, xo_none, xo_some, xg_name, xg_tup, xg_sub, xgs_nil, xgs_cons, xi_seq, xi_enum, xi_zip, xt_nil, xt_one, evN, R.bind, R.stm, R.calm, itemW, atI, ixN, biW, storeW, cmpW, bin_add, bin_sub, bin_mod, bin_mul, bin_fdiv, bin_pow, setAll, finW, ofO, seqW, newL, newT, newOb, truthW, mtW, EV.listAt, mo_append_list, mo_pop_list, mo_extend_list, mo_remove_list, mo_count_list, mo_count_tuple, mo_index_list, mo_get_dict, mo_index_tuple, mo_upper_str, mo_isdigit_str, mo_split_str, mo_join_str, ty_list_tuple, ty_list_dict, ty_list_str, ty_tuple_list, ty_tuple_dict, ty_tuple_str, ty_dict_list, ty_dict_tuple, ty_dict_str, ty_str_list, ty_str_tuple, ty_str_dict, List.getElem?_cons_zero, List.getElem?_cons_succ, iN_mapO, hsum]
  have hrange := xe_lrange_by (t := false) hsumE (rangeW_n (n := L.sum) (by omega)) (by rw [iN_length, List.length_range]; omega)
  have s0 : evS (callN D (k+2)) (c__law_turn.nth 0) [some (.ref r), some (tN L)] M = .ok (.ret (tN (madeT (psOf L S) L.sum))) ((M.set r o ++ [.lst (iN (List.range L.sum))]) ++ [.lst (iN S)]) := by
    simp only [CSs.nth, c__law_turn, xss_nil, xss_cons, xe_var, xe_k, xe_gk, xe_bin, xe_neg, xe_not, xe_and, xe_or, xe_ite, xe_cmp, xe_chain, xe_tup, xe_lst, xe_call, xe_callK, xe_bi, xe_isi, xe_meth, xe_ix, xe_sl, xe_rev, xe_dnew, xe_lenset, xs_pass, xs_expr, xs_asg, xs_par, xs_setLc, xs_augS, xs_aug, xs_ret, xs_retN, xs_if, xa_nil, xa_cons, xa_star, xb_val, xb_cmp, xb_chain, xb_not, xb_and, xb_or, xo_none, xo_some, xg_name, xg_tup, xg_sub, xgs_nil, xgs_cons, xi_seq, xi_enum, xi_zip, xt_nil, xt_one, evN, R.bind, R.stm, R.calm, itemW, atI, ixN, biW, storeW, cmpW, bin_add, bin_sub, bin_mod, bin_mul, bin_fdiv, bin_pow, setAll, finW, ofO, seqW, newL, newT, newOb, truthW, mtW, EV.listAt, mo_append_list, mo_pop_list, mo_extend_list, mo_remove_list, mo_count_list, mo_count_tuple, mo_index_list, mo_get_dict, mo_index_tuple, mo_upper_str, mo_isdigit_str, mo_split_str, mo_join_str, ty_list_tuple, ty_list_dict, ty_list_str, ty_tuple_list, ty_tuple_dict, ty_tuple_str, ty_dict_list, ty_dict_tuple, ty_dict_str, ty_str_list, ty_str_tuple, ty_str_dict, List.getElem?_cons_zero, List.getElem?_cons_succ, hrange, Bool.false_eq_true, if_false, e1, e2]
  show finW M (evSs (callN D (k+2)) (.cons (c__law_turn.nth 0) .nil) _ M) = _
  rw [evSs_ret s0, List.append_assoc]
  exact trim_setA v.pure (tN_pure _)
/-- two drawn turns that make one ring -/
theorem pair_ok {k r C : Nat} {n : Nat} {M : Mem} (h : Vat M r C) (hC : C ≤ 600000000) (n1 : 1 ≤ n) (n2 : n ≤ 40) :
    ∃ (p q : List Nat) (o : Ob), callN D (k+4) i__law_pair [.ref r, .int (n : Int)] M = .ok (.tup [tN p, tN q]) (M.set r o) ∧ Tn p ∧ Tn q ∧ p.length = n ∧ q.length = n ∧ roundB p q = true ∧ VatO o (C + 200) := by
  have hr := h.lt
  obtain ⟨ys, o1, e1, y1, y2, y3, v1⟩ := lots_ok (k := k+1) (size := (n : Int)) h (by omega) (by omega) (by omega)
  have hpos : ∀ y ∈ (sortI ys).reverse, 0 ≤ y := fun y hy => by
    have := y2 y (mem_sortI.mp (List.mem_reverse.mp hy))
    omega
  rw [tN_ints hpos] at e1
  generalize hL : (sortI ys).reverse.map Int.toNat = L at e1
  have hLs : L.sum = n := by
    have := sum_nat hpos
    rw [hL] at this
    have hs : (sortI ys).reverse.sum = ys.sum := by
      have hp : (sortI ys).reverse.Perm ys := (List.reverse_perm _).trans (sortI_perm ys)
      exact perm_sum hp
    omega
  have V1 := Vat.of hr v1
  obtain ⟨S1, o2, e2, p2, v2⟩ := turn_ok (k := k) (L := L) V1 (by omega) (by omega)
  rw [hLs] at e2 p2 v2
  rw [List.set_set] at e2
  have V2 := Vat.of hr v2
  obtain ⟨S2, o3, e3, p3, v3⟩ := turn_ok (k := k) (L := [n]) V2 (by omega) (by simp; omega)
  have hn : ([n] : List Nat).sum = n := by simp
  rw [hn] at e3 p3 v3
  rw [List.set_set] at e3
  have T1 : Tn (madeT (psOf L S1) n) := made_tn (by rw [ps_fst (by rw [hLs]; simpa using p2.length_eq.symm)]; exact p2) ((ps_snd (by rw [hLs]; simpa using p2.length_eq.symm)).trans p2)
  obtain ⟨T2, one⟩ := made_one (by omega) p3
  generalize hp : madeT (psOf L S1) n = p at e2 T1
  generalize hq : madeT (psOf [n] S2) n = q at e3 T2 one
  have lp : p.length = n := by rw [← hp, made_len]
  have lq : q.length = n := by rw [← hq, made_len]
  have e4 : callN D (k+3) 6 [tN p] (M.set r o3) = _ := back_ok (k := k+2) (M := M.set r o3) T1 (by omega)
  have Ti := inv_tn T1
  have li : (inv p).length = n := by rw [inv_len, lp]
  have e5 : callN D (k+3) 5 [tN (inv p), tN q] (M.set r o3) = _ := led_ok (k := k+2) (M := M.set r o3) (p := inv p) (q := q) (fun x hx => by have := Ti.lt x hx; omega) (by omega)
  have e2' : callN D (k+3) 3 [.ref r, tN L] (M.set r o1) = .ok (tN p) (M.set r o2) := e2
  have e1' : callN D (k+3) 4 [.ref r, .int (n : Int)] M = .ok (tN L) (M.set r o1) := e1
  have e3' : callN D (k+3) 3 [.ref r, .tup [.int (n : Int)]] (M.set r o2) = .ok (tN q) (M.set r o3) := e3
  refine ⟨p, (inv p).map (ap q), o3, ?_, T1, then_tn Ti T2 (by omega), lp, by rw [List.length_map, li], ?_, v3.more (by omega)⟩
  · rw [call_at (d := ⟨2, 4, c__law_pair⟩) (b := c__law_pair) (ρ := [some (.ref r), some (.int (n : Int)), none, none]) rfl rfl rfl rfl]
    have hz1 : ([W.int (n : Int)]).length ≤ sizeLine := by rw [sizeLine_eq]; simp
    have hz2 : ([tN p, tN ((inv p).map (ap q))]).length ≤ sizeLine := by rw [sizeLine_eq]; simp
    simp only [c__law_pair, xss_nil, xss_cons, xe_var, xe_k, xe_gk, xe_bin, xe_neg, xe_not, xe_and, xe_or, xe_ite, xe_cmp, xe_chain, xe_tup, xe_lst, xe_call, xe_callK, xe_bi, xe_isi, xe_meth, xe_ix, xe_sl, xe_rev, xe_dnew, xe_lenset, xs_pass, xs_expr, xs_asg, xs_par, xs_setLc, xs_augS, xs_aug, xs_ret, xs_retN, xs_if, xa_nil, xa_cons, xa_star, xb_val, xb_cmp, xb_chain, xb_not, xb_and, xb_or, xo_none, xo_some, xg_name, xg_tup, xg_sub, xgs_nil, xgs_cons, xi_seq, xi_enum, xi_zip, xt_nil, xt_one, evN, R.bind, R.stm, R.calm, itemW, atI, ixN, biW, storeW, cmpW, bin_add, bin_sub, bin_mod, bin_mul, bin_fdiv, bin_pow, setAll, finW, ofO, seqW, newL, newT, newOb, truthW, mtW, EV.listAt, mo_append_list, mo_pop_list, mo_extend_list, mo_remove_list, mo_count_list, mo_count_tuple, mo_index_list, mo_get_dict, mo_index_tuple, mo_upper_str, mo_isdigit_str, mo_split_str, mo_join_str, ty_list_tuple, ty_list_dict, ty_list_str, ty_tuple_list, ty_tuple_dict, ty_tuple_str, ty_dict_list, ty_dict_tuple, ty_dict_str, ty_str_list, ty_str_tuple, ty_str_dict, List.getElem?_cons_zero, List.getElem?_cons_succ, List.set_cons_succ, List.set_cons_zero, e1', e2', if_pos hz1, e3', e4, e5, if_pos hz2]
    have := trim_setA (M := M) (g := []) (r := r) (o := o3) (w := .tup [tN p, tN ((inv p).map (ap q))]) v3.pure (by simp only [pureW, pureWs]; rw [show pureWs (iN p) = true from iN_pure _, show pureWs (iN ((inv p).map (ap q))) = true from iN_pure _]; rfl)
    rw [List.append_nil] at this
    exact this
  · unfold roundB
    rw [led_back T1 (by omega)]
    exact decide_eq_true one
end GD

namespace GD
open PySem PySem.Spec PyProof.Rows L2 EV PM
/-! Q13: odd values -/
theorem known_set {M : Mem} {r : Nat} {o : Ob} {w : W} (ho : ∃ xs, o = .lst xs) (h : known M w = true) : known (M.set r o) w = true := by
  obtain ⟨xs, rfl⟩ := ho
  unfold known at h ⊢
  cases w with
  | ref q =>
    simp only [tyW] at h ⊢
    by_cases e : q = r
    · subst e
      by_cases hl : q < M.length
      · rw [List.getElem?_set_self hl]; rfl
      · rw [List.getElem?_eq_none (by omega)] at h; cases h
    · rw [List.getElem?_set_ne (Ne.symm e)]; exact h
  | _ => rfl
theorem VatO.lst {o : Ob} {C : Nat} (h : VatO o C) : ∃ xs, o = .lst xs := by
  obtain ⟨a, b, c, rfl, _⟩ := h
  exact ⟨_, rfl⟩
theorem good_set {M : Mem} {r : Nat} {o : Ob} {w : W} (ho : ∃ xs, o = .lst xs) (h : goodT M w = true) : goodT (M.set r o) w = true := by
  cases w with
  | tup xs =>
    simp only [goodT, Bool.and_eq_true, List.all_eq_true, decide_eq_true_eq] at h ⊢
    exact ⟨⟨fun x hx => known_set ho (h.1.1 x hx), h.1.2⟩, h.2⟩
  | _ => exact known_set ho h
theorem good_app {M g : Mem} {w : W} (h : goodT M w = true) : goodT (M ++ g) w = true := by
  cases w with
  | tup xs =>
    simp only [goodT, Bool.and_eq_true, List.all_eq_true, decide_eq_true_eq] at h ⊢
    exact ⟨⟨fun x hx => known_app (h.1.1 x hx), h.1.2⟩, h.2⟩
  | _ => exact known_app h
theorem known_pure {M M' : Mem} {w : W} (hp : pureW w = true) (h : known M w = true) : known M' w = true := by
  cases w <;> first | rfl | (simp [pureW] at hp)
theorem pure_mem : ∀ {xs : List W}, pureWs xs = true → ∀ x ∈ xs, pureW x = true
  | [], _, _, h => by cases h
  | y :: ys, hp, x, h => by
    simp only [pureWs, Bool.and_eq_true] at hp
    rcases List.mem_cons.mp h with rfl | z
    · exact hp.1
    · exact pure_mem hp.2 x z
theorem good_pure {M M' : Mem} {w : W} (hp : pureW w = true) (h : goodT M w = true) : goodT M' w = true := by
  cases w with
  | tup xs =>
    simp only [goodT, Bool.and_eq_true, List.all_eq_true, decide_eq_true_eq] at h ⊢
    exact ⟨⟨fun x hx => known_pure (pure_mem (by simpa [pureW] using hp) x hx) (h.1.1 x hx), h.1.2⟩, h.2⟩
  | _ => exact known_pure hp h
/-- what grew: the vat is another one, new things stand behind -/
def Gr (r C : Nat) (M M' : Mem) : Prop := ∃ o g, M' = M.set r o ++ g ∧ VatO o C
theorem Gr.trans {r C C' : Nat} {M M1 M2 : Mem} (hr : r < M.length) (a : Gr r C M M1) (b : Gr r C' M1 M2) : Gr r C' M M2 := by
  obtain ⟨o, g, rfl, v⟩ := a
  obtain ⟨o', g', rfl, v'⟩ := b
  refine ⟨o', g ++ g', ?_, v'⟩
  rw [List.set_append_left r o' (by simpa using hr), List.set_set, List.append_assoc]
theorem Gr.vat {r C : Nat} {M M1 : Mem} (hr : r < M.length) (a : Gr r C M M1) : Vat M1 r C := by
  obtain ⟨o, g, rfl, v⟩ := a
  exact (Vat.of hr v).app
theorem Gr.more {r C C' : Nat} {M M1 : Mem} (a : Gr r C M M1) (h : C ≤ C') : Gr r C' M M1 := by
  obtain ⟨o, g, e, v⟩ := a
  exact ⟨o, g, e, v.more h⟩
theorem Gr.good {r C : Nat} {M M1 : Mem} {w : W} (a : Gr r C M M1) (h : goodT M w = true) : goodT M1 w = true := by
  obtain ⟨o, g, rfl, v⟩ := a
  exact good_app (good_set v.lst h)
theorem Gr.len {r C : Nat} {M M1 : Mem} (a : Gr r C M M1) : M.length ≤ M1.length := by
  obtain ⟨o, g, rfl, v⟩ := a
  simp
theorem Gr.set {r C : Nat} {M : Mem} {o : Ob} (v : VatO o C) : Gr r C M (M.set r o) := ⟨o, [], by simp, v⟩
theorem Gr.app {r C : Nat} {M M1 g : Mem} (a : Gr r C M M1) : Gr r C M (M1 ++ g) := by
  obtain ⟨o, g', rfl, v⟩ := a
  exact ⟨o, g' ++ g, by simp, v⟩
/-- a call's end, forgotten or not -/
theorem trim_any {r C : Nat} {M M1 : Mem} {w : W} (hr : r < M.length) (a : Gr r C M M1) (hg : goodT M1 w = true) : ∃ w' M', trim M w M1 = .ok w' M' ∧ Gr r C M M' ∧ goodT M' w' = true := by
  obtain ⟨o, g, rfl, v⟩ := a
  by_cases hp : pureW w = true
  · exact ⟨w, M.set r o, trim_setA v.pure hp, Gr.set v, good_pure hp hg⟩
  · have hc : calmM M (M.set r o ++ g) = true := calmM_app (calmM_set v.pure)
    have e : trim M w (M.set r o ++ g) = trimL M w (M.set r o ++ g) := by
      unfold trim
      rw [if_pos hc, if_neg hp]
    rw [e]
    unfold trimL
    cases w with
    | ref q =>
      simp only
      split
      · split
        · next xs hx =>
          split
          · refine ⟨_, _, rfl, ?_, ?_⟩
            · have : (M.set r o ++ g).take M.length = M.set r o := by simp
              rw [this]
              exact ⟨o, [.lst xs], rfl, v⟩
            · simp only [goodT, known, tyW]
              rw [List.getElem?_append_right (by simp)]
              simp
          · exact ⟨_, _, rfl, ⟨o, g, rfl, v⟩, hg⟩
        · exact ⟨_, _, rfl, ⟨o, g, rfl, v⟩, hg⟩
      · exact ⟨_, _, rfl, ⟨o, g, rfl, v⟩, hg⟩
    | _ => exact ⟨_, _, rfl, ⟨o, g, rfl, v⟩, hg⟩
theorem good_ints {M : Mem} {xs : List W} (h1 : ∀ x ∈ xs, ∃ i, x = .int i) (h2 : xs.length ≤ 1000) : goodT M (.tup xs) = true := by
  simp only [goodT, Bool.and_eq_true, List.all_eq_true, decide_eq_true_eq]
  refine ⟨⟨fun x hx => ?_, fitWs_iff.mpr fun x hx => ?_⟩, h2⟩
  · obtain ⟨i, rfl⟩ := h1 x hx; rfl
  · obtain ⟨i, rfl⟩ := h1 x hx; rfl
theorem good_tN {M : Mem} {p : List Nat} (h : p.length ≤ 1000) : goodT M (tN p) = true := good_ints (fun x hx => by
  obtain ⟨n, _, rfl⟩ := List.mem_map.mp hx
  exact ⟨_, rfl⟩) (by rw [iN_length]; exact h)
theorem cut_iN (p : List Nat) (lo hi : Option Int) : ∃ p', cutW (iN p) lo hi = iN p' ∧ p'.length ≤ p.length := by
  refine ⟨(p.drop (HT.sIx (iN p).length 0 lo)).take (HT.sIx (iN p).length (iN p).length hi - HT.sIx (iN p).length 0 lo), ?_, ?_⟩
  · simp [cutW, iN, List.map_take, List.map_drop]
  · simp; omega
/-! ### _law_odd_kind -/
def odds (b : Nat) (n : Int) : List W := [.non, .str "kind", .int 3, .bl true, .ref b, .ref (b + 1), .tup [], .ref (b + 2), .tup [.int 0], .tup [.int n, .int 0], .tup [.int (-1)], .tup [.int 1, .int 2], .tup [.int 41],
  .tup (List.replicate 41 [W.int 1]).flatten, .tup [.bl true]]
def odds2 : List W := [.tup [.str "1"], .tup [.tup [.int 1]], .tup [.non], .tup [.int 20, .int 21], .tup [.int 2, .int 3, .int 1], .tup [.int 10000000000000000000000000000000000000000], .tup [.int 2, .bl true]]
def oddM (b : Nat) (n : Int) : Mem := [.lst [], .dK [], .lst [.int n], .lst (odds b n), .lst odds2, .lst (odds b n ++ odds2)]
theorem bin_mulT {M : Mem} : binW .Mult (.tup [.int 1]) (.int 41) M = .ok (.tup (List.replicate 41 [W.int 1]).flatten) M := by
  simp only [binW]
  rw [if_neg (by decide), if_pos (by decide)]
  rfl
theorem odd_good {M : Mem} {b : Nat} {n : Int} {w : W} (h : w ∈ odds b n ++ odds2) (k0 : known M (.ref b) = true) (k1 : known M (.ref (b + 1)) = true) (k2 : known M (.ref (b + 2)) = true) : goodT M w = true := by
  rcases List.mem_append.mp h with z | z
  · simp only [odds, List.mem_cons, List.mem_nil_iff, or_false] at z
    rcases z with rfl | rfl | rfl | rfl | rfl | rfl | rfl | rfl | rfl | rfl | rfl | rfl | rfl | rfl | rfl
    · rfl
    · rfl
    · rfl
    · rfl
    · exact k0
    · exact k1
    · rfl
    · exact k2
    · rfl
    · rfl
    · rfl
    · rfl
    · rfl
    · rfl
    · rfl
  · simp only [odds2, List.mem_cons, List.mem_nil_iff, or_false] at z
    rcases z with rfl | rfl | rfl | rfl | rfl | rfl | rfl
    · show (true && fitWs 10 [.str "1"] && true) = true
      decide +kernel
    · rfl
    · rfl
    · rfl
    · rfl
    · rfl
    · rfl
theorem odd_kind_ok {k r C : Nat} {n : Int} {M : Mem} (h : Vat M r C) (hC : C ≤ 900000000) : ∃ (w : W) (M' : Mem), callN D (k+3) i__law_odd_kind [.ref r, .int n] M = .ok w M' ∧ goodT M' w = true ∧ Gr r (C + 1) M M' := by
  have hr := h.lt
  have hq : (M ++ oddM M.length n)[M.length + 5]? = some (.lst (odds M.length n ++ odds2)) := at5
  have a0 : (M ++ oddM M.length n)[M.length]? = some (.lst []) := at0
  have a1 : (M ++ oddM M.length n)[M.length + 1]? = some (.dK []) := at1
  have a2 : (M ++ oddM M.length n)[M.length + 2]? = some (.lst [.int n]) := at2
  obtain ⟨w, o, hw, e, v⟩ := of_ok (k := k) (h.app (g := oddM M.length n)) (by omega) hq (by omega) (by simp [odds, odds2]) (by simp [odds, odds2])
  have g1 : goodT ((M ++ oddM M.length n).set r o) w = true := by
    refine odd_good hw ?_ ?_ ?_
    · simp only [known, tyW]; rw [List.getElem?_set_ne (by omega), a0]; rfl
    · simp only [known, tyW]; rw [List.getElem?_set_ne (by omega), a1]; rfl
    · simp only [known, tyW]; rw [List.getElem?_set_ne (by omega), a2]; rfl
  have gr : Gr r (C + 1) M ((M ++ oddM M.length n).set r o) := ⟨o, oddM M.length n, List.set_append_left r o hr, v⟩
  obtain ⟨w', M', t1, t2, t3⟩ := trim_any hr gr g1
  refine ⟨w', M', ?_, t3, t2⟩
  rw [call_eq (d := ⟨2, 3, c__law_odd_kind⟩) rfl rfl]
  have hz : sizeLine = 16777216 := sizeLine_eq
  have b1 : (M ++ [Ob.lst [], .dK [], .lst [.int n], .lst (odds M.length n), .lst odds2])[M.length + 3]? = some (.lst (odds M.length n)) := at3
  have b2 : (M ++ [Ob.lst [], .dK [], .lst [.int n], .lst (odds M.length n), .lst odds2])[M.length + 4]? = some (.lst odds2) := at4
  have hs0 : evS (callN D (k+2)) (c__law_odd_kind.nth 0) [some (.ref r), some (.int n), none] M = .ok (.nx [some (.ref r), some (.int n), some (.ref (M.length + 3))]) (M ++ [.lst [], .dK [], .lst [.int n], .lst (odds M.length n)]) := by
    simp [CSs.nth, c__law_odd_kind, xss_nil, xss_cons, xe_var, xe_k, xe_gk, xe_bin, xe_neg, xe_not, xe_and, xe_or, xe_ite, xe_cmp, xe_chain, xe_tup, xe_lst, xe_call, xe_callK, xe_bi, xe_isi, xe_meth, xe_ix, xe_sl, xe_rev, xe_dnew, xe_lenset, xs_pass, xs_expr, xs_asg, xs_par, xs_setLc, xs_augS, xs_aug, xs_ret, xs_retN, xs_if, xa_nil, xa_cons, xa_star, xb_val, xb_cmp, xb_chain, xb_not, xb_and, xb_or, xo_none, xo_some, xg_name, xg_tup, xg_sub, xgs_nil, xgs_cons, xi_seq, xi_enum, xi_zip, xt_nil, xt_one, evN, R.bind, R.stm, R.calm, itemW, atI, ixN, biW, storeW, cmpW, bin_add, bin_sub, bin_mod, bin_mul, bin_fdiv, bin_pow, setAll, finW, ofO, seqW, newL, newT, newOb, truthW, mtW, EV.listAt, mo_append_list, mo_pop_list, mo_extend_list, mo_remove_list, mo_count_list, mo_count_tuple, mo_index_list, mo_get_dict, mo_index_tuple, mo_upper_str, mo_isdigit_str, mo_split_str, mo_join_str, ty_list_tuple, ty_list_dict, ty_list_str, ty_tuple_list, ty_tuple_dict, ty_tuple_str, ty_dict_list, ty_dict_tuple, ty_dict_str, ty_str_list, ty_str_tuple, ty_str_dict, bin_mulT, hz, odds]
  have hs1 : evS (callN D (k+2)) (c__law_odd_kind.nth 1) [some (.ref r), some (.int n), some (.ref (M.length + 3))] (M ++ [.lst [], .dK [], .lst [.int n], .lst (odds M.length n)]) = .ok (.ret w) ((M ++ oddM M.length n).set r o) := by
    have ha := bin_addL b1 b2 (by rw [hz]; simp [odds, odds2])
    simp only [oddM] at e
    simp only [odds2] at ha e
    simp [CSs.nth, c__law_odd_kind, xss_nil, xss_cons, xe_var, xe_k, xe_gk, xe_bin, xe_neg, xe_not, xe_and, xe_or, xe_ite, xe_cmp, xe_chain, xe_tup, xe_lst, xe_call, xe_callK, xe_bi, xe_isi, xe_meth, xe_ix, xe_sl, xe_rev, xe_dnew, xe_lenset, xs_pass, xs_expr, xs_asg, xs_par, xs_setLc, xs_augS, xs_aug, xs_ret, xs_retN, xs_if, xa_nil, xa_cons, xa_star, xb_val, xb_cmp, xb_chain, xb_not, xb_and, xb_or, xo_none, xo_some, xg_name, xg_tup, xg_sub, xgs_nil, xgs_cons, xi_seq, xi_enum, xi_zip, xt_nil, xt_one, evN, R.bind, R.stm, R.calm, itemW, atI, ixN, biW, storeW, cmpW, bin_add, bin_sub, bin_mod, bin_mul, bin_fdiv, bin_pow, setAll, finW, ofO, seqW, newL, newT, newOb, truthW, mtW, EV.listAt, mo_append_list, mo_pop_list, mo_extend_list, mo_remove_list, mo_count_list, mo_count_tuple, mo_index_list, mo_get_dict, mo_index_tuple, mo_upper_str, mo_isdigit_str, mo_split_str, mo_join_str, ty_list_tuple, ty_list_dict, ty_list_str, ty_tuple_list, ty_tuple_dict, ty_tuple_str, ty_dict_list, ty_dict_tuple, ty_dict_str, ty_str_list, ty_str_tuple, ty_str_dict, hz, ha, e, oddM, odds2]
  show finW M (evSs (callN D (k+2)) (.cons (c__law_odd_kind.nth 0) (.cons (c__law_odd_kind.nth 1) .nil)) [some (.ref r), some (.int n), none] M) = _
  rw [evSs_cons hs0, evSs_ret hs1]
  exact t1
end GD

namespace GD
open PySem PySem.Spec PyProof.Rows L2 EV PM
/-! Q14: odd turns, bent turns -/
theorem bin_rep {M : Mem} {x : W} {n : Nat} (h1 : 1 ≤ n) (h2 : n ≤ 1000) : binW .Mult (.tup [x]) (.int (n : Int)) M = .ok (.tup (List.replicate n x)) M := by
  have e : (List.replicate n [x]).flatten = List.replicate n x := by
    clear h1 h2
    induction n with
    | zero => rfl
    | succ n ih => rw [List.replicate_succ, List.flatten_cons, ih, List.replicate_succ]; rfl
  simp only [binW]
  by_cases h : n = 1
  · subst h
    rw [if_pos (by decide)]
    rfl
  · rw [if_neg (by omega), if_pos ⟨by simp, by omega, by omega, by simp⟩, Int.toNat_natCast, e]
theorem good_rep {M : Mem} {x : W} {n : Nat} (hk : known M x = true) (hf : fitW 10 x = true) (h : n ≤ 1000) : goodT M (.tup (List.replicate n x)) = true := by
  simp only [goodT, Bool.and_eq_true, List.all_eq_true, decide_eq_true_eq]
  refine ⟨⟨fun y hy => ?_, fitWs_iff.mpr fun y hy => ?_⟩, by simpa using h⟩
  · rw [List.eq_of_mem_replicate hy]; exact hk
  · rw [List.eq_of_mem_replicate hy]; exact hf
def tmenu (b n : Nat) (c : List Nat) : List W := [.non, .str "turn", .int 3, .bl true, .ref b, .ref (b + 1), .tup [], .ref (b + 2), .tup (iN (List.range n) ++ [.int 0]), .tup (iN c ++ [.int (n : Int)]), .tup (List.replicate n .non), .tup (List.replicate n (.str "0"))]
def tmenu2 (n : Nat) (c : List Nat) : List W := [.tup (.bl true :: iN c), .tup (iN c ++ [.int (-1)]), tN (List.range 41), .tup [tN (List.range n)], .tup (iN (List.range n) ++ [.int ((n : Int) + 1)])]
theorem iN_all {p : List Nat} {x : W} (h : x ∈ iN p) : ∃ i, x = .int i := by
  obtain ⟨m, _, rfl⟩ := List.mem_map.mp h
  exact ⟨_, rfl⟩
theorem good_app1 {M : Mem} {p : List Nat} {i : Int} (h : p.length ≤ 900) : goodT M (.tup (iN p ++ [.int i])) = true := good_ints (fun x hx => by
  rcases List.mem_append.mp hx with z | z
  · exact iN_all z
  · rw [List.mem_singleton.mp z]; exact ⟨_, rfl⟩) (by simp [iN_length]; omega)
theorem tmenu_good {M : Mem} {b n : Nat} {c : List Nat} {w : W} (hn : n ≤ 40) (hc : c.length ≤ 40) (h : w ∈ tmenu b n c ++ tmenu2 n c) (k0 : known M (.ref b) = true) (k1 : known M (.ref (b + 1)) = true) (k2 : known M (.ref (b + 2)) = true) : goodT M w = true := by
  rcases List.mem_append.mp h with z | z
  · simp only [tmenu, List.mem_cons, List.mem_nil_iff, or_false] at z
    rcases z with rfl | rfl | rfl | rfl | rfl | rfl | rfl | rfl | rfl | rfl | rfl | rfl
    · rfl
    · rfl
    · rfl
    · rfl
    · exact k0
    · exact k1
    · rfl
    · exact k2
    · exact good_app1 (by simp; omega)
    · exact good_app1 (by omega)
    · exact good_rep rfl rfl (by omega)
    · exact good_rep rfl (by decide +kernel) (by omega)
  · simp only [tmenu2, List.mem_cons, List.mem_nil_iff, or_false] at z
    rcases z with rfl | rfl | rfl | rfl | rfl
    · simp only [goodT, Bool.and_eq_true, List.all_eq_true, decide_eq_true_eq]
      refine ⟨⟨fun y hy => ?_, ?_⟩, by simp [iN_length]; omega⟩
      · rcases List.mem_cons.mp hy with rfl | q
        · rfl
        · obtain ⟨i, rfl⟩ := iN_all q; rfl
      · simp only [fitWs, fitW, Bool.true_and]
        exact iN_fit c
    · exact good_app1 (by omega)
    · exact good_tN (by simp)
    · simp only [goodT, List.all_cons, List.all_nil, fitWs, fitW]
      rw [show fitWs 9 (iN (List.range n)) = true from iN_fit _]
      rfl
    · exact good_app1 (by simp; omega)
def todM (b n : Nat) (c : List Nat) : Mem := [.lst [], .dK [], .lst (iN (List.range n)), .lst (tmenu b n c), .lst (tmenu2 n c), .lst (tmenu b n c ++ tmenu2 n c)]
theorem odd_turn_ok {k r C n : Nat} {M : Mem} (h : Vat M r C) (hC : C ≤ 900000000) (n1 : 1 ≤ n) (n2 : n ≤ 40) : ∃ (w : W) (M' : Mem), callN D (k+3) i__law_odd_turn [.ref r, .int (n : Int)] M = .ok w M' ∧ goodT M' w = true ∧ Gr r (C + 1) M M' := by
  have hr := h.lt
  obtain ⟨c, hc, hcl⟩ := cut_iN (List.range n) (some 1) none
  rw [List.length_range] at hcl
  have hq : (M ++ todM M.length n c)[M.length + 5]? = some (.lst (tmenu M.length n c ++ tmenu2 n c)) := at5
  have a0 : (M ++ todM M.length n c)[M.length]? = some (.lst []) := at0
  have a1 : (M ++ todM M.length n c)[M.length + 1]? = some (.dK []) := at1
  have a2 : (M ++ todM M.length n c)[M.length + 2]? = some (.lst (iN (List.range n))) := at2
  obtain ⟨w, o, hw, e, v⟩ := of_ok (k := k) (h.app (g := todM M.length n c)) (by omega) hq (by omega) (by simp [tmenu, tmenu2]) (by simp [tmenu, tmenu2])
  have g1 : goodT ((M ++ todM M.length n c).set r o) w = true := by
    refine tmenu_good n2 (by omega) hw ?_ ?_ ?_
    · simp only [known, tyW]; rw [List.getElem?_set_ne (by omega), a0]; rfl
    · simp only [known, tyW]; rw [List.getElem?_set_ne (by omega), a1]; rfl
    · simp only [known, tyW]; rw [List.getElem?_set_ne (by omega), a2]; rfl
  have gr : Gr r (C + 1) M ((M ++ todM M.length n c).set r o) := ⟨o, todM M.length n c, List.set_append_left r o hr, v⟩
  obtain ⟨w', M', t1, t2, t3⟩ := trim_any hr gr g1
  refine ⟨w', M', ?_, t3, t2⟩
  rw [call_at (d := ⟨2, 4, c__law_odd_turn⟩) (b := c__law_odd_turn) (ρ := [some (.ref r), some (.int (n : Int)), none, none]) rfl rfl rfl rfl]
  have hz : sizeLine = 16777216 := sizeLine_eq
  have s0 : evS (callN D (k+2)) (c__law_odd_turn.nth 0) [some (.ref r), some (.int (n : Int)), none, none] M = .ok (.nx [some (.ref r), some (.int (n : Int)), some (tN (List.range n)), none]) M := by
    have e1 : evEs (callN D (k+2)) (.cons (.var 1) .nil) [some (.ref r), some (.int (n : Int)), none, none] M = .ok [.int (n : Int)] M := by simp [xss_nil, xss_cons, xe_var, xe_k, xe_gk, xe_bin, xe_neg, xe_not, xe_and, xe_or, xe_ite, xe_cmp, xe_chain, xe_tup, xe_lst, xe_call, xe_callK, xe_bi, xe_isi, xe_meth, xe_ix, xe_sl, xe_rev, xe_dnew, xe_lenset, xs_pass, xs_expr, xs_asg, xs_par, xs_setLc, xs_augS, xs_aug, xs_ret, xs_retN, xs_if, xa_nil, xa_cons, xa_star, xb_val, xb_cmp, xb_chain, xb_not, xb_and, xb_or, xo_none, xo_some, xg_name, xg_tup, xg_sub, xgs_nil, xgs_cons, xi_seq, xi_enum, xi_zip, xt_nil, xt_one, evN, R.bind, R.stm, R.calm, itemW, atI, ixN, biW, storeW, cmpW, bin_add, bin_sub, bin_mod, bin_mul, bin_fdiv, bin_pow, setAll, finW, ofO, seqW, newL, newT, newOb, truthW, mtW, EV.listAt, mo_append_list, mo_pop_list, mo_extend_list, mo_remove_list, mo_count_list, mo_count_tuple, mo_index_list, mo_get_dict, mo_index_tuple, mo_upper_str, mo_isdigit_str, mo_split_str, mo_join_str, ty_list_tuple, ty_list_dict, ty_list_str, ty_tuple_list, ty_tuple_dict, ty_tuple_str, ty_dict_list, ty_dict_tuple, ty_dict_str, ty_str_list, ty_str_tuple, ty_str_dict]
    have e2 := xe_lrange_by (t := true) e1 (rangeW_n (n := n) (by omega)) (by rw [iN_length, List.length_range]; omega)
    simp [CSs.nth, c__law_odd_turn, xss_nil, xss_cons, xe_var, xe_k, xe_gk, xe_bin, xe_neg, xe_not, xe_and, xe_or, xe_ite, xe_cmp, xe_chain, xe_tup, xe_lst, xe_call, xe_callK, xe_bi, xe_isi, xe_meth, xe_ix, xe_sl, xe_rev, xe_dnew, xe_lenset, xs_pass, xs_expr, xs_asg, xs_par, xs_setLc, xs_augS, xs_aug, xs_ret, xs_retN, xs_if, xa_nil, xa_cons, xa_star, xb_val, xb_cmp, xb_chain, xb_not, xb_and, xb_or, xo_none, xo_some, xg_name, xg_tup, xg_sub, xgs_nil, xgs_cons, xi_seq, xi_enum, xi_zip, xt_nil, xt_one, evN, R.bind, R.stm, R.calm, itemW, atI, ixN, biW, storeW, cmpW, bin_add, bin_sub, bin_mod, bin_mul, bin_fdiv, bin_pow, setAll, finW, ofO, seqW, newL, newT, newOb, truthW, mtW, EV.listAt, mo_append_list, mo_pop_list, mo_extend_list, mo_remove_list, mo_count_list, mo_count_tuple, mo_index_list, mo_get_dict, mo_index_tuple, mo_upper_str, mo_isdigit_str, mo_split_str, mo_join_str, ty_list_tuple, ty_list_dict, ty_list_str, ty_tuple_list, ty_tuple_dict, ty_tuple_str, ty_dict_list, ty_dict_tuple, ty_dict_str, ty_str_list, ty_str_tuple, ty_str_dict, e2]
  have hadd : ∀ (xs ys : List W) (M : Mem), xs.length + ys.length ≤ 1000 → binW .Add (.tup xs) (.tup ys) M = .ok (.tup (xs ++ ys)) M := fun xs ys M hl => bin_addT (by rw [hz]; omega)
  have ad1 := fun M => hadd (iN (List.range n)) [.int 0] M (by simp [iN_length]; omega)
  have ad2 := fun M => hadd (iN c) [.int (n : Int)] M (by simp [iN_length]; omega)
  have ad3 := fun M => hadd [.bl true] (iN c) M (by simp [iN_length]; omega)
  have ad4 := fun M => hadd (iN c) [.int (-1)] M (by simp [iN_length]; omega)
  have ad5 := fun M => hadd (iN (List.range n)) [.int ((n : Int) + 1)] M (by simp [iN_length]; omega)
  have rp1 := fun M => bin_rep (M := M) (x := .non) n1 (by omega)
  have rp2 := fun M => bin_rep (M := M) (x := .str "0") n1 (by omega)
  have s1 : evS (callN D (k+2)) (c__law_odd_turn.nth 1) [some (.ref r), some (.int (n : Int)), some (tN (List.range n)), none] M = .ok (.nx [some (.ref r), some (.int (n : Int)), some (tN (List.range n)), some (.ref (M.length + 3))]) (M ++ [.lst [], .dK [], .lst (iN (List.range n)), .lst (tmenu M.length n c)]) := by
    simp [CSs.nth, c__law_odd_turn, xss_nil, xss_cons, xe_var, xe_k, xe_gk, xe_bin, xe_neg, xe_not, xe_and, xe_or, xe_ite, xe_cmp, xe_chain, xe_tup, xe_lst, xe_call, xe_callK, xe_bi, xe_isi, xe_meth, xe_ix, xe_sl, xe_rev, xe_dnew, xe_lenset, xs_pass, xs_expr, xs_asg, xs_par, xs_setLc, xs_augS, xs_aug, xs_ret, xs_retN, xs_if, xa_nil, xa_cons, xa_star, xb_val, xb_cmp, xb_chain, xb_not, xb_and, xb_or, xo_none, xo_some, xg_name, xg_tup, xg_sub, xgs_nil, xgs_cons, xi_seq, xi_enum, xi_zip, xt_nil, xt_one, evN, R.bind, R.stm, R.calm, itemW, atI, ixN, biW, storeW, cmpW, bin_add, bin_sub, bin_mod, bin_mul, bin_fdiv, bin_pow, setAll, finW, ofO, seqW, newL, newT, newOb, truthW, mtW, EV.listAt, mo_append_list, mo_pop_list, mo_extend_list, mo_remove_list, mo_count_list, mo_count_tuple, mo_index_list, mo_get_dict, mo_index_tuple, mo_upper_str, mo_isdigit_str, mo_split_str, mo_join_str, ty_list_tuple, ty_list_dict, ty_list_str, ty_tuple_list, ty_tuple_dict, ty_tuple_str, ty_dict_list, ty_dict_tuple, ty_dict_str, ty_str_list, ty_str_tuple, ty_str_dict, sliceW, hc, ad1, ad2, rp1, rp2, hz, tmenu]
  have b1 : (M ++ [Ob.lst [], .dK [], .lst (iN (List.range n)), .lst (tmenu M.length n c), .lst (tmenu2 n c)])[M.length + 3]? = some (.lst (tmenu M.length n c)) := at3
  have b2 : (M ++ [Ob.lst [], .dK [], .lst (iN (List.range n)), .lst (tmenu M.length n c), .lst (tmenu2 n c)])[M.length + 4]? = some (.lst (tmenu2 n c)) := at4
  have s2 : evS (callN D (k+2)) (c__law_odd_turn.nth 2) [some (.ref r), some (.int (n : Int)), some (tN (List.range n)), some (.ref (M.length + 3))] (M ++ [.lst [], .dK [], .lst (iN (List.range n)), .lst (tmenu M.length n c)]) = .ok (.ret w) ((M ++ todM M.length n c).set r o) := by
    have ha := bin_addL b1 b2 (by rw [hz]; simp [tmenu, tmenu2])
    have e41 : ∀ M, evE (callN D (k+2)) (.lrange true (.cons (.k (.int 41)) .nil)) [some (.ref r), some (.int (n : Int)), some (tN (List.range n)), some (.ref (M.length + 3))] M = .ok (tN (List.range 41)) M := fun M => by
      have e1 : evEs (callN D (k+2)) (.cons (.k (.int 41)) .nil) [some (.ref r), some (.int (n : Int)), some (tN (List.range n)), some (.ref (M.length + 3))] M = .ok [.int ((41 : Nat) : Int)] M := by simp [xss_nil, xss_cons, xe_var, xe_k, xe_gk, xe_bin, xe_neg, xe_not, xe_and, xe_or, xe_ite, xe_cmp, xe_chain, xe_tup, xe_lst, xe_call, xe_callK, xe_bi, xe_isi, xe_meth, xe_ix, xe_sl, xe_rev, xe_dnew, xe_lenset, xs_pass, xs_expr, xs_asg, xs_par, xs_setLc, xs_augS, xs_aug, xs_ret, xs_retN, xs_if, xa_nil, xa_cons, xa_star, xb_val, xb_cmp, xb_chain, xb_not, xb_and, xb_or, xo_none, xo_some, xg_name, xg_tup, xg_sub, xgs_nil, xgs_cons, xi_seq, xi_enum, xi_zip, xt_nil, xt_one, evN, R.bind, R.stm, R.calm, itemW, atI, ixN, biW, storeW, cmpW, bin_add, bin_sub, bin_mod, bin_mul, bin_fdiv, bin_pow, setAll, finW, ofO, seqW, newL, newT, newOb, truthW, mtW, EV.listAt, mo_append_list, mo_pop_list, mo_extend_list, mo_remove_list, mo_count_list, mo_count_tuple, mo_index_list, mo_get_dict, mo_index_tuple, mo_upper_str, mo_isdigit_str, mo_split_str, mo_join_str, ty_list_tuple, ty_list_dict, ty_list_str, ty_tuple_list, ty_tuple_dict, ty_tuple_str, ty_dict_list, ty_dict_tuple, ty_dict_str, ty_str_list, ty_str_tuple, ty_str_dict]
      exact xe_lrange_by (t := true) e1 (rangeW_n (n := 41) (by omega)) (by rw [iN_length, List.length_range]; omega)
    have e41' : ∀ M' : Mem, evE (callN D (k+2)) (.lrange true (.cons (.k (.int 41)) .nil)) [some (.ref r), some (.int (n : Int)), some (tN (List.range n)), some (.ref (M.length + 3))] M' = .ok (tN (List.range 41)) M' := fun M' => by
      have e1 : evEs (callN D (k+2)) (.cons (.k (.int 41)) .nil) [some (.ref r), some (.int (n : Int)), some (tN (List.range n)), some (.ref (M.length + 3))] M' = .ok [.int ((41 : Nat) : Int)] M' := by simp [xss_nil, xss_cons, xe_var, xe_k, xe_gk, xe_bin, xe_neg, xe_not, xe_and, xe_or, xe_ite, xe_cmp, xe_chain, xe_tup, xe_lst, xe_call, xe_callK, xe_bi, xe_isi, xe_meth, xe_ix, xe_sl, xe_rev, xe_dnew, xe_lenset, xs_pass, xs_expr, xs_asg, xs_par, xs_setLc, xs_augS, xs_aug, xs_ret, xs_retN, xs_if, xa_nil, xa_cons, xa_star, xb_val, xb_cmp, xb_chain, xb_not, xb_and, xb_or, xo_none, xo_some, xg_name, xg_tup, xg_sub, xgs_nil, xgs_cons, xi_seq, xi_enum, xi_zip, xt_nil, xt_one, evN, R.bind, R.stm, R.calm, itemW, atI, ixN, biW, storeW, cmpW, bin_add, bin_sub, bin_mod, bin_mul, bin_fdiv, bin_pow, setAll, finW, ofO, seqW, newL, newT, newOb, truthW, mtW, EV.listAt, mo_append_list, mo_pop_list, mo_extend_list, mo_remove_list, mo_count_list, mo_count_tuple, mo_index_list, mo_get_dict, mo_index_tuple, mo_upper_str, mo_isdigit_str, mo_split_str, mo_join_str, ty_list_tuple, ty_list_dict, ty_list_str, ty_tuple_list, ty_tuple_dict, ty_tuple_str, ty_dict_list, ty_dict_tuple, ty_dict_str, ty_str_list, ty_str_tuple, ty_str_dict]
      exact xe_lrange_by (t := true) e1 (rangeW_n (n := 41) (by omega)) (by rw [iN_length, List.length_range]; omega)
    have e : callN D (k+2) 13 [.ref r, .ref (M.length + 5)] (M ++ todM M.length n c) = .ok w ((M ++ todM M.length n c).set r o) := e
    have hm2 : tmenu2 n c = [.tup (.bl true :: iN c), .tup (iN c ++ [.int (-1)]), tN (List.range 41), .tup [tN (List.range n)], .tup (iN (List.range n) ++ [.int ((n : Int) + 1)])] := rfl
    simp only [CSs.nth, c__law_odd_turn, xss_nil, xss_cons, xe_var, xe_k, xe_gk, xe_bin, xe_neg, xe_not, xe_and, xe_or, xe_ite, xe_cmp, xe_chain, xe_tup, xe_lst, xe_call, xe_callK, xe_bi, xe_isi, xe_meth, xe_ix, xe_sl, xe_rev, xe_dnew, xe_lenset, xs_pass, xs_expr, xs_asg, xs_par, xs_setLc, xs_augS, xs_aug, xs_ret, xs_retN, xs_if, xa_nil, xa_cons, xa_star, xb_val, xb_cmp, xb_chain, xb_not, xb_and, xb_or, xo_none, xo_some, xg_name, xg_tup, xg_sub, xgs_nil, xgs_cons, xi_seq, xi_enum, xi_zip, xt_nil, xt_one, evN, R.bind, R.stm, R.calm, itemW, atI, ixN, biW, storeW, cmpW, bin_add, bin_sub, bin_mod, bin_mul, bin_fdiv, bin_pow, setAll, finW, ofO, seqW, newL, newT, newOb, truthW, mtW, EV.listAt, mo_append_list, mo_pop_list, mo_extend_list, mo_remove_list, mo_count_list, mo_count_tuple, mo_index_list, mo_get_dict, mo_index_tuple, mo_upper_str, mo_isdigit_str, mo_split_str, mo_join_str, ty_list_tuple, ty_list_dict, ty_list_str, ty_tuple_list, ty_tuple_dict, ty_tuple_str, ty_dict_list, ty_dict_tuple, ty_dict_str, ty_str_list, ty_str_tuple, ty_str_dict, List.getElem?_cons_zero, List.getElem?_cons_succ, sliceW, hc, ad3, ad4, ad5, e41', List.cons_append, List.nil_append, hz, List.length_cons, List.length_nil, Nat.reduceAdd, Nat.reduceLeDiff, if_true, ← hm2, List.append_assoc, List.length_append]
    rw [if_pos (show (tmenu2 n c).length ≤ 16777216 by simp [tmenu2])]
    simp only [ha, List.length_append, List.length_cons, List.length_nil, Nat.reduceAdd, List.append_assoc, List.cons_append, List.nil_append]
    rw [show (M ++ [Ob.lst [], .dK [], .lst (iN (List.range n)), .lst (tmenu M.length n c), .lst (tmenu2 n c), .lst (tmenu M.length n c ++ tmenu2 n c)]) = M ++ todM M.length n c from rfl, e]
  show finW M (evSs (callN D (k+2)) (.cons (c__law_odd_turn.nth 0) (.cons (c__law_odd_turn.nth 1) (.cons (c__law_odd_turn.nth 2) .nil))) _ M) = _
  rw [evSs_cons s0, evSs_cons s1, evSs_ret s2]
  exact t1
end GD

namespace GD
open PySem PySem.Spec PyProof.Rows L2 EV PM
/-! Q15: bent turns -/
abbrev btA : CSs := CS.bd (c__law_bent_turn.nth 1)
abbrev btB : CSs := CS.bd (c__law_bent_turn.nth 2)
abbrev btC : CSs := CS.bd (c__law_bent_turn.nth 3)
theorem st_int {xs : List W} {i : Nat} {M : Mem} {f : Nat} {v : W} (hf : M[f]? = some (.lst xs)) (hi : i < xs.length) : storeW (.ref f) (.int (i : Int)) v M = .ok () (M.set f (.lst (xs.set i v))) := by
  simp only [storeW, hf, ix_nat hi]
theorem it_int {xs : List W} {i : Nat} {M : Mem} {f : Nat} (hf : M[f]? = some (.lst xs)) (hi : i < xs.length) : itemW (.ref f) (.int (i : Int)) M = .ok xs[i] M := by
  simp only [itemW, hf, atI_lt hi, List.getElem?_eq_getElem hi, ofO]
/-- two of a turn exchanged -/
theorem btA_ok {k a t : Nat} {p : List Nat} {a0 a2 a6 a7 : Option W} {M : Mem} (ha : a < p.length) (ht : t < p.length) (hl : p.length ≤ 40) :
    ∃ w g, evSs (callN D k) btA [a0, some (tN p), a2, some (.int (a : Int)), some (.int (t : Int)), none, a6, a7] M = .ok (.ret w) (M ++ g) ∧ pureW w = true ∧ ∀ M', goodT M' w = true := by
  have l0 : (iN p).length = p.length := iN_length p
  have h0 : (M ++ [Ob.lst (iN p)])[M.length]? = some (.lst (iN p)) := at0
  have i1 := it_int h0 (i := t) (by omega)
  have i2 := it_int h0 (i := a) (by omega)
  have st1 := st_int (v := (iN p)[t]) h0 (i := a) (by omega)
  have hset1 : (M ++ [Ob.lst (iN p)]).set M.length (.lst ((iN p).set a (iN p)[t])) = M ++ [.lst ((iN p).set a (iN p)[t])] := by simp
  rw [hset1] at st1
  have h1 : (M ++ [Ob.lst ((iN p).set a (iN p)[t])])[M.length]? = some (.lst ((iN p).set a (iN p)[t])) := at0
  have st2 := st_int (v := (iN p)[a]) h1 (i := t) (by rw [List.length_set]; omega)
  have hset2 : (M ++ [Ob.lst ((iN p).set a (iN p)[t])]).set M.length (.lst (((iN p).set a (iN p)[t]).set t (iN p)[a])) = M ++ [.lst (((iN p).set a (iN p)[t]).set t (iN p)[a])] := by simp
  rw [hset2] at st2
  generalize hys : ((iN p).set a (iN p)[t]).set t (iN p)[a] = ys at st2
  have hall : ∀ y ∈ ys, ∃ i, y = .int i := fun y hy => by
    rw [← hys] at hy
    have : y ∈ iN p := by
      rcases List.mem_or_eq_of_mem_set hy with z | z
      · rcases List.mem_or_eq_of_mem_set z with q | q
        · exact q
        · rw [q]; exact List.getElem_mem _
      · rw [z]; exact List.getElem_mem _
    exact iN_all this
  have hlen : ys.length = p.length := by rw [← hys]; simp [iN_length]
  have hpure : pureWs ys = true := by
    have : fitWs 1 ys = true := fitWs_iff.mpr fun y hy => by obtain ⟨i, rfl⟩ := hall y hy; rfl
    exact fit_pureWs this
  have h2 : (M ++ [Ob.lst ys])[M.length]? = some (.lst ys) := at0
  have hz : ([(iN p)[t], (iN p)[a]]).length ≤ sizeLine := by rw [sizeLine_eq]; simp
  refine ⟨.tup ys, [.lst ys], ?_, tup_pure hpure, fun M' => good_ints hall (by omega)⟩
  simp only [storeW, itemW] at st1 st2 i1 i2
  simp only [btA, CS.bd, CSs.nth, c__law_bent_turn, xss_cons, xss_nil, xs_asg, xs_ret, xe_bi, xe_tup, xe_ix, xe_var, xa_cons, xa_nil, xg_name, xg_tup, xg_sub, xgs_cons, xgs_nil, R.bind, R.stm, R.calm, biW, newOb, newT, seqW, itemW, storeW, List.getElem?_cons_zero, List.getElem?_cons_succ, List.set_cons_succ, List.set_cons_zero, i1, i2, if_pos hz, st1, st2, h2]
def bmenu (b : Nat) (p c : List Nat) : List W := [.ref b, tN c, .tup (iN p ++ [.int (p.length : Int)]), .tup (iN p).reverse, .non, .tup [], .str "turn", .tup [tN p]]
def bmenu2 (e : List Nat) : List W := [tN e]
theorem bmenu_good {M : Mem} {b : Nat} {p c e : List Nat} {w : W} (hn : p.length ≤ 40) (hc : c.length ≤ 40) (he : e.length ≤ 100) (h : w ∈ bmenu b p c ++ bmenu2 e) (k0 : known M (.ref b) = true) : goodT M w = true := by
  rcases List.mem_append.mp h with z | z
  · simp only [bmenu, List.mem_cons, List.mem_nil_iff, or_false] at z
    rcases z with rfl | rfl | rfl | rfl | rfl | rfl | rfl | rfl
    · exact k0
    · exact good_tN (by omega)
    · exact good_app1 (by omega)
    · exact good_ints (fun x hx => iN_all (List.mem_reverse.mp hx)) (by simp [iN_length]; omega)
    · rfl
    · rfl
    · rfl
    · simp only [goodT, List.all_cons, List.all_nil, fitWs, fitW]
      rw [show fitWs 9 (iN p) = true from iN_fit _]
      rfl
  · simp only [bmenu2, List.mem_cons, List.mem_nil_iff, or_false] at z
    subst z
    exact good_tN (by omega)
theorem btB_ok {k r C : Nat} {p : List Nat} {a2 a3 a4 a5 a7 : Option W} {M : Mem} (h : Vat M r C) (hC : C ≤ 900000000) (hl : p.length ≤ 40) :
    ∃ w M', evSs (callN D (k+2)) btB [some (.ref r), some (tN p), a2, a3, a4, a5, none, a7] M = .ok (.ret w) M' ∧ goodT M' w = true ∧ Gr r (C + 1) M M' := by
  have hr := h.lt
  have hz : sizeLine = 16777216 := sizeLine_eq
  obtain ⟨c, hc, hcl⟩ := cut_iN p (some 1) none
  obtain ⟨d, hd, hdl⟩ := cut_iN p none (some 1)
  have ad1 : ∀ M, binW .Add (tN p) (.tup [.int (p.length : Int)]) M = .ok (.tup (iN p ++ [.int (p.length : Int)])) M := fun M => bin_addT (by rw [hz, iN_length]; simp; omega)
  have ad2 : ∀ M, binW .Add (tN c) (tN d) M = .ok (tN (c ++ d)) M := fun M => by
    have := bin_addT (M := M) (xs := iN c) (ys := iN d) (by rw [hz, iN_length, iN_length]; omega)
    rw [← iN_app] at this
    exact this
  generalize hbm : bmenu M.length p c = bm
  have b1 : (M ++ [Ob.lst (iN p), .lst bm, .lst (bmenu2 (c ++ d))])[M.length + 1]? = some (.lst bm) := at1
  have b2 : (M ++ [Ob.lst (iN p), .lst bm, .lst (bmenu2 (c ++ d))])[M.length + 2]? = some (.lst (bmenu2 (c ++ d))) := at2
  have hbl : bm.length = 8 := by rw [← hbm]; rfl
  have ha := bin_addL b1 b2 (by rw [hz, hbl]; simp [bmenu2])
  have hq : (M ++ [Ob.lst (iN p), .lst bm, .lst (bmenu2 (c ++ d)), .lst (bm ++ bmenu2 (c ++ d))])[M.length + 3]? = some (.lst (bm ++ bmenu2 (c ++ d))) := at3
  obtain ⟨w, o, hw, e, v⟩ := of_ok (k := k) (h.app (g := [Ob.lst (iN p), .lst bm, .lst (bmenu2 (c ++ d)), .lst (bm ++ bmenu2 (c ++ d))])) (by omega) hq (by omega) (by rw [List.length_append, hbl]; omega) (by rw [List.length_append, hbl]; simp [bmenu2])
  have gr : Gr r (C + 1) M ((M ++ [Ob.lst (iN p), .lst bm, .lst (bmenu2 (c ++ d)), .lst (bm ++ bmenu2 (c ++ d))]).set r o) := ⟨o, _, List.set_append_left r o hr, v⟩
  refine ⟨w, _, ?_, ?_, gr⟩
  · have e : callN D (k+2) 13 [.ref r, .ref (M.length + 3)] (M ++ [Ob.lst (iN p), .lst bm, .lst (bmenu2 (c ++ d)), .lst (bm ++ bmenu2 (c ++ d))]) = _ := e
    have s0 : evS (callN D (k+2)) (btB.nth 0) [some (.ref r), some (tN p), a2, a3, a4, a5, none, a7] M = .ok (.nx [some (.ref r), some (tN p), a2, a3, a4, a5, some (.ref (M.length + 1)), a7]) (M ++ [.lst (iN p), .lst bm]) := by
      rw [← hbm]
      simp [btB, CS.bd, CSs.nth, c__law_bent_turn, xss_nil, xss_cons, xe_var, xe_k, xe_gk, xe_bin, xe_neg, xe_not, xe_and, xe_or, xe_ite, xe_cmp, xe_chain, xe_tup, xe_lst, xe_call, xe_callK, xe_bi, xe_isi, xe_meth, xe_ix, xe_sl, xe_rev, xe_dnew, xe_lenset, xs_pass, xs_expr, xs_asg, xs_par, xs_setLc, xs_augS, xs_aug, xs_ret, xs_retN, xs_if, xa_nil, xa_cons, xa_star, xb_val, xb_cmp, xb_chain, xb_not, xb_and, xb_or, xo_none, xo_some, xg_name, xg_tup, xg_sub, xgs_nil, xgs_cons, xi_seq, xi_enum, xi_zip, xt_nil, xt_one, evN, R.bind, R.stm, R.calm, itemW, atI, ixN, biW, storeW, cmpW, bin_add, bin_sub, bin_mod, bin_mul, bin_fdiv, bin_pow, setAll, finW, ofO, seqW, newL, newT, newOb, truthW, mtW, EV.listAt, mo_append_list, mo_pop_list, mo_extend_list, mo_remove_list, mo_count_list, mo_count_tuple, mo_index_list, mo_get_dict, mo_index_tuple, mo_upper_str, mo_isdigit_str, mo_split_str, mo_join_str, ty_list_tuple, ty_list_dict, ty_list_str, ty_tuple_list, ty_tuple_dict, ty_tuple_str, ty_dict_list, ty_dict_tuple, ty_dict_str, ty_str_list, ty_str_tuple, ty_str_dict, sliceW, hc, ad1, iN_length, hz, bmenu]
    have s1 : evS (callN D (k+2)) (btB.nth 1) [some (.ref r), some (tN p), a2, a3, a4, a5, some (.ref (M.length + 1)), a7] (M ++ [.lst (iN p), .lst bm]) = .ok (.ret w) ((M ++ [Ob.lst (iN p), .lst bm, .lst (bmenu2 (c ++ d)), .lst (bm ++ bmenu2 (c ++ d))]).set r o) := by
      have hm2 : bmenu2 (c ++ d) = [tN (c ++ d)] := rfl
      rw [hm2] at ha e ⊢
      simp only [btB, CS.bd, CSs.nth, c__law_bent_turn, xss_nil, xss_cons, xe_var, xe_k, xe_gk, xe_bin, xe_neg, xe_not, xe_and, xe_or, xe_ite, xe_cmp, xe_chain, xe_tup, xe_lst, xe_call, xe_callK, xe_bi, xe_isi, xe_meth, xe_ix, xe_sl, xe_rev, xe_dnew, xe_lenset, xs_pass, xs_expr, xs_asg, xs_par, xs_setLc, xs_augS, xs_aug, xs_ret, xs_retN, xs_if, xa_nil, xa_cons, xa_star, xb_val, xb_cmp, xb_chain, xb_not, xb_and, xb_or, xo_none, xo_some, xg_name, xg_tup, xg_sub, xgs_nil, xgs_cons, xi_seq, xi_enum, xi_zip, xt_nil, xt_one, evN, R.bind, R.stm, R.calm, itemW, atI, ixN, biW, storeW, cmpW, bin_add, bin_sub, bin_mod, bin_mul, bin_fdiv, bin_pow, setAll, finW, ofO, seqW, newL, newT, newOb, truthW, mtW, EV.listAt, mo_append_list, mo_pop_list, mo_extend_list, mo_remove_list, mo_count_list, mo_count_tuple, mo_index_list, mo_get_dict, mo_index_tuple, mo_upper_str, mo_isdigit_str, mo_split_str, mo_join_str, ty_list_tuple, ty_list_dict, ty_list_str, ty_tuple_list, ty_tuple_dict, ty_tuple_str, ty_dict_list, ty_dict_tuple, ty_dict_str, ty_str_list, ty_str_tuple, ty_str_dict, List.getElem?_cons_zero, List.getElem?_cons_succ, sliceW, hc, hd, ad2, hz, List.length_cons, List.length_nil, Nat.reduceAdd, Nat.reduceLeDiff, if_true, List.append_assoc, List.length_append, List.cons_append, List.nil_append]
      rw [ha]
      simp only [List.length_append, List.length_cons, List.length_nil, Nat.reduceAdd, List.append_assoc, List.cons_append, List.nil_append, e]
    show evSs (callN D (k+2)) (.cons (btB.nth 0) (.cons (btB.nth 1) .nil)) _ M = _
    rw [evSs_cons s0, evSs_ret s1]
  · have hk : known ((M ++ [Ob.lst (iN p), .lst bm, .lst (bmenu2 (c ++ d)), .lst (bm ++ bmenu2 (c ++ d))]).set r o) (.ref M.length) = true := by
      simp only [known, tyW]; rw [List.getElem?_set_ne (by omega), at0]; rfl
    rw [← hbm] at hw
    exact bmenu_good hl (by omega) (by simp; omega) hw hk
def cmenu (p : List Nat) (t : Nat) : List W := [.bl true, .non, .str "0", .int (-1), .int (p.length : Int), .int (ap p t : Nat), .tup [.int 0]]
theorem cmenu_good {M : Mem} {p : List Nat} {t : Nat} {w : W} (h : w ∈ cmenu p t) : known M w = true ∧ fitW 10 w = true ∧ pureW w = true := by
  simp only [cmenu, List.mem_cons, List.mem_nil_iff, or_false] at h
  rcases h with rfl | rfl | rfl | rfl | rfl | rfl | rfl
  · exact ⟨rfl, rfl, rfl⟩
  · exact ⟨rfl, rfl, rfl⟩
  · exact ⟨rfl, by decide +kernel, rfl⟩
  · exact ⟨rfl, rfl, rfl⟩
  · exact ⟨rfl, rfl, rfl⟩
  · exact ⟨rfl, rfl, rfl⟩
  · exact ⟨rfl, rfl, rfl⟩
theorem btC_ok {k r C a t : Nat} {p : List Nat} {a2 a5 a6 : Option W} {M : Mem} (h : Vat M r C) (hC : C ≤ 900000000) (hl : p.length ≤ 40) (ha : a < p.length) (ht : t < p.length) :
    ∃ w M', evSs (callN D (k+2)) btC [some (.ref r), some (tN p), a2, some (.int (a : Int)), some (.int (t : Int)), a5, a6, none] M = .ok (.ret w) M' ∧ goodT M' w = true ∧ Gr r (C + 1) M M' := by
  have hr := h.lt
  have hz : sizeLine = 16777216 := sizeLine_eq
  obtain ⟨w, o, hw, e, v⟩ := of_ok (k := k) (q := M.length) (xs := cmenu p t) (h.app (g := [.lst (cmenu p t)])) (by omega) at0 (by omega) (by simp [cmenu]) (by simp [cmenu])
  obtain ⟨c, hc, hcl⟩ := cut_iN p none (some (a : Int))
  obtain ⟨d, hd, hdl⟩ := cut_iN p (some ((a : Int) + 1)) none
  obtain ⟨w1, w2, w3⟩ := cmenu_good (M := (M ++ [Ob.lst (cmenu p t)]).set r o) hw
  have e : callN D (k+2) 13 [.ref r, .ref M.length] (M ++ [.lst (cmenu p t)]) = _ := e
  have i1 := atI_tN ht
  have ad1 : ∀ M, binW .Add (tN c) (.tup [w]) M = .ok (.tup (iN c ++ [w])) M := fun M => bin_addT (by rw [hz, iN_length]; simp; omega)
  have ad2 : ∀ M, binW .Add (.tup (iN c ++ [w])) (tN d) M = .ok (.tup (iN c ++ [w] ++ iN d)) M := fun M => bin_addT (by rw [hz, iN_length]; simp [iN_length]; omega)
  refine ⟨.tup (iN c ++ [w] ++ iN d), (M ++ [Ob.lst (cmenu p t)]).set r o, ?_, ?_, ⟨o, [.lst (cmenu p t)], List.set_append_left r o hr, v⟩⟩
  · have s0 : evS (callN D (k+2)) (btC.nth 0) [some (.ref r), some (tN p), a2, some (.int (a : Int)), some (.int (t : Int)), a5, a6, none] M = .ok (.nx [some (.ref r), some (tN p), a2, some (.int (a : Int)), some (.int (t : Int)), a5, a6, some w]) ((M ++ [Ob.lst (cmenu p t)]).set r o) := by
      have hm : cmenu p t = [.bl true, .non, .str "0", .int (-1), .int (p.length : Int), .int (ap p t : Nat), .tup [.int 0]] := rfl
      simp only [btC, CS.bd, CSs.nth, c__law_bent_turn, xss_nil, xss_cons, xe_var, xe_k, xe_gk, xe_bin, xe_neg, xe_not, xe_and, xe_or, xe_ite, xe_cmp, xe_chain, xe_tup, xe_lst, xe_call, xe_callK, xe_bi, xe_isi, xe_meth, xe_ix, xe_sl, xe_rev, xe_dnew, xe_lenset, xs_pass, xs_expr, xs_asg, xs_par, xs_setLc, xs_augS, xs_aug, xs_ret, xs_retN, xs_if, xa_nil, xa_cons, xa_star, xb_val, xb_cmp, xb_chain, xb_not, xb_and, xb_or, xo_none, xo_some, xg_name, xg_tup, xg_sub, xgs_nil, xgs_cons, xi_seq, xi_enum, xi_zip, xt_nil, xt_one, evN, R.bind, R.stm, R.calm, itemW, biW, storeW, cmpW, bin_add, bin_sub, bin_mod, bin_mul, bin_fdiv, bin_pow, setAll, finW, ofO, seqW, newL, newT, newOb, truthW, mtW, EV.listAt, mo_append_list, mo_pop_list, mo_extend_list, mo_remove_list, mo_count_list, mo_count_tuple, mo_index_list, mo_get_dict, mo_index_tuple, mo_upper_str, mo_isdigit_str, mo_split_str, mo_join_str, ty_list_tuple, ty_list_dict, ty_list_str, ty_tuple_list, ty_tuple_dict, ty_tuple_str, ty_dict_list, ty_dict_tuple, ty_dict_str, ty_str_list, ty_str_tuple, ty_str_dict, List.getElem?_cons_zero, List.getElem?_cons_succ, iN_length, i1, hz, List.length_cons, List.length_nil, Nat.reduceAdd, Nat.reduceLeDiff, if_true, ← hm, List.set_cons_succ, List.set_cons_zero]
      rw [if_pos (show (cmenu p t).length ≤ 16777216 by simp [cmenu])]
      simp only [e]
    have s1 : evS (callN D (k+2)) (btC.nth 1) [some (.ref r), some (tN p), a2, some (.int (a : Int)), some (.int (t : Int)), a5, a6, some w] ((M ++ [Ob.lst (cmenu p t)]).set r o) = .ok (.ret (.tup (iN c ++ [w] ++ iN d))) ((M ++ [Ob.lst (cmenu p t)]).set r o) := by
      simp only [btC, CS.bd, CSs.nth, c__law_bent_turn, xss_nil, xss_cons, xe_var, xe_k, xe_gk, xe_bin, xe_neg, xe_not, xe_and, xe_or, xe_ite, xe_cmp, xe_chain, xe_tup, xe_lst, xe_call, xe_callK, xe_bi, xe_isi, xe_meth, xe_ix, xe_sl, xe_rev, xe_dnew, xe_lenset, xs_pass, xs_expr, xs_asg, xs_par, xs_setLc, xs_augS, xs_aug, xs_ret, xs_retN, xs_if, xa_nil, xa_cons, xa_star, xb_val, xb_cmp, xb_chain, xb_not, xb_and, xb_or, xo_none, xo_some, xg_name, xg_tup, xg_sub, xgs_nil, xgs_cons, xi_seq, xi_enum, xi_zip, xt_nil, xt_one, evN, R.bind, R.stm, R.calm, itemW, atI, ixN, biW, storeW, cmpW, bin_add, bin_sub, bin_mod, bin_mul, bin_fdiv, bin_pow, setAll, finW, ofO, seqW, newL, newT, newOb, truthW, mtW, EV.listAt, mo_append_list, mo_pop_list, mo_extend_list, mo_remove_list, mo_count_list, mo_count_tuple, mo_index_list, mo_get_dict, mo_index_tuple, mo_upper_str, mo_isdigit_str, mo_split_str, mo_join_str, ty_list_tuple, ty_list_dict, ty_list_str, ty_tuple_list, ty_tuple_dict, ty_tuple_str, ty_dict_list, ty_dict_tuple, ty_dict_str, ty_str_list, ty_str_tuple, ty_str_dict, List.getElem?_cons_zero, List.getElem?_cons_succ, sliceW, hc, hd, hz, List.length_cons, List.length_nil, Nat.reduceAdd, Nat.reduceLeDiff, if_true, ad1, ad2]
    show evSs (callN D (k+2)) (.cons (btC.nth 0) (.cons (btC.nth 1) .nil)) _ M = _
    rw [evSs_cons s0, evSs_ret s1]
  · simp only [goodT, Bool.and_eq_true, List.all_eq_true, decide_eq_true_eq]
    refine ⟨⟨fun y hy => ?_, fitWs_iff.mpr fun y hy => ?_⟩, by simp [iN_length]; omega⟩
    · rcases List.mem_append.mp hy with z | z
      · rcases List.mem_append.mp z with q | q
        · obtain ⟨i, rfl⟩ := iN_all q; rfl
        · rw [List.mem_singleton.mp q]; exact w1
      · obtain ⟨i, rfl⟩ := iN_all z; rfl
    · rcases List.mem_append.mp hy with z | z
      · rcases List.mem_append.mp z with q | q
        · obtain ⟨i, rfl⟩ := iN_all q; rfl
        · rw [List.mem_singleton.mp q]; exact w2
      · obtain ⟨i, rfl⟩ := iN_all z; rfl
theorem bent_ok {k r C : Nat} {p : List Nat} {M : Mem} (h : Vat M r C) (hC : C ≤ 800000000) (T : Tn p) (l1 : 1 ≤ p.length) (l2 : p.length ≤ 40) :
    ∃ (w : W) (M' : Mem), callN D (k+3) i__law_bent_turn [.ref r, tN p] M = .ok w M' ∧ goodT M' w = true ∧ Gr r (C + 4) M M' := by
  have hr := h.lt
  obtain ⟨way, o1, e1, m0, m1, v1⟩ := dip_ok (k := k+1) (n := 9) h (by omega) (by omega) (by omega)
  have V1 := Vat.of hr v1
  obtain ⟨a, o2, e2, a0, a1, v2⟩ := dip_ok (k := k+1) (n := (p.length : Int)) V1 (by omega) (by omega) (by omega)
  rw [List.set_set] at e2
  have V2 := Vat.of hr v2
  obtain ⟨t, o3, e3, t0, t1, v3⟩ := dip_ok (k := k+1) (n := (p.length : Int)) V2 (by omega) (by omega) (by omega)
  rw [List.set_set] at e3
  have V3 := Vat.of hr v3
  obtain ⟨a, rfl⟩ := Int.eq_ofNat_of_zero_le a0
  obtain ⟨t, rfl⟩ := Int.eq_ofNat_of_zero_le t0
  have g3 : Gr r (C + 3) M (M.set r o3) := Gr.set v3
  have hr3 : r < (M.set r o3).length := by simpa using hr
  rw [call_at (d := ⟨2, 8, c__law_bent_turn⟩) (b := c__law_bent_turn) (ρ := [some (.ref r), some (tN p), none, none, none, none, none, none]) rfl rfl rfl rfl]
  have e1 : callN D (k+2) 1 [.ref r, .int 9] M = _ := e1
  have e2 : callN D (k+2) 1 [.ref r, .int (p.length : Int)] (M.set r o1) = _ := e2
  have e3 : callN D (k+2) 1 [.ref r, .int (p.length : Int)] (M.set r o2) = _ := e3
  have s0 : evS (callN D (k+2)) (c__law_bent_turn.nth 0) [some (.ref r), some (tN p), none, none, none, none, none, none] M = .ok (.nx [some (.ref r), some (tN p), some (.int way), some (.int (a : Int)), some (.int (t : Int)), none, none, none]) (M.set r o3) := by
    simp only [CSs.nth, c__law_bent_turn, xss_nil, xss_cons, xe_var, xe_k, xe_gk, xe_bin, xe_neg, xe_not, xe_and, xe_or, xe_ite, xe_cmp, xe_chain, xe_tup, xe_lst, xe_call, xe_callK, xe_bi, xe_isi, xe_meth, xe_ix, xe_sl, xe_rev, xe_dnew, xe_lenset, xs_pass, xs_expr, xs_asg, xs_par, xs_setLc, xs_augS, xs_aug, xs_ret, xs_retN, xs_if, xa_nil, xa_cons, xa_star, xb_val, xb_cmp, xb_chain, xb_not, xb_and, xb_or, xo_none, xo_some, xg_name, xg_tup, xg_sub, xgs_nil, xgs_cons, xi_seq, xi_enum, xi_zip, xt_nil, xt_one, evN, R.bind, R.stm, R.calm, itemW, atI, ixN, biW, storeW, cmpW, bin_add, bin_sub, bin_mod, bin_mul, bin_fdiv, bin_pow, setAll, finW, ofO, seqW, newL, newT, newOb, truthW, mtW, EV.listAt, mo_append_list, mo_pop_list, mo_extend_list, mo_remove_list, mo_count_list, mo_count_tuple, mo_index_list, mo_get_dict, mo_index_tuple, mo_upper_str, mo_isdigit_str, mo_split_str, mo_join_str, ty_list_tuple, ty_list_dict, ty_list_str, ty_tuple_list, ty_tuple_dict, ty_tuple_str, ty_dict_list, ty_dict_tuple, ty_dict_str, ty_str_list, ty_str_tuple, ty_str_dict, List.getElem?_cons_zero, List.getElem?_cons_succ, iN_length, e1, e2, e3, List.set_cons_succ, List.set_cons_zero]
  show ∃ w M', finW M (evSs (callN D (k+2)) (.cons (c__law_bent_turn.nth 0) (.cons (c__law_bent_turn.nth 1) (.cons (c__law_bent_turn.nth 2) (.cons (c__law_bent_turn.nth 3) (.cons (c__law_bent_turn.nth 4) (.cons (c__law_bent_turn.nth 5) .nil)))))) _ M) = _ ∧ _
  rw [evSs_cons s0]
  generalize hρ : ([some (.ref r), some (tN p), some (.int way), some (.int (a : Int)), some (.int (t : Int)), none, none, none] : Sl) = ρ
  -- the end, by a branch that returns
  have fin : ∀ (w : W) (M1 : Mem), goodT M1 w = true → Gr r (C + 4) M M1 → ∃ (w' : W) (M' : Mem), finW M (.ok (.ret w) M1) = .ok w' M' ∧ goodT M' w' = true ∧ Gr r (C + 4) M M' := fun w M1 hg hG => by
    obtain ⟨w', M', q1, q2, q3⟩ := trim_any hr hG hg
    exact ⟨w', M', q1, q3, q2⟩
  by_cases h1 : way < 3
  · obtain ⟨w, g, q1, q2, q3⟩ := btA_ok (k := k+2) (a0 := some (.ref r)) (a2 := some (.int way)) (a6 := none) (a7 := none) (M := M.set r o3) (a := a) (t := t) (p := p) (by omega) (by omega) l2
    have s1 : evS (callN D (k+2)) (c__law_bent_turn.nth 1) ρ (M.set r o3) = .ok (.ret w) (M.set r o3 ++ g) := by
      rw [← hρ]
      rw [show c__law_bent_turn.nth 1 = .ifS (.cmp .Lt (.var 2) (.k (.int 3))) btA .nil from rfl, xs_if, xb_cmp]
      simp only [xe_var, xe_k, R.bind, R.stm, cmpW, List.getElem?_cons_zero, List.getElem?_cons_succ, decide_eq_true h1, if_true]
      exact q1
    rw [evSs_ret s1]
    exact fin w _ (q3 _) ((g3.app).more (by omega))
  · have s1 : evS (callN D (k+2)) (c__law_bent_turn.nth 1) ρ (M.set r o3) = .ok (.nx ρ) (M.set r o3) := by
      rw [← hρ]
      simp [CSs.nth, c__law_bent_turn, xss_nil, xss_cons, xe_var, xe_k, xe_gk, xe_bin, xe_neg, xe_not, xe_and, xe_or, xe_ite, xe_cmp, xe_chain, xe_tup, xe_lst, xe_call, xe_callK, xe_bi, xe_isi, xe_meth, xe_ix, xe_sl, xe_rev, xe_dnew, xe_lenset, xs_pass, xs_expr, xs_asg, xs_par, xs_setLc, xs_augS, xs_aug, xs_ret, xs_retN, xs_if, xa_nil, xa_cons, xa_star, xb_val, xb_cmp, xb_chain, xb_not, xb_and, xb_or, xo_none, xo_some, xg_name, xg_tup, xg_sub, xgs_nil, xgs_cons, xi_seq, xi_enum, xi_zip, xt_nil, xt_one, evN, R.bind, R.stm, R.calm, itemW, atI, ixN, biW, storeW, cmpW, bin_add, bin_sub, bin_mod, bin_mul, bin_fdiv, bin_pow, setAll, finW, ofO, seqW, newL, newT, newOb, truthW, mtW, EV.listAt, mo_append_list, mo_pop_list, mo_extend_list, mo_remove_list, mo_count_list, mo_count_tuple, mo_index_list, mo_get_dict, mo_index_tuple, mo_upper_str, mo_isdigit_str, mo_split_str, mo_join_str, ty_list_tuple, ty_list_dict, ty_list_str, ty_tuple_list, ty_tuple_dict, ty_tuple_str, ty_dict_list, ty_dict_tuple, ty_dict_str, ty_str_list, ty_str_tuple, ty_str_dict, h1]
    rw [evSs_cons s1]
    by_cases h2 : way = 3
    · obtain ⟨w, M1, q1, q2, q3⟩ := btB_ok (k := k) (a2 := some (.int way)) (a3 := some (.int (a : Int))) (a4 := some (.int (t : Int))) (a5 := none) (a7 := none) V3 (by omega) l2
      have s2 : evS (callN D (k+2)) (c__law_bent_turn.nth 2) ρ (M.set r o3) = .ok (.ret w) M1 := by
        rw [← hρ]
        rw [show c__law_bent_turn.nth 2 = .ifS (.cmp .Eq (.var 2) (.k (.int 3))) btB .nil from rfl, xs_if, xb_cmp]
        simp only [xe_var, xe_k, R.bind, R.stm, cmpW, ofO, List.getElem?_cons_zero, List.getElem?_cons_succ, eq_ii, decide_eq_true h2, if_true]
        exact q1
      rw [evSs_ret s2]
      exact fin w M1 q2 ((g3.trans hr q3).more (by omega))
    · have s2 : evS (callN D (k+2)) (c__law_bent_turn.nth 2) ρ (M.set r o3) = .ok (.nx ρ) (M.set r o3) := by
        rw [← hρ]
        simp [CSs.nth, c__law_bent_turn, xss_nil, xss_cons, xe_var, xe_k, xe_gk, xe_bin, xe_neg, xe_not, xe_and, xe_or, xe_ite, xe_cmp, xe_chain, xe_tup, xe_lst, xe_call, xe_callK, xe_bi, xe_isi, xe_meth, xe_ix, xe_sl, xe_rev, xe_dnew, xe_lenset, xs_pass, xs_expr, xs_asg, xs_par, xs_setLc, xs_augS, xs_aug, xs_ret, xs_retN, xs_if, xa_nil, xa_cons, xa_star, xb_val, xb_cmp, xb_chain, xb_not, xb_and, xb_or, xo_none, xo_some, xg_name, xg_tup, xg_sub, xgs_nil, xgs_cons, xi_seq, xi_enum, xi_zip, xt_nil, xt_one, evN, R.bind, R.stm, R.calm, itemW, atI, ixN, biW, storeW, cmpW, bin_add, bin_sub, bin_mod, bin_mul, bin_fdiv, bin_pow, setAll, finW, ofO, seqW, newL, newT, newOb, truthW, mtW, EV.listAt, mo_append_list, mo_pop_list, mo_extend_list, mo_remove_list, mo_count_list, mo_count_tuple, mo_index_list, mo_get_dict, mo_index_tuple, mo_upper_str, mo_isdigit_str, mo_split_str, mo_join_str, ty_list_tuple, ty_list_dict, ty_list_str, ty_tuple_list, ty_tuple_dict, ty_tuple_str, ty_dict_list, ty_dict_tuple, ty_dict_str, ty_str_list, ty_str_tuple, ty_str_dict, eq_ii, h2]
      rw [evSs_cons s2]
      by_cases h3 : way = 4
      · obtain ⟨w, M1, q1, q2, q3⟩ := btC_ok (k := k) (a := a) (t := t) (a2 := some (.int way)) (a5 := none) (a6 := none) V3 (by omega) l2 (by omega) (by omega)
        have s3 : evS (callN D (k+2)) (c__law_bent_turn.nth 3) ρ (M.set r o3) = .ok (.ret w) M1 := by
          rw [← hρ]
          rw [show c__law_bent_turn.nth 3 = .ifS (.cmp .Eq (.var 2) (.k (.int 4))) btC .nil from rfl, xs_if, xb_cmp]
          simp only [xe_var, xe_k, R.bind, R.stm, cmpW, ofO, List.getElem?_cons_zero, List.getElem?_cons_succ, eq_ii, decide_eq_true h3, if_true]
          exact q1
        rw [evSs_ret s3]
        exact fin w M1 q2 ((g3.trans hr q3).more (by omega))
      · have s3 : evS (callN D (k+2)) (c__law_bent_turn.nth 3) ρ (M.set r o3) = .ok (.nx ρ) (M.set r o3) := by
          rw [← hρ]
          simp [CSs.nth, c__law_bent_turn, xss_nil, xss_cons, xe_var, xe_k, xe_gk, xe_bin, xe_neg, xe_not, xe_and, xe_or, xe_ite, xe_cmp, xe_chain, xe_tup, xe_lst, xe_call, xe_callK, xe_bi, xe_isi, xe_meth, xe_ix, xe_sl, xe_rev, xe_dnew, xe_lenset, xs_pass, xs_expr, xs_asg, xs_par, xs_setLc, xs_augS, xs_aug, xs_ret, xs_retN, xs_if, xa_nil, xa_cons, xa_star, xb_val, xb_cmp, xb_chain, xb_not, xb_and, xb_or, xo_none, xo_some, xg_name, xg_tup, xg_sub, xgs_nil, xgs_cons, xi_seq, xi_enum, xi_zip, xt_nil, xt_one, evN, R.bind, R.stm, R.calm, itemW, atI, ixN, biW, storeW, cmpW, bin_add, bin_sub, bin_mod, bin_mul, bin_fdiv, bin_pow, setAll, finW, ofO, seqW, newL, newT, newOb, truthW, mtW, EV.listAt, mo_append_list, mo_pop_list, mo_extend_list, mo_remove_list, mo_count_list, mo_count_tuple, mo_index_list, mo_get_dict, mo_index_tuple, mo_upper_str, mo_isdigit_str, mo_split_str, mo_join_str, ty_list_tuple, ty_list_dict, ty_list_str, ty_tuple_list, ty_tuple_dict, ty_tuple_str, ty_dict_list, ty_dict_tuple, ty_dict_str, ty_str_list, ty_str_tuple, ty_str_dict, eq_ii, h3]
        rw [evSs_cons s3]
        by_cases h4 : way = 5
        · have q1 : callN D (k+2) 6 [tN p] (M.set r o3) = _ := back_ok (k := k+1) (M := M.set r o3) T (by omega)
          have s4 : evS (callN D (k+2)) (c__law_bent_turn.nth 4) ρ (M.set r o3) = .ok (.ret (tN (inv p))) (M.set r o3) := by
            rw [← hρ]
            simp only [CSs.nth, c__law_bent_turn, xss_nil, xss_cons, xe_var, xe_k, xe_gk, xe_bin, xe_neg, xe_not, xe_and, xe_or, xe_ite, xe_cmp, xe_chain, xe_tup, xe_lst, xe_call, xe_callK, xe_bi, xe_isi, xe_meth, xe_ix, xe_sl, xe_rev, xe_dnew, xe_lenset, xs_pass, xs_expr, xs_asg, xs_par, xs_setLc, xs_augS, xs_aug, xs_ret, xs_retN, xs_if, xa_nil, xa_cons, xa_star, xb_val, xb_cmp, xb_chain, xb_not, xb_and, xb_or, xo_none, xo_some, xg_name, xg_tup, xg_sub, xgs_nil, xgs_cons, xi_seq, xi_enum, xi_zip, xt_nil, xt_one, evN, R.bind, R.stm, R.calm, itemW, atI, ixN, biW, storeW, cmpW, bin_add, bin_sub, bin_mod, bin_mul, bin_fdiv, bin_pow, setAll, finW, ofO, seqW, newL, newT, newOb, truthW, mtW, EV.listAt, mo_append_list, mo_pop_list, mo_extend_list, mo_remove_list, mo_count_list, mo_count_tuple, mo_index_list, mo_get_dict, mo_index_tuple, mo_upper_str, mo_isdigit_str, mo_split_str, mo_join_str, ty_list_tuple, ty_list_dict, ty_list_str, ty_tuple_list, ty_tuple_dict, ty_tuple_str, ty_dict_list, ty_dict_tuple, ty_dict_str, ty_str_list, ty_str_tuple, ty_str_dict, List.getElem?_cons_zero, List.getElem?_cons_succ, eq_ii, decide_eq_true h4, if_true, q1]
          rw [evSs_ret s4]
          exact fin _ _ (good_tN (by rw [inv_len]; omega)) (g3.more (by omega))
        · have s4 : evS (callN D (k+2)) (c__law_bent_turn.nth 4) ρ (M.set r o3) = .ok (.nx ρ) (M.set r o3) := by
            rw [← hρ]
            simp [CSs.nth, c__law_bent_turn, xss_nil, xss_cons, xe_var, xe_k, xe_gk, xe_bin, xe_neg, xe_not, xe_and, xe_or, xe_ite, xe_cmp, xe_chain, xe_tup, xe_lst, xe_call, xe_callK, xe_bi, xe_isi, xe_meth, xe_ix, xe_sl, xe_rev, xe_dnew, xe_lenset, xs_pass, xs_expr, xs_asg, xs_par, xs_setLc, xs_augS, xs_aug, xs_ret, xs_retN, xs_if, xa_nil, xa_cons, xa_star, xb_val, xb_cmp, xb_chain, xb_not, xb_and, xb_or, xo_none, xo_some, xg_name, xg_tup, xg_sub, xgs_nil, xgs_cons, xi_seq, xi_enum, xi_zip, xt_nil, xt_one, evN, R.bind, R.stm, R.calm, itemW, atI, ixN, biW, storeW, cmpW, bin_add, bin_sub, bin_mod, bin_mul, bin_fdiv, bin_pow, setAll, finW, ofO, seqW, newL, newT, newOb, truthW, mtW, EV.listAt, mo_append_list, mo_pop_list, mo_extend_list, mo_remove_list, mo_count_list, mo_count_tuple, mo_index_list, mo_get_dict, mo_index_tuple, mo_upper_str, mo_isdigit_str, mo_split_str, mo_join_str, ty_list_tuple, ty_list_dict, ty_list_str, ty_tuple_list, ty_tuple_dict, ty_tuple_str, ty_dict_list, ty_dict_tuple, ty_dict_str, ty_str_list, ty_str_tuple, ty_str_dict, eq_ii, h4]
          rw [evSs_cons s4]
          by_cases h5 : way = 6
          · have q1 : callN D (k+2) 5 [tN p, tN p] (M.set r o3) = _ := led_ok (k := k+1) (M := M.set r o3) (p := p) (q := p) T.lt (by omega)
            have s5 : evS (callN D (k+2)) (c__law_bent_turn.nth 5) ρ (M.set r o3) = .ok (.ret (tN (p.map (ap p)))) (M.set r o3) := by
              rw [← hρ]
              simp only [CSs.nth, c__law_bent_turn, xss_nil, xss_cons, xe_var, xe_k, xe_gk, xe_bin, xe_neg, xe_not, xe_and, xe_or, xe_ite, xe_cmp, xe_chain, xe_tup, xe_lst, xe_call, xe_callK, xe_bi, xe_isi, xe_meth, xe_ix, xe_sl, xe_rev, xe_dnew, xe_lenset, xs_pass, xs_expr, xs_asg, xs_par, xs_setLc, xs_augS, xs_aug, xs_ret, xs_retN, xs_if, xa_nil, xa_cons, xa_star, xb_val, xb_cmp, xb_chain, xb_not, xb_and, xb_or, xo_none, xo_some, xg_name, xg_tup, xg_sub, xgs_nil, xgs_cons, xi_seq, xi_enum, xi_zip, xt_nil, xt_one, evN, R.bind, R.stm, R.calm, itemW, atI, ixN, biW, storeW, cmpW, bin_add, bin_sub, bin_mod, bin_mul, bin_fdiv, bin_pow, setAll, finW, ofO, seqW, newL, newT, newOb, truthW, mtW, EV.listAt, mo_append_list, mo_pop_list, mo_extend_list, mo_remove_list, mo_count_list, mo_count_tuple, mo_index_list, mo_get_dict, mo_index_tuple, mo_upper_str, mo_isdigit_str, mo_split_str, mo_join_str, ty_list_tuple, ty_list_dict, ty_list_str, ty_tuple_list, ty_tuple_dict, ty_tuple_str, ty_dict_list, ty_dict_tuple, ty_dict_str, ty_str_list, ty_str_tuple, ty_str_dict, List.getElem?_cons_zero, List.getElem?_cons_succ, eq_ii, decide_eq_true h5, if_true, q1]
            rw [evSs_ret s5]
            exact fin _ _ (good_tN (by simp; omega)) (g3.more (by omega))
          · have s5 : evS (callN D (k+2)) (c__law_bent_turn.nth 5) ρ (M.set r o3) = .ok (.ret (tN p)) (M.set r o3) := by
              rw [← hρ]
              simp [CSs.nth, c__law_bent_turn, xss_nil, xss_cons, xe_var, xe_k, xe_gk, xe_bin, xe_neg, xe_not, xe_and, xe_or, xe_ite, xe_cmp, xe_chain, xe_tup, xe_lst, xe_call, xe_callK, xe_bi, xe_isi, xe_meth, xe_ix, xe_sl, xe_rev, xe_dnew, xe_lenset, xs_pass, xs_expr, xs_asg, xs_par, xs_setLc, xs_augS, xs_aug, xs_ret, xs_retN, xs_if, xa_nil, xa_cons, xa_star, xb_val, xb_cmp, xb_chain, xb_not, xb_and, xb_or, xo_none, xo_some, xg_name, xg_tup, xg_sub, xgs_nil, xgs_cons, xi_seq, xi_enum, xi_zip, xt_nil, xt_one, evN, R.bind, R.stm, R.calm, itemW, atI, ixN, biW, storeW, cmpW, bin_add, bin_sub, bin_mod, bin_mul, bin_fdiv, bin_pow, setAll, finW, ofO, seqW, newL, newT, newOb, truthW, mtW, EV.listAt, mo_append_list, mo_pop_list, mo_extend_list, mo_remove_list, mo_count_list, mo_count_tuple, mo_index_list, mo_get_dict, mo_index_tuple, mo_upper_str, mo_isdigit_str, mo_split_str, mo_join_str, ty_list_tuple, ty_list_dict, ty_list_str, ty_tuple_list, ty_tuple_dict, ty_tuple_str, ty_dict_list, ty_dict_tuple, ty_dict_str, ty_str_list, ty_str_tuple, ty_str_dict, eq_ii, h5]
            rw [evSs_ret s5]
            exact fin _ _ (good_tN (by omega)) (g3.more (by omega))
end GD

namespace GD
open PySem PySem.Spec PyProof.Rows L2 EV PM
/-! Q16: the vat, the law's frame -/
abbrev vaB : CSs := CS.bd (c__law_vat.nth 2)
theorem va_turn {k : Nat} {a0 a1 a2 a4 : Option W} {st x : Int} {M : Mem} (h0 : 0 ≤ st) (h1 : st < 2147483353) :
    evSs (callN D k) vaB [a0, a1, a2, some (.int st), some (.int x)] M = .ok (.nx [a0, a1, a2, some (.int ((st * 44017 + x + 53) % 2147483353)), some (.int x)]) M := by
  have hm : mulOk st 44017 := mulOk_of (by omega) (by decide)
  simp [vaB, CS.bd, CSs.nth, c__law_vat, xss_nil, xss_cons, xe_var, xe_k, xe_gk, xe_bin, xe_neg, xe_not, xe_and, xe_or, xe_ite, xe_cmp, xe_chain, xe_tup, xe_lst, xe_call, xe_callK, xe_bi, xe_isi, xe_meth, xe_ix, xe_sl, xe_rev, xe_dnew, xe_lenset, xs_pass, xs_expr, xs_asg, xs_par, xs_setLc, xs_augS, xs_aug, xs_ret, xs_retN, xs_if, xa_nil, xa_cons, xa_star, xb_val, xb_cmp, xb_chain, xb_not, xb_and, xb_or, xo_none, xo_some, xg_name, xg_tup, xg_sub, xgs_nil, xgs_cons, xi_seq, xi_enum, xi_zip, xt_nil, xt_one, evN, R.bind, R.stm, R.calm, itemW, atI, ixN, biW, storeW, cmpW, bin_add, bin_sub, bin_mod, bin_mul, bin_fdiv, bin_pow, setAll, finW, ofO, seqW, newL, newT, newOb, truthW, mtW, EV.listAt, mo_append_list, mo_pop_list, mo_extend_list, mo_remove_list, mo_count_list, mo_count_tuple, mo_index_list, mo_get_dict, mo_index_tuple, mo_upper_str, mo_isdigit_str, mo_split_str, mo_join_str, ty_list_tuple, ty_list_dict, ty_list_str, ty_tuple_list, ty_tuple_dict, ty_tuple_str, ty_dict_list, ty_dict_tuple, ty_dict_str, ty_str_list, ty_str_tuple, ty_str_dict, hm]
theorem va_loop {k q : Nat} {a0 a1 a2 : Option W} {items : List W} {M : Mem} (hq : M[q]? = some (.lst items)) : ∀ (xs : List Int) (st : Int) (a4 : Option W), 0 ≤ st → st < 2147483353 →
    ∃ (st' : Int) (b4 : Option W), forL (evN (.one 4)) (evSs (callN D k) vaB) [(q, items)] ((xs.map W.int).map .one) [a0, a1, a2, some (.int st), a4] M = .ok (.nx [a0, a1, a2, some (.int st'), b4]) M ∧ 0 ≤ st' ∧ st' < 2147483353
  | [], st, a4, h0, h1 => ⟨st, a4, by simp [forL, guards_lst hq], h0, h1⟩
  | x :: xs, st, a4, h0, h1 => by
    obtain ⟨st', b4, e, z0, z1⟩ := va_loop (k := k) (a0 := a0) (a1 := a1) (a2 := a2) hq xs ((st * 44017 + x + 53) % 2147483353) (some (.int x)) (Int.emod_nonneg _ (by decide)) (Int.emod_lt_of_pos _ (by decide))
    refine ⟨st', b4, ?_, z0, z1⟩
    rw [List.map_cons, List.map_cons, forL, if_pos (guards_lst hq)]
    show ((evSs (callN D k) vaB [a0, a1, a2, some (.int st), some (.int x)] M).bind _) = _
    rw [va_turn (a4 := a4) h0 h1]
    exact e
theorem vat_ok {k : Nat} {i : Int} {ns : List Int} {M : Mem} (h : M[0]? = some (.rol (ns.map .int))) (hn : ns.length ≤ 63) (i0 : 0 ≤ i) (i1 : i < 10) : ∃ (o : Ob), callN D (k+1) i__law_vat [.ref 0, .int i] M = .ok (.ref M.length) (M ++ [o]) ∧ VatO o 0 := by
  obtain ⟨own, hown⟩ : ∃ own : Int, evS (callN D k) (c__law_vat.nth 0) [some (.ref 0), some (.int i), none, none, none] M = .ok (.nx [some (.ref 0), some (.int i), some (.int own), none, none]) M := by
    by_cases hi : i < ns.length
    · have hj : i.toNat < ns.length := by omega
      refine ⟨ns[i.toNat], ?_⟩
      simp [CSs.nth, c__law_vat, xss_nil, xss_cons, xe_var, xe_k, xe_gk, xe_bin, xe_neg, xe_not, xe_and, xe_or, xe_ite, xe_cmp, xe_chain, xe_tup, xe_lst, xe_call, xe_callK, xe_bi, xe_isi, xe_meth, xe_ix, xe_sl, xe_rev, xe_dnew, xe_lenset, xs_pass, xs_expr, xs_asg, xs_par, xs_setLc, xs_augS, xs_aug, xs_ret, xs_retN, xs_if, xa_nil, xa_cons, xa_star, xb_val, xb_cmp, xb_chain, xb_not, xb_and, xb_or, xo_none, xo_some, xg_name, xg_tup, xg_sub, xgs_nil, xgs_cons, xi_seq, xi_enum, xi_zip, xt_nil, xt_one, evN, R.bind, R.stm, R.calm, itemW, atI, ixN, biW, storeW, cmpW, bin_add, bin_sub, bin_mod, bin_mul, bin_fdiv, bin_pow, setAll, finW, ofO, seqW, newL, newT, newOb, truthW, mtW, EV.listAt, mo_append_list, mo_pop_list, mo_extend_list, mo_remove_list, mo_count_list, mo_count_tuple, mo_index_list, mo_get_dict, mo_index_tuple, mo_upper_str, mo_isdigit_str, mo_split_str, mo_join_str, ty_list_tuple, ty_list_dict, ty_list_str, ty_tuple_list, ty_tuple_dict, ty_tuple_str, ty_dict_list, ty_dict_tuple, ty_dict_str, ty_str_list, ty_str_tuple, ty_str_dict, h, hi, i0, hj]
    · have hm : mulOk 43 i := mulOk_of (by decide) (by omega)
      refine ⟨43 * i + 29, ?_⟩
      simp [CSs.nth, c__law_vat, xss_nil, xss_cons, xe_var, xe_k, xe_gk, xe_bin, xe_neg, xe_not, xe_and, xe_or, xe_ite, xe_cmp, xe_chain, xe_tup, xe_lst, xe_call, xe_callK, xe_bi, xe_isi, xe_meth, xe_ix, xe_sl, xe_rev, xe_dnew, xe_lenset, xs_pass, xs_expr, xs_asg, xs_par, xs_setLc, xs_augS, xs_aug, xs_ret, xs_retN, xs_if, xa_nil, xa_cons, xa_star, xb_val, xb_cmp, xb_chain, xb_not, xb_and, xb_or, xo_none, xo_some, xg_name, xg_tup, xg_sub, xgs_nil, xgs_cons, xi_seq, xi_enum, xi_zip, xt_nil, xt_one, evN, R.bind, R.stm, R.calm, itemW, atI, ixN, biW, storeW, cmpW, bin_add, bin_sub, bin_mod, bin_mul, bin_fdiv, bin_pow, setAll, finW, ofO, seqW, newL, newT, newOb, truthW, mtW, EV.listAt, mo_append_list, mo_pop_list, mo_extend_list, mo_remove_list, mo_count_list, mo_count_tuple, mo_index_list, mo_get_dict, mo_index_tuple, mo_upper_str, mo_isdigit_str, mo_split_str, mo_join_str, ty_list_tuple, ty_list_dict, ty_list_str, ty_tuple_list, ty_tuple_dict, ty_tuple_str, ty_dict_list, ty_dict_tuple, ty_dict_str, ty_str_list, ty_str_tuple, ty_str_dict, h, hi, hm]
  have hm : mulOk 7001 i := mulOk_of (by decide) (by omega)
  have hs1 : evS (callN D k) (c__law_vat.nth 1) [some (.ref 0), some (.int i), some (.int own), none, none] M = .ok (.nx [some (.ref 0), some (.int i), some (.int own), some (.int (60013 + 7001 * i)), none]) M := by
    simp [CSs.nth, c__law_vat, xss_nil, xss_cons, xe_var, xe_k, xe_gk, xe_bin, xe_neg, xe_not, xe_and, xe_or, xe_ite, xe_cmp, xe_chain, xe_tup, xe_lst, xe_call, xe_callK, xe_bi, xe_isi, xe_meth, xe_ix, xe_sl, xe_rev, xe_dnew, xe_lenset, xs_pass, xs_expr, xs_asg, xs_par, xs_setLc, xs_augS, xs_aug, xs_ret, xs_retN, xs_if, xa_nil, xa_cons, xa_star, xb_val, xb_cmp, xb_chain, xb_not, xb_and, xb_or, xo_none, xo_some, xg_name, xg_tup, xg_sub, xgs_nil, xgs_cons, xi_seq, xi_enum, xi_zip, xt_nil, xt_one, evN, R.bind, R.stm, R.calm, itemW, atI, ixN, biW, storeW, cmpW, bin_add, bin_sub, bin_mod, bin_mul, bin_fdiv, bin_pow, setAll, finW, ofO, seqW, newL, newT, newOb, truthW, mtW, EV.listAt, mo_append_list, mo_pop_list, mo_extend_list, mo_remove_list, mo_count_list, mo_count_tuple, mo_index_list, mo_get_dict, mo_index_tuple, mo_upper_str, mo_isdigit_str, mo_split_str, mo_join_str, ty_list_tuple, ty_list_dict, ty_list_str, ty_tuple_list, ty_tuple_dict, ty_tuple_str, ty_dict_list, ty_dict_tuple, ty_dict_str, ty_str_list, ty_str_tuple, ty_str_dict, hm]
  have hz : sizeLine = 16777216 := sizeLine_eq
  generalize hc : cutW (ns.map W.int) none (some 48) = cut
  obtain ⟨cs, hcs⟩ : ∃ cs : List Int, cut = cs.map .int := by
    rw [← hc]
    unfold cutW
    rw [← List.map_drop, ← List.map_take]
    exact ⟨_, rfl⟩
  have hcl : cut.length ≤ 63 := by
    rw [← hc]
    unfold cutW
    rw [List.length_take, List.length_drop, List.length_map]
    omega
  have hI : evI (callN D k) (.seq (.bin .Add (.sl (.var 0) .none (.some (.k (.int 48)))) (.lst (.cons (.var 2) .nil)))) [some (.ref 0), some (.int i), some (.int own), some (.int (60013 + 7001 * i)), none] M
      = .ok (((cs ++ [own]).map W.int).map .one, [(M.length + 2, (cs ++ [own]).map .int)]) (M ++ [.lst cut, .lst [.int own], .lst ((cs ++ [own]).map .int)]) := by
    have b1 : (M ++ [Ob.lst cut, .lst [.int own]])[M.length]? = some (.lst cut) := by simp
    have b2 : (M ++ [Ob.lst cut, .lst [.int own]])[M.length + 1]? = some (.lst [.int own]) := by
      rw [List.getElem?_append_right (by omega)]
      simp
    have ha := bin_addL b1 b2 (by rw [hz]; simp; omega)
    have b3 : (M ++ [Ob.lst cut, .lst [.int own], .lst (cut ++ [.int own])])[M.length + 2]? = some (.lst (cut ++ [.int own])) := by
      rw [List.getElem?_append_right (by omega)]
      simp
    have hmap : (cs ++ [own]).map W.int = cut ++ [.int own] := by rw [hcs]; simp
    rw [hmap]
    simp [xss_nil, xss_cons, xe_var, xe_k, xe_gk, xe_bin, xe_neg, xe_not, xe_and, xe_or, xe_ite, xe_cmp, xe_chain, xe_tup, xe_lst, xe_call, xe_callK, xe_bi, xe_isi, xe_meth, xe_ix, xe_sl, xe_rev, xe_dnew, xe_lenset, xs_pass, xs_expr, xs_asg, xs_par, xs_setLc, xs_augS, xs_aug, xs_ret, xs_retN, xs_if, xa_nil, xa_cons, xa_star, xb_val, xb_cmp, xb_chain, xb_not, xb_and, xb_or, xo_none, xo_some, xg_name, xg_tup, xg_sub, xgs_nil, xgs_cons, xi_seq, xi_enum, xi_zip, xt_nil, xt_one, evN, R.bind, R.stm, R.calm, itemW, atI, ixN, biW, storeW, cmpW, bin_add, bin_sub, bin_mod, bin_mul, bin_fdiv, bin_pow, setAll, finW, ofO, seqW, newL, newT, newOb, truthW, mtW, EV.listAt, mo_append_list, mo_pop_list, mo_extend_list, mo_remove_list, mo_count_list, mo_count_tuple, mo_index_list, mo_get_dict, mo_index_tuple, mo_upper_str, mo_isdigit_str, mo_split_str, mo_join_str, ty_list_tuple, ty_list_dict, ty_list_str, ty_tuple_list, ty_tuple_dict, ty_tuple_str, ty_dict_list, ty_dict_tuple, ty_dict_str, ty_str_list, ty_str_tuple, ty_str_dict, sliceW, h, hc, hz, ha, iterW, gOf, b3]
  obtain ⟨st, b4, e, z0, z1⟩ := va_loop (k := k) (a0 := some (.ref 0)) (a1 := some (.int i)) (a2 := some (.int own)) (q := M.length + 2) (items := (cs ++ [own]).map .int) (M := M ++ [.lst cut, .lst [.int own], .lst ((cs ++ [own]).map .int)]) (by
    rw [List.getElem?_append_right (by omega)]
    simp) (cs ++ [own]) (60013 + 7001 * i) none (by omega) (by omega)
  have hs2 : evS (callN D k) (c__law_vat.nth 2) [some (.ref 0), some (.int i), some (.int own), some (.int (60013 + 7001 * i)), none] M = .ok (.nx [some (.ref 0), some (.int i), some (.int own), some (.int st), b4]) (M ++ [.lst cut, .lst [.int own], .lst ((cs ++ [own]).map .int)]) := by
    show (evI (callN D k) _ _ M).stm _ _ = _
    rw [hI]
    exact e
  generalize hM1 : M ++ [Ob.lst cut, .lst [.int own], .lst ((cs ++ [own]).map .int)] = M1
  rw [hM1] at hs2
  obtain ⟨a, hs3, ha⟩ : ∃ a : Int, evS (callN D k) (c__law_vat.nth 3) [some (.ref 0), some (.int i), some (.int own), some (.int st), b4] M1 = .ok (.ret (.ref M1.length)) (M1 ++ [.lst [.int a, .int st, .int 0]]) ∧ 0 ≤ a := by
    by_cases h1 : own < 0
    · refine ⟨if own < 0 then -own else own, ?_, by rw [if_pos h1]; omega⟩
      simp [CSs.nth, c__law_vat, xss_nil, xss_cons, xe_var, xe_k, xe_gk, xe_bin, xe_neg, xe_not, xe_and, xe_or, xe_ite, xe_cmp, xe_chain, xe_tup, xe_lst, xe_call, xe_callK, xe_bi, xe_isi, xe_meth, xe_ix, xe_sl, xe_rev, xe_dnew, xe_lenset, xs_pass, xs_expr, xs_asg, xs_par, xs_setLc, xs_augS, xs_aug, xs_ret, xs_retN, xs_if, xa_nil, xa_cons, xa_star, xb_val, xb_cmp, xb_chain, xb_not, xb_and, xb_or, xo_none, xo_some, xg_name, xg_tup, xg_sub, xgs_nil, xgs_cons, xi_seq, xi_enum, xi_zip, xt_nil, xt_one, evN, R.bind, R.stm, R.calm, itemW, atI, ixN, biW, storeW, cmpW, bin_add, bin_sub, bin_mod, bin_mul, bin_fdiv, bin_pow, setAll, finW, ofO, seqW, newL, newT, newOb, truthW, mtW, EV.listAt, mo_append_list, mo_pop_list, mo_extend_list, mo_remove_list, mo_count_list, mo_count_tuple, mo_index_list, mo_get_dict, mo_index_tuple, mo_upper_str, mo_isdigit_str, mo_split_str, mo_join_str, ty_list_tuple, ty_list_dict, ty_list_str, ty_tuple_list, ty_tuple_dict, ty_tuple_str, ty_dict_list, ty_dict_tuple, ty_dict_str, ty_str_list, ty_str_tuple, ty_str_dict, h1, hz]
    · by_cases h2 : 1000000000000000000 ≤ own
      · refine ⟨if own < 0 then -own else own, ?_, by rw [if_neg h1]; omega⟩
        simp [CSs.nth, c__law_vat, xss_nil, xss_cons, xe_var, xe_k, xe_gk, xe_bin, xe_neg, xe_not, xe_and, xe_or, xe_ite, xe_cmp, xe_chain, xe_tup, xe_lst, xe_call, xe_callK, xe_bi, xe_isi, xe_meth, xe_ix, xe_sl, xe_rev, xe_dnew, xe_lenset, xs_pass, xs_expr, xs_asg, xs_par, xs_setLc, xs_augS, xs_aug, xs_ret, xs_retN, xs_if, xa_nil, xa_cons, xa_star, xb_val, xb_cmp, xb_chain, xb_not, xb_and, xb_or, xo_none, xo_some, xg_name, xg_tup, xg_sub, xgs_nil, xgs_cons, xi_seq, xi_enum, xi_zip, xt_nil, xt_one, evN, R.bind, R.stm, R.calm, itemW, atI, ixN, biW, storeW, cmpW, bin_add, bin_sub, bin_mod, bin_mul, bin_fdiv, bin_pow, setAll, finW, ofO, seqW, newL, newT, newOb, truthW, mtW, EV.listAt, mo_append_list, mo_pop_list, mo_extend_list, mo_remove_list, mo_count_list, mo_count_tuple, mo_index_list, mo_get_dict, mo_index_tuple, mo_upper_str, mo_isdigit_str, mo_split_str, mo_join_str, ty_list_tuple, ty_list_dict, ty_list_str, ty_tuple_list, ty_tuple_dict, ty_tuple_str, ty_dict_list, ty_dict_tuple, ty_dict_str, ty_str_list, ty_str_tuple, ty_str_dict, h1, h2, hz]
      · refine ⟨0, ?_, by omega⟩
        simp [CSs.nth, c__law_vat, xss_nil, xss_cons, xe_var, xe_k, xe_gk, xe_bin, xe_neg, xe_not, xe_and, xe_or, xe_ite, xe_cmp, xe_chain, xe_tup, xe_lst, xe_call, xe_callK, xe_bi, xe_isi, xe_meth, xe_ix, xe_sl, xe_rev, xe_dnew, xe_lenset, xs_pass, xs_expr, xs_asg, xs_par, xs_setLc, xs_augS, xs_aug, xs_ret, xs_retN, xs_if, xa_nil, xa_cons, xa_star, xb_val, xb_cmp, xb_chain, xb_not, xb_and, xb_or, xo_none, xo_some, xg_name, xg_tup, xg_sub, xgs_nil, xgs_cons, xi_seq, xi_enum, xi_zip, xt_nil, xt_one, evN, R.bind, R.stm, R.calm, itemW, atI, ixN, biW, storeW, cmpW, bin_add, bin_sub, bin_mod, bin_mul, bin_fdiv, bin_pow, setAll, finW, ofO, seqW, newL, newT, newOb, truthW, mtW, EV.listAt, mo_append_list, mo_pop_list, mo_extend_list, mo_remove_list, mo_count_list, mo_count_tuple, mo_index_list, mo_get_dict, mo_index_tuple, mo_upper_str, mo_isdigit_str, mo_split_str, mo_join_str, ty_list_tuple, ty_list_dict, ty_list_str, ty_tuple_list, ty_tuple_dict, ty_tuple_str, ty_dict_list, ty_dict_tuple, ty_dict_str, ty_str_list, ty_str_tuple, ty_str_dict, h1, h2, hz]
  have hl1 : M.length ≤ M1.length := by rw [← hM1]; simp
  refine ⟨.lst [.int a, .int st, .int 0], ?_, a, st, 0, rfl, ha, z0, z1, by decide, by decide⟩
  rw [call_eq (d := ⟨2, 5, c__law_vat⟩) rfl rfl]
  show finW M (evSs (callN D k) (.cons (c__law_vat.nth 0) (.cons (c__law_vat.nth 1) (.cons (c__law_vat.nth 2) (.cons (c__law_vat.nth 3) .nil)))) [some (.ref 0), some (.int i), none, none, none] M) = _
  rw [evSs_cons hown, evSs_cons hs1, evSs_cons hs2, evSs_ret hs3]
  simp only [finW, R.bind, R.calm]
  have hx : (M1 ++ [Ob.lst [.int a, .int st, .int 0]])[M1.length]? = some (.lst [.int a, .int st, .int 0]) := at0
  rw [← hM1] at hx ⊢
  rw [List.append_assoc] at hx ⊢
  exact trim_newL (by simp) hx rfl

/-- the law over a def that draws -/
def lawB (c : Int) (ri : Nat) : CSs := .cons (.ret (.cmp .Eq (.lc (.mk (.one 1) (.range (.cons (.bi .max (.cons (.k (.int 2)) (.cons (.bi .min (.cons (.bi .len (.cons (.var 0) .nil)) (.cons (.k (.int c)) .nil))) .nil))) .nil)) (.one (.not (.val (.call ri (.cons (.call 37 (.cons (.var 0) (.cons (.var 1) .nil))) .nil))))) [1]) (.var 1)) (.lst .nil))) .nil
theorem law_loop {k ri : Nat} {ns : List Int} (hn : ns.length ≤ 63) (right : ∀ (M : Mem) (r : Nat), Vat M r 0 → ∃ o, callN D (k+1) ri [.ref r] M = .ok (.bl true) (M.set r o)) : ∀ (is : List Nat) (M : Mem), (∀ i ∈ is, i < 10) → M[0]? = some (.rol (ns.map .int)) → M[1]? = some (.lst []) →
    ∃ M', lcL 1 (evN (.one 1)) (evTs (callN D (k+1)) (.one (.not (.val (.call ri (.cons (.call 37 (.cons (.var 0) (.cons (.var 1) .nil))) .nil)))))) (evE (callN D (k+1)) (.var 1)) [] [some (.ref 0), none] ((iN is).map .one) M = .ok () M' ∧ M'[1]? = some (.lst [])
  | [], M, _, _, hd => ⟨M, by simp [iN, lcL, guards_nil], hd⟩
  | i :: is, M, hi, h0, hd => by
    have j1 := hi i List.mem_cons_self
    obtain ⟨o, e1, v1⟩ := vat_ok (k := k) (i := (i : Int)) h0 hn (by omega) (by omega)
    have hl := get_lt hd
    have hV : Vat (M ++ [o]) M.length 0 := ⟨o, at0, v1⟩
    obtain ⟨o2, e2⟩ := right (M ++ [o]) M.length hV
    obtain ⟨M3, e3, t3⟩ := law_loop hn right is ((M ++ [o]).set M.length o2) (fun y hy => hi y (List.mem_cons_of_mem _ hy)) (by rw [List.getElem?_set_ne (by omega)]; exact app_at h0) (by rw [List.getElem?_set_ne (by omega)]; exact app_at hd)
    refine ⟨M3, ?_, t3⟩
    rw [show (iN (i :: is)).map Itm.one = .one (.int (i : Int)) :: (iN is).map .one from rfl, lcL, if_pos guards_nil]
    have e1 : callN D (k+1) 37 [.ref 0, .int (i : Int)] M = _ := e1
    have ht : evTs (callN D (k+1)) (.one (.not (.val (.call ri (.cons (.call 37 (.cons (.var 0) (.cons (.var 1) .nil))) .nil))))) [some (.ref 0), some (.int (i : Int))] M = .ok false ((M ++ [o]).set M.length o2) := by
      simp only [xss_nil, xss_cons, xe_var, xe_k, xe_gk, xe_bin, xe_neg, xe_not, xe_and, xe_or, xe_ite, xe_cmp, xe_chain, xe_tup, xe_lst, xe_call, xe_callK, xe_bi, xe_isi, xe_meth, xe_ix, xe_sl, xe_rev, xe_dnew, xe_lenset, xs_pass, xs_expr, xs_asg, xs_par, xs_setLc, xs_augS, xs_aug, xs_ret, xs_retN, xs_if, xa_nil, xa_cons, xa_star, xb_val, xb_cmp, xb_chain, xb_not, xb_and, xb_or, xo_none, xo_some, xg_name, xg_tup, xg_sub, xgs_nil, xgs_cons, xi_seq, xi_enum, xi_zip, xt_nil, xt_one, evN, R.bind, R.stm, R.calm, itemW, atI, ixN, biW, storeW, cmpW, bin_add, bin_sub, bin_mod, bin_mul, bin_fdiv, bin_pow, setAll, finW, ofO, seqW, newL, newT, newOb, truthW, mtW, EV.listAt, mo_append_list, mo_pop_list, mo_extend_list, mo_remove_list, mo_count_list, mo_count_tuple, mo_index_list, mo_get_dict, mo_index_tuple, mo_upper_str, mo_isdigit_str, mo_split_str, mo_join_str, ty_list_tuple, ty_list_dict, ty_list_str, ty_tuple_list, ty_tuple_dict, ty_tuple_str, ty_dict_list, ty_dict_tuple, ty_dict_str, ty_str_list, ty_str_tuple, ty_str_dict, List.getElem?_cons_zero, List.getElem?_cons_succ, e1, e2, Bool.not_true]
    show ((evTs (callN D (k+1)) _ [some (.ref 0), some (.int (i : Int))] M).bind _) = _
    rw [ht]
    exact e3
theorem law_plain {k li ri : Nat} {c : Nat} {ns : List Int} (hd : D[li]? = some ⟨1, 2, lawB (c : Int) ri⟩) (c2 : 2 ≤ c) (c9 : c ≤ 10) (hn : ns.length ≤ 63) (right : ∀ (M : Mem) (r : Nat), Vat M r 0 → ∃ o, callN D (k+1) ri [.ref r] M = .ok (.bl true) (M.set r o)) :
    ∃ M, callN D (k+2) li [.ref 0] [.rol (ns.map W.int)] = .ok (.bl true) M := by
  have hr : ∃ n : Nat, 2 ≤ n ∧ n ≤ 10 ∧ (if 2 < (if (c : Int) < (ns.length : Int) then (c : Int) else (ns.length : Int)) then (if (c : Int) < (ns.length : Int) then (c : Int) else (ns.length : Int)) else 2) = (n : Int) := by
    by_cases h1 : (c : Int) < (ns.length : Int)
    · by_cases h2 : 2 < c
      · exact ⟨c, by omega, by omega, by rw [if_pos h1, if_pos (by omega)]⟩
      · exact ⟨2, by omega, by omega, by rw [if_pos h1, if_neg (by omega)]; rfl⟩
    · by_cases h2 : 2 < ns.length
      · exact ⟨ns.length, by omega, by omega, by rw [if_neg h1, if_pos (by omega)]⟩
      · exact ⟨2, by omega, by omega, by rw [if_neg h1, if_neg (by omega)]; rfl⟩
  obtain ⟨n, n2, n6, hnn⟩ := hr
  obtain ⟨M', e, hM'⟩ := law_loop (k := k) (ri := ri) hn right (List.range n) [.rol (ns.map .int), .lst []] (by
    intro i hi
    have := List.mem_range.mp hi
    omega) rfl rfl
  have hE0 : evEs (callN D (k+1)) (.cons (.bi .max (.cons (.k (.int 2)) (.cons (.bi .min (.cons (.bi .len (.cons (.var 0) .nil)) (.cons (.k (.int (c : Int))) .nil))) .nil))) .nil) [some (.ref 0), none] [.rol (ns.map .int)] = .ok [.int (n : Int)] [.rol (ns.map .int)] := by
    simp only [xss_nil, xss_cons, xe_var, xe_k, xe_gk, xe_bin, xe_neg, xe_not, xe_and, xe_or, xe_ite, xe_cmp, xe_chain, xe_tup, xe_lst, xe_call, xe_callK, xe_bi, xe_isi, xe_meth, xe_ix, xe_sl, xe_rev, xe_dnew, xe_lenset, xs_pass, xs_expr, xs_asg, xs_par, xs_setLc, xs_augS, xs_aug, xs_ret, xs_retN, xs_if, xa_nil, xa_cons, xa_star, xb_val, xb_cmp, xb_chain, xb_not, xb_and, xb_or, xo_none, xo_some, xg_name, xg_tup, xg_sub, xgs_nil, xgs_cons, xi_seq, xi_enum, xi_zip, xt_nil, xt_one, evN, R.bind, R.stm, R.calm, itemW, atI, ixN, biW, storeW, cmpW, bin_add, bin_sub, bin_mod, bin_mul, bin_fdiv, bin_pow, setAll, finW, ofO, seqW, newL, newT, newOb, truthW, mtW, EV.listAt, mo_append_list, mo_pop_list, mo_extend_list, mo_remove_list, mo_count_list, mo_count_tuple, mo_index_list, mo_get_dict, mo_index_tuple, mo_upper_str, mo_isdigit_str, mo_split_str, mo_join_str, ty_list_tuple, ty_list_dict, ty_list_str, ty_tuple_list, ty_tuple_dict, ty_tuple_str, ty_dict_list, ty_dict_tuple, ty_dict_str, ty_str_list, ty_str_tuple, ty_str_dict, List.getElem?_cons_zero, List.length_map, hnn]
  have hI := ei_range_n hE0 (by omega)
  have hE : evE (callN D (k+1)) (.lc (.mk (.one 1) (.range (.cons (.bi .max (.cons (.k (.int 2)) (.cons (.bi .min (.cons (.bi .len (.cons (.var 0) .nil)) (.cons (.k (.int (c : Int))) .nil))) .nil))) .nil)) (.one (.not (.val (.call ri (.cons (.call 37 (.cons (.var 0) (.cons (.var 1) .nil))) .nil))))) [1]) (.var 1)) [some (.ref 0), none] [.rol (ns.map .int)] = .ok (.ref 1) M' := by
    rw [xe_lc, hI]
    show ((lcL 1 _ _ _ [] [some (.ref 0), none] _ [.rol (ns.map .int), .lst []]).calm).bind _ = _
    rw [e]
    rfl
  rw [call_at (d := ⟨1, 2, lawB (c : Int) ri⟩) (b := lawB (c : Int) ri) (ρ := [some (.ref 0), none]) hd rfl rfl rfl]
  have hcmp : cmpW .Eq (.ref 1) (.ref M'.length) (M' ++ [.lst []]) = .ok true (M' ++ [.lst []]) := by
    have := eq_lst (app_at (g := [.lst []]) hM') (at0 (M := M') (o0 := .lst []) (g := [])) rfl rfl
    simp only [cmpW, this, ofO]
    rfl
  have s0 : evS (callN D (k+1)) (.ret (.cmp .Eq (.lc (.mk (.one 1) (.range (.cons (.bi .max (.cons (.k (.int 2)) (.cons (.bi .min (.cons (.bi .len (.cons (.var 0) .nil)) (.cons (.k (.int (c : Int))) .nil))) .nil))) .nil)) (.one (.not (.val (.call ri (.cons (.call 37 (.cons (.var 0) (.cons (.var 1) .nil))) .nil))))) [1]) (.var 1)) (.lst .nil))) [some (.ref 0), none] [.rol (ns.map .int)] = .ok (.ret (.bl true)) (M' ++ [.lst []]) := by
    rw [xs_ret, xe_cmp, hE]
    simp only [R.bind, xe_lst, xa_nil, newL, newOb, List.length_nil, Nat.zero_le, if_true, hcmp, R.stm]
  unfold lawB
  rw [evSs_ret s0]
  simp only [finW, R.bind, R.calm]
  unfold trim
  split
  · exact ⟨_, rfl⟩
  · exact ⟨_, rfl⟩
end GD

namespace GD
open PySem PySem.Spec PyProof.Rows L2 EV PM
/-! R70: right papers -/
theorem Gr.at {r C q : Nat} {M M' : Mem} {o : Ob} (a : Gr r C M M') (hq : q ≠ r) (h : M[q]? = some o) : M'[q]? = some o := by
  obtain ⟨o', g, rfl, v⟩ := a
  exact app_at (by rw [List.getElem?_set_ne (Ne.symm hq)]; exact h)
theorem ring_pos {p r : List Nat} (h : r ∈ rings p) : 1 ≤ r.length := by
  obtain ⟨s, _, rfl⟩ := List.mem_map.mp h
  simp [ring]
theorem mem_sum_le {ns : List Int} (h : ∀ n ∈ ns, 0 ≤ n) {x : Int} (hx : x ∈ ns) : x ≤ ns.sum := by
  induction ns with
  | nil => cases hx
  | cons a ns ih =>
    have h0 := h a List.mem_cons_self
    have hs : 0 ≤ ns.sum := by
      clear ih hx
      induction ns with
      | nil => simp
      | cons b ns ih2 =>
        have := h b (by simp)
        have := ih2 (fun n hn => h n (by
          rcases List.mem_cons.mp hn with rfl | z
          · simp
          · simp [z]))
        simp only [List.sum_cons]
        omega
    rw [List.sum_cons]
    rcases List.mem_cons.mp hx with rfl | z
    · omega
    · have := ih (fun n hn => h n (List.mem_cons_of_mem _ hn)) z
      omega
theorem kind_sum {p : List Nat} (T : Tn p) : (kindI p).sum = (p.length : Int) := by
  have hp : (kindI p).Perm (kindL p) := (List.reverse_perm _).trans (sortI_perm _)
  rw [perm_sum hp]
  have := rings_sum T
  unfold kindL
  rw [← this]
  generalize rings p = R
  induction R with
  | nil => rfl
  | cons r R ih => simp only [List.map_cons, List.sum_cons, ih]; omega
theorem kind_len1 {p : List Nat} (T : Tn p) : ∀ x ∈ kindI p, 1 ≤ x := fun x hx => by
  have hp : (kindI p).Perm (kindL p) := (List.reverse_perm _).trans (sortI_perm _)
  obtain ⟨r, hr, rfl⟩ := List.mem_map.mp (hp.mem_iff.mp hx)
  have := ring_pos hr
  omega
theorem kind_areLen {p : List Nat} (T : Tn p) (l1 : 1 ≤ p.length) (l2 : p.length ≤ 40) : areLen (kindW p) = true := by
  have hs := kind_sum T
  have h1 := kind_len1 T
  rw [kindW_eq]
  simp only [areLen, Bool.and_eq_true, decide_eq_true_eq]
  refine ⟨⟨?_, ?_⟩, ?_⟩
  · cases h : kindI p with
    | nil => rw [h] at hs; simp at hs; omega
    | cons a b => rfl
  · rw [chain_iff]
    refine ⟨fun n hn => ⟨h1 n hn, ?_⟩, ?_⟩
    · have := mem_sum_le (fun n hn => by have := h1 n hn; omega) hn
      omega
    · rw [← desc_iff]
      unfold kindI
      have h2 : sortI (sortI (kindL p)).reverse = sortI (kindL p) := sorted_one ((sortI_perm _).trans (List.reverse_perm _)) (sortI_sorted _) (sortI_sorted _)
      rw [h2]
  · rw [sumW, mapO_ints]
    simp only [Option.getD_some]
    omega
theorem comp_true {p q : List Nat} (T : Tn p) (U : Tn q) (hp1 : 1 ≤ p.length) (hp2 : p.length ≤ 40) (h : q.length = p.length) (hr : roundB p q = true) : compB (tN p) (kindW q) (tN q) = true := by
  have e1 : isT (tN p) = true := isT_iff.mpr ⟨p, rfl, T, hp1, hp2⟩
  have e2 : isT (tN q) = true := isT_iff.mpr ⟨q, rfl, U, by omega, by omega⟩
  have e3 := kind_areLen U (by omega) (by omega)
  simp only [compB, e1, e2, e3, natsT_tN, lenT, iN_length, Bool.true_and, hr, Bool.and_true, decide_eq_true h]
  rw [kindW_eq, numsT_ints]
  simp
theorem kind_lenle {p : List Nat} : (kindI p).length ≤ p.length := by
  unfold kindI
  rw [List.length_reverse, (sortI_perm _).length_eq]
  simpa [kindL] using rings_le (p := p)
theorem good_kindW {M : Mem} {p : List Nat} (h : p.length ≤ 40) : goodT M (kindW p) = true := good_ints (fun x hx => by
  obtain ⟨n, _, rfl⟩ := List.mem_map.mp hx
  exact ⟨_, rfl⟩) (by rw [List.length_map]; have := kind_lenle (p := p); unfold kindI at this; omega)
theorem good_intT {M : Mem} {ns : List Int} (h : ns.length ≤ 1000) : goodT M (.tup (ns.map .int)) = true := good_ints (fun x hx => by
  obtain ⟨n, _, rfl⟩ := List.mem_map.mp hx
  exact ⟨_, rfl⟩) (by simpa using h)
abbrev r70 : CSs := CS.bd (c__law_right__4.nth 0)
abbrev r70s : CSs := CS.bd (r70.nth 3)
abbrev r70c : CSs := CS.bd (r70s.nth 3)
abbrev r70p : CSs := CS.bd (r70c.nth 0)
theorem repr_bl {M : Mem} (b : Bool) : biW .repr [.bl b] M = .ok (.str (if b = true then "True" else "False")) M := by
  have h : dataW M (.bl b) = some (.bool b) := data_fit rfl
  simp only [biW, h]
  cases b
  · rw [if_pos ⟨rfl, by decide +kernel⟩]; rfl
  · rw [if_pos ⟨rfl, by decide +kernel⟩]; rfl
theorem repr_same {M : Mem} (b : Bool) : cmpW .NotEq (.str (if b = true then "True" else "False")) (.str (if b = true then "True" else "False")) M = .ok false M := by
  have : eqW M (.str (if b = true then "True" else "False")) (.str (if b = true then "True" else "False")) = some true := by
    cases b
    · rw [if_neg (by simp), eq_ss (by decide +kernel) (by decide +kernel)]; simp
    · rw [if_pos rfl, eq_ss (by decide +kernel) (by decide +kernel)]; simp
  simp only [cmpW, this, ofO, Option.map_some, Bool.not_true]
/-- one paper for one claim -/
theorem p70 {k : Nat} {a0 a1 a2 a3 a4 a5 a6 a7 a8 a11 : Option W} {Rw L x : W} {M : Mem} (hR : goodT M Rw = true) (hL : goodT M L = true) (hx : goodT M x = true) :
    evSs (callN D (k+4)) r70p [a0, a1, a2, a3, a4, a5, a6, a7, a8, some (.tup [.str "completed", Rw, L]), some x, a11] M = .ok (.nx [a0, a1, a2, a3, a4, a5, a6, a7, a8, some (.tup [.str "completed", Rw, L]), some x, some (.bl (compB Rw L x))]) M := by
  have e1 : callN D (k+4) 52 [Rw, L, x] M = _ := due3_ok (k := k+1) hR hL hx
  have e2 : callN D (k+4) 35 [.tup [.str "completed", Rw, L], x] M = _ := accC_ok (k := k) hR hL hx
  have i1 : atI [W.str "completed", Rw, L] 1 = some Rw := rfl
  have i2 : atI [W.str "completed", Rw, L] 2 = some L := rfl
  have rp := repr_bl (M := M) (compB Rw L x)
  have rs := repr_same (M := M) (compB Rw L x)
  simp only [r70p, r70c, r70s, r70, CS.bd, CSs.nth, c__law_right__4, xss_cons, xss_nil, xs_asg, xs_if, xe_call, xe_ix, xe_var, xe_k, xe_bi, xa_cons, xa_nil, xg_name, xb_cmp, R.bind, R.stm, R.calm, itemW, i1, i2, ofO, List.getElem?_cons_zero, List.getElem?_cons_succ, List.set_cons_succ, List.set_cons_zero, e1, e2, rp, rs, Bool.false_eq_true, if_false]
theorem c70 {k q : Nat} {a0 a1 a2 a3 a4 a5 a6 a7 : Option W} {Rw L : W} {ps : List W} {M : Mem} (hR : goodT M Rw = true) (hL : goodT M L = true) (hq : M[q]? = some (.lst ps)) (hp : ∀ x ∈ ps, goodT M x = true) (a10 a11 : Option W) :
    ∃ b10 b11, evSs (callN D (k+4)) r70c [a0, a1, a2, a3, a4, a5, a6, a7, some (.ref q), some (.tup [.str "completed", Rw, L]), a10, a11] M = .ok (.nx [a0, a1, a2, a3, a4, a5, a6, a7, some (.ref q), some (.tup [.str "completed", Rw, L]), b10, b11]) M := by
  obtain ⟨ρ', M', e, ⟨b10, b11, h1⟩, h2⟩ := forL_inv (g := evN (.one 10)) (body := evSs (callN D (k+4)) r70p) (gs := [(q, ps)]) (Inv := fun ρ M' => (∃ b10 b11, ρ = [a0, a1, a2, a3, a4, a5, a6, a7, some (.ref q), some (.tup [.str "completed", Rw, L]), b10, b11]) ∧ M' = M) (fun ρ M' h => by rw [h.2]; exact guards_lst hq) (ps.map .one) [a0, a1, a2, a3, a4, a5, a6, a7, some (.ref q), some (.tup [.str "completed", Rw, L]), a10, a11] M (fun x hx ρ M' hI => by
    obtain ⟨w, hw, rfl⟩ := List.mem_map.mp hx
    obtain ⟨⟨b10, b11, rfl⟩, rfl⟩ := hI
    exact ⟨_, _, _, _, rfl, p70 (k := k) hR hL (hp w hw), ⟨_, _, rfl⟩, rfl⟩) ⟨⟨_, _, rfl⟩, rfl⟩
  refine ⟨b10, b11, ?_⟩
  rw [h1, h2] at e
  have hi : evI (callN D (k+4)) (.seq (.var 8)) [a0, a1, a2, a3, a4, a5, a6, a7, some (.ref q), some (.tup [.str "completed", Rw, L]), a10, a11] M = .ok (ps.map .one, [(q, ps)]) M := by
    simp only [xi_seq, xe_var, R.bind, iterW, seqW, gOf, hq, List.getElem?_cons_zero, List.getElem?_cons_succ]
  have s0 : evS (callN D (k+4)) (r70c.nth 0) [a0, a1, a2, a3, a4, a5, a6, a7, some (.ref q), some (.tup [.str "completed", Rw, L]), a10, a11] M = .ok (.nx [a0, a1, a2, a3, a4, a5, a6, a7, some (.ref q), some (.tup [.str "completed", Rw, L]), b10, b11]) M := by
    show (evI (callN D (k+4)) (.seq (.var 8)) _ M).stm _ _ = _
    rw [hi]
    exact e
  show evSs (callN D (k+4)) (.cons (r70c.nth 0) .nil) _ M = _
  rw [evSs_cons s0, evSs]
/-- the claims of one step -/
theorem cl70 {k q : Nat} {a0 a1 a3 a5 : Option W} {F L A B : W} {ps : List W} {M : Mem} (hF : goodT M F = true) (hL : goodT M L = true) (hA : goodT M A = true) (hB : goodT M B = true) (hq : M[q]? = some (.lst ps)) (hp : ∀ x ∈ ps, goodT M x = true) (a9 a10 a11 : Option W) :
    ∃ b9 b10 b11 g, evS (callN D (k+4)) (r70s.nth 3) [a0, a1, some F, a3, some L, a5, some A, some B, some (.ref q), a9, a10, a11] M = .ok (.nx [a0, a1, some F, a3, some L, a5, some A, some B, some (.ref q), b9, b10, b11]) (M ++ g) := by
  generalize hcs : ([.tup [.str "completed", F, A], .tup [.str "completed", B, L], .tup [.str "completed", F, L]] : List W) = cs
  have hz : sizeLine = 16777216 := sizeLine_eq
  have hi : evI (callN D (k+4)) (.seq (.lst (.cons (.tup (.cons (.k (.str "completed")) (.cons (.var 2) (.cons (.var 6) .nil)))) (.cons (.tup (.cons (.k (.str "completed")) (.cons (.var 7) (.cons (.var 4) .nil)))) (.cons (.tup (.cons (.k (.str "completed")) (.cons (.var 2) (.cons (.var 4) .nil)))) .nil))))) [a0, a1, some F, a3, some L, a5, some A, some B, some (.ref q), a9, a10, a11] M = .ok (cs.map .one, [(M.length, cs)]) (M ++ [.lst cs]) := by
    simp only [xss_nil, xss_cons, xe_var, xe_k, xe_gk, xe_bin, xe_neg, xe_not, xe_and, xe_or, xe_ite, xe_cmp, xe_chain, xe_tup, xe_lst, xe_call, xe_callK, xe_bi, xe_isi, xe_meth, xe_ix, xe_sl, xe_rev, xe_dnew, xe_lenset, xs_pass, xs_expr, xs_asg, xs_par, xs_setLc, xs_augS, xs_aug, xs_ret, xs_retN, xs_if, xa_nil, xa_cons, xa_star, xb_val, xb_cmp, xb_chain, xb_not, xb_and, xb_or, xo_none, xo_some, xg_name, xg_tup, xg_sub, xgs_nil, xgs_cons, xi_seq, xi_enum, xi_zip, xt_nil, xt_one, evN, R.bind, R.stm, R.calm, itemW, atI, ixN, biW, storeW, cmpW, bin_add, bin_sub, bin_mod, bin_mul, bin_fdiv, bin_pow, setAll, finW, ofO, seqW, newL, newT, newOb, truthW, mtW, EV.listAt, mo_append_list, mo_pop_list, mo_extend_list, mo_remove_list, mo_count_list, mo_count_tuple, mo_index_list, mo_get_dict, mo_index_tuple, mo_upper_str, mo_isdigit_str, mo_split_str, mo_join_str, ty_list_tuple, ty_list_dict, ty_list_str, ty_tuple_list, ty_tuple_dict, ty_tuple_str, ty_dict_list, ty_dict_tuple, ty_dict_str, ty_str_list, ty_str_tuple, ty_str_dict, List.getElem?_cons_zero, List.getElem?_cons_succ, hz, List.length_cons, List.length_nil, Nat.reduceAdd, Nat.reduceLeDiff, if_true, hcs, iterW, gOf]
    have hl : cs.length ≤ 16777216 := by rw [← hcs]; simp
    simp only [if_pos hl, at0]
  have hq1 : (M ++ [Ob.lst cs])[q]? = some (.lst ps) := app_at hq
  obtain ⟨ρ', M', e, ⟨b9, b10, b11, h1⟩, h2⟩ := forL_inv (g := evN (.one 9)) (body := evSs (callN D (k+4)) r70c) (gs := [(M.length, cs)]) (Inv := fun ρ M' => (∃ b9 b10 b11, ρ = [a0, a1, some F, a3, some L, a5, some A, some B, some (.ref q), b9, b10, b11]) ∧ M' = M ++ [.lst cs]) (fun ρ M' h => by rw [h.2]; exact guards_lst at0) (cs.map .one) [a0, a1, some F, a3, some L, a5, some A, some B, some (.ref q), a9, a10, a11] (M ++ [.lst cs]) (fun x hx ρ M' hI => by
    obtain ⟨w, hw, rfl⟩ := List.mem_map.mp hx
    obtain ⟨⟨b9, b10, b11, rfl⟩, rfl⟩ := hI
    have : ∃ Rw L', w = .tup [.str "completed", Rw, L'] ∧ goodT M Rw = true ∧ goodT M L' = true := by
      rw [← hcs] at hw
      simp only [List.mem_cons, List.mem_nil_iff, or_false] at hw
      rcases hw with rfl | rfl | rfl
      · exact ⟨_, _, rfl, hF, hA⟩
      · exact ⟨_, _, rfl, hB, hL⟩
      · exact ⟨_, _, rfl, hF, hL⟩
    obtain ⟨Rw, L', rfl, g1, g2⟩ := this
    obtain ⟨c10, c11, ec⟩ := c70 (k := k) (a0 := a0) (a1 := a1) (a2 := some F) (a3 := a3) (a4 := some L) (a5 := a5) (a6 := some A) (a7 := some B) (good_app (g := [.lst cs]) g1) (good_app (g := [.lst cs]) g2) hq1 (fun x hx => good_app (hp x hx)) b10 b11
    exact ⟨_, _, _, _, rfl, ec, ⟨_, _, _, rfl⟩, rfl⟩) ⟨⟨_, _, _, rfl⟩, rfl⟩
  refine ⟨b9, b10, b11, [.lst cs], ?_⟩
  rw [h1, h2] at e
  show (evI (callN D (k+4)) _ _ M).stm _ _ = _
  rw [hi]
  exact e
end GD

namespace GD
open PySem PySem.Spec PyProof.Rows L2 EV PM
theorem far70 {k r C n : Nat} {q : List Nat} {a2 a3 a5 a6 a7 a8 a9 a10 a11 : Option W} {M : Mem} (h : Vat M r C) (hC : C ≤ 500000000) (n1 : 1 ≤ n) (n2 : n ≤ 40) (hq : q.length ≤ 40) :
    ∃ A M', evS (callN D (k+4)) (r70s.nth 0) [some (.ref r), some (.int (n : Int)), a2, a3, some (kindW q), a5, a6, a7, a8, a9, a10, a11] M = .ok (.nx [some (.ref r), some (.int (n : Int)), a2, a3, some (kindW q), a5, some A, a7, a8, a9, a10, a11]) M' ∧ goodT M' A = true ∧ Gr r (C + 50) M M' := by
  have hr := h.lt
  have hz : sizeLine = 16777216 := sizeLine_eq
  obtain ⟨ys, o1, e1, y1, y2, y3, v1⟩ := lots_ok (k := k+2) (size := (n : Int)) h (by omega) (by omega) (by omega)
  have e1 : callN D (k+4) 4 [.ref r, .int (n : Int)] M = _ := e1
  have G1 : Gr r (C + 41) M (M.set r o1 ++ [.lst ((kindI q).map .int)]) := ⟨o1, _, rfl, v1⟩
  have V1 := G1.vat hr
  obtain ⟨w, M3, e3, g3, G3⟩ := odd_kind_ok (k := k+1) (n := (n : Int)) V1 (by omega)
  have e3 : callN D (k+4) 45 [.ref r, .int (n : Int)] (M.set r o1 ++ [.lst ((kindI q).map .int)]) = _ := e3
  have hr1 : r < (M.set r o1 ++ [Ob.lst ((kindI q).map .int)]).length := by simp; omega
  have G3' := G1.trans hr G3
  have V3 := G3.vat hr1
  generalize hme : ([kindW q, kindW q, .tup ((sortI ys).reverse.map .int), .tup ((kindI q).map W.int).reverse, .ref M.length, w] : List W) = me
  have hml : me.length = 6 := by rw [← hme]; rfl
  obtain ⟨A, o4, hA, e4, v4⟩ := of_ok (k := k+2) (q := M3.length) (xs := me) (V3.app (g := [.lst me])) (by omega) at0 (by have := V3.lt; omega) (by omega) (by omega)
  have e4 : callN D (k+4) 13 [.ref r, .ref M3.length] (M3 ++ [.lst me]) = _ := e4
  have hr3 := V3.lt
  have G4 : Gr r (C + 43) M3 ((M3 ++ [Ob.lst me]).set r o4) := ⟨o4, [.lst me], List.set_append_left r o4 hr3, v4.more (by omega)⟩
  have hkl := kind_lenle (p := q)
  have hg : ∀ x ∈ me, goodT M3 x = true := fun x hx => by
    rw [← hme] at hx
    simp only [List.mem_cons, List.mem_nil_iff, or_false] at hx
    rcases hx with rfl | rfl | rfl | rfl | rfl | rfl
    · exact good_kindW hq
    · exact good_kindW hq
    · exact good_intT (by rw [List.length_reverse, (sortI_perm _).length_eq]; omega)
    · rw [← List.map_reverse]; exact good_intT (by rw [List.length_reverse]; omega)
    · refine G3.good ?_
      simp only [goodT, known, tyW]
      have : (M.set r o1 ++ [Ob.lst ((kindI q).map .int)])[M.length]? = some (.lst ((kindI q).map .int)) := by
        have := at0 (M := M.set r o1) (o0 := .lst ((kindI q).map .int)) (g := [])
        rwa [List.length_set] at this
      rw [this]; rfl
    · exact g3
  refine ⟨A, (M3 ++ [Ob.lst me]).set r o4, ?_, G4.good (hg A hA), (G3'.trans hr G4).more (by omega)⟩
  have kq : kindW q = .tup ((kindI q).map .int) := rfl
  rw [kq] at hme ⊢
  simp only [r70s, r70, CS.bd, CSs.nth, c__law_right__4, xs_asg, xe_call, xe_lst, xe_rev, xe_bi, xe_var, xa_cons, xa_nil, xg_name, R.bind, R.stm, R.calm, biW, newOb, newL, List.getElem?_cons_zero, List.getElem?_cons_succ, List.set_cons_succ, List.set_cons_zero, e1, List.length_set, e3, hme]
  rw [if_pos (show me.length ≤ sizeLine by rw [hml, hz]; omega)]
  simp only [e4]
theorem step70 {k r C n : Nat} {p q : List Nat} {M : Mem} (h : Vat M r C) (hC : C ≤ 400000000) (n1 : 1 ≤ n) (n2 : n ≤ 40) (Tp : Tn p) (Tq : Tn q) (lp : p.length = n) (lq : q.length = n) (a5 a6 a7 a8 a9 a10 a11 : Option W) :
    ∃ b6 b7 b8 b9 b10 b11 M', evSs (callN D (k+4)) r70s [some (.ref r), some (.int (n : Int)), some (tN p), some (tN q), some (kindW q), a5, a6, a7, a8, a9, a10, a11] M = .ok (.nx [some (.ref r), some (.int (n : Int)), some (tN p), some (tN q), some (kindW q), a5, b6, b7, b8, b9, b10, b11]) M' ∧ Gr r (C + 100) M M' := by
  have hr := h.lt
  have hz : sizeLine = 16777216 := sizeLine_eq
  obtain ⟨A, M1, s0, gA, G1⟩ := far70 (k := k) (q := q) (a2 := some (tN p)) (a3 := some (tN q)) (a5 := a5) (a6 := a6) (a7 := a7) (a8 := a8) (a9 := a9) (a10 := a10) (a11 := a11) h (by omega) n1 n2 (by omega)
  have V1 := G1.vat hr
  obtain ⟨B, M2, e2, gB, G2⟩ := bent_ok (k := k+1) (p := p) V1 (by omega) Tp (by omega) (by omega)
  have e2 : callN D (k+4) 44 [.ref r, tN p] M1 = _ := e2
  have V2 := G2.vat V1.lt
  have s1 : evS (callN D (k+4)) (r70s.nth 1) [some (.ref r), some (.int (n : Int)), some (tN p), some (tN q), some (kindW q), a5, some A, a7, a8, a9, a10, a11] M1 = .ok (.nx [some (.ref r), some (.int (n : Int)), some (tN p), some (tN q), some (kindW q), a5, some A, some B, a8, a9, a10, a11]) M2 := by
    simp only [r70s, r70, CS.bd, CSs.nth, c__law_right__4, xss_nil, xss_cons, xe_var, xe_k, xe_gk, xe_bin, xe_neg, xe_not, xe_and, xe_or, xe_ite, xe_cmp, xe_chain, xe_tup, xe_lst, xe_call, xe_callK, xe_bi, xe_isi, xe_meth, xe_ix, xe_sl, xe_rev, xe_dnew, xe_lenset, xs_pass, xs_expr, xs_asg, xs_par, xs_setLc, xs_augS, xs_aug, xs_ret, xs_retN, xs_if, xa_nil, xa_cons, xa_star, xb_val, xb_cmp, xb_chain, xb_not, xb_and, xb_or, xo_none, xo_some, xg_name, xg_tup, xg_sub, xgs_nil, xgs_cons, xi_seq, xi_enum, xi_zip, xt_nil, xt_one, evN, R.bind, R.stm, R.calm, itemW, atI, ixN, biW, storeW, cmpW, bin_add, bin_sub, bin_mod, bin_mul, bin_fdiv, bin_pow, setAll, finW, ofO, seqW, newL, newT, newOb, truthW, mtW, EV.listAt, mo_append_list, mo_pop_list, mo_extend_list, mo_remove_list, mo_count_list, mo_count_tuple, mo_index_list, mo_get_dict, mo_index_tuple, mo_upper_str, mo_isdigit_str, mo_split_str, mo_join_str, ty_list_tuple, ty_list_dict, ty_list_str, ty_tuple_list, ty_tuple_dict, ty_tuple_str, ty_dict_list, ty_dict_tuple, ty_dict_str, ty_str_list, ty_str_tuple, ty_str_dict, List.getElem?_cons_zero, List.getElem?_cons_succ, List.set_cons_succ, List.set_cons_zero, e2]
  obtain ⟨w3, M3, e3, g3, G3⟩ := bent_ok (k := k+1) (p := q) V2 (by omega) Tq (by omega) (by omega)
  have e3 : callN D (k+4) 44 [.ref r, tN q] M2 = _ := e3
  have V3 := G3.vat V2.lt
  have e4 : callN D (k+4) 6 [tN q] M3 = _ := back_ok (k := k+3) (M := M3) Tq (by omega)
  obtain ⟨w5, M5, e5, g5, G5⟩ := odd_turn_ok (k := k+1) (n := n) V3 (by omega) n1 n2
  have e5 : callN D (k+4) 51 [.ref r, .int (n : Int)] M3 = _ := e5
  generalize hps : ([tN q, w3, tN (inv q), .tup [tN q], w5] : List W) = ps
  have hpl : ps.length = 5 := by rw [← hps]; rfl
  have s2 : evS (callN D (k+4)) (r70s.nth 2) [some (.ref r), some (.int (n : Int)), some (tN p), some (tN q), some (kindW q), a5, some A, some B, a8, a9, a10, a11] M2 = .ok (.nx [some (.ref r), some (.int (n : Int)), some (tN p), some (tN q), some (kindW q), a5, some A, some B, some (.ref M5.length), a9, a10, a11]) (M5 ++ [.lst ps]) := by
    have hz1 : ([tN q]).length ≤ sizeLine := by rw [hz]; simp
    simp only [r70s, r70, CS.bd, CSs.nth, c__law_right__4, xs_asg, xe_call, xe_lst, xe_tup, xe_var, xa_cons, xa_nil, xg_name, R.bind, R.stm, R.calm, newOb, newL, newT, if_pos hz1, List.getElem?_cons_zero, List.getElem?_cons_succ, List.set_cons_succ, List.set_cons_zero, e3, e4, e5, hps]
    rw [if_pos (show ps.length ≤ sizeLine by rw [hpl, hz]; omega)]
  have G25 := G3.trans V2.lt G5
  have G15 := G2.trans V1.lt G25
  have hgood : ∀ x ∈ ps, goodT M5 x = true := fun x hx => by
    rw [← hps] at hx
    simp only [List.mem_cons, List.mem_nil_iff, or_false] at hx
    rcases hx with rfl | rfl | rfl | rfl | rfl
    · exact good_tN (by omega)
    · exact G5.good g3
    · exact good_tN (by rw [inv_len]; omega)
    · simp only [goodT, List.all_cons, List.all_nil, fitWs, fitW]
      rw [show fitWs 9 (iN q) = true from iN_fit _]
      rfl
    · exact g5
  obtain ⟨b9, b10, b11, g, s3⟩ := cl70 (k := k) (q := M5.length) (ps := ps) (M := M5 ++ [.lst ps]) (a0 := some (.ref r)) (a1 := some (.int (n : Int))) (a3 := some (tN q)) (a5 := a5) (F := tN p) (L := kindW q) (A := A) (B := B) (good_tN (by omega)) (good_kindW (by omega)) (good_app (G15.good gA)) (good_app (G25.good gB)) at0 (fun x hx => good_app (hgood x hx)) a9 a10 a11
  refine ⟨some A, some B, some (.ref M5.length), b9, b10, b11, (M5 ++ [.lst ps]) ++ g, ?_, ((((G1.trans hr G15).app).app).more (by omega))⟩
  show evSs (callN D (k+4)) (.cons (r70s.nth 0) (.cons (r70s.nth 1) (.cons (r70s.nth 2) (.cons (r70s.nth 3) .nil)))) _ M = _
  rw [evSs_cons s0, evSs_cons s1, evSs_cons s2, evSs_cons s3, evSs]
theorem size70 {k r C n : Nat} {M : Mem} (h : Vat M r C) (hC : C ≤ 300000000) (n1 : 1 ≤ n) (n2 : n ≤ 40) (a2 a3 a4 a5 a6 a7 a8 a9 a10 a11 : Option W) :
    ∃ b2 b3 b4 b5 b6 b7 b8 b9 b10 b11 M', evSs (callN D (k+4)) r70 [some (.ref r), some (.int (n : Int)), a2, a3, a4, a5, a6, a7, a8, a9, a10, a11] M = .ok (.nx [some (.ref r), some (.int (n : Int)), b2, b3, b4, b5, b6, b7, b8, b9, b10, b11]) M' ∧ Gr r (C + 1000) M M' := by
  have hr := h.lt
  obtain ⟨p, q, o, e1, Tp, Tq, lp, lq, hrd, v⟩ := pair_ok (k := k) h (by omega) n1 n2
  have e1 : callN D (k+4) 7 [.ref r, .int (n : Int)] M = _ := e1
  have G1 : Gr r (C + 200) M (M.set r o) := Gr.set v
  have V1 := G1.vat hr
  have s0 : evS (callN D (k+4)) (r70.nth 0) [some (.ref r), some (.int (n : Int)), a2, a3, a4, a5, a6, a7, a8, a9, a10, a11] M = .ok (.nx [some (.ref r), some (.int (n : Int)), some (tN p), some (tN q), a4, a5, a6, a7, a8, a9, a10, a11]) (M.set r o) := by
    simp only [r70, CS.bd, CSs.nth, c__law_right__4, xss_nil, xss_cons, xe_var, xe_k, xe_gk, xe_bin, xe_neg, xe_not, xe_and, xe_or, xe_ite, xe_cmp, xe_chain, xe_tup, xe_lst, xe_call, xe_callK, xe_bi, xe_isi, xe_meth, xe_ix, xe_sl, xe_rev, xe_dnew, xe_lenset, xs_pass, xs_expr, xs_asg, xs_par, xs_setLc, xs_augS, xs_aug, xs_ret, xs_retN, xs_if, xa_nil, xa_cons, xa_star, xb_val, xb_cmp, xb_chain, xb_not, xb_and, xb_or, xo_none, xo_some, xg_name, xg_tup, xg_sub, xgs_nil, xgs_cons, xi_seq, xi_enum, xi_zip, xt_nil, xt_one, evN, R.bind, R.stm, R.calm, itemW, atI, ixN, biW, storeW, cmpW, bin_add, bin_sub, bin_mod, bin_mul, bin_fdiv, bin_pow, setAll, finW, ofO, seqW, newL, newT, newOb, truthW, mtW, EV.listAt, mo_append_list, mo_pop_list, mo_extend_list, mo_remove_list, mo_count_list, mo_count_tuple, mo_index_list, mo_get_dict, mo_index_tuple, mo_upper_str, mo_isdigit_str, mo_split_str, mo_join_str, ty_list_tuple, ty_list_dict, ty_list_str, ty_tuple_list, ty_tuple_dict, ty_tuple_str, ty_dict_list, ty_dict_tuple, ty_dict_str, ty_str_list, ty_str_tuple, ty_str_dict, List.getElem?_cons_zero, List.getElem?_cons_succ, List.set_cons_succ, List.set_cons_zero, e1]
  have e2 : callN D (k+4) 9 [tN q] (M.set r o) = _ := kind_of_ok (k := k+2) (M := M.set r o) Tq (by omega)
  have s1 : evS (callN D (k+4)) (r70.nth 1) [some (.ref r), some (.int (n : Int)), some (tN p), some (tN q), a4, a5, a6, a7, a8, a9, a10, a11] (M.set r o) = .ok (.nx [some (.ref r), some (.int (n : Int)), some (tN p), some (tN q), some (kindW q), a5, a6, a7, a8, a9, a10, a11]) (M.set r o) := by
    simp only [r70, CS.bd, CSs.nth, c__law_right__4, xss_nil, xss_cons, xe_var, xe_k, xe_gk, xe_bin, xe_neg, xe_not, xe_and, xe_or, xe_ite, xe_cmp, xe_chain, xe_tup, xe_lst, xe_call, xe_callK, xe_bi, xe_isi, xe_meth, xe_ix, xe_sl, xe_rev, xe_dnew, xe_lenset, xs_pass, xs_expr, xs_asg, xs_par, xs_setLc, xs_augS, xs_aug, xs_ret, xs_retN, xs_if, xa_nil, xa_cons, xa_star, xb_val, xb_cmp, xb_chain, xb_not, xb_and, xb_or, xo_none, xo_some, xg_name, xg_tup, xg_sub, xgs_nil, xgs_cons, xi_seq, xi_enum, xi_zip, xt_nil, xt_one, evN, R.bind, R.stm, R.calm, itemW, atI, ixN, biW, storeW, cmpW, bin_add, bin_sub, bin_mod, bin_mul, bin_fdiv, bin_pow, setAll, finW, ofO, seqW, newL, newT, newOb, truthW, mtW, EV.listAt, mo_append_list, mo_pop_list, mo_extend_list, mo_remove_list, mo_count_list, mo_count_tuple, mo_index_list, mo_get_dict, mo_index_tuple, mo_upper_str, mo_isdigit_str, mo_split_str, mo_join_str, ty_list_tuple, ty_list_dict, ty_list_str, ty_tuple_list, ty_tuple_dict, ty_tuple_str, ty_dict_list, ty_dict_tuple, ty_dict_str, ty_str_list, ty_str_tuple, ty_str_dict, List.getElem?_cons_zero, List.getElem?_cons_succ, List.set_cons_succ, List.set_cons_zero, e2]
  have e3 : callN D (k+4) 35 [.tup [.str "completed", tN p, kindW q], tN q] (M.set r o) = _ := accC_ok (k := k) (M := M.set r o) (good_tN (by omega)) (good_kindW (by omega)) (good_tN (by omega))
  rw [comp_true Tp Tq (by omega) (by omega) (by omega) hrd] at e3
  have s2 : evS (callN D (k+4)) (r70.nth 2) [some (.ref r), some (.int (n : Int)), some (tN p), some (tN q), some (kindW q), a5, a6, a7, a8, a9, a10, a11] (M.set r o) = .ok (.nx [some (.ref r), some (.int (n : Int)), some (tN p), some (tN q), some (kindW q), a5, a6, a7, a8, a9, a10, a11]) (M.set r o) := by
    have hz1 : ([W.str "completed", tN p, kindW q]).length ≤ sizeLine := by rw [sizeLine_eq]; simp
    simp only [r70, CS.bd, CSs.nth, c__law_right__4, xss_nil, xss_cons, xe_var, xe_k, xe_gk, xe_bin, xe_neg, xe_not, xe_and, xe_or, xe_ite, xe_cmp, xe_chain, xe_tup, xe_lst, xe_call, xe_callK, xe_bi, xe_isi, xe_meth, xe_ix, xe_sl, xe_rev, xe_dnew, xe_lenset, xs_pass, xs_expr, xs_asg, xs_par, xs_setLc, xs_augS, xs_aug, xs_ret, xs_retN, xs_if, xa_nil, xa_cons, xa_star, xb_val, xb_cmp, xb_chain, xb_not, xb_and, xb_or, xo_none, xo_some, xg_name, xg_tup, xg_sub, xgs_nil, xgs_cons, xi_seq, xi_enum, xi_zip, xt_nil, xt_one, evN, R.bind, R.stm, R.calm, itemW, atI, ixN, biW, storeW, cmpW, bin_add, bin_sub, bin_mod, bin_mul, bin_fdiv, bin_pow, setAll, finW, ofO, seqW, newL, newT, newOb, truthW, mtW, EV.listAt, mo_append_list, mo_pop_list, mo_extend_list, mo_remove_list, mo_count_list, mo_count_tuple, mo_index_list, mo_get_dict, mo_index_tuple, mo_upper_str, mo_isdigit_str, mo_split_str, mo_join_str, ty_list_tuple, ty_list_dict, ty_list_str, ty_tuple_list, ty_tuple_dict, ty_tuple_str, ty_dict_list, ty_dict_tuple, ty_dict_str, ty_str_list, ty_str_tuple, ty_str_dict, List.getElem?_cons_zero, List.getElem?_cons_succ, if_pos hz1, e3, decide_true, Bool.not_true, Bool.false_eq_true, if_false]
  have hi : evI (callN D (k+4)) (.range (.cons (.k (.int 6)) .nil)) [some (.ref r), some (.int (n : Int)), some (tN p), some (tN q), some (kindW q), a5, a6, a7, a8, a9, a10, a11] (M.set r o) = .ok ((iN (List.range 6)).map .one, []) (M.set r o) := ei_range_n (n := 6) (by simp [xss_nil, xss_cons, xe_var, xe_k, xe_gk, xe_bin, xe_neg, xe_not, xe_and, xe_or, xe_ite, xe_cmp, xe_chain, xe_tup, xe_lst, xe_call, xe_callK, xe_bi, xe_isi, xe_meth, xe_ix, xe_sl, xe_rev, xe_dnew, xe_lenset, xs_pass, xs_expr, xs_asg, xs_par, xs_setLc, xs_augS, xs_aug, xs_ret, xs_retN, xs_if, xa_nil, xa_cons, xa_star, xb_val, xb_cmp, xb_chain, xb_not, xb_and, xb_or, xo_none, xo_some, xg_name, xg_tup, xg_sub, xgs_nil, xgs_cons, xi_seq, xi_enum, xi_zip, xt_nil, xt_one, evN, R.bind, R.stm, R.calm, itemW, atI, ixN, biW, storeW, cmpW, bin_add, bin_sub, bin_mod, bin_mul, bin_fdiv, bin_pow, setAll, finW, ofO, seqW, newL, newT, newOb, truthW, mtW, EV.listAt, mo_append_list, mo_pop_list, mo_extend_list, mo_remove_list, mo_count_list, mo_count_tuple, mo_index_list, mo_get_dict, mo_index_tuple, mo_upper_str, mo_isdigit_str, mo_split_str, mo_join_str, ty_list_tuple, ty_list_dict, ty_list_str, ty_tuple_list, ty_tuple_dict, ty_tuple_str, ty_dict_list, ty_dict_tuple, ty_dict_str, ty_str_list, ty_str_tuple, ty_str_dict]) (by omega)
  obtain ⟨ρ', M', e, ⟨b5, b6, b7, b8, b9, b10, b11, h1⟩, h2⟩ := forL_ix (g := evN (.one 5)) (body := evSs (callN D (k+4)) r70s) (gs := []) (Inv := fun j ρ M' => (∃ b5 b6 b7 b8 b9 b10 b11, ρ = [some (.ref r), some (.int (n : Int)), some (tN p), some (tN q), some (kindW q), b5, b6, b7, b8, b9, b10, b11]) ∧ Gr r (C + 200 + 100 * j) M M') (fun _ _ _ _ => guards_nil) ((iN (List.range 6)).map .one) 0 [some (.ref r), some (.int (n : Int)), some (tN p), some (tN q), some (kindW q), a5, a6, a7, a8, a9, a10, a11] (M.set r o) (fun i x hx ρ M1 hI => by
    obtain ⟨hi6, rfl⟩ := iN_at hx
    rw [List.length_range] at hi6
    obtain ⟨⟨b5, b6, b7, b8, b9, b10, b11, rfl⟩, hG⟩ := hI
    have V := hG.vat hr
    obtain ⟨c6, c7, c8, c9, c10, c11, M2, ec, Gc⟩ := step70 (k := k) (p := p) (q := q) V (by omega) n1 n2 Tp Tq lp lq (some (.int (ap (List.range 6) i : Nat))) b6 b7 b8 b9 b10 b11
    exact ⟨_, _, _, _, rfl, ec, ⟨_, _, _, _, _, _, _, rfl⟩, (hG.trans hr Gc).more (by omega)⟩) ⟨⟨_, _, _, _, _, _, _, rfl⟩, G1⟩
  have hlen : 0 + ((iN (List.range 6)).map Itm.one).length = 6 := by simp [iN]
  rw [hlen] at h2
  rw [h1] at e
  refine ⟨some (tN p), some (tN q), some (kindW q), b5, b6, b7, b8, b9, b10, b11, M', ?_, h2.more (by omega)⟩
  have s3 : evS (callN D (k+4)) (r70.nth 3) [some (.ref r), some (.int (n : Int)), some (tN p), some (tN q), some (kindW q), a5, a6, a7, a8, a9, a10, a11] (M.set r o) = .ok (.nx [some (.ref r), some (.int (n : Int)), some (tN p), some (tN q), some (kindW q), b5, b6, b7, b8, b9, b10, b11]) M' := by
    rw [show r70.nth 3 = .forS (.one 5) (.range (.cons (.k (.int 6)) .nil)) r70s from rfl, xs_for, hi]
    exact e
  show evSs (callN D (k+4)) (.cons (r70.nth 0) (.cons (r70.nth 1) (.cons (r70.nth 2) (.cons (r70.nth 3) .nil)))) _ M = _
  rw [evSs_cons s0, evSs_cons s1, evSs_cons s2, evSs_cons s3, evSs]
end GD

namespace GD
open PySem PySem.Spec PyProof.Rows L2 EV PM
theorem last70 {k : Nat} {M : Mem} : callN D (k+4) 35 [.tup [.str "completed", .tup [.int 0, .int 1], .tup [.int 2]], .tup [.int 1, .int 0]] M = .ok (.bl true) M := by
  have e : callN D (k+4) 35 [.tup [.str "completed", tN [0, 1], .tup [.int 2]], tN [1, 0]] M = _ := accC_ok (k := k) (M := M) (good_tN (by decide)) (by rfl) (good_tN (by decide))
  have hc : compB (tN [0, 1]) (.tup [.int 2]) (tN [1, 0]) = true := by decide +kernel
  rw [hc] at e
  exact e
theorem right70 {k r : Nat} {M : Mem} (h : Vat M r 0) : ∃ o, callN D (k+5) 53 [.ref r] M = .ok (.bl true) (M.set r o) := by
  have hr := h.lt
  have hz : sizeLine = 16777216 := sizeLine_eq
  obtain ⟨m1, o1, e1, a0, a1, v1⟩ := dip_ok (k := k+3) (n := 4) h (by omega) (by omega) (by omega)
  have V1 := Vat.of hr v1
  obtain ⟨m2, o2, e2, b0, b1, v2⟩ := dip_ok (k := k+3) (n := 8) V1 (by omega) (by omega) (by omega)
  rw [List.set_set] at e2
  have V2 := Vat.of hr v2
  obtain ⟨w3, o3, hw3, e3, v3⟩ := of_ok (k := k+2) (q := M.length) (xs := [.int 20, .int 39, .int 40]) (V2.app (g := [.lst [.int 20, .int 39, .int 40]])) (by omega) (by have := at0 (M := M.set r o2) (o0 := .lst [.int 20, .int 39, .int 40]) (g := []); rwa [List.length_set] at this) (by omega) (by simp) (by simp)
  obtain ⟨n3, c0, c1, rfl⟩ : ∃ n3 : Nat, 1 ≤ n3 ∧ n3 ≤ 40 ∧ w3 = .int (n3 : Int) := by
    simp only [List.mem_cons, List.mem_nil_iff, or_false] at hw3
    rcases hw3 with rfl | rfl | rfl
    · exact ⟨20, by omega, by omega, rfl⟩
    · exact ⟨39, by omega, by omega, rfl⟩
    · exact ⟨40, by omega, by omega, rfl⟩
  obtain ⟨m1, rfl⟩ := Int.eq_ofNat_of_zero_le a0
  obtain ⟨m2, rfl⟩ := Int.eq_ofNat_of_zero_le b0
  have hset : (M.set r o2 ++ [Ob.lst [.int 20, .int 39, .int 40]]).set r o3 = M.set r o3 ++ [.lst [.int 20, .int 39, .int 40]] := by
    rw [List.set_append_left r o3 (by simpa using hr), List.set_set]
  rw [hset] at e3
  have e1 : callN D (k+4) 1 [.ref r, .int 4] M = _ := e1
  have e2 : callN D (k+4) 1 [.ref r, .int 8] (M.set r o1) = _ := e2
  have e3 : callN D (k+4) 13 [.ref r, .ref M.length] (M.set r o2 ++ [.lst [.int 20, .int 39, .int 40]]) = _ := e3
  generalize hsz : ([1 + m1, 3 + m2, n3] : List Nat) = sz
  have hsW : ([.int (1 + (m1 : Int)), .int (3 + (m2 : Int)), .int (n3 : Int)] : List W) = iN sz := by
    rw [← hsz]
    simp [iN]
  have hszb : ∀ x ∈ sz, 1 ≤ x ∧ x ≤ 40 := fun x hx => by
    rw [← hsz] at hx
    simp only [List.mem_cons, List.mem_nil_iff, or_false] at hx
    rcases hx with rfl | rfl | rfl <;> omega
  generalize hMb : M.set r o3 ++ [Ob.lst [.int 20, .int 39, .int 40], .lst (iN sz)] = Mb
  have hq : Mb[M.length + 1]? = some (.lst (iN sz)) := by
    rw [← hMb]
    have := at1 (M := M.set r o3) (o0 := .lst [.int 20, .int 39, .int 40]) (o1 := .lst (iN sz)) (g := [])
    rwa [List.length_set] at this
  have Gb : Gr r 3 M Mb := ⟨o3, _, hMb.symm, v3.more (by omega)⟩
  have hi : evI (callN D (k+4)) (.seq (.lst (.cons (.bin .Add (.k (.int 1)) (.call 1 (.cons (.var 0) (.cons (.k (.int 4)) .nil)))) (.cons (.bin .Add (.k (.int 3)) (.call 1 (.cons (.var 0) (.cons (.k (.int 8)) .nil)))) (.cons (.call 13 (.cons (.var 0) (.cons (.lst (.cons (.k (.int 20)) (.cons (.k (.int 39)) (.cons (.k (.int 40)) .nil)))) .nil))) .nil))))) [some (.ref r), none, none, none, none, none, none, none, none, none, none, none] M = .ok ((iN sz).map .one, [(M.length + 1, iN sz)]) Mb := by
    have hl3 : ([W.int 20, .int 39, .int 40]).length ≤ sizeLine := by rw [hz]; simp
    have hls : (iN sz).length ≤ sizeLine := by rw [← hsW, hz]; simp
    have hls2 : (M.set r o3 ++ [Ob.lst [.int 20, .int 39, .int 40]]).length = M.length + 1 := by simp
    have hMb2 : (M.set r o3 ++ [Ob.lst [.int 20, .int 39, .int 40]]) ++ [.lst (iN sz)] = Mb := by rw [← hMb]; simp
    simp only [xi_seq, xe_lst, xe_bin, xe_call, xe_var, xe_k, xa_cons, xa_nil, R.bind, bin_add, newL, newOb, if_pos hl3, List.getElem?_cons_zero, e1, e2, List.length_set, e3, hsW, if_pos hls, hls2, hMb2, iterW, seqW, gOf, hq]
  obtain ⟨ρ', M', e, ⟨x1, x2, x3, x4, x5, x6, x7, x8, x9, x10, x11, h1⟩, h2⟩ := forL_ix (g := evN (.one 1)) (body := evSs (callN D (k+4)) r70) (gs := [(M.length + 1, iN sz)]) (Inv := fun j ρ M' => (∃ b1 b2 b3 b4 b5 b6 b7 b8 b9 b10 b11, ρ = [some (.ref r), b1, b2, b3, b4, b5, b6, b7, b8, b9, b10, b11]) ∧ Gr r (3 + 1000 * j) Mb M') (fun _ _ M' hI => guards_lst (hI.2.at (by omega) hq)) ((iN sz).map .one) 0 [some (.ref r), none, none, none, none, none, none, none, none, none, none, none] Mb (fun i x hx ρ M1 hI => by
    obtain ⟨his, rfl⟩ := iN_at hx
    have hb := hszb (ap sz i) (by rw [← ap_getE his]; exact List.getElem_mem his)
    obtain ⟨⟨b1, b2, b3, b4, b5, b6, b7, b8, b9, b10, b11, rfl⟩, hG⟩ := hI
    have hrb : r < Mb.length := by have := Gb.len; omega
    have hi3 : i < 3 := by rw [← hsz] at his; simpa using his
    obtain ⟨c2, c3, c4, c5, c6, c7, c8, c9, c10, c11, M2, ec, Gc⟩ := size70 (k := k) (hG.vat hrb) (by omega) hb.1 hb.2 b2 b3 b4 b5 b6 b7 b8 b9 b10 b11
    exact ⟨_, _, _, _, rfl, ec, ⟨_, _, _, _, _, _, _, _, _, _, _, rfl⟩, (hG.trans hrb Gc).more (by omega)⟩) ⟨⟨_, _, _, _, _, _, _, _, _, _, _, rfl⟩, ⟨o3, [], by
      rw [List.append_nil]
      apply List.ext_getElem?
      intro j
      have hrb : Mb[r]? = some o3 := by rw [← hMb]; exact app_at (List.getElem?_set_self hr)
      by_cases ej : j = r
      · subst ej; rw [List.getElem?_set_self (get_lt hrb), hrb]
      · rw [List.getElem?_set_ne (Ne.symm ej)], v3.more (by omega)⟩⟩
  rw [h1] at e
  have G' := Gb.trans hr h2
  have s0 : evS (callN D (k+4)) (c__law_right__4.nth 0) [some (.ref r), none, none, none, none, none, none, none, none, none, none, none] M = .ok (.nx [some (.ref r), x1, x2, x3, x4, x5, x6, x7, x8, x9, x10, x11]) M' := by
    rw [show c__law_right__4.nth 0 = .forS (.one 1) (.seq (.lst (.cons (.bin .Add (.k (.int 1)) (.call 1 (.cons (.var 0) (.cons (.k (.int 4)) .nil)))) (.cons (.bin .Add (.k (.int 3)) (.call 1 (.cons (.var 0) (.cons (.k (.int 8)) .nil)))) (.cons (.call 13 (.cons (.var 0) (.cons (.lst (.cons (.k (.int 20)) (.cons (.k (.int 39)) (.cons (.k (.int 40)) .nil)))) .nil))) .nil))))) r70 from rfl, xs_for, hi]
    exact e
  have s1 : evS (callN D (k+4)) (c__law_right__4.nth 1) [some (.ref r), x1, x2, x3, x4, x5, x6, x7, x8, x9, x10, x11] M' = .ok (.ret (.bl true)) M' := by
    have el := last70 (k := k) (M := M')
    have z1 : ([W.int 0, .int 1]).length ≤ sizeLine := by rw [hz]; simp
    have z2 : ([W.int 2]).length ≤ sizeLine := by rw [hz]; simp
    have z3 : ([W.int 1, .int 0]).length ≤ sizeLine := by rw [hz]; simp
    have z4 : ([W.str "completed", .tup [.int 0, .int 1], .tup [.int 2]]).length ≤ sizeLine := by rw [hz]; simp
    simp only [CSs.nth, c__law_right__4, xs_ret, xe_cmp, xe_call, xe_tup, xe_k, xa_cons, xa_nil, newT, R.bind, R.stm, if_pos z1, if_pos z2, if_pos z3, if_pos z4, el, cmpW, decide_true]
  obtain ⟨o', g', eM, v'⟩ := G'
  refine ⟨o', ?_⟩
  rw [call_at (d := ⟨1, 12, c__law_right__4⟩) (b := c__law_right__4) (ρ := [some (.ref r), none, none, none, none, none, none, none, none, none, none, none]) rfl rfl rfl rfl]
  show finW M (evSs (callN D (k+4)) (.cons (c__law_right__4.nth 0) (.cons (c__law_right__4.nth 1) .nil)) _ M) = _
  rw [evSs_cons s0, evSs_ret s1, eM]
  exact trim_setA v'.pure rfl
end GD

namespace PM
def powL (p : List Nat) (k : Nat) : List Nat := (List.range p.length).map (it p k)
theorem powL_len {p : List Nat} {k : Nat} : (powL p k).length = p.length := by simp [powL]
theorem ap_powL {p : List Nat} {k i : Nat} (h : i < p.length) : ap (powL p k) i = it p k i := by
  simp [ap, powL, List.getD_eq_getElem?_getD, List.getElem?_map, List.getElem?_range h]
theorem powL_lt {p : List Nat} (T : Tn p) {k : Nat} : ∀ x ∈ powL p k, x < p.length := fun x hx => by
  obtain ⟨i, hi, rfl⟩ := List.mem_map.mp hx
  exact T.it_lt (List.mem_range.mp hi) k
theorem powL_tn {p : List Nat} (T : Tn p) (k : Nat) : Tn (powL p k) :=
  ⟨fun x hx => by rw [powL_len]; exact powL_lt T x hx, map_nodup List.nodup_range fun x hx y hy e => T.it_inj (List.mem_range.mp hx) (List.mem_range.mp hy) k e⟩
theorem powL_zero {p : List Nat} : powL p 0 = List.range p.length := by
  simp only [powL]
  conv => rhs; rw [← List.map_id (List.range p.length)]
  apply List.map_congr_left
  intro x _
  rfl
theorem powL_one {p : List Nat} : powL p 1 = p := by
  apply List.ext_getElem?
  intro i
  by_cases h : i < p.length
  · rw [ap_get h, ap_get (by rw [powL_len]; exact h), ap_powL h]
    rfl
  · rw [List.getElem?_eq_none (by rw [powL_len]; omega), List.getElem?_eq_none (by omega)]
theorem powL_add {p : List Nat} (T : Tn p) (a b : Nat) : (powL p a).map (ap (powL p b)) = powL p (a + b) := by
  simp only [powL, List.map_map]
  apply List.map_congr_left
  intro x hx
  have hx := List.mem_range.mp hx
  simp only [Function.comp]
  have := ap_powL (p := p) (k := b) (T.it_lt hx a)
  simp only [powL] at this
  rw [this, ← it_add]
end PM
namespace GD
open PySem PySem.Spec PyProof.Rows L2 EV PM
/-! Q17: powers -/
abbrev ofW : CS := c_often.nth 1
theorem often_loop {k n : Nat} {p : List Nat} {M : Mem} (T : Tn p) (hl : p.length ≤ 1000) : ∀ (t a d fuel : Nat), a + d * t = n → t < fuel → t ≤ 1000000 →
    ∃ b3, whileL (evB (callN D (k+1)) (CS.ts ofW)) (evSs (callN D (k+1)) (CS.bd ofW)) fuel [some (tN p), some (.int (t : Int)), some (tN (powL p a)), some (tN (powL p d))] M = .ok (.nx [some (tN p), some (.int 0), some (tN (powL p n)), b3]) M := by
  intro t
  induction t using Nat.strongRecOn with
  | ind t ih =>
    intro a d fuel hn hf ht
    cases fuel with
    | zero => omega
    | succ fuel =>
      by_cases h0 : t = 0
      · subst h0
        have : a = n := by simpa using hn
        subst this
        refine ⟨some (tN (powL p d)), ?_⟩
        simp only [whileL, ofW, CS.ts, CSs.nth, c_often, xss_nil, xss_cons, xe_var, xe_k, xe_gk, xe_bin, xe_neg, xe_not, xe_and, xe_or, xe_ite, xe_cmp, xe_chain, xe_tup, xe_lst, xe_call, xe_callK, xe_bi, xe_isi, xe_meth, xe_ix, xe_sl, xe_rev, xe_dnew, xe_lenset, xs_pass, xs_expr, xs_asg, xs_par, xs_setLc, xs_augS, xs_aug, xs_ret, xs_retN, xs_if, xa_nil, xa_cons, xa_star, xb_val, xb_cmp, xb_chain, xb_not, xb_and, xb_or, xo_none, xo_some, xg_name, xg_tup, xg_sub, xgs_nil, xgs_cons, xi_seq, xi_enum, xi_zip, xt_nil, xt_one, evN, R.bind, R.stm, R.calm, itemW, atI, ixN, biW, storeW, cmpW, bin_add, bin_sub, bin_mod, bin_mul, bin_fdiv, bin_pow, setAll, finW, ofO, seqW, newL, newT, newOb, truthW, mtW, EV.listAt, mo_append_list, mo_pop_list, mo_extend_list, mo_remove_list, mo_count_list, mo_count_tuple, mo_index_list, mo_get_dict, mo_index_tuple, mo_upper_str, mo_isdigit_str, mo_split_str, mo_join_str, ty_list_tuple, ty_list_dict, ty_list_str, ty_tuple_list, ty_tuple_dict, ty_tuple_str, ty_dict_list, ty_dict_tuple, ty_dict_str, ty_str_list, ty_str_tuple, ty_str_dict, List.getElem?_cons_zero, List.getElem?_cons_succ]
        rfl
      · have ht0 : (0 : Int) < (t : Int) := by omega
        have hb : evB (callN D (k+1)) (CS.ts ofW) [some (tN p), some (.int (t : Int)), some (tN (powL p a)), some (tN (powL p d))] M = .ok true M := by
          simp only [ofW, CS.ts, CSs.nth, c_often, xss_nil, xss_cons, xe_var, xe_k, xe_gk, xe_bin, xe_neg, xe_not, xe_and, xe_or, xe_ite, xe_cmp, xe_chain, xe_tup, xe_lst, xe_call, xe_callK, xe_bi, xe_isi, xe_meth, xe_ix, xe_sl, xe_rev, xe_dnew, xe_lenset, xs_pass, xs_expr, xs_asg, xs_par, xs_setLc, xs_augS, xs_aug, xs_ret, xs_retN, xs_if, xa_nil, xa_cons, xa_star, xb_val, xb_cmp, xb_chain, xb_not, xb_and, xb_or, xo_none, xo_some, xg_name, xg_tup, xg_sub, xgs_nil, xgs_cons, xi_seq, xi_enum, xi_zip, xt_nil, xt_one, evN, R.bind, R.stm, R.calm, itemW, atI, ixN, biW, storeW, cmpW, bin_add, bin_sub, bin_mod, bin_mul, bin_fdiv, bin_pow, setAll, finW, ofO, seqW, newL, newT, newOb, truthW, mtW, EV.listAt, mo_append_list, mo_pop_list, mo_extend_list, mo_remove_list, mo_count_list, mo_count_tuple, mo_index_list, mo_get_dict, mo_index_tuple, mo_upper_str, mo_isdigit_str, mo_split_str, mo_join_str, ty_list_tuple, ty_list_dict, ty_list_str, ty_tuple_list, ty_tuple_dict, ty_tuple_str, ty_dict_list, ty_dict_tuple, ty_dict_str, ty_str_list, ty_str_tuple, ty_str_dict, List.getElem?_cons_zero, List.getElem?_cons_succ, decide_eq_true ht0]
        have e1 : callN D (k+1) 16 [tN (powL p a), tN (powL p d)] M = .ok (tN (powL p (a + d))) M := by
          have := ledOn_ok (k := k) (M := M) (p := powL p a) (q := powL p d) (fun x hx => by rw [powL_len]; exact powL_lt T x hx) (by rw [powL_len]; exact hl)
          rw [powL_add T] at this
          exact this
        have e2 : callN D (k+1) 16 [tN (powL p d), tN (powL p d)] M = .ok (tN (powL p (d + d))) M := by
          have := ledOn_ok (k := k) (M := M) (p := powL p d) (q := powL p d) (fun x hx => by rw [powL_len]; exact powL_lt T x hx) (by rw [powL_len]; exact hl)
          rw [powL_add T] at this
          exact this
        have hmod : ∀ M : Mem, binW .Mod (.int (t : Int)) (.int 2) M = .ok (.int ((t % 2 : Nat) : Int)) M := fun M => by
          rw [bin_mod (by decide)]
          congr 2
        have hdiv : ∀ M : Mem, binW .FloorDiv (.int (t : Int)) (.int 2) M = .ok (.int ((t / 2 : Nat) : Int)) M := fun M => by
          rw [bin_fdiv (by decide) (by decide)]
          congr 2
        have hq := Nat.div_add_mod t 2
        by_cases h2 : t % 2 = 1
        · obtain ⟨b3, e⟩ := ih (t / 2) (by omega) (a + d) (d + d) fuel (by
            have h3 : d * t = d * (2 * (t / 2)) + d := by
              conv => lhs; rw [← hq, h2, Nat.mul_add, Nat.mul_one]
            rw [← hn, h3, ← Nat.mul_assoc, Nat.mul_two]
            omega) (by omega) (by omega)
          refine ⟨b3, ?_⟩
          have hbody : evSs (callN D (k+1)) (CS.bd ofW) [some (tN p), some (.int (t : Int)), some (tN (powL p a)), some (tN (powL p d))] M = .ok (.nx [some (tN p), some (.int ((t / 2 : Nat) : Int)), some (tN (powL p (a + d))), some (tN (powL p (d + d)))]) M := by
            have h2' : ((t % 2 : Nat) : Int) = 1 := by omega
            simp only [ofW, CS.bd, CSs.nth, c_often, xss_cons, xss_nil, xs_if, xs_asg, xs_par, xb_cmp, xe_bin, xe_call, xe_var, xe_k, xa_cons, xa_nil, xg_name, R.bind, R.stm, R.calm, setAll, cmpW, ofO, List.getElem?_cons_zero, List.getElem?_cons_succ, List.set_cons_succ, List.set_cons_zero, hmod, hdiv, h2', eq_ii, decide_true, if_true, e1, e2]
          rw [whileL, hb]
          simp only [R.stm, if_true]
          rw [hbody]
          exact e
        · obtain ⟨b3, e⟩ := ih (t / 2) (by omega) a (d + d) fuel (by
            have h3 : d * t = d * (2 * (t / 2)) := by
              conv => lhs; rw [← hq, show t % 2 = 0 by omega, Nat.add_zero]
            rw [← hn, h3, ← Nat.mul_assoc, Nat.mul_two]) (by omega) (by omega)
          refine ⟨b3, ?_⟩
          have hbody : evSs (callN D (k+1)) (CS.bd ofW) [some (tN p), some (.int (t : Int)), some (tN (powL p a)), some (tN (powL p d))] M = .ok (.nx [some (tN p), some (.int ((t / 2 : Nat) : Int)), some (tN (powL p a)), some (tN (powL p (d + d)))]) M := by
            have h2' : ¬ (((t % 2 : Nat) : Int) = 1) := by omega
            simp only [ofW, CS.bd, CSs.nth, c_often, xss_cons, xss_nil, xs_if, xs_asg, xs_par, xb_cmp, xe_bin, xe_call, xe_var, xe_k, xa_cons, xa_nil, xg_name, R.bind, R.stm, R.calm, setAll, cmpW, ofO, List.getElem?_cons_zero, List.getElem?_cons_succ, List.set_cons_succ, List.set_cons_zero, hmod, hdiv, eq_ii, decide_eq_false h2', Bool.false_eq_true, if_false, e2]
          rw [whileL, hb]
          simp only [R.stm, if_true]
          rw [hbody]
          exact e
theorem often_ok {k t : Nat} {p : List Nat} {M : Mem} (T : Tn p) (hl : p.length ≤ 1000) (ht : t ≤ 100000) : callN D (k+2) i_often [tN p, .int (t : Int)] M = .ok (tN (powL p t)) M := by
  rw [call_at (d := ⟨2, 4, c_often⟩) (b := c_often) (ρ := [some (tN p), some (.int (t : Int)), none, none]) rfl rfl rfl rfl]
  obtain ⟨b3, e⟩ := often_loop (k := k) (n := t) (M := M) T hl t 0 1 whileFuel (by omega) (by unfold whileFuel; omega) (by omega)
  rw [powL_one, powL_zero] at e
  have s0 : evS (callN D (k+1)) (c_often.nth 0) [some (tN p), some (.int (t : Int)), none, none] M = .ok (.nx [some (tN p), some (.int (t : Int)), some (tN (List.range p.length)), some (tN p)]) M := by
    have hr := xe_lrange_by (t := true) (ee_len (cf := callN D (k+1)) (ρ := [some (tN p), some (.int (t : Int)), none, none]) (i := 0) (xs := iN p) (M := M) rfl) (by rw [iN_length]; exact rangeW_n hl) (by rw [iN_length, List.length_range]; omega)
    show (evEs (callN D (k+1)) (.cons _ (.cons (.var 0) .nil)) _ M).stm _ _ = _
    rw [xa_cons, hr]
    simp only [if_true, R.bind, xa_cons, xa_nil, xe_var, List.getElem?_cons_zero, R.stm, setAll, List.set_cons_succ, List.set_cons_zero]
  have s1 : evS (callN D (k+1)) (c_often.nth 1) [some (tN p), some (.int (t : Int)), some (tN (List.range p.length)), some (tN p)] M = _ := e
  have s2 : evS (callN D (k+1)) (c_often.nth 2) [some (tN p), some (.int 0), some (tN (powL p t)), b3] M = .ok (.ret (tN (powL p t))) M := by
    simp [CSs.nth, c_often, xss_nil, xss_cons, xe_var, xe_k, xe_gk, xe_bin, xe_neg, xe_not, xe_and, xe_or, xe_ite, xe_cmp, xe_chain, xe_tup, xe_lst, xe_call, xe_callK, xe_bi, xe_isi, xe_meth, xe_ix, xe_sl, xe_rev, xe_dnew, xe_lenset, xs_pass, xs_expr, xs_asg, xs_par, xs_setLc, xs_augS, xs_aug, xs_ret, xs_retN, xs_if, xa_nil, xa_cons, xa_star, xb_val, xb_cmp, xb_chain, xb_not, xb_and, xb_or, xo_none, xo_some, xg_name, xg_tup, xg_sub, xgs_nil, xgs_cons, xi_seq, xi_enum, xi_zip, xt_nil, xt_one, evN, R.bind, R.stm, R.calm, itemW, atI, ixN, biW, storeW, cmpW, bin_add, bin_sub, bin_mod, bin_mul, bin_fdiv, bin_pow, setAll, finW, ofO, seqW, newL, newT, newOb, truthW, mtW, EV.listAt, mo_append_list, mo_pop_list, mo_extend_list, mo_remove_list, mo_count_list, mo_count_tuple, mo_index_list, mo_get_dict, mo_index_tuple, mo_upper_str, mo_isdigit_str, mo_split_str, mo_join_str, ty_list_tuple, ty_list_dict, ty_list_str, ty_tuple_list, ty_tuple_dict, ty_tuple_str, ty_dict_list, ty_dict_tuple, ty_dict_str, ty_str_list, ty_str_tuple, ty_str_dict]
  show finW M (evSs (callN D (k+1)) (.cons (c_often.nth 0) (.cons (c_often.nth 1) (.cons (c_often.nth 2) .nil))) _ M) = _
  rw [evSs_cons s0, evSs_cons s1, evSs_ret s2]
  exact trim_id
end GD

namespace PM
def rt (b : List Nat) (t : Nat) : List Nat := (List.range b.length).map fun j => ap b ((j + t) % b.length)
theorem rt_len {b : List Nat} {t : Nat} : (rt b t).length = b.length := by simp [rt]
theorem ap_rt {b : List Nat} {t j : Nat} (h : j < b.length) : ap (rt b t) j = ap b ((j + t) % b.length) := by
  simp [ap, rt, List.getD_eq_getElem?_getD, List.getElem?_map, List.getElem?_range h]
def psR (t : Nat) : List (List Nat) → List (Nat × Nat)
  | [] => []
  | b :: L => b.zip (rt b t) ++ psR t L
theorem psR_fst {t : Nat} : ∀ {L : List (List Nat)}, (psR t L).map (·.1) = L.flatten
  | [] => rfl
  | b :: L => by rw [psR, List.map_append, psR_fst, List.map_fst_zip (by rw [rt_len]; exact Nat.le_refl _), List.flatten_cons]
theorem psR_mem {t : Nat} {b : List Nat} {j : Nat} (hj : j < b.length) : ∀ {L : List (List Nat)}, b ∈ L → (ap b j, ap b ((j + t) % b.length)) ∈ psR t L
  | [], h => by cases h
  | c :: L, h => by
    rw [psR, List.mem_append]
    rcases List.mem_cons.mp h with rfl | z
    · refine .inl (List.mem_of_getElem? (i := j) ?_)
      rw [List.getElem?_zip_eq_some]
      exact ⟨ap_get hj, by rw [ap_get (by rw [rt_len]; exact hj), ap_rt hj]⟩
    · exact .inr (psR_mem hj z)
theorem psR_len {t : Nat} {L : List (List Nat)} : (psR t L).length = L.flatten.length := by
  rw [← psR_fst (t := t), List.length_map]
theorem made_pow {p : List Nat} (T : Tn p) (t : Nat) : madeT (psR t (rings p)) p.length = powL p t := by
  unfold madeT powL
  apply List.map_congr_left
  intro x hx
  have hx := List.mem_range.mp hx
  have nd : ((psR t (rings p)).map (·.1)).Nodup := by
    rw [psR_fst]
    exact (rings_perm T).nodup_iff.mpr List.nodup_range
  obtain ⟨s, hs, hr, hm, _⟩ := rep_of T hx
  obtain ⟨m, P⟩ := T.per hs
  have hb : ring p s ∈ rings p := List.mem_map.mpr ⟨s, List.mem_filter.mpr ⟨List.mem_range.mpr hs, hr⟩, rfl⟩
  have hl := ring_len P
  have hap : ∀ i, i < m → ap (ring p s) i = it p i s := fun i hi => by
    rw [ring_eq P]
    simp [ap, List.getD_eq_getElem?_getD, List.getElem?_map, List.getElem?_range hi]
  obtain ⟨i, rfl⟩ := (mem_ring P).mp hm
  rw [P.mod i]
  have hi : i % m < m := Nat.mod_lt _ P.pos
  have := psR_mem (t := t) (b := ring p s) (j := i % m) (by omega) hb
  rw [hl, hap _ hi, hap _ (Nat.mod_lt _ P.pos)] at this
  rw [look_mem nd this, ← P.mod, it_add]
end PM
namespace GD
open PySem PySem.Spec PyProof.Rows L2 EV PM
/-! Q18: powers ring by ring -/
abbrev loO : CSs := CS.bd (c__law_often.nth 1)
abbrev loI : CSs := CS.bd (loO.nth 0)
theorem lo_step {k f j t : Nat} {b : List Nat} {ps : List (Nat × Nat)} {a0 a5 : Option W} {M : Mem} (hf : M[f]? = some (.dK (kv ps))) (hj : j < b.length) (hn : ap b j ∉ ps.map (·.1)) (hl : ps.length ≤ 1000) :
    evSs (callN D k) loI [a0, some (.int (t : Int)), some (.ref f), some (tN b), some (.int (j : Int)), a5] M = .ok (.nx [a0, some (.int (t : Int)), some (.ref f), some (tN b), some (.int (j : Int)), a5]) (M.set f (.dK (kv (ps ++ [(ap b j, ap (rt b t) j)])))) := by
  have h1 := atI_tN hj
  have hm : (j + t) % b.length < b.length := Nat.mod_lt _ (by omega)
  have h2 := atI_tN hm
  have hmod : ∀ M : Mem, binW .Mod (.int ((j : Int) + (t : Int))) (.int (b.length : Int)) M = .ok (.int (((j + t) % b.length : Nat) : Int)) M := fun M => by
    rw [bin_mod (by omega)]
    congr 2
  have h3 := put_new (y := ap (rt b t) j) hn
  rw [ap_rt hj] at h3 ⊢
  have hz : (kv ps).length < sizeLine := by rw [kv_len, sizeLine_eq]; omega
  simp only [loI, loO, CS.bd, CSs.nth, c__law_often, xss_cons, xss_nil, xs_asg, xe_ix, xe_bin, xe_bi, xe_var, xa_cons, xa_nil, xg_sub, R.bind, R.stm, R.calm, biW, bin_add, itemW, storeW, ofO, List.getElem?_cons_zero, List.getElem?_cons_succ, iN_length, hmod, hf, h1, h2, toKey, h3, if_pos hz]
theorem lo_in {k f t : Nat} {b : List Nat} {ps : List (Nat × Nat)} {a0 a4 a5 : Option W} {M : Mem} (hf : M[f]? = some (.dK (kv ps))) (hn : (ps.map (·.1) ++ b).Nodup) (hl : ps.length + b.length ≤ 1000) :
    ∃ a4', evSs (callN D k) loO [a0, some (.int (t : Int)), some (.ref f), some (tN b), a4, a5] M = .ok (.nx [a0, some (.int (t : Int)), some (.ref f), some (tN b), a4', a5]) (M.set f (.dK (kv (ps ++ b.zip (rt b t))))) := by
  have hi : evI (callN D k) (.range (.cons (.bi .len (.cons (.var 3) .nil)) .nil)) [a0, some (.int (t : Int)), some (.ref f), some (tN b), a4, a5] M = .ok ((iN (List.range b.length)).map .one, []) M := ei_rlen rfl (iN_length b) (by omega)
  obtain ⟨ρ', M', e, ⟨a4', h1⟩, h2⟩ := forL_ix (g := evN (.one 4)) (body := evSs (callN D k) loI) (gs := []) (Inv := fun j ρ M' => (∃ a4, ρ = [a0, some (.int (t : Int)), some (.ref f), some (tN b), a4, a5]) ∧ M' = M.set f (.dK (kv (ps ++ (b.zip (rt b t)).take j)))) (fun _ _ _ _ => guards_nil) ((iN (List.range b.length)).map .one) 0 [a0, some (.int (t : Int)), some (.ref f), some (tN b), a4, a5] M (fun i x hx ρ M1 hI => by
    obtain ⟨hi, rfl⟩ := iN_at hx
    rw [List.length_range] at hi
    rw [ap_range hi]
    rw [Nat.zero_add] at hI ⊢
    obtain ⟨⟨a4, rfl⟩, rfl⟩ := hI
    have hnd := List.nodup_append.mp hn
    have hst := lo_step (k := k) (f := f) (j := i) (t := t) (b := b) (ps := ps ++ (b.zip (rt b t)).take i) (a0 := a0) (a5 := a5) (M := M.set f (.dK (kv (ps ++ (b.zip (rt b t)).take i)))) (set_at hf) hi (by
      rw [List.map_append, List.mem_append]
      rintro (z | z)
      · exact hnd.2.2 _ z (ap b i) (by rw [← ap_getE hi]; exact List.getElem_mem hi) rfl
      · rw [List.map_take, List.map_fst_zip (by rw [rt_len]; exact Nat.le_refl _)] at z
        obtain ⟨m, hm, e⟩ := List.mem_iff_getElem.mp z
        have hm2 : m < i := by simp at hm; omega
        rw [List.getElem_take, ← ap_getE hi] at e
        have := nodup_inj hnd.2.1 (by omega) hi e
        omega) (by simp [rt_len]; omega)
    refine ⟨_, _, _, _, rfl, hst, ⟨_, rfl⟩, ?_⟩
    rw [List.set_set, List.append_assoc, zip_take hi (by rw [rt_len]; exact hi)]) ⟨⟨a4, rfl⟩, by
      simp only [List.take_zero, List.append_nil]
      apply List.ext_getElem?
      intro i
      by_cases e : i = f
      · subst e; rw [List.getElem?_set_self (get_lt hf), hf]
      · rw [List.getElem?_set_ne (Ne.symm e)]⟩
  refine ⟨a4', ?_⟩
  have hlen : 0 + ((iN (List.range b.length)).map Itm.one).length = (b.zip (rt b t)).length := by simp [iN, rt_len]
  rw [hlen, List.take_length] at h2
  have s0 : evS (callN D k) (loO.nth 0) [a0, some (.int (t : Int)), some (.ref f), some (tN b), a4, a5] M = .ok (.nx [a0, some (.int (t : Int)), some (.ref f), some (tN b), a4', a5]) (M.set f (.dK (kv (ps ++ b.zip (rt b t))))) := by
    rw [show loO.nth 0 = .forS (.one 4) (.range (.cons (.bi .len (.cons (.var 3) .nil)) .nil)) loI from rfl, xs_for, hi, ← h1, ← h2]
    exact e
  show evSs (callN D k) (.cons (loO.nth 0) .nil) _ M = _
  rw [evSs_cons s0, evSs]
theorem lo_out {k f t q : Nat} {a0 : Option W} {items : List W} (hqf : q ≠ f) : ∀ (L : List (List Nat)) (ps : List (Nat × Nat)) (a3 a4 a5 : Option W) (M : Mem), M[q]? = some (.lst items) → M[f]? = some (.dK (kv ps)) → (ps.map (·.1) ++ L.flatten).Nodup → ps.length + L.flatten.length ≤ 1000 →
    ∃ a3' a4', forL (evN (.one 3)) (evSs (callN D k) loO) [(q, items)] ((L.map tN).map .one) [a0, some (.int (t : Int)), some (.ref f), a3, a4, a5] M = .ok (.nx [a0, some (.int (t : Int)), some (.ref f), a3', a4', a5]) (M.set f (.dK (kv (ps ++ psR t L))))
  | [], ps, a3, a4, a5, M, hq, hf, _, _ => ⟨a3, a4, by
    have : M.set f (.dK (kv (ps ++ psR t []))) = M := by
      simp only [psR, List.append_nil]
      apply List.ext_getElem?
      intro i
      by_cases e : i = f
      · subst e; rw [List.getElem?_set_self (get_lt hf), hf]
      · rw [List.getElem?_set_ne (Ne.symm e)]
    rw [this]
    simp [forL, guards_lst hq]⟩
  | b :: L, ps, a3, a4, a5, M, hq, hf, hn, hl => by
    rw [List.flatten_cons] at hn hl
    rw [← List.append_assoc] at hn
    rw [List.length_append] at hl
    obtain ⟨a4', e1⟩ := lo_in (k := k) (f := f) (t := t) (b := b) (ps := ps) (a0 := a0) (a4 := a4) (a5 := a5) hf (List.nodup_append.mp hn).1 (by omega)
    obtain ⟨a3', a4'', e2⟩ := lo_out (k := k) (t := t) (a0 := a0) hqf L (ps ++ b.zip (rt b t)) (some (tN b)) a4' a5 (M.set f (.dK (kv (ps ++ b.zip (rt b t))))) (by rw [List.getElem?_set_ne (Ne.symm hqf)]; exact hq) (set_at hf) (by
      rw [List.map_append, List.map_fst_zip (by rw [rt_len]; exact Nat.le_refl _)]
      exact hn) (by rw [List.length_append, List.length_zip, rt_len, Nat.min_self]; omega)
    rw [List.set_set] at e2
    refine ⟨a3', a4'', ?_⟩
    rw [List.map_cons, List.map_cons, forL, if_pos (guards_lst hq)]
    show ((evSs (callN D k) loO [a0, some (.int (t : Int)), some (.ref f), some (tN b), a4, a5] M).bind _) = _
    rw [e1, psR, ← List.append_assoc]
    exact e2
theorem lawOften_ok {k t : Nat} {p : List Nat} {M : Mem} (T : Tn p) (hl : p.length ≤ 400) : callN D (k+2) i__law_often [tN p, .int (t : Int)] M = .ok (tN (powL p t)) M := by
  rw [call_at (d := ⟨2, 6, c__law_often⟩) (b := c__law_often) (ρ := [some (tN p), some (.int (t : Int)), none, none, none, none]) rfl rfl rfl rfl]
  have s0 : evS (callN D (k+1)) (c__law_often.nth 0) [some (tN p), some (.int (t : Int)), none, none, none, none] M = .ok (.nx [some (tN p), some (.int (t : Int)), some (.ref M.length), none, none, none]) (M ++ [.dK []]) := by
    simp [CSs.nth, c__law_often, xss_nil, xss_cons, xe_var, xe_k, xe_gk, xe_bin, xe_neg, xe_not, xe_and, xe_or, xe_ite, xe_cmp, xe_chain, xe_tup, xe_lst, xe_call, xe_callK, xe_bi, xe_isi, xe_meth, xe_ix, xe_sl, xe_rev, xe_dnew, xe_lenset, xs_pass, xs_expr, xs_asg, xs_par, xs_setLc, xs_augS, xs_aug, xs_ret, xs_retN, xs_if, xa_nil, xa_cons, xa_star, xb_val, xb_cmp, xb_chain, xb_not, xb_and, xb_or, xo_none, xo_some, xg_name, xg_tup, xg_sub, xgs_nil, xgs_cons, xi_seq, xi_enum, xi_zip, xt_nil, xt_one, evN, R.bind, R.stm, R.calm, itemW, atI, ixN, biW, storeW, cmpW, bin_add, bin_sub, bin_mod, bin_mul, bin_fdiv, bin_pow, setAll, finW, ofO, seqW, newL, newT, newOb, truthW, mtW, EV.listAt, mo_append_list, mo_pop_list, mo_extend_list, mo_remove_list, mo_count_list, mo_count_tuple, mo_index_list, mo_get_dict, mo_index_tuple, mo_upper_str, mo_isdigit_str, mo_split_str, mo_join_str, ty_list_tuple, ty_list_dict, ty_list_str, ty_tuple_list, ty_tuple_dict, ty_tuple_str, ty_dict_list, ty_dict_tuple, ty_dict_str, ty_str_list, ty_str_tuple, ty_str_dict]
  have hw : callN D (k+1) 8 [tN p] (M ++ [.dK []]) = _ := walked_ok (k := k) (M := M ++ [.dK []]) T (by omega)
  have hln : (M ++ [Ob.dK []]).length = M.length + 1 := by simp
  rw [hln] at hw
  have hq : ((M ++ [Ob.dK []]) ++ [.lst ((rings p).map tN)])[M.length + 1]? = some (.lst ((rings p).map tN)) := by
    have := at0 (M := M ++ [Ob.dK []]) (o0 := .lst ((rings p).map tN)) (g := [])
    rwa [hln] at this
  have hf : ((M ++ [Ob.dK []]) ++ [.lst ((rings p).map tN)])[M.length]? = some (.dK (kv [])) := app_at at0
  have hflat : (rings p).flatten.length = p.length := by rw [(rings_perm T).length_eq, List.length_range]
  obtain ⟨a3', a4', e⟩ := lo_out (k := k+1) (f := M.length) (t := t) (q := M.length + 1) (a0 := some (tN p)) (items := (rings p).map tN) (by omega) (rings p) [] none none none _ hq hf (by
    simp only [List.map_nil, List.nil_append]
    exact (rings_perm T).nodup_iff.mpr List.nodup_range) (by simp only [List.length_nil, hflat]; omega)
  rw [List.nil_append] at e
  generalize hM1 : ((M ++ [Ob.dK []]) ++ [Ob.lst ((rings p).map tN)]).set M.length (.dK (kv (psR t (rings p)))) = M1 at e
  have hf1 : M1[M.length]? = some (.dK (kv (psR t (rings p)))) := by rw [← hM1]; exact set_at hf
  have hsm : Same [] M M1 := ⟨by rw [← hM1]; simp, fun j o _ ho => by
    have := get_lt ho
    rw [← hM1, List.getElem?_set_ne (by omega)]
    exact app_at (app_at ho)⟩
  have s1 : evS (callN D (k+1)) (c__law_often.nth 1) [some (tN p), some (.int (t : Int)), some (.ref M.length), none, none, none] (M ++ [.dK []]) = .ok (.nx [some (tN p), some (.int (t : Int)), some (.ref M.length), a3', a4', none]) M1 := by
    rw [show c__law_often.nth 1 = .forS (.one 3) (.seq (.call 8 (.cons (.var 0) .nil))) loO from rfl, xs_for]
    have hi : evI (callN D (k+1)) (.seq (.call 8 (.cons (.var 0) .nil))) [some (tN p), some (.int (t : Int)), some (.ref M.length), none, none, none] (M ++ [.dK []]) = .ok (((rings p).map tN).map .one, [(M.length + 1, (rings p).map tN)]) ((M ++ [Ob.dK []]) ++ [.lst ((rings p).map tN)]) := by
      simp only [xi_seq, xe_call, xe_var, xa_cons, xa_nil, R.bind, List.getElem?_cons_zero, hw, iterW, seqW, gOf, hq]
    rw [hi]
    exact e
  have hlc : evE (callN D (k+1)) (.lc (.mk (.one 5) (.range (.cons (.bi .len (.cons (.var 0) .nil)) .nil)) .nil [5]) (.ix (.var 2) (.var 5))) [some (tN p), some (.int (t : Int)), some (.ref M.length), a3', a4', none] M1 = .ok (.ref M1.length) (M1 ++ [.lst (iN (powL p t))]) := by
    rw [← made_pow T t]
    refine ev_lcNN (gs := []) (p := List.range p.length) (f := look (psR t (rings p))) (ei_rlen rfl (iN_length p) (by omega)) (fun _ => guards_nil) (fun x hx acc => ?_) (by rw [List.length_range]; omega)
    have hx2 : x ∈ (psR t (rings p)).map (·.1) := by rw [psR_fst]; exact (rings_perm T).mem_iff.mpr hx
    have hg := get_kv hx2
    have hk2 : (M1 ++ [Ob.lst acc])[M.length]? = some (.dK (kv (psR t (rings p)))) := app_at hf1
    simp only [xss_nil, xss_cons, xe_var, xe_k, xe_gk, xe_bin, xe_neg, xe_not, xe_and, xe_or, xe_ite, xe_cmp, xe_chain, xe_tup, xe_lst, xe_call, xe_callK, xe_bi, xe_isi, xe_meth, xe_ix, xe_sl, xe_rev, xe_dnew, xe_lenset, xs_pass, xs_expr, xs_asg, xs_par, xs_setLc, xs_augS, xs_aug, xs_ret, xs_retN, xs_if, xa_nil, xa_cons, xa_star, xb_val, xb_cmp, xb_chain, xb_not, xb_and, xb_or, xo_none, xo_some, xg_name, xg_tup, xg_sub, xgs_nil, xgs_cons, xi_seq, xi_enum, xi_zip, xt_nil, xt_one, evN, R.bind, R.stm, R.calm, itemW, atI, ixN, biW, storeW, cmpW, bin_add, bin_sub, bin_mod, bin_mul, bin_fdiv, bin_pow, setAll, finW, ofO, seqW, newL, newT, newOb, truthW, mtW, EV.listAt, mo_append_list, mo_pop_list, mo_extend_list, mo_remove_list, mo_count_list, mo_count_tuple, mo_index_list, mo_get_dict, mo_index_tuple, mo_upper_str, mo_isdigit_str, mo_split_str, mo_join_str, ty_list_tuple, ty_list_dict, ty_list_str, ty_tuple_list, ty_tuple_dict, ty_tuple_str, ty_dict_list, ty_dict_tuple, ty_dict_str, ty_str_list, ty_str_tuple, ty_str_dict, wipeW, List.set_cons_succ, List.set_cons_zero, List.getElem?_cons_zero, List.getElem?_cons_succ, hk2, toKey, hg]
  have s2 : evS (callN D (k+1)) (c__law_often.nth 2) [some (tN p), some (.int (t : Int)), some (.ref M.length), a3', a4', none] M1 = .ok (.ret (tN (powL p t))) (M1 ++ [.lst (iN (powL p t))]) := by
    show (evE (callN D (k+1)) (.bi .tuple (.cons _ .nil)) _ M1).stm _ _ = _
    rw [xe_bi, xa_cons, hlc]
    simp [R.bind, xa_nil, biW, R.stm]
  show finW M (evSs (callN D (k+1)) (.cons (c__law_often.nth 0) (.cons (c__law_often.nth 1) (.cons (c__law_often.nth 2) .nil))) _ M) = _
  rw [evSs_cons s0, evSs_cons s1, evSs_ret s2]
  exact trim_of_sameT (hsm.trans Same.app) (tN_pure _)
end GD

namespace GD
open PySem PySem.Spec PyProof.Rows L2 EV PM
/-! R72: what is accepted: root -/
def natW : W → Nat
  | .int i => i.toNat
  | _ => 0
def rootB (r t p : W) : Bool := isT r && (numIn 1 1000 t && (isT p && (decide (lenT p = lenT r) && decide (powL (natsT p) (natW t) = natsT r))))
theorem eq_nn {M : Mem} {a b : List Nat} : eqW M (tN a) (tN b) = some (decide (a = b)) := by
  have h := eq_tt (M := M) (a := a.map fun (n : Nat) => (n : Int)) (b := b.map fun (n : Nat) => (n : Int))
  rw [← iN_ints, ← iN_ints] at h
  rw [h]
  congr 1
  by_cases e : a = b
  · subst e; simp
  · rw [decide_eq_false e]
    apply decide_eq_false
    intro c
    apply e
    have h2 : ∀ l : List Nat, (l.map fun (n : Nat) => (n : Int)).map Int.toNat = l := fun l => by
      rw [List.map_map]
      conv => rhs; rw [← List.map_id l]
      apply List.map_congr_left
      intro x _
      simp
    rw [← h2 a, ← h2 b, c]
theorem numIn_nat {t : W} (h : numIn 1 1000 t = true) : ∃ n : Nat, t = .int (n : Int) ∧ 1 ≤ n ∧ n ≤ 1000 := by
  cases t with
  | int i =>
    simp only [numIn, Bool.and_eq_true, decide_eq_true_eq] at h
    exact ⟨i.toNat, by congr 1; omega, by omega, by omega⟩
  | _ => simp [numIn] at h
theorem root_ok {k : Nat} {r t p : W} {M : Mem} (hr : goodT M r = true) (ht : known M t = true) (hp : goodT M p = true) : callN D (k+3) i_root_shown [r, t, p] M = .ok (.bl (rootB r t p)) M := by
  rw [call_at (d := ⟨3, 3, c_root_shown⟩) (b := c_root_shown) (ρ := [some r, some t, some p]) rfl rfl rfl rfl]
  have e1 : callN D (k+2) 21 [r] M = _ := is_row_ok (k := k) (goodT_K hr)
  have e2 : callN D (k+2) 18 [t] M = _ := whole_ok (k := k+1) ht
  have e3 : callN D (k+2) 21 [p] M = _ := is_row_ok (k := k) (goodT_K hp)
  cases h1 : isT r with
  | false => simp [c_root_shown, xss_nil, xss_cons, xe_var, xe_k, xe_gk, xe_bin, xe_neg, xe_not, xe_and, xe_or, xe_ite, xe_cmp, xe_chain, xe_tup, xe_lst, xe_call, xe_callK, xe_bi, xe_isi, xe_meth, xe_ix, xe_sl, xe_rev, xe_dnew, xe_lenset, xs_pass, xs_expr, xs_asg, xs_par, xs_setLc, xs_augS, xs_aug, xs_ret, xs_retN, xs_if, xa_nil, xa_cons, xa_star, xb_val, xb_cmp, xb_chain, xb_not, xb_and, xb_or, xo_none, xo_some, xg_name, xg_tup, xg_sub, xgs_nil, xgs_cons, xi_seq, xi_enum, xi_zip, xt_nil, xt_one, evN, R.bind, R.stm, R.calm, itemW, atI, ixN, biW, storeW, cmpW, bin_add, bin_sub, bin_mod, bin_mul, bin_fdiv, bin_pow, setAll, finW, ofO, seqW, newL, newT, newOb, truthW, mtW, EV.listAt, mo_append_list, mo_pop_list, mo_extend_list, mo_remove_list, mo_count_list, mo_count_tuple, mo_index_list, mo_get_dict, mo_index_tuple, mo_upper_str, mo_isdigit_str, mo_split_str, mo_join_str, ty_list_tuple, ty_list_dict, ty_list_str, ty_tuple_list, ty_tuple_dict, ty_tuple_str, ty_dict_list, ty_dict_tuple, ty_dict_str, ty_str_list, ty_str_tuple, ty_str_dict, e1, h1, rootB, trim_id]
  | true =>
    cases h2 : numIn 1 1000 t with
    | false =>
      cases t with
      | int i =>
        simp only [numIn, Bool.and_eq_false_iff, decide_eq_false_iff_not] at h2
        by_cases h3 : 1 ≤ i
        · have h4 : ¬ i ≤ 1000 := by rcases h2 with z | z; exact absurd h3 z; exact z
          simp [c_root_shown, xss_nil, xss_cons, xe_var, xe_k, xe_gk, xe_bin, xe_neg, xe_not, xe_and, xe_or, xe_ite, xe_cmp, xe_chain, xe_tup, xe_lst, xe_call, xe_callK, xe_bi, xe_isi, xe_meth, xe_ix, xe_sl, xe_rev, xe_dnew, xe_lenset, xs_pass, xs_expr, xs_asg, xs_par, xs_setLc, xs_augS, xs_aug, xs_ret, xs_retN, xs_if, xa_nil, xa_cons, xa_star, xb_val, xb_cmp, xb_chain, xb_not, xb_and, xb_or, xo_none, xo_some, xg_name, xg_tup, xg_sub, xgs_nil, xgs_cons, xi_seq, xi_enum, xi_zip, xt_nil, xt_one, evN, R.bind, R.stm, R.calm, itemW, atI, ixN, biW, storeW, cmpW, bin_add, bin_sub, bin_mod, bin_mul, bin_fdiv, bin_pow, setAll, finW, ofO, seqW, newL, newT, newOb, truthW, mtW, EV.listAt, mo_append_list, mo_pop_list, mo_extend_list, mo_remove_list, mo_count_list, mo_count_tuple, mo_index_list, mo_get_dict, mo_index_tuple, mo_upper_str, mo_isdigit_str, mo_split_str, mo_join_str, ty_list_tuple, ty_list_dict, ty_list_str, ty_tuple_list, ty_tuple_dict, ty_tuple_str, ty_dict_list, ty_dict_tuple, ty_dict_str, ty_str_list, ty_str_tuple, ty_str_dict, e1, e2, h1, isIntW, h3, h4, rootB, numIn, trim_id]
        · simp [c_root_shown, xss_nil, xss_cons, xe_var, xe_k, xe_gk, xe_bin, xe_neg, xe_not, xe_and, xe_or, xe_ite, xe_cmp, xe_chain, xe_tup, xe_lst, xe_call, xe_callK, xe_bi, xe_isi, xe_meth, xe_ix, xe_sl, xe_rev, xe_dnew, xe_lenset, xs_pass, xs_expr, xs_asg, xs_par, xs_setLc, xs_augS, xs_aug, xs_ret, xs_retN, xs_if, xa_nil, xa_cons, xa_star, xb_val, xb_cmp, xb_chain, xb_not, xb_and, xb_or, xo_none, xo_some, xg_name, xg_tup, xg_sub, xgs_nil, xgs_cons, xi_seq, xi_enum, xi_zip, xt_nil, xt_one, evN, R.bind, R.stm, R.calm, itemW, atI, ixN, biW, storeW, cmpW, bin_add, bin_sub, bin_mod, bin_mul, bin_fdiv, bin_pow, setAll, finW, ofO, seqW, newL, newT, newOb, truthW, mtW, EV.listAt, mo_append_list, mo_pop_list, mo_extend_list, mo_remove_list, mo_count_list, mo_count_tuple, mo_index_list, mo_get_dict, mo_index_tuple, mo_upper_str, mo_isdigit_str, mo_split_str, mo_join_str, ty_list_tuple, ty_list_dict, ty_list_str, ty_tuple_list, ty_tuple_dict, ty_tuple_str, ty_dict_list, ty_dict_tuple, ty_dict_str, ty_str_list, ty_str_tuple, ty_str_dict, e1, e2, h1, isIntW, h3, rootB, numIn, trim_id]
      | _ => simp [c_root_shown, xss_nil, xss_cons, xe_var, xe_k, xe_gk, xe_bin, xe_neg, xe_not, xe_and, xe_or, xe_ite, xe_cmp, xe_chain, xe_tup, xe_lst, xe_call, xe_callK, xe_bi, xe_isi, xe_meth, xe_ix, xe_sl, xe_rev, xe_dnew, xe_lenset, xs_pass, xs_expr, xs_asg, xs_par, xs_setLc, xs_augS, xs_aug, xs_ret, xs_retN, xs_if, xa_nil, xa_cons, xa_star, xb_val, xb_cmp, xb_chain, xb_not, xb_and, xb_or, xo_none, xo_some, xg_name, xg_tup, xg_sub, xgs_nil, xgs_cons, xi_seq, xi_enum, xi_zip, xt_nil, xt_one, evN, R.bind, R.stm, R.calm, itemW, atI, ixN, biW, storeW, cmpW, bin_add, bin_sub, bin_mod, bin_mul, bin_fdiv, bin_pow, setAll, finW, ofO, seqW, newL, newT, newOb, truthW, mtW, EV.listAt, mo_append_list, mo_pop_list, mo_extend_list, mo_remove_list, mo_count_list, mo_count_tuple, mo_index_list, mo_get_dict, mo_index_tuple, mo_upper_str, mo_isdigit_str, mo_split_str, mo_join_str, ty_list_tuple, ty_list_dict, ty_list_str, ty_tuple_list, ty_tuple_dict, ty_tuple_str, ty_dict_list, ty_dict_tuple, ty_dict_str, ty_str_list, ty_str_tuple, ty_str_dict, e1, e2, h1, isIntW, rootB, numIn, trim_id]
    | true =>
      obtain ⟨n, rfl, n1, n2⟩ := numIn_nat h2
      have n1' : (1 : Int) ≤ (n : Int) := by omega
      have n2' : (n : Int) ≤ 1000 := by omega
      cases h3 : isT p with
      | false => simp [c_root_shown, xss_nil, xss_cons, xe_var, xe_k, xe_gk, xe_bin, xe_neg, xe_not, xe_and, xe_or, xe_ite, xe_cmp, xe_chain, xe_tup, xe_lst, xe_call, xe_callK, xe_bi, xe_isi, xe_meth, xe_ix, xe_sl, xe_rev, xe_dnew, xe_lenset, xs_pass, xs_expr, xs_asg, xs_par, xs_setLc, xs_augS, xs_aug, xs_ret, xs_retN, xs_if, xa_nil, xa_cons, xa_star, xb_val, xb_cmp, xb_chain, xb_not, xb_and, xb_or, xo_none, xo_some, xg_name, xg_tup, xg_sub, xgs_nil, xgs_cons, xi_seq, xi_enum, xi_zip, xt_nil, xt_one, evN, R.bind, R.stm, R.calm, itemW, atI, ixN, biW, storeW, cmpW, bin_add, bin_sub, bin_mod, bin_mul, bin_fdiv, bin_pow, setAll, finW, ofO, seqW, newL, newT, newOb, truthW, mtW, EV.listAt, mo_append_list, mo_pop_list, mo_extend_list, mo_remove_list, mo_count_list, mo_count_tuple, mo_index_list, mo_get_dict, mo_index_tuple, mo_upper_str, mo_isdigit_str, mo_split_str, mo_join_str, ty_list_tuple, ty_list_dict, ty_list_str, ty_tuple_list, ty_tuple_dict, ty_tuple_str, ty_dict_list, ty_dict_tuple, ty_dict_str, ty_str_list, ty_str_tuple, ty_str_dict, e1, e2, e3, h1, h2, h3, isIntW, n1', n2', rootB, trim_id]
      | true =>
        obtain ⟨a, rfl, Ta, a1, a2⟩ := isT_iff.mp h1
        obtain ⟨b, rfl, Tb, b1, b2⟩ := isT_iff.mp h3
        by_cases h4 : b.length = a.length
        · have e5 : callN D (k+2) 33 [tN b, .int (n : Int)] M = _ := often_ok (k := k) (M := M) (t := n) Tb (by omega) (by omega)
          have e6 := eq_nn (M := M) (a := powL b n) (b := a)
          simp [c_root_shown, xss_nil, xss_cons, xe_var, xe_k, xe_gk, xe_bin, xe_neg, xe_not, xe_and, xe_or, xe_ite, xe_cmp, xe_chain, xe_tup, xe_lst, xe_call, xe_callK, xe_bi, xe_isi, xe_meth, xe_ix, xe_sl, xe_rev, xe_dnew, xe_lenset, xs_pass, xs_expr, xs_asg, xs_par, xs_setLc, xs_augS, xs_aug, xs_ret, xs_retN, xs_if, xa_nil, xa_cons, xa_star, xb_val, xb_cmp, xb_chain, xb_not, xb_and, xb_or, xo_none, xo_some, xg_name, xg_tup, xg_sub, xgs_nil, xgs_cons, xi_seq, xi_enum, xi_zip, xt_nil, xt_one, evN, R.bind, R.stm, R.calm, itemW, atI, ixN, biW, storeW, cmpW, bin_add, bin_sub, bin_mod, bin_mul, bin_fdiv, bin_pow, setAll, finW, ofO, seqW, newL, newT, newOb, truthW, mtW, EV.listAt, mo_append_list, mo_pop_list, mo_extend_list, mo_remove_list, mo_count_list, mo_count_tuple, mo_index_list, mo_get_dict, mo_index_tuple, mo_upper_str, mo_isdigit_str, mo_split_str, mo_join_str, ty_list_tuple, ty_list_dict, ty_list_str, ty_tuple_list, ty_tuple_dict, ty_tuple_str, ty_dict_list, ty_dict_tuple, ty_dict_str, ty_str_list, ty_str_tuple, ty_str_dict, e1, e2, e3, h1, h2, h3, isIntW, n1', n2', iN_length, eq_ii, h4, e5, e6, trim_id, rootB, lenT, natsT_tN, natW]
        · have h5 : ¬ ((b.length : Int) = (a.length : Int)) := by omega
          simp [c_root_shown, xss_nil, xss_cons, xe_var, xe_k, xe_gk, xe_bin, xe_neg, xe_not, xe_and, xe_or, xe_ite, xe_cmp, xe_chain, xe_tup, xe_lst, xe_call, xe_callK, xe_bi, xe_isi, xe_meth, xe_ix, xe_sl, xe_rev, xe_dnew, xe_lenset, xs_pass, xs_expr, xs_asg, xs_par, xs_setLc, xs_augS, xs_aug, xs_ret, xs_retN, xs_if, xa_nil, xa_cons, xa_star, xb_val, xb_cmp, xb_chain, xb_not, xb_and, xb_or, xo_none, xo_some, xg_name, xg_tup, xg_sub, xgs_nil, xgs_cons, xi_seq, xi_enum, xi_zip, xt_nil, xt_one, evN, R.bind, R.stm, R.calm, itemW, atI, ixN, biW, storeW, cmpW, bin_add, bin_sub, bin_mod, bin_mul, bin_fdiv, bin_pow, setAll, finW, ofO, seqW, newL, newT, newOb, truthW, mtW, EV.listAt, mo_append_list, mo_pop_list, mo_extend_list, mo_remove_list, mo_count_list, mo_count_tuple, mo_index_list, mo_get_dict, mo_index_tuple, mo_upper_str, mo_isdigit_str, mo_split_str, mo_join_str, ty_list_tuple, ty_list_dict, ty_list_str, ty_tuple_list, ty_tuple_dict, ty_tuple_str, ty_dict_list, ty_dict_tuple, ty_dict_str, ty_str_list, ty_str_tuple, ty_str_dict, e1, e2, e3, h1, h2, h3, isIntW, n1', n2', iN_length, eq_ii, h4, h5, trim_id, rootB, lenT]
theorem due4_ok {k : Nat} {r t p : W} {M : Mem} (hr : goodT M r = true) (ht : known M t = true) (hp : goodT M p = true) : callN D (k+3) i__law_due__4 [r, t, p] M = .ok (.bl (rootB r t p)) M := by
  rw [call_at (d := ⟨3, 3, c__law_due__4⟩) (b := c__law_due__4) (ρ := [some r, some t, some p]) rfl rfl rfl rfl]
  have e1 : callN D (k+2) 42 [r] M = _ := is_turn_ok (k := k) hr
  have e2 : callN D (k+2) 40 [t, .int 1, .int 1000] M = _ := numIn_ok (k := k+1) ht
  have e3 : callN D (k+2) 42 [p] M = _ := is_turn_ok (k := k) hp
  cases h1 : isT r with
  | false => simp [c__law_due__4, xss_nil, xss_cons, xe_var, xe_k, xe_gk, xe_bin, xe_neg, xe_not, xe_and, xe_or, xe_ite, xe_cmp, xe_chain, xe_tup, xe_lst, xe_call, xe_callK, xe_bi, xe_isi, xe_meth, xe_ix, xe_sl, xe_rev, xe_dnew, xe_lenset, xs_pass, xs_expr, xs_asg, xs_par, xs_setLc, xs_augS, xs_aug, xs_ret, xs_retN, xs_if, xa_nil, xa_cons, xa_star, xb_val, xb_cmp, xb_chain, xb_not, xb_and, xb_or, xo_none, xo_some, xg_name, xg_tup, xg_sub, xgs_nil, xgs_cons, xi_seq, xi_enum, xi_zip, xt_nil, xt_one, evN, R.bind, R.stm, R.calm, itemW, atI, ixN, biW, storeW, cmpW, bin_add, bin_sub, bin_mod, bin_mul, bin_fdiv, bin_pow, setAll, finW, ofO, seqW, newL, newT, newOb, truthW, mtW, EV.listAt, mo_append_list, mo_pop_list, mo_extend_list, mo_remove_list, mo_count_list, mo_count_tuple, mo_index_list, mo_get_dict, mo_index_tuple, mo_upper_str, mo_isdigit_str, mo_split_str, mo_join_str, ty_list_tuple, ty_list_dict, ty_list_str, ty_tuple_list, ty_tuple_dict, ty_tuple_str, ty_dict_list, ty_dict_tuple, ty_dict_str, ty_str_list, ty_str_tuple, ty_str_dict, e1, h1, rootB, trim_id]
  | true =>
    cases h2 : numIn 1 1000 t with
    | false => simp [c__law_due__4, xss_nil, xss_cons, xe_var, xe_k, xe_gk, xe_bin, xe_neg, xe_not, xe_and, xe_or, xe_ite, xe_cmp, xe_chain, xe_tup, xe_lst, xe_call, xe_callK, xe_bi, xe_isi, xe_meth, xe_ix, xe_sl, xe_rev, xe_dnew, xe_lenset, xs_pass, xs_expr, xs_asg, xs_par, xs_setLc, xs_augS, xs_aug, xs_ret, xs_retN, xs_if, xa_nil, xa_cons, xa_star, xb_val, xb_cmp, xb_chain, xb_not, xb_and, xb_or, xo_none, xo_some, xg_name, xg_tup, xg_sub, xgs_nil, xgs_cons, xi_seq, xi_enum, xi_zip, xt_nil, xt_one, evN, R.bind, R.stm, R.calm, itemW, atI, ixN, biW, storeW, cmpW, bin_add, bin_sub, bin_mod, bin_mul, bin_fdiv, bin_pow, setAll, finW, ofO, seqW, newL, newT, newOb, truthW, mtW, EV.listAt, mo_append_list, mo_pop_list, mo_extend_list, mo_remove_list, mo_count_list, mo_count_tuple, mo_index_list, mo_get_dict, mo_index_tuple, mo_upper_str, mo_isdigit_str, mo_split_str, mo_join_str, ty_list_tuple, ty_list_dict, ty_list_str, ty_tuple_list, ty_tuple_dict, ty_tuple_str, ty_dict_list, ty_dict_tuple, ty_dict_str, ty_str_list, ty_str_tuple, ty_str_dict, e1, e2, h1, h2, rootB, trim_id]
    | true =>
      obtain ⟨n, rfl, n1, n2⟩ := numIn_nat h2
      cases h3 : isT p with
      | false => simp [c__law_due__4, xss_nil, xss_cons, xe_var, xe_k, xe_gk, xe_bin, xe_neg, xe_not, xe_and, xe_or, xe_ite, xe_cmp, xe_chain, xe_tup, xe_lst, xe_call, xe_callK, xe_bi, xe_isi, xe_meth, xe_ix, xe_sl, xe_rev, xe_dnew, xe_lenset, xs_pass, xs_expr, xs_asg, xs_par, xs_setLc, xs_augS, xs_aug, xs_ret, xs_retN, xs_if, xa_nil, xa_cons, xa_star, xb_val, xb_cmp, xb_chain, xb_not, xb_and, xb_or, xo_none, xo_some, xg_name, xg_tup, xg_sub, xgs_nil, xgs_cons, xi_seq, xi_enum, xi_zip, xt_nil, xt_one, evN, R.bind, R.stm, R.calm, itemW, atI, ixN, biW, storeW, cmpW, bin_add, bin_sub, bin_mod, bin_mul, bin_fdiv, bin_pow, setAll, finW, ofO, seqW, newL, newT, newOb, truthW, mtW, EV.listAt, mo_append_list, mo_pop_list, mo_extend_list, mo_remove_list, mo_count_list, mo_count_tuple, mo_index_list, mo_get_dict, mo_index_tuple, mo_upper_str, mo_isdigit_str, mo_split_str, mo_join_str, ty_list_tuple, ty_list_dict, ty_list_str, ty_tuple_list, ty_tuple_dict, ty_tuple_str, ty_dict_list, ty_dict_tuple, ty_dict_str, ty_str_list, ty_str_tuple, ty_str_dict, e1, e2, e3, h1, h2, h3, rootB, trim_id]
      | true =>
        obtain ⟨a, rfl, Ta, a1, a2⟩ := isT_iff.mp h1
        obtain ⟨b, rfl, Tb, b1, b2⟩ := isT_iff.mp h3
        by_cases h4 : b.length = a.length
        · have e5 : callN D (k+2) 11 [tN b, .int (n : Int)] M = _ := lawOften_ok (k := k) (M := M) (t := n) Tb (by omega)
          have e6 := eq_nn (M := M) (a := powL b n) (b := a)
          simp [c__law_due__4, xss_nil, xss_cons, xe_var, xe_k, xe_gk, xe_bin, xe_neg, xe_not, xe_and, xe_or, xe_ite, xe_cmp, xe_chain, xe_tup, xe_lst, xe_call, xe_callK, xe_bi, xe_isi, xe_meth, xe_ix, xe_sl, xe_rev, xe_dnew, xe_lenset, xs_pass, xs_expr, xs_asg, xs_par, xs_setLc, xs_augS, xs_aug, xs_ret, xs_retN, xs_if, xa_nil, xa_cons, xa_star, xb_val, xb_cmp, xb_chain, xb_not, xb_and, xb_or, xo_none, xo_some, xg_name, xg_tup, xg_sub, xgs_nil, xgs_cons, xi_seq, xi_enum, xi_zip, xt_nil, xt_one, evN, R.bind, R.stm, R.calm, itemW, atI, ixN, biW, storeW, cmpW, bin_add, bin_sub, bin_mod, bin_mul, bin_fdiv, bin_pow, setAll, finW, ofO, seqW, newL, newT, newOb, truthW, mtW, EV.listAt, mo_append_list, mo_pop_list, mo_extend_list, mo_remove_list, mo_count_list, mo_count_tuple, mo_index_list, mo_get_dict, mo_index_tuple, mo_upper_str, mo_isdigit_str, mo_split_str, mo_join_str, ty_list_tuple, ty_list_dict, ty_list_str, ty_tuple_list, ty_tuple_dict, ty_tuple_str, ty_dict_list, ty_dict_tuple, ty_dict_str, ty_str_list, ty_str_tuple, ty_str_dict, e1, e2, e3, h1, h2, h3, iN_length, eq_ii, h4, e5, e6, trim_id, rootB, lenT, natsT_tN, natW]
        · have h5 : ¬ ((b.length : Int) = (a.length : Int)) := by omega
          simp [c__law_due__4, xss_nil, xss_cons, xe_var, xe_k, xe_gk, xe_bin, xe_neg, xe_not, xe_and, xe_or, xe_ite, xe_cmp, xe_chain, xe_tup, xe_lst, xe_call, xe_callK, xe_bi, xe_isi, xe_meth, xe_ix, xe_sl, xe_rev, xe_dnew, xe_lenset, xs_pass, xs_expr, xs_asg, xs_par, xs_setLc, xs_augS, xs_aug, xs_ret, xs_retN, xs_if, xa_nil, xa_cons, xa_star, xb_val, xb_cmp, xb_chain, xb_not, xb_and, xb_or, xo_none, xo_some, xg_name, xg_tup, xg_sub, xgs_nil, xgs_cons, xi_seq, xi_enum, xi_zip, xt_nil, xt_one, evN, R.bind, R.stm, R.calm, itemW, atI, ixN, biW, storeW, cmpW, bin_add, bin_sub, bin_mod, bin_mul, bin_fdiv, bin_pow, setAll, finW, ofO, seqW, newL, newT, newOb, truthW, mtW, EV.listAt, mo_append_list, mo_pop_list, mo_extend_list, mo_remove_list, mo_count_list, mo_count_tuple, mo_index_list, mo_get_dict, mo_index_tuple, mo_upper_str, mo_isdigit_str, mo_split_str, mo_join_str, ty_list_tuple, ty_list_dict, ty_list_str, ty_tuple_list, ty_tuple_dict, ty_tuple_str, ty_dict_list, ty_dict_tuple, ty_dict_str, ty_str_list, ty_str_tuple, ty_str_dict, e1, e2, e3, h1, h2, h3, iN_length, eq_ii, h4, h5, trim_id, rootB, lenT]
theorem accT_ok {k : Nat} {r t p : W} {M : Mem} (hr : goodT M r = true) (ht : known M t = true) (hp : goodT M p = true) : callN D (k+4) i_accepts [.tup [.str "root", r, t], p] M = .ok (.bl (rootB r t p)) M := by
  rw [call_eq (d := ⟨2, 5, c_accepts⟩) rfl rfl]
  have e1 : callN D (k+3) 34 [r, t, p] M = _ := root_ok (k := k) hr ht hp
  have k1 : known M (.tup [.str "root", r, t]) = true := rfl
  have k2 : known M (.str "root") = true := rfl
  have w1 : eqW M (.str "root") (.str "ring") = some false := word_ne (by decide +kernel) (by decide +kernel) (by decide +kernel)
  have w2 : eqW M (.str "root") (.str "no ring") = some false := word_ne (by decide +kernel) (by decide +kernel) (by decide +kernel)
  have w3 : eqW M (.str "root") (.str "completed") = some false := word_ne (by decide +kernel) (by decide +kernel) (by decide +kernel)
  have w4 : eqW M (.str "root") (.str "count") = some false := word_ne (by decide +kernel) (by decide +kernel) (by decide +kernel)
  have w5 : eqW M (.str "root") (.str "root") = some true := word_eq (by decide +kernel)
  simp [c_accepts, xss_nil, xss_cons, xe_var, xe_k, xe_gk, xe_bin, xe_neg, xe_not, xe_and, xe_or, xe_ite, xe_cmp, xe_chain, xe_tup, xe_lst, xe_call, xe_callK, xe_bi, xe_isi, xe_meth, xe_ix, xe_sl, xe_rev, xe_dnew, xe_lenset, xs_pass, xs_expr, xs_asg, xs_par, xs_setLc, xs_augS, xs_aug, xs_ret, xs_retN, xs_if, xa_nil, xa_cons, xa_star, xb_val, xb_cmp, xb_chain, xb_not, xb_and, xb_or, xo_none, xo_some, xg_name, xg_tup, xg_sub, xgs_nil, xgs_cons, xi_seq, xi_enum, xi_zip, xt_nil, xt_one, evN, R.bind, R.stm, R.calm, itemW, atI, ixN, biW, storeW, cmpW, bin_add, bin_sub, bin_mod, bin_mul, bin_fdiv, bin_pow, setAll, finW, ofO, seqW, newL, newT, newOb, truthW, mtW, EV.listAt, mo_append_list, mo_pop_list, mo_extend_list, mo_remove_list, mo_count_list, mo_count_tuple, mo_index_list, mo_get_dict, mo_index_tuple, mo_upper_str, mo_isdigit_str, mo_split_str, mo_join_str, ty_list_tuple, ty_list_dict, ty_list_str, ty_tuple_list, ty_tuple_dict, ty_tuple_str, ty_dict_list, ty_dict_tuple, ty_dict_str, ty_str_list, ty_str_tuple, ty_str_dict, isi_tuple k1, isTupW, isi_str k2, isStrW, eq_ii, w1, w2, w3, w4, w5, e1, trim_id]
end GD

namespace GD
open PySem PySem.Spec PyProof.Rows L2 EV PM
theorem Gr.known {r C : Nat} {M M1 : Mem} {w : W} (a : Gr r C M M1) (h : known M w = true) : known M1 w = true := by
  obtain ⟨o, g, rfl, v⟩ := a
  exact known_app (known_set v.lst h)
abbrev r72 : CSs := CS.bd (c__law_right__5.nth 0)
abbrev r72s : CSs := CS.bd (r72.nth 4)
abbrev r72c : CSs := CS.bd (r72s.nth 2)
abbrev r72p : CSs := CS.bd (r72c.nth 0)
theorem p72 {k : Nat} {a0 a1 a2 a3 a4 a5 a6 a7 : Option W} {Rw t x : W} {M : Mem} (hR : goodT M Rw = true) (ht : known M t = true) (hx : goodT M x = true) :
    evSs (callN D (k+4)) r72p [a0, a1, a2, a3, a4, a5, a6, a7, some (.tup [.str "root", Rw, t]), some x] M = .ok (.nx [a0, a1, a2, a3, a4, a5, a6, a7, some (.tup [.str "root", Rw, t]), some x]) M := by
  have e1 : callN D (k+4) 55 [Rw, t, x] M = _ := due4_ok (k := k+1) hR ht hx
  have e2 : callN D (k+4) 35 [.tup [.str "root", Rw, t], x] M = _ := accT_ok (k := k) hR ht hx
  have i1 : atI [W.str "root", Rw, t] 1 = some Rw := rfl
  have i2 : atI [W.str "root", Rw, t] 2 = some t := rfl
  have rp := repr_bl (M := M) (rootB Rw t x)
  have rs := repr_same (M := M) (rootB Rw t x)
  simp only [r72p, r72c, r72s, r72, CS.bd, CSs.nth, c__law_right__5, xss_cons, xss_nil, xs_if, xe_call, xe_ix, xe_var, xe_k, xe_bi, xa_cons, xa_nil, xb_cmp, R.bind, R.stm, R.calm, itemW, i1, i2, ofO, List.getElem?_cons_zero, List.getElem?_cons_succ, e1, e2, rp, rs, Bool.false_eq_true, if_false]
/-- the papers for one claim, drawn -/
theorem c72 {k r C n : Nat} {a3 a5 a6 a7 : Option W} {p w : List Nat} {Rw t : W} {M : Mem} (h : Vat M r C) (hC : C ≤ 500000000) (n1 : 1 ≤ n) (n2 : n ≤ 40) (Tp : Tn p) (lp : p.length = n) (lw : w.length = n) (hR : goodT M Rw = true) (ht : known M t = true) (a9 : Option W) :
    ∃ b9 M', evSs (callN D (k+4)) r72c [some (.ref r), some (.int (n : Int)), some (tN p), a3, some (tN w), a5, a6, a7, some (.tup [.str "root", Rw, t]), a9] M = .ok (.nx [some (.ref r), some (.int (n : Int)), some (tN p), a3, some (tN w), a5, a6, a7, some (.tup [.str "root", Rw, t]), b9]) M' ∧ Gr r (C + 10) M M' := by
  have hr := h.lt
  have hz : sizeLine = 16777216 := sizeLine_eq
  obtain ⟨x1, M1, e1, g1, G1⟩ := bent_ok (k := k+1) (p := p) h (by omega) Tp (by omega) (by omega)
  have e1 : callN D (k+4) 44 [.ref r, tN p] M = _ := e1
  have V1 := G1.vat hr
  obtain ⟨x2, M2, e2, g2, G2⟩ := odd_turn_ok (k := k+1) (n := n) V1 (by omega) n1 n2
  have e2 : callN D (k+4) 51 [.ref r, .int (n : Int)] M1 = _ := e2
  have G12 := G1.trans hr G2
  generalize hps : ([tN p, x1, tN w, x2] : List W) = ps
  have hpl : ps.length = 4 := by rw [← hps]; rfl
  have hi : evI (callN D (k+4)) (.seq (.lst (.cons (.var 2) (.cons (.call 44 (.cons (.var 0) (.cons (.var 2) .nil))) (.cons (.var 4) (.cons (.call 51 (.cons (.var 0) (.cons (.var 1) .nil))) .nil)))))) [some (.ref r), some (.int (n : Int)), some (tN p), a3, some (tN w), a5, a6, a7, some (.tup [.str "root", Rw, t]), a9] M = .ok (ps.map .one, [(M2.length, ps)]) (M2 ++ [.lst ps]) := by
    simp only [xi_seq, xe_lst, xe_call, xe_var, xa_cons, xa_nil, R.bind, newOb, newL, List.getElem?_cons_zero, List.getElem?_cons_succ, e1, e2, hps]
    rw [if_pos (show ps.length ≤ sizeLine by rw [hpl, hz]; omega)]
    simp only [iterW, seqW, gOf, at0]
  have hg : ∀ x ∈ ps, goodT M2 x = true := fun x hx => by
    rw [← hps] at hx
    simp only [List.mem_cons, List.mem_nil_iff, or_false] at hx
    rcases hx with rfl | rfl | rfl | rfl
    · exact good_tN (by omega)
    · exact G2.good g1
    · exact good_tN (by omega)
    · exact g2
  obtain ⟨ρ', M', e, ⟨b9, h1⟩, h2⟩ := forL_inv (g := evN (.one 9)) (body := evSs (callN D (k+4)) r72p) (gs := [(M2.length, ps)]) (Inv := fun ρ M' => (∃ b9, ρ = [some (.ref r), some (.int (n : Int)), some (tN p), a3, some (tN w), a5, a6, a7, some (.tup [.str "root", Rw, t]), b9]) ∧ M' = M2 ++ [.lst ps]) (fun ρ M' h => by rw [h.2]; exact guards_lst at0) (ps.map .one) [some (.ref r), some (.int (n : Int)), some (tN p), a3, some (tN w), a5, a6, a7, some (.tup [.str "root", Rw, t]), a9] (M2 ++ [.lst ps]) (fun x hx ρ M' hI => by
    obtain ⟨v, hv, rfl⟩ := List.mem_map.mp hx
    obtain ⟨⟨b9, rfl⟩, rfl⟩ := hI
    exact ⟨_, _, _, _, rfl, p72 (k := k) (good_app (G12.good hR)) (known_app (G12.known ht)) (good_app (hg v hv)), ⟨_, rfl⟩, rfl⟩) ⟨⟨_, rfl⟩, rfl⟩
  refine ⟨b9, M2 ++ [.lst ps], ?_, (G12.app).more (by omega)⟩
  rw [h1, h2] at e
  have s0 : evS (callN D (k+4)) (r72c.nth 0) [some (.ref r), some (.int (n : Int)), some (tN p), a3, some (tN w), a5, a6, a7, some (.tup [.str "root", Rw, t]), a9] M = .ok (.nx [some (.ref r), some (.int (n : Int)), some (tN p), a3, some (tN w), a5, a6, a7, some (.tup [.str "root", Rw, t]), b9]) (M2 ++ [.lst ps]) := by
    rw [show r72c.nth 0 = .forS (.one 9) (.seq (.lst (.cons (.var 2) (.cons (.call 44 (.cons (.var 0) (.cons (.var 2) .nil))) (.cons (.var 4) (.cons (.call 51 (.cons (.var 0) (.cons (.var 1) .nil))) .nil)))))) r72p from rfl, xs_for, hi]
    exact e
  show evSs (callN D (k+4)) (.cons (r72c.nth 0) .nil) _ M = _
  rw [evSs_cons s0, evSs]
end GD

namespace GD
open PySem PySem.Spec PyProof.Rows L2 EV PM
def tmen (t : Nat) : List W := [.int ((t : Int) + 1), .int ((t : Int) * 2), .int 0, .int (-1), .int 1001, .non, .bl true, .str "2", .tup [.int 2], .int ((10 : Int) ^ (40 : Int).toNat), .int 1, .int 1000]
theorem tmen_known {M : Mem} {t : Nat} {w : W} (h : w ∈ tmen t) : known M w = true := by
  simp only [tmen, List.mem_cons, List.mem_nil_iff, or_false] at h
  rcases h with rfl | rfl | rfl | rfl | rfl | rfl | rfl | rfl | rfl | rfl | rfl | rfl <;> rfl
theorem far72 {k r C t : Nat} {a1 a2 a4 a5 a6 a7 a8 a9 : Option W} {M : Mem} (h : Vat M r C) (hC : C ≤ 500000000) (ht : t ≤ 1000) :
    ∃ (A : W) (M' : Mem), evS (callN D (k+4)) (r72s.nth 0) [some (.ref r), a1, a2, some (.int (t : Int)), a4, a5, a6, a7, a8, a9] M = .ok (.nx [some (.ref r), a1, a2, some (.int (t : Int)), a4, a5, some A, a7, a8, a9]) M' ∧ known M' A = true ∧ Gr r (C + 1) M M' := by
  have hr := h.lt
  have hz : sizeLine = 16777216 := sizeLine_eq
  obtain ⟨A, o, hA, e, v⟩ := of_ok (k := k+2) (q := M.length) (xs := tmen t) (h.app (g := [.lst (tmen t)])) (by omega) at0 (by omega) (by simp [tmen]) (by simp [tmen])
  have e : callN D (k+4) 13 [.ref r, .ref M.length] (M ++ [.lst (tmen t)]) = _ := e
  refine ⟨A, (M ++ [Ob.lst (tmen t)]).set r o, ?_, tmen_known hA, ⟨o, [.lst (tmen t)], List.set_append_left r o hr, v⟩⟩
  have m1 : mulOk (t : Int) 2 := mulOk_of (by omega) (by decide)
  have hm : tmen t = [.int ((t : Int) + 1), .int ((t : Int) * 2), .int 0, .int (-1), .int 1001, .non, .bl true, .str "2", .tup [.int 2], .int ((10 : Int) ^ (40 : Int).toNat), .int 1, .int 1000] := rfl
  have p1 : ∀ M, binW .Pow (.int 10) (.int 40) M = .ok (.int ((10 : Int) ^ (40 : Int).toNat)) M := fun M => bin_pow (by decide) (by decide) (by decide)
  have z1 : ([W.int 2]).length ≤ sizeLine := by rw [hz]; simp
  simp only [r72s, r72, CS.bd, CSs.nth, c__law_right__5, xs_asg, xe_call, xe_lst, xe_tup, xe_bin, xe_neg, xe_k, xe_var, xa_cons, xa_nil, xg_name, R.bind, R.stm, R.calm, bin_add, bin_mul m1, p1, newOb, newL, newT, if_pos z1, List.getElem?_cons_zero, List.getElem?_cons_succ, List.set_cons_succ, List.set_cons_zero, ← hm]
  rw [if_pos (show (tmen t).length ≤ sizeLine by rw [hz]; simp [tmen])]
  simp only [e]
theorem step72 {k r C n t : Nat} {p w : List Nat} {M : Mem} (h : Vat M r C) (hC : C ≤ 400000000) (n1 : 1 ≤ n) (n2 : n ≤ 40) (ht : t ≤ 1000) (Tp : Tn p) (Tw : Tn w) (lp : p.length = n) (lw : w.length = n) (a5 a6 a7 a8 a9 : Option W) :
    ∃ b6 b7 b8 b9 M', evSs (callN D (k+4)) r72s [some (.ref r), some (.int (n : Int)), some (tN p), some (.int (t : Int)), some (tN w), a5, a6, a7, a8, a9] M = .ok (.nx [some (.ref r), some (.int (n : Int)), some (tN p), some (.int (t : Int)), some (tN w), a5, b6, b7, b8, b9]) M' ∧ Gr r (C + 100) M M' := by
  have hr := h.lt
  have hz : sizeLine = 16777216 := sizeLine_eq
  obtain ⟨A, M1, s0, gA, G1⟩ := far72 (k := k) (t := t) (a1 := some (.int (n : Int))) (a2 := some (tN p)) (a4 := some (tN w)) (a5 := a5) (a6 := a6) (a7 := a7) (a8 := a8) (a9 := a9) h (by omega) ht
  have V1 := G1.vat hr
  obtain ⟨B, M2, e2, gB, G2⟩ := bent_ok (k := k+1) (p := w) V1 (by omega) Tw (by omega) (by omega)
  have e2 : callN D (k+4) 44 [.ref r, tN w] M1 = _ := e2
  have V2 := G2.vat V1.lt
  have s1 : evS (callN D (k+4)) (r72s.nth 1) [some (.ref r), some (.int (n : Int)), some (tN p), some (.int (t : Int)), some (tN w), a5, some A, a7, a8, a9] M1 = .ok (.nx [some (.ref r), some (.int (n : Int)), some (tN p), some (.int (t : Int)), some (tN w), a5, some A, some B, a8, a9]) M2 := by
    simp only [r72s, r72, CS.bd, CSs.nth, c__law_right__5, xss_nil, xss_cons, xe_var, xe_k, xe_gk, xe_bin, xe_neg, xe_not, xe_and, xe_or, xe_ite, xe_cmp, xe_chain, xe_tup, xe_lst, xe_call, xe_callK, xe_bi, xe_isi, xe_meth, xe_ix, xe_sl, xe_rev, xe_dnew, xe_lenset, xs_pass, xs_expr, xs_asg, xs_par, xs_setLc, xs_augS, xs_aug, xs_ret, xs_retN, xs_if, xa_nil, xa_cons, xa_star, xb_val, xb_cmp, xb_chain, xb_not, xb_and, xb_or, xo_none, xo_some, xg_name, xg_tup, xg_sub, xgs_nil, xgs_cons, xi_seq, xi_enum, xi_zip, xt_nil, xt_one, evN, R.bind, R.stm, R.calm, itemW, atI, ixN, biW, storeW, cmpW, bin_add, bin_sub, bin_mod, bin_mul, bin_fdiv, bin_pow, setAll, finW, ofO, seqW, newL, newT, newOb, truthW, mtW, EV.listAt, mo_append_list, mo_pop_list, mo_extend_list, mo_remove_list, mo_count_list, mo_count_tuple, mo_index_list, mo_get_dict, mo_index_tuple, mo_upper_str, mo_isdigit_str, mo_split_str, mo_join_str, ty_list_tuple, ty_list_dict, ty_list_str, ty_tuple_list, ty_tuple_dict, ty_tuple_str, ty_dict_list, ty_dict_tuple, ty_dict_str, ty_str_list, ty_str_tuple, ty_str_dict, List.getElem?_cons_zero, List.getElem?_cons_succ, List.set_cons_succ, List.set_cons_zero, e2]
  generalize hcs : ([.tup [.str "root", tN w, A], .tup [.str "root", B, .int (t : Int)], .tup [.str "root", tN w, .int (t : Int)]] : List W) = cs
  have hcl : cs.length = 3 := by rw [← hcs]; rfl
  have hi : evI (callN D (k+4)) (.seq (.lst (.cons (.tup (.cons (.k (.str "root")) (.cons (.var 4) (.cons (.var 6) .nil)))) (.cons (.tup (.cons (.k (.str "root")) (.cons (.var 7) (.cons (.var 3) .nil)))) (.cons (.tup (.cons (.k (.str "root")) (.cons (.var 4) (.cons (.var 3) .nil)))) .nil))))) [some (.ref r), some (.int (n : Int)), some (tN p), some (.int (t : Int)), some (tN w), a5, some A, some B, a8, a9] M2 = .ok (cs.map .one, [(M2.length, cs)]) (M2 ++ [.lst cs]) := by
    have z : ∀ a b c : W, ([a, b, c]).length ≤ sizeLine := fun a b c => by rw [hz]; simp
    simp only [xi_seq, xe_lst, xe_tup, xe_k, xe_var, xa_cons, xa_nil, R.bind, newOb, newL, newT, if_pos (z _ _ _), List.getElem?_cons_zero, List.getElem?_cons_succ, hcs]
    rw [if_pos (show cs.length ≤ sizeLine by rw [hcl, hz]; omega)]
    simp only [iterW, seqW, gOf, at0]
  have hVb : Vat (M2 ++ [Ob.lst cs]) r (C + 5) := V2.app
  have hrb := hVb.lt
  have hq : (M2 ++ [Ob.lst cs])[M2.length]? = some (.lst cs) := at0
  obtain ⟨ρ', M', e, ⟨b8, b9, h1⟩, h2⟩ := forL_ix (g := evN (.one 8)) (body := evSs (callN D (k+4)) r72c) (gs := [(M2.length, cs)]) (Inv := fun j ρ M' => (∃ b8 b9, ρ = [some (.ref r), some (.int (n : Int)), some (tN p), some (.int (t : Int)), some (tN w), a5, some A, some B, b8, b9]) ∧ Gr r (C + 5 + 10 * j) (M2 ++ [Ob.lst cs]) M') (fun _ _ M' hI => guards_lst (hI.2.at (by have := V2.lt; omega) hq)) (cs.map .one) 0 [some (.ref r), some (.int (n : Int)), some (tN p), some (.int (t : Int)), some (tN w), a5, some A, some B, a8, a9] (M2 ++ [Ob.lst cs]) (fun i x hx ρ M3 hI => by
    have hi3 : i < 3 := by have := (List.getElem?_eq_some_iff.mp hx).1; simp [hcl] at this; omega
    have hx2 : x ∈ cs.map Itm.one := List.mem_of_getElem? hx
    obtain ⟨v, hv, rfl⟩ := List.mem_map.mp hx2
    obtain ⟨⟨b8, b9, rfl⟩, hG⟩ := hI
    have hgc : ∃ F' S', v = .tup [.str "root", F', S'] ∧ goodT M2 F' = true ∧ known M2 S' = true := by
      rw [← hcs] at hv
      simp only [List.mem_cons, List.mem_nil_iff, or_false] at hv
      rcases hv with rfl | rfl | rfl
      · exact ⟨_, _, rfl, good_tN (by omega), G2.known gA⟩
      · exact ⟨_, _, rfl, gB, rfl⟩
      · exact ⟨_, _, rfl, good_tN (by omega), rfl⟩
    obtain ⟨F', S', rfl, g1, g2⟩ := hgc
    obtain ⟨c9, M4, ec, Gc⟩ := c72 (k := k) (a3 := some (.int (t : Int))) (a5 := a5) (a6 := some A) (a7 := some B) (w := w) (hG.vat hrb) (by omega) n1 n2 Tp lp lw (hG.good (good_app g1)) (hG.known (known_app g2)) b9
    exact ⟨_, _, _, _, rfl, ec, ⟨_, _, rfl⟩, (hG.trans hrb Gc).more (by omega)⟩) ⟨⟨_, _, rfl⟩, by
      obtain ⟨o, ho, vo⟩ := hVb
      refine ⟨o, [], ?_, vo⟩
      rw [List.append_nil]
      apply List.ext_getElem?
      intro j
      by_cases ej : j = r
      · subst ej; rw [List.getElem?_set_self hrb, ho]
      · rw [List.getElem?_set_ne (Ne.symm ej)]⟩
  have hlen : 0 + (cs.map Itm.one).length = 3 := by simp [hcl]
  rw [hlen] at h2
  rw [h1] at e
  have s2 : evS (callN D (k+4)) (r72s.nth 2) [some (.ref r), some (.int (n : Int)), some (tN p), some (.int (t : Int)), some (tN w), a5, some A, some B, a8, a9] M2 = .ok (.nx [some (.ref r), some (.int (n : Int)), some (tN p), some (.int (t : Int)), some (tN w), a5, some A, some B, b8, b9]) M' := by
    rw [show r72s.nth 2 = .forS (.one 8) (.seq (.lst (.cons (.tup (.cons (.k (.str "root")) (.cons (.var 4) (.cons (.var 6) .nil)))) (.cons (.tup (.cons (.k (.str "root")) (.cons (.var 7) (.cons (.var 3) .nil)))) (.cons (.tup (.cons (.k (.str "root")) (.cons (.var 4) (.cons (.var 3) .nil)))) .nil))))) r72c from rfl, xs_for, hi]
    exact e
  refine ⟨some A, some B, b8, b9, M', ?_, ?_⟩
  · show evSs (callN D (k+4)) (.cons (r72s.nth 0) (.cons (r72s.nth 1) (.cons (r72s.nth 2) .nil))) _ M = _
    rw [evSs_cons s0, evSs_cons s1, evSs_cons s2, evSs]
  · exact (((G1.trans hr G2).app).trans hr h2).more (by omega)
end GD

namespace GD
open PySem PySem.Spec PyProof.Rows L2 EV PM
/-- a drawn turn of so many seats -/
theorem drawn_ok {k r C n : Nat} {M : Mem} (h : Vat M r C) (hC : C ≤ 600000000) (n1 : 1 ≤ n) (n2 : n ≤ 40) :
    ∃ (L p : List Nat) (o1 o2 : Ob), callN D (k+3) 4 [.ref r, .int (n : Int)] M = .ok (tN L) (M.set r o1) ∧ callN D (k+3) 3 [.ref r, tN L] (M.set r o1) = .ok (tN p) (M.set r o2) ∧ Tn p ∧ p.length = n ∧ VatO o2 (C + 100) := by
  have hr := h.lt
  obtain ⟨ys, o1, e1, y1, y2, y3, v1⟩ := lots_ok (k := k+1) (size := (n : Int)) h (by omega) (by omega) (by omega)
  have hpos : ∀ y ∈ (sortI ys).reverse, 0 ≤ y := fun y hy => by
    have := y2 y (mem_sortI.mp (List.mem_reverse.mp hy))
    omega
  rw [tN_ints hpos] at e1
  generalize hL : (sortI ys).reverse.map Int.toNat = L at e1
  have hLs : L.sum = n := by
    have := sum_nat hpos
    rw [hL] at this
    have hs : (sortI ys).reverse.sum = ys.sum := perm_sum ((List.reverse_perm _).trans (sortI_perm ys))
    omega
  have V1 := Vat.of hr v1
  obtain ⟨S1, o2, e2, p2, v2⟩ := turn_ok (k := k) (L := L) V1 (by omega) (by omega)
  rw [hLs] at e2 p2 v2
  rw [List.set_set] at e2
  have T1 : Tn (madeT (psOf L S1) n) := made_tn (by rw [ps_fst (by rw [hLs]; simpa using p2.length_eq.symm)]; exact p2) ((ps_snd (by rw [hLs]; simpa using p2.length_eq.symm)).trans p2)
  exact ⟨L, madeT (psOf L S1) n, o1, o2, e1, e2, T1, made_len, v2.more (by omega)⟩
theorem size72 {k r C n : Nat} {M : Mem} (h : Vat M r C) (hC : C ≤ 300000000) (n1 : 1 ≤ n) (n2 : n ≤ 40) (a2 a3 a4 a5 a6 a7 a8 a9 : Option W) :
    ∃ b2 b3 b4 b5 b6 b7 b8 b9 M', evSs (callN D (k+4)) r72 [some (.ref r), some (.int (n : Int)), a2, a3, a4, a5, a6, a7, a8, a9] M = .ok (.nx [some (.ref r), some (.int (n : Int)), b2, b3, b4, b5, b6, b7, b8, b9]) M' ∧ Gr r (C + 1000) M M' := by
  have hr := h.lt
  have hz : sizeLine = 16777216 := sizeLine_eq
  obtain ⟨L, p, o1, o2, e1, e2, Tp, lp, v2⟩ := drawn_ok (k := k+1) h (by omega) n1 n2
  have V2 := Vat.of hr v2
  have s0 : evS (callN D (k+4)) (r72.nth 0) [some (.ref r), some (.int (n : Int)), a2, a3, a4, a5, a6, a7, a8, a9] M = .ok (.nx [some (.ref r), some (.int (n : Int)), some (tN p), a3, a4, a5, a6, a7, a8, a9]) (M.set r o2) := by
    simp only [r72, CS.bd, CSs.nth, c__law_right__5, xss_nil, xss_cons, xe_var, xe_k, xe_gk, xe_bin, xe_neg, xe_not, xe_and, xe_or, xe_ite, xe_cmp, xe_chain, xe_tup, xe_lst, xe_call, xe_callK, xe_bi, xe_isi, xe_meth, xe_ix, xe_sl, xe_rev, xe_dnew, xe_lenset, xs_pass, xs_expr, xs_asg, xs_par, xs_setLc, xs_augS, xs_aug, xs_ret, xs_retN, xs_if, xa_nil, xa_cons, xa_star, xb_val, xb_cmp, xb_chain, xb_not, xb_and, xb_or, xo_none, xo_some, xg_name, xg_tup, xg_sub, xgs_nil, xgs_cons, xi_seq, xi_enum, xi_zip, xt_nil, xt_one, evN, R.bind, R.stm, R.calm, itemW, atI, ixN, biW, storeW, cmpW, bin_add, bin_sub, bin_mod, bin_mul, bin_fdiv, bin_pow, setAll, finW, ofO, seqW, newL, newT, newOb, truthW, mtW, EV.listAt, mo_append_list, mo_pop_list, mo_extend_list, mo_remove_list, mo_count_list, mo_count_tuple, mo_index_list, mo_get_dict, mo_index_tuple, mo_upper_str, mo_isdigit_str, mo_split_str, mo_join_str, ty_list_tuple, ty_list_dict, ty_list_str, ty_tuple_list, ty_tuple_dict, ty_tuple_str, ty_dict_list, ty_dict_tuple, ty_dict_str, ty_str_list, ty_str_tuple, ty_str_dict, List.getElem?_cons_zero, List.getElem?_cons_succ, List.set_cons_succ, List.set_cons_zero, e1, e2]
  obtain ⟨m, o3, e3, m0, m1, v3⟩ := dip_ok (k := k+3) (n := 1000) V2 (by omega) (by omega) (by omega)
  rw [List.set_set] at e3
  have e3 : callN D (k+4) 1 [.ref r, .int 1000] (M.set r o2) = _ := e3
  have V3 := Vat.of hr v3
  obtain ⟨m, rfl⟩ := Int.eq_ofNat_of_zero_le m0
  generalize hme : ([.int 1, .int 2, .int 3, .int 1000, .int (1 + (m : Int))] : List W) = me
  have hml : me.length = 5 := by rw [← hme]; rfl
  obtain ⟨w4, o4, hw4, e4, v4⟩ := of_ok (k := k+2) (q := M.length) (xs := me) (V3.app (g := [.lst me])) (by omega) (by have := at0 (M := M.set r o3) (o0 := .lst me) (g := []); rwa [List.length_set] at this) (by omega) (by omega) (by omega)
  have e4 : callN D (k+4) 13 [.ref r, .ref M.length] (M.set r o3 ++ [.lst me]) = _ := e4
  have hset : (M.set r o3 ++ [Ob.lst me]).set r o4 = M.set r o4 ++ [.lst me] := by rw [List.set_append_left r o4 (by simpa using hr), List.set_set]
  rw [hset] at e4
  obtain ⟨t, rfl, t1, t2⟩ : ∃ t : Nat, w4 = .int (t : Int) ∧ 1 ≤ t ∧ t ≤ 1000 := by
    rw [← hme] at hw4
    simp only [List.mem_cons, List.mem_nil_iff, or_false] at hw4
    rcases hw4 with rfl | rfl | rfl | rfl | rfl
    · exact ⟨1, rfl, by omega, by omega⟩
    · exact ⟨2, rfl, by omega, by omega⟩
    · exact ⟨3, rfl, by omega, by omega⟩
    · exact ⟨1000, rfl, by omega, by omega⟩
    · exact ⟨1 + m, by congr 1, by omega, by omega⟩
  have s1 : evS (callN D (k+4)) (r72.nth 1) [some (.ref r), some (.int (n : Int)), some (tN p), a3, a4, a5, a6, a7, a8, a9] (M.set r o2) = .ok (.nx [some (.ref r), some (.int (n : Int)), some (tN p), some (.int (t : Int)), a4, a5, a6, a7, a8, a9]) (M.set r o4 ++ [.lst me]) := by
    simp only [r72, CS.bd, CSs.nth, c__law_right__5, xs_asg, xe_call, xe_lst, xe_bin, xe_k, xe_var, xa_cons, xa_nil, xg_name, R.bind, R.stm, R.calm, bin_add, newOb, newL, List.getElem?_cons_zero, List.getElem?_cons_succ, List.set_cons_succ, List.set_cons_zero, e3, List.length_set, hme]
    rw [if_pos (show me.length ≤ sizeLine by rw [hml, hz]; omega)]
    simp only [e4]
  generalize hM4 : M.set r o4 ++ [Ob.lst me] = M4 at s1
  have G4 : Gr r (C + 110) M M4 := ⟨o4, [.lst me], hM4.symm, v4.more (by omega)⟩
  have e5 : callN D (k+4) 11 [tN p, .int (t : Int)] M4 = _ := lawOften_ok (k := k+2) (M := M4) (t := t) Tp (by omega)
  have s2 : evS (callN D (k+4)) (r72.nth 2) [some (.ref r), some (.int (n : Int)), some (tN p), some (.int (t : Int)), a4, a5, a6, a7, a8, a9] M4 = .ok (.nx [some (.ref r), some (.int (n : Int)), some (tN p), some (.int (t : Int)), some (tN (powL p t)), a5, a6, a7, a8, a9]) M4 := by
    simp only [r72, CS.bd, CSs.nth, c__law_right__5, xss_nil, xss_cons, xe_var, xe_k, xe_gk, xe_bin, xe_neg, xe_not, xe_and, xe_or, xe_ite, xe_cmp, xe_chain, xe_tup, xe_lst, xe_call, xe_callK, xe_bi, xe_isi, xe_meth, xe_ix, xe_sl, xe_rev, xe_dnew, xe_lenset, xs_pass, xs_expr, xs_asg, xs_par, xs_setLc, xs_augS, xs_aug, xs_ret, xs_retN, xs_if, xa_nil, xa_cons, xa_star, xb_val, xb_cmp, xb_chain, xb_not, xb_and, xb_or, xo_none, xo_some, xg_name, xg_tup, xg_sub, xgs_nil, xgs_cons, xi_seq, xi_enum, xi_zip, xt_nil, xt_one, evN, R.bind, R.stm, R.calm, itemW, atI, ixN, biW, storeW, cmpW, bin_add, bin_sub, bin_mod, bin_mul, bin_fdiv, bin_pow, setAll, finW, ofO, seqW, newL, newT, newOb, truthW, mtW, EV.listAt, mo_append_list, mo_pop_list, mo_extend_list, mo_remove_list, mo_count_list, mo_count_tuple, mo_index_list, mo_get_dict, mo_index_tuple, mo_upper_str, mo_isdigit_str, mo_split_str, mo_join_str, ty_list_tuple, ty_list_dict, ty_list_str, ty_tuple_list, ty_tuple_dict, ty_tuple_str, ty_dict_list, ty_dict_tuple, ty_dict_str, ty_str_list, ty_str_tuple, ty_str_dict, List.getElem?_cons_zero, List.getElem?_cons_succ, List.set_cons_succ, List.set_cons_zero, e5]
  have Tw := powL_tn Tp t
  have lw : (powL p t).length = n := by rw [powL_len, lp]
  have e6 : callN D (k+4) 35 [.tup [.str "root", tN (powL p t), .int (t : Int)], tN p] M4 = _ := accT_ok (k := k) (M := M4) (good_tN (by omega)) rfl (good_tN (by omega))
  have hroot : rootB (tN (powL p t)) (.int (t : Int)) (tN p) = true := by
    have h1 : isT (tN (powL p t)) = true := isT_iff.mpr ⟨_, rfl, Tw, by omega, by omega⟩
    have h2 : isT (tN p) = true := isT_iff.mpr ⟨p, rfl, Tp, by omega, by omega⟩
    have h3 : numIn 1 1000 (.int (t : Int)) = true := by simp only [numIn, Bool.and_eq_true, decide_eq_true_eq]; omega
    simp only [rootB, h1, h2, h3, lenT, iN_length, natsT_tN, natW, Int.toNat_natCast, powL_len, decide_true, Bool.and_self]
  rw [hroot] at e6
  have s3 : evS (callN D (k+4)) (r72.nth 3) [some (.ref r), some (.int (n : Int)), some (tN p), some (.int (t : Int)), some (tN (powL p t)), a5, a6, a7, a8, a9] M4 = .ok (.nx [some (.ref r), some (.int (n : Int)), some (tN p), some (.int (t : Int)), some (tN (powL p t)), a5, a6, a7, a8, a9]) M4 := by
    have hz1 : ([W.str "root", tN (powL p t), .int (t : Int)]).length ≤ sizeLine := by rw [hz]; simp
    simp only [r72, CS.bd, CSs.nth, c__law_right__5, xss_nil, xss_cons, xe_var, xe_k, xe_gk, xe_bin, xe_neg, xe_not, xe_and, xe_or, xe_ite, xe_cmp, xe_chain, xe_tup, xe_lst, xe_call, xe_callK, xe_bi, xe_isi, xe_meth, xe_ix, xe_sl, xe_rev, xe_dnew, xe_lenset, xs_pass, xs_expr, xs_asg, xs_par, xs_setLc, xs_augS, xs_aug, xs_ret, xs_retN, xs_if, xa_nil, xa_cons, xa_star, xb_val, xb_cmp, xb_chain, xb_not, xb_and, xb_or, xo_none, xo_some, xg_name, xg_tup, xg_sub, xgs_nil, xgs_cons, xi_seq, xi_enum, xi_zip, xt_nil, xt_one, evN, R.bind, R.stm, R.calm, itemW, atI, ixN, biW, storeW, cmpW, bin_add, bin_sub, bin_mod, bin_mul, bin_fdiv, bin_pow, setAll, finW, ofO, seqW, newL, newT, newOb, truthW, mtW, EV.listAt, mo_append_list, mo_pop_list, mo_extend_list, mo_remove_list, mo_count_list, mo_count_tuple, mo_index_list, mo_get_dict, mo_index_tuple, mo_upper_str, mo_isdigit_str, mo_split_str, mo_join_str, ty_list_tuple, ty_list_dict, ty_list_str, ty_tuple_list, ty_tuple_dict, ty_tuple_str, ty_dict_list, ty_dict_tuple, ty_dict_str, ty_str_list, ty_str_tuple, ty_str_dict, List.getElem?_cons_zero, List.getElem?_cons_succ, if_pos hz1, e6, decide_true, Bool.not_true, Bool.false_eq_true, if_false]
  have hi : evI (callN D (k+4)) (.range (.cons (.k (.int 6)) .nil)) [some (.ref r), some (.int (n : Int)), some (tN p), some (.int (t : Int)), some (tN (powL p t)), a5, a6, a7, a8, a9] M4 = .ok ((iN (List.range 6)).map .one, []) M4 := ei_range_n (n := 6) (by simp [xss_nil, xss_cons, xe_var, xe_k, xe_gk, xe_bin, xe_neg, xe_not, xe_and, xe_or, xe_ite, xe_cmp, xe_chain, xe_tup, xe_lst, xe_call, xe_callK, xe_bi, xe_isi, xe_meth, xe_ix, xe_sl, xe_rev, xe_dnew, xe_lenset, xs_pass, xs_expr, xs_asg, xs_par, xs_setLc, xs_augS, xs_aug, xs_ret, xs_retN, xs_if, xa_nil, xa_cons, xa_star, xb_val, xb_cmp, xb_chain, xb_not, xb_and, xb_or, xo_none, xo_some, xg_name, xg_tup, xg_sub, xgs_nil, xgs_cons, xi_seq, xi_enum, xi_zip, xt_nil, xt_one, evN, R.bind, R.stm, R.calm, itemW, atI, ixN, biW, storeW, cmpW, bin_add, bin_sub, bin_mod, bin_mul, bin_fdiv, bin_pow, setAll, finW, ofO, seqW, newL, newT, newOb, truthW, mtW, EV.listAt, mo_append_list, mo_pop_list, mo_extend_list, mo_remove_list, mo_count_list, mo_count_tuple, mo_index_list, mo_get_dict, mo_index_tuple, mo_upper_str, mo_isdigit_str, mo_split_str, mo_join_str, ty_list_tuple, ty_list_dict, ty_list_str, ty_tuple_list, ty_tuple_dict, ty_tuple_str, ty_dict_list, ty_dict_tuple, ty_dict_str, ty_str_list, ty_str_tuple, ty_str_dict]) (by omega)
  obtain ⟨ρ', M', e, ⟨b5, b6, b7, b8, b9, h1⟩, h2⟩ := forL_ix (g := evN (.one 5)) (body := evSs (callN D (k+4)) r72s) (gs := []) (Inv := fun j ρ M' => (∃ b5 b6 b7 b8 b9, ρ = [some (.ref r), some (.int (n : Int)), some (tN p), some (.int (t : Int)), some (tN (powL p t)), b5, b6, b7, b8, b9]) ∧ Gr r (C + 110 + 100 * j) M M') (fun _ _ _ _ => guards_nil) ((iN (List.range 6)).map .one) 0 [some (.ref r), some (.int (n : Int)), some (tN p), some (.int (t : Int)), some (tN (powL p t)), a5, a6, a7, a8, a9] M4 (fun i x hx ρ M1 hI => by
    obtain ⟨hi6, rfl⟩ := iN_at hx
    rw [List.length_range] at hi6
    obtain ⟨⟨b5, b6, b7, b8, b9, rfl⟩, hG⟩ := hI
    have V := hG.vat hr
    obtain ⟨c6, c7, c8, c9, M2, ec, Gc⟩ := step72 (k := k) (p := p) (w := powL p t) V (by omega) n1 n2 t2 Tp Tw lp lw (some (.int (ap (List.range 6) i : Nat))) b6 b7 b8 b9
    exact ⟨_, _, _, _, rfl, ec, ⟨_, _, _, _, _, rfl⟩, (hG.trans hr Gc).more (by omega)⟩) ⟨⟨_, _, _, _, _, rfl⟩, G4⟩
  have hlen : 0 + ((iN (List.range 6)).map Itm.one).length = 6 := by simp [iN]
  rw [hlen] at h2
  rw [h1] at e
  refine ⟨some (tN p), some (.int (t : Int)), some (tN (powL p t)), b5, b6, b7, b8, b9, M', ?_, h2.more (by omega)⟩
  have s4 : evS (callN D (k+4)) (r72.nth 4) [some (.ref r), some (.int (n : Int)), some (tN p), some (.int (t : Int)), some (tN (powL p t)), a5, a6, a7, a8, a9] M4 = .ok (.nx [some (.ref r), some (.int (n : Int)), some (tN p), some (.int (t : Int)), some (tN (powL p t)), b5, b6, b7, b8, b9]) M' := by
    rw [show r72.nth 4 = .forS (.one 5) (.range (.cons (.k (.int 6)) .nil)) r72s from rfl, xs_for, hi]
    exact e
  show evSs (callN D (k+4)) (.cons (r72.nth 0) (.cons (r72.nth 1) (.cons (r72.nth 2) (.cons (r72.nth 3) (.cons (r72.nth 4) .nil))))) _ M = _
  rw [evSs_cons s0, evSs_cons s1, evSs_cons s2, evSs_cons s3, evSs_cons s4, evSs]
end GD

namespace GD
open PySem PySem.Spec PyProof.Rows L2 EV PM
theorem last72 {k : Nat} {M : Mem} : callN D (k+4) 35 [.tup [.str "root", .tup [.int 0], .int 1000], .tup [.int 0]] M = .ok (.bl true) M := by
  have e : callN D (k+4) 35 [.tup [.str "root", tN [0], .int 1000], tN [0]] M = _ := accT_ok (k := k) (M := M) (by rfl) (by rfl) (by rfl)
  have hc : rootB (tN [0]) (.int 1000) (tN [0]) = true := by decide +kernel
  rw [hc] at e
  exact e
theorem last72b {k : Nat} {M : Mem} : callN D (k+4) 35 [.tup [.str "root", .tup [.int 0], .int 1001], .tup [.int 0]] M = .ok (.bl false) M := by
  have e : callN D (k+4) 35 [.tup [.str "root", tN [0], .int 1001], tN [0]] M = _ := accT_ok (k := k) (M := M) (by rfl) (by rfl) (by rfl)
  have hc : rootB (tN [0]) (.int 1001) (tN [0]) = false := by decide +kernel
  rw [hc] at e
  exact e
theorem right72 {k r : Nat} {M : Mem} (h : Vat M r 0) : ∃ o, callN D (k+5) 56 [.ref r] M = .ok (.bl true) (M.set r o) := by
  have hr := h.lt
  have hz : sizeLine = 16777216 := sizeLine_eq
  obtain ⟨m1, o1, e1, a0, a1, v1⟩ := dip_ok (k := k+3) (n := 4) h (by omega) (by omega) (by omega)
  have V1 := Vat.of hr v1
  obtain ⟨m2, o2, e2, b0, b1, v2⟩ := dip_ok (k := k+3) (n := 8) V1 (by omega) (by omega) (by omega)
  rw [List.set_set] at e2
  have V2 := Vat.of hr v2
  obtain ⟨w3, o3, hw3, e3, v3⟩ := of_ok (k := k+2) (q := M.length) (xs := [.int 20, .int 39, .int 40]) (V2.app (g := [.lst [.int 20, .int 39, .int 40]])) (by omega) (by have := at0 (M := M.set r o2) (o0 := .lst [.int 20, .int 39, .int 40]) (g := []); rwa [List.length_set] at this) (by omega) (by simp) (by simp)
  obtain ⟨n3, c0, c1, rfl⟩ : ∃ n3 : Nat, 1 ≤ n3 ∧ n3 ≤ 40 ∧ w3 = .int (n3 : Int) := by
    simp only [List.mem_cons, List.mem_nil_iff, or_false] at hw3
    rcases hw3 with rfl | rfl | rfl
    · exact ⟨20, by omega, by omega, rfl⟩
    · exact ⟨39, by omega, by omega, rfl⟩
    · exact ⟨40, by omega, by omega, rfl⟩
  obtain ⟨m1, rfl⟩ := Int.eq_ofNat_of_zero_le a0
  obtain ⟨m2, rfl⟩ := Int.eq_ofNat_of_zero_le b0
  have hset : (M.set r o2 ++ [Ob.lst [.int 20, .int 39, .int 40]]).set r o3 = M.set r o3 ++ [.lst [.int 20, .int 39, .int 40]] := by
    rw [List.set_append_left r o3 (by simpa using hr), List.set_set]
  rw [hset] at e3
  have e1 : callN D (k+4) 1 [.ref r, .int 4] M = _ := e1
  have e2 : callN D (k+4) 1 [.ref r, .int 8] (M.set r o1) = _ := e2
  have e3 : callN D (k+4) 13 [.ref r, .ref M.length] (M.set r o2 ++ [.lst [.int 20, .int 39, .int 40]]) = _ := e3
  generalize hsz : ([1 + m1, 3 + m2, n3] : List Nat) = sz
  have hsW : ([.int (1 + (m1 : Int)), .int (3 + (m2 : Int)), .int (n3 : Int)] : List W) = iN sz := by
    rw [← hsz]
    simp [iN]
  have hszb : ∀ x ∈ sz, 1 ≤ x ∧ x ≤ 40 := fun x hx => by
    rw [← hsz] at hx
    simp only [List.mem_cons, List.mem_nil_iff, or_false] at hx
    rcases hx with rfl | rfl | rfl <;> omega
  generalize hMb : M.set r o3 ++ [Ob.lst [.int 20, .int 39, .int 40], .lst (iN sz)] = Mb
  have hq : Mb[M.length + 1]? = some (.lst (iN sz)) := by
    rw [← hMb]
    have := at1 (M := M.set r o3) (o0 := .lst [.int 20, .int 39, .int 40]) (o1 := .lst (iN sz)) (g := [])
    rwa [List.length_set] at this
  have Gb : Gr r 3 M Mb := ⟨o3, _, hMb.symm, v3.more (by omega)⟩
  have hi : evI (callN D (k+4)) (.seq (.lst (.cons (.bin .Add (.k (.int 1)) (.call 1 (.cons (.var 0) (.cons (.k (.int 4)) .nil)))) (.cons (.bin .Add (.k (.int 3)) (.call 1 (.cons (.var 0) (.cons (.k (.int 8)) .nil)))) (.cons (.call 13 (.cons (.var 0) (.cons (.lst (.cons (.k (.int 20)) (.cons (.k (.int 39)) (.cons (.k (.int 40)) .nil)))) .nil))) .nil))))) [some (.ref r), none, none, none, none, none, none, none, none, none] M = .ok ((iN sz).map .one, [(M.length + 1, iN sz)]) Mb := by
    have hl3 : ([W.int 20, .int 39, .int 40]).length ≤ sizeLine := by rw [hz]; simp
    have hls : (iN sz).length ≤ sizeLine := by rw [← hsW, hz]; simp
    have hls2 : (M.set r o3 ++ [Ob.lst [.int 20, .int 39, .int 40]]).length = M.length + 1 := by simp
    have hMb2 : (M.set r o3 ++ [Ob.lst [.int 20, .int 39, .int 40]]) ++ [.lst (iN sz)] = Mb := by rw [← hMb]; simp
    simp only [xi_seq, xe_lst, xe_bin, xe_call, xe_var, xe_k, xa_cons, xa_nil, R.bind, bin_add, newL, newOb, if_pos hl3, List.getElem?_cons_zero, e1, e2, List.length_set, e3, hsW, if_pos hls, hls2, hMb2, iterW, seqW, gOf, hq]
  obtain ⟨ρ', M', e, ⟨x1, x2, x3, x4, x5, x6, x7, x8, x9, h1⟩, h2⟩ := forL_ix (g := evN (.one 1)) (body := evSs (callN D (k+4)) r72) (gs := [(M.length + 1, iN sz)]) (Inv := fun j ρ M' => (∃ b1 b2 b3 b4 b5 b6 b7 b8 b9, ρ = [some (.ref r), b1, b2, b3, b4, b5, b6, b7, b8, b9]) ∧ Gr r (3 + 1000 * j) Mb M') (fun _ _ M' hI => guards_lst (hI.2.at (by omega) hq)) ((iN sz).map .one) 0 [some (.ref r), none, none, none, none, none, none, none, none, none] Mb (fun i x hx ρ M1 hI => by
    obtain ⟨his, rfl⟩ := iN_at hx
    have hb := hszb (ap sz i) (by rw [← ap_getE his]; exact List.getElem_mem his)
    obtain ⟨⟨b1, b2, b3, b4, b5, b6, b7, b8, b9, rfl⟩, hG⟩ := hI
    have hrb : r < Mb.length := by have := Gb.len; omega
    have hi3 : i < 3 := by rw [← hsz] at his; simpa using his
    obtain ⟨c2, c3, c4, c5, c6, c7, c8, c9, M2, ec, Gc⟩ := size72 (k := k) (hG.vat hrb) (by omega) hb.1 hb.2 b2 b3 b4 b5 b6 b7 b8 b9
    exact ⟨_, _, _, _, rfl, ec, ⟨_, _, _, _, _, _, _, _, _, rfl⟩, (hG.trans hrb Gc).more (by omega)⟩) ⟨⟨_, _, _, _, _, _, _, _, _, rfl⟩, ⟨o3, [], by
      rw [List.append_nil]
      apply List.ext_getElem?
      intro j
      have hrb : Mb[r]? = some o3 := by rw [← hMb]; exact app_at (List.getElem?_set_self hr)
      by_cases ej : j = r
      · subst ej; rw [List.getElem?_set_self (get_lt hrb), hrb]
      · rw [List.getElem?_set_ne (Ne.symm ej)], v3.more (by omega)⟩⟩
  rw [h1] at e
  have G' := Gb.trans hr h2
  have s0 : evS (callN D (k+4)) (c__law_right__5.nth 0) [some (.ref r), none, none, none, none, none, none, none, none, none] M = .ok (.nx [some (.ref r), x1, x2, x3, x4, x5, x6, x7, x8, x9]) M' := by
    rw [show c__law_right__5.nth 0 = .forS (.one 1) (.seq (.lst (.cons (.bin .Add (.k (.int 1)) (.call 1 (.cons (.var 0) (.cons (.k (.int 4)) .nil)))) (.cons (.bin .Add (.k (.int 3)) (.call 1 (.cons (.var 0) (.cons (.k (.int 8)) .nil)))) (.cons (.call 13 (.cons (.var 0) (.cons (.lst (.cons (.k (.int 20)) (.cons (.k (.int 39)) (.cons (.k (.int 40)) .nil)))) .nil))) .nil))))) r72 from rfl, xs_for, hi]
    exact e
  have s1 : evS (callN D (k+4)) (c__law_right__5.nth 1) [some (.ref r), x1, x2, x3, x4, x5, x6, x7, x8, x9] M' = .ok (.ret (.bl true)) M' := by
    have el := last72 (k := k) (M := M')
    have el2 := last72b (k := k) (M := M')
    have z1 : ([W.int 0]).length ≤ sizeLine := by rw [hz]; simp
    have z4 : ([W.str "root", .tup [.int 0], .int 1000]).length ≤ sizeLine := by rw [hz]; simp
    have z5 : ([W.str "root", .tup [.int 0], .int 1001]).length ≤ sizeLine := by rw [hz]; simp
    simp only [CSs.nth, c__law_right__5, xs_ret, xe_and, xe_cmp, xe_call, xe_tup, xe_k, xa_cons, xa_nil, newT, R.bind, R.stm, if_pos z1, if_pos z4, if_pos z5, el, el2, cmpW, decide_true, if_true]
  obtain ⟨o', g', eM, v'⟩ := G'
  refine ⟨o', ?_⟩
  rw [call_at (d := ⟨1, 10, c__law_right__5⟩) (b := c__law_right__5) (ρ := [some (.ref r), none, none, none, none, none, none, none, none, none]) rfl rfl rfl rfl]
  show finW M (evSs (callN D (k+4)) (.cons (c__law_right__5.nth 0) (.cons (c__law_right__5.nth 1) .nil)) _ M) = _
  rw [evSs_cons s0, evSs_ret s1, eM]
  exact trim_setA v'.pure rfl
end GD

namespace L72
open PySem PySem.Spec PyProof.Rows L2 EV GD
def top (i : Nat) : Stmt := PySem.Challenge.pw_ringproducts_k72_whole_root_claims.main.body.getD i (.Pass ⟨0, 0, 0, 0⟩)
abbrev s__law_dip : Stmt := top 29
def N__law_dip : List Str := ["_law_vat_here", "_law_size", "_law_figure", "_law_factor"]
def P__law_dip : List Str := ["_law_vat_here", "_law_size"]
theorem sc__law_dip : FnScope N__law_dip P__law_dip (defScope s__law_dip) := ⟨rfl, rfl, rfl, by decide +kernel, rfl, by decide +kernel, by decide +kernel⟩
abbrev s__law_of : Stmt := top 30
def N__law_of : List Str := ["_law_vat_here", "_law_menu"]
def P__law_of : List Str := ["_law_vat_here", "_law_menu"]
theorem sc__law_of : FnScope N__law_of P__law_of (defScope s__law_of) := ⟨rfl, rfl, rfl, by decide +kernel, rfl, by decide +kernel, by decide +kernel⟩
abbrev s__law_made_turn : Stmt := top 33
def N__law_made_turn : List Str := ["_law_lots_here", "_law_seats", "_law_found", "_law_begin", "_law_length", "_law_row", "_law_at", "_law_seat"]
def P__law_made_turn : List Str := ["_law_lots_here", "_law_seats"]
theorem sc__law_made_turn : FnScope N__law_made_turn P__law_made_turn (defScope s__law_made_turn) := ⟨rfl, rfl, rfl, by decide +kernel, rfl, by decide +kernel, by decide +kernel⟩
abbrev s__law_mixed : Stmt := top 31
def N__law_mixed : List Str := ["_law_vat_here", "_law_some", "_law_left", "_law_found"]
def P__law_mixed : List Str := ["_law_vat_here", "_law_some"]
theorem sc__law_mixed : FnScope N__law_mixed P__law_mixed (defScope s__law_mixed) := ⟨rfl, rfl, rfl, by decide +kernel, rfl, by decide +kernel, by decide +kernel⟩
abbrev s__law_turn : Stmt := top 34
def N__law_turn : List Str := ["_law_vat_here", "_law_lots_here"]
def P__law_turn : List Str := ["_law_vat_here", "_law_lots_here"]
theorem sc__law_turn : FnScope N__law_turn P__law_turn (defScope s__law_turn) := ⟨rfl, rfl, rfl, by decide +kernel, rfl, by decide +kernel, by decide +kernel⟩
abbrev s__law_walked : Stmt := top 37
def N__law_walked : List Str := ["_law_row", "_law_gone", "_law_found", "_law_seat", "_law_ring_here"]
def P__law_walked : List Str := ["_law_row"]
theorem sc__law_walked : FnScope N__law_walked P__law_walked (defScope s__law_walked) := ⟨rfl, rfl, rfl, by decide +kernel, rfl, by decide +kernel, by decide +kernel⟩
abbrev s__law_often : Stmt := top 38
def N__law_often : List Str := ["_law_row", "_law_times_here", "_law_found", "_law_ring_here", "_law_at", "_law_seat"]
def P__law_often : List Str := ["_law_row", "_law_times_here"]
theorem sc__law_often : FnScope N__law_often P__law_often (defScope s__law_often) := ⟨rfl, rfl, rfl, by decide +kernel, rfl, by decide +kernel, by decide +kernel⟩
abbrev s__law_lots : Stmt := top 32
def N__law_lots : List Str := ["_law_vat_here", "_law_size", "_law_way", "_law_found", "_law_rest", "_law_most_here"]
def P__law_lots : List Str := ["_law_vat_here", "_law_size"]
theorem sc__law_lots : FnScope N__law_lots P__law_lots (defScope s__law_lots) := ⟨rfl, rfl, rfl, by decide +kernel, rfl, by decide +kernel, by decide +kernel⟩
abbrev s_lengths_in : Stmt := top 8
def N_lengths_in : List Str := ["row", "free", "found", "seat", "length"]
def P_lengths_in : List Str := ["row"]
theorem sc_lengths_in : FnScope N_lengths_in P_lengths_in (defScope s_lengths_in) := ⟨rfl, rfl, rfl, by decide +kernel, rfl, by decide +kernel, by decide +kernel⟩
abbrev s_led_on : Stmt := top 9
def N_led_on : List Str := ["row", "later", "seat"]
def P_led_on : List Str := ["row", "later"]
theorem sc_led_on : FnScope N_led_on P_led_on (defScope s_led_on) := ⟨rfl, rfl, rfl, by decide +kernel, rfl, by decide +kernel, by decide +kernel⟩
abbrev s_is_round : Stmt := top 10
def N_is_round : List Str := ["row", "later"]
def P_is_round : List Str := ["row", "later"]
theorem sc_is_round : FnScope N_is_round P_is_round (defScope s_is_round) := ⟨rfl, rfl, rfl, by decide +kernel, rfl, by decide +kernel, by decide +kernel⟩
abbrev s_is_whole : Stmt := top 5
def N_is_whole : List Str := ["value"]
def P_is_whole : List Str := ["value"]
theorem sc_is_whole : FnScope N_is_whole P_is_whole (defScope s_is_whole) := ⟨rfl, rfl, rfl, by decide +kernel, rfl, by decide +kernel, by decide +kernel⟩
abbrev s_are_lengths : Stmt := top 7
def N_are_lengths : List Str := ["value", "last", "length"]
def P_are_lengths : List Str := ["value"]
theorem sc_are_lengths : FnScope N_are_lengths P_are_lengths (defScope s_are_lengths) := ⟨rfl, rfl, rfl, by decide +kernel, rfl, by decide +kernel, by decide +kernel⟩
abbrev s_are_one_size : Stmt := top 20
def N_are_one_size : List Str := ["first", "second"]
def P_are_one_size : List Str := ["first", "second"]
theorem sc_are_one_size : FnScope N_are_one_size P_are_one_size (defScope s_are_one_size) := ⟨rfl, rfl, rfl, by decide +kernel, rfl, by decide +kernel, by decide +kernel⟩
abbrev s_is_row : Stmt := top 6
def N_is_row : List Str := ["value", "free", "seat", "spare"]
def P_is_row : List Str := ["value"]
theorem sc_is_row : FnScope N_is_row P_is_row (defScope s_is_row) := ⟨rfl, rfl, rfl, by decide +kernel, rfl, by decide +kernel, by decide +kernel⟩
abbrev s_ring_shown : Stmt := top 21
def N_ring_shown : List Str := ["first", "second", "paper"]
def P_ring_shown : List Str := ["first", "second", "paper"]
theorem sc_ring_shown : FnScope N_ring_shown P_ring_shown (defScope s_ring_shown) := ⟨rfl, rfl, rfl, by decide +kernel, rfl, by decide +kernel, by decide +kernel⟩
abbrev s_hurdle : Stmt := top 12
def N_hurdle : List Str := ["first", "second", "spare"]
def P_hurdle : List Str := ["first", "second"]
theorem sc_hurdle : FnScope N_hurdle P_hurdle (defScope s_hurdle) := ⟨rfl, rfl, rfl, by decide +kernel, rfl, by decide +kernel, by decide +kernel⟩
abbrev s_no_ring_shown : Stmt := top 22
def N_no_ring_shown : List Str := ["first", "second", "paper"]
def P_no_ring_shown : List Str := ["first", "second", "paper"]
theorem sc_no_ring_shown : FnScope N_no_ring_shown P_no_ring_shown (defScope s_no_ring_shown) := ⟨rfl, rfl, rfl, by decide +kernel, rfl, by decide +kernel, by decide +kernel⟩
abbrev s_completed_shown : Stmt := top 23
def N_completed_shown : List Str := ["row", "lengths", "paper"]
def P_completed_shown : List Str := ["row", "lengths", "paper"]
theorem sc_completed_shown : FnScope N_completed_shown P_completed_shown (defScope s_completed_shown) := ⟨rfl, rfl, rfl, by decide +kernel, rfl, by decide +kernel, by decide +kernel⟩
abbrev s_are_lots : Stmt := top 17
def N_are_lots : List Str := ["value", "lengths"]
def P_are_lots : List Str := ["value"]
theorem sc_are_lots : FnScope N_are_lots P_are_lots (defScope s_are_lots) := ⟨rfl, rfl, rfl, by decide +kernel, rfl, by decide +kernel, by decide +kernel⟩
abbrev s_is_empty : Stmt := top 19
def N_is_empty : List Str := ["value"]
def P_is_empty : List Str := ["value"]
theorem sc_is_empty : FnScope N_is_empty P_is_empty (defScope s_is_empty) := ⟨rfl, rfl, rfl, by decide +kernel, rfl, by decide +kernel, by decide +kernel⟩
abbrev s_hook_row : Stmt := top 13
def N_hook_row : List Str := ["lengths", "whole", "length", "later", "place", "number", "found", "last"]
def P_hook_row : List Str := ["lengths"]
theorem sc_hook_row : FnScope N_hook_row P_hook_row (defScope s_hook_row) := ⟨rfl, rfl, rfl, by decide +kernel, rfl, by decide +kernel, by decide +kernel⟩
abbrev s_stepped : Stmt := top 14
def N_stepped : List Str := ["number", "found", "factor"]
def P_stepped : List Str := ["number"]
theorem sc_stepped : FnScope N_stepped P_stepped (defScope s_stepped) := ⟨rfl, rfl, rfl, by decide +kernel, rfl, by decide +kernel, by decide +kernel⟩
abbrev s_turns_with : Stmt := top 15
def N_turns_with : List Str := ["lengths", "found", "length"]
def P_turns_with : List Str := ["lengths"]
theorem sc_turns_with : FnScope N_turns_with P_turns_with (defScope s_turns_with) := ⟨rfl, rfl, rfl, by decide +kernel, rfl, by decide +kernel, by decide +kernel⟩
abbrev s_summed : Stmt := top 16
def N_summed : List Str := ["lots", "size", "top", "bottom", "rows", "chosen", "place", "part", "under", "row", "spare", "lengths"]
def P_summed : List Str := ["lots"]
theorem sc_summed : FnScope N_summed P_summed (defScope s_summed) := ⟨rfl, rfl, rfl, by decide +kernel, rfl, by decide +kernel, by decide +kernel⟩
abbrev s_count_shown : Stmt := top 24
def N_count_shown : List Str := ["lots", "number", "paper"]
def P_count_shown : List Str := ["lots", "number", "paper"]
theorem sc_count_shown : FnScope N_count_shown P_count_shown (defScope s_count_shown) := ⟨rfl, rfl, rfl, by decide +kernel, rfl, by decide +kernel, by decide +kernel⟩
abbrev s_often : Stmt := top 11
def N_often : List Str := ["row", "times", "found", "doubled"]
def P_often : List Str := ["row", "times"]
theorem sc_often : FnScope N_often P_often (defScope s_often) := ⟨rfl, rfl, rfl, by decide +kernel, rfl, by decide +kernel, by decide +kernel⟩
abbrev s_root_shown : Stmt := top 25
def N_root_shown : List Str := ["row", "times", "paper"]
def P_root_shown : List Str := ["row", "times", "paper"]
theorem sc_root_shown : FnScope N_root_shown P_root_shown (defScope s_root_shown) := ⟨rfl, rfl, rfl, by decide +kernel, rfl, by decide +kernel, by decide +kernel⟩
abbrev s_accepts : Stmt := top 26
def N_accepts : List Str := ["claim", "paper", "word", "first", "second"]
def P_accepts : List Str := ["claim", "paper"]
theorem sc_accepts : FnScope N_accepts P_accepts (defScope s_accepts) := ⟨rfl, rfl, rfl, by decide +kernel, rfl, by decide +kernel, by decide +kernel⟩
abbrev s__law_back : Stmt := top 36
def N__law_back : List Str := ["_law_row", "_law_seat"]
def P__law_back : List Str := ["_law_row"]
theorem sc__law_back : FnScope N__law_back P__law_back (defScope s__law_back) := ⟨rfl, rfl, rfl, by decide +kernel, rfl, by decide +kernel, by decide +kernel⟩
abbrev s__law_led : Stmt := top 35
def N__law_led : List Str := ["_law_first", "_law_second", "_law_seat"]
def P__law_led : List Str := ["_law_first", "_law_second"]
theorem sc__law_led : FnScope N__law_led P__law_led (defScope s__law_led) := ⟨rfl, rfl, rfl, by decide +kernel, rfl, by decide +kernel, by decide +kernel⟩
abbrev s__law_bent_turn : Stmt := top 42
def N__law_bent_turn : List Str := ["_law_vat_here", "_law_row", "_law_way", "_law_at", "_law_to", "_law_found", "_law_some", "_law_odd"]
def P__law_bent_turn : List Str := ["_law_vat_here", "_law_row"]
theorem sc__law_bent_turn : FnScope N__law_bent_turn P__law_bent_turn (defScope s__law_bent_turn) := ⟨rfl, rfl, rfl, by decide +kernel, rfl, by decide +kernel, by decide +kernel⟩
abbrev s__law_odd_turn : Stmt := top 41
def N__law_odd_turn : List Str := ["_law_vat_here", "_law_size", "_law_row", "_law_some"]
def P__law_odd_turn : List Str := ["_law_vat_here", "_law_size"]
theorem sc__law_odd_turn : FnScope N__law_odd_turn P__law_odd_turn (defScope s__law_odd_turn) := ⟨rfl, rfl, rfl, by decide +kernel, rfl, by decide +kernel, by decide +kernel⟩
abbrev s__law_is_number : Stmt := top 39
def N__law_is_number : List Str := ["_law_thing", "_law_least_one", "_law_most_one"]
def P__law_is_number : List Str := ["_law_thing", "_law_least_one", "_law_most_one"]
theorem sc__law_is_number : FnScope N__law_is_number P__law_is_number (defScope s__law_is_number) := ⟨rfl, rfl, rfl, by decide +kernel, rfl, by decide +kernel, by decide +kernel⟩
abbrev s__law_is_turn : Stmt := top 40
def N__law_is_turn : List Str := ["_law_thing", "_law_each"]
def P__law_is_turn : List Str := ["_law_thing"]
theorem sc__law_is_turn : FnScope N__law_is_turn P__law_is_turn (defScope s__law_is_turn) := ⟨rfl, rfl, rfl, by decide +kernel, rfl, by decide +kernel, by decide +kernel⟩
abbrev s__law_due : Stmt := top 43
def N__law_due : List Str := ["_law_row", "_law_times_here", "_law_proof"]
def P__law_due : List Str := ["_law_row", "_law_times_here", "_law_proof"]
theorem sc__law_due : FnScope N__law_due P__law_due (defScope s__law_due) := ⟨rfl, rfl, rfl, by decide +kernel, rfl, by decide +kernel, by decide +kernel⟩
abbrev s__law_right : Stmt := top 44
def N__law_right : List Str := ["_law_vat_here", "_law_size", "_law_proof", "_law_times_here", "_law_row", "_law_step", "_law_far", "_law_near", "_law_said", "_law_each"]
def P__law_right : List Str := ["_law_vat_here"]
theorem sc__law_right : FnScope N__law_right P__law_right (defScope s__law_right) := ⟨rfl, rfl, rfl, by decide +kernel, rfl, by decide +kernel, by decide +kernel⟩
abbrev s__law_vat : Stmt := top 28
def N__law_vat : List Str := ["_law_script", "_law_k", "_law_own", "_law_stirred", "_law_each"]
def P__law_vat : List Str := ["_law_script", "_law_k"]
theorem sc__law_vat : FnScope N__law_vat P__law_vat (defScope s__law_vat) := ⟨rfl, rfl, rfl, by decide +kernel, rfl, by decide +kernel, by decide +kernel⟩
abbrev s_law : Stmt := top 45
def N_law : List Str := ["_law_script", "_law_k"]
def P_law : List Str := ["_law_script"]
theorem sc_law : FnScope N_law P_law (defScope s_law) := ⟨rfl, rfl, rfl, by decide +kernel, rfl, by decide +kernel, by decide +kernel⟩
/-- names of the module -/
structure Gs (mg : Str → Option Value) : Prop where
  b_abs : mg "abs" = none
  b_all : mg "all" = none
  b_bool : mg "bool" = none
  b_divmod : mg "divmod" = none
  b_enumerate : mg "enumerate" = none
  b_int : mg "int" = none
  b_isinstance : mg "isinstance" = none
  b_len : mg "len" = none
  b_list : mg "list" = none
  b_max : mg "max" = none
  b_min : mg "min" = none
  b_range : mg "range" = none
  b_repr : mg "repr" = none
  b_set : mg "set" = none
  b_sorted : mg "sorted" = none
  b_str : mg "str" = none
  b_sum : mg "sum" = none
  b_tuple : mg "tuple" = none
  c_MOST_FACTORS : ∃ t, mg "MOST_FACTORS" = some (.int 4 t)
  c_MOST_OFTEN : ∃ t, mg "MOST_OFTEN" = some (.int 1000 t)
  c_MOST_ROUND : ∃ t, mg "MOST_ROUND" = some (.int 40 t)
  c_MOST_SUMMED : ∃ t, mg "MOST_SUMMED" = some (.int 12 t)
structure Fns (P : Program) (w : World) (K : PySem.W.Frag) (mg : Str → Option Value) (base : Heap) (XR : XRel) (k : Nat) (ad : Nat → Addr) (fds : Nat → FuncData) : Prop where
  f1 : FnI P w K mg base XR (callN D k) k 1 "_law_dip" P__law_dip (ad 1) (fds 1)
  f13 : FnI P w K mg base XR (callN D k) k 13 "_law_of" P__law_of (ad 13) (fds 13)
  f0 : FnI P w K mg base XR (callN D k) k 0 "_law_made_turn" P__law_made_turn (ad 0) (fds 0)
  f2 : FnI P w K mg base XR (callN D k) k 2 "_law_mixed" P__law_mixed (ad 2) (fds 2)
  f3 : FnI P w K mg base XR (callN D k) k 3 "_law_turn" P__law_turn (ad 3) (fds 3)
  f8 : FnI P w K mg base XR (callN D k) k 8 "_law_walked" P__law_walked (ad 8) (fds 8)
  f11 : FnI P w K mg base XR (callN D k) k 11 "_law_often" P__law_often (ad 11) (fds 11)
  f4 : FnI P w K mg base XR (callN D k) k 4 "_law_lots" P__law_lots (ad 4) (fds 4)
  f15 : FnI P w K mg base XR (callN D k) k 15 "lengths_in" P_lengths_in (ad 15) (fds 15)
  f16 : FnI P w K mg base XR (callN D k) k 16 "led_on" P_led_on (ad 16) (fds 16)
  f17 : FnI P w K mg base XR (callN D k) k 17 "is_round" P_is_round (ad 17) (fds 17)
  f18 : FnI P w K mg base XR (callN D k) k 18 "is_whole" P_is_whole (ad 18) (fds 18)
  f19 : FnI P w K mg base XR (callN D k) k 19 "are_lengths" P_are_lengths (ad 19) (fds 19)
  f20 : FnI P w K mg base XR (callN D k) k 20 "are_one_size" P_are_one_size (ad 20) (fds 20)
  f21 : FnI P w K mg base XR (callN D k) k 21 "is_row" P_is_row (ad 21) (fds 21)
  f22 : FnI P w K mg base XR (callN D k) k 22 "ring_shown" P_ring_shown (ad 22) (fds 22)
  f23 : FnI P w K mg base XR (callN D k) k 23 "hurdle" P_hurdle (ad 23) (fds 23)
  f24 : FnI P w K mg base XR (callN D k) k 24 "no_ring_shown" P_no_ring_shown (ad 24) (fds 24)
  f25 : FnI P w K mg base XR (callN D k) k 25 "completed_shown" P_completed_shown (ad 25) (fds 25)
  f26 : FnI P w K mg base XR (callN D k) k 26 "are_lots" P_are_lots (ad 26) (fds 26)
  f27 : FnI P w K mg base XR (callN D k) k 27 "is_empty" P_is_empty (ad 27) (fds 27)
  f28 : FnI P w K mg base XR (callN D k) k 28 "hook_row" P_hook_row (ad 28) (fds 28)
  f29 : FnI P w K mg base XR (callN D k) k 29 "stepped" P_stepped (ad 29) (fds 29)
  f30 : FnI P w K mg base XR (callN D k) k 30 "turns_with" P_turns_with (ad 30) (fds 30)
  f31 : FnI P w K mg base XR (callN D k) k 31 "summed" P_summed (ad 31) (fds 31)
  f32 : FnI P w K mg base XR (callN D k) k 32 "count_shown" P_count_shown (ad 32) (fds 32)
  f33 : FnI P w K mg base XR (callN D k) k 33 "often" P_often (ad 33) (fds 33)
  f34 : FnI P w K mg base XR (callN D k) k 34 "root_shown" P_root_shown (ad 34) (fds 34)
  f35 : FnI P w K mg base XR (callN D k) k 35 "accepts" P_accepts (ad 35) (fds 35)
  f6 : FnI P w K mg base XR (callN D k) k 6 "_law_back" P__law_back (ad 6) (fds 6)
  f5 : FnI P w K mg base XR (callN D k) k 5 "_law_led" P__law_led (ad 5) (fds 5)
  f44 : FnI P w K mg base XR (callN D k) k 44 "_law_bent_turn" P__law_bent_turn (ad 44) (fds 44)
  f51 : FnI P w K mg base XR (callN D k) k 51 "_law_odd_turn" P__law_odd_turn (ad 51) (fds 51)
  f40 : FnI P w K mg base XR (callN D k) k 40 "_law_is_number" P__law_is_number (ad 40) (fds 40)
  f42 : FnI P w K mg base XR (callN D k) k 42 "_law_is_turn" P__law_is_turn (ad 42) (fds 42)
  f55 : FnI P w K mg base XR (callN D k) k 55 "_law_due" P__law_due (ad 55) (fds 55)
  f56 : FnI P w K mg base XR (callN D k) k 56 "_law_right" P__law_right (ad 56) (fds 56)
  f37 : FnI P w K mg base XR (callN D k) k 37 "_law_vat" P__law_vat (ad 37) (fds 37)
  f57 : FnI P w K mg base XR (callN D k) k 57 "law" P_law (ad 57) (fds 57)
/-- how keywords are bound -/
structure Kws (fds : Nat → FuncData) : Prop where
  no : True
section
variable {P : Program} {w : World} {K : PySem.W.Frag} {mg : Str → Option Value} {base : Heap} {XR : XRel} {k : Nat} {ad : Nat → Addr} {fds : Nat → FuncData} {cdv : Value} {A : Around} {outer : List Env} {s : Shared} {H : Hp} {E : XK}
theorem b__law_dip (G : Gs mg) (Kw : Kws fds) (F : Fns P w K mg base XR k ad fds) (hg : A.guards = some []) (hr : Room k (A.deeper (envOfC "_law_dip" (defScope s__law_dip) s.heap.objs.size (ad 1) cdv))) :
    ESs (cxOf (L2.CX P w) P w K mg base N__law_dip "_law_dip" (defScope s__law_dip) (ad 1) cdv A outer s H E) XR (fun cls d _ H' => E cls d H') (callN D k) (defBody s__law_dip) c__law_dip :=
  have S : Std (cxOf (L2.CX P w) P w K mg base N__law_dip "_law_dip" (defScope s__law_dip) (ad 1) cdv A outer s H E) := std_cx sc__law_dip.nd hg hr
  have tk : Takes (cxOf (L2.CX P w) P w K mg base N__law_dip "_law_dip" (defScope s__law_dip) (ad 1) cdv A outer s H E) (fun cls d _ H' => E cls d H') := takes_cx
  (ess_cons (es_if (eb_cmp S (ev_ix S (ev_v (by kernel_rfl) (by kernel_rfl) (by kernel_rfl) (by kernel_rfl)) ev_kint (fun _ _ => rfl)) ev_kint (by kernel_rfl)) (ess_cons (es_asg (ev_bi S .divmod (by kernel_rfl) (gl_by (by kernel_rfl)) G.b_divmod (by kernel_rfl) (ev_acons (ev_ix S (ev_v (by kernel_rfl) (by kernel_rfl) (by kernel_rfl) (by kernel_rfl)) ev_kint (fun _ _ => rfl)) (ev_acons (ev_v (by kernel_rfl) (by kernel_rfl) (by kernel_rfl) (by kernel_rfl)) ev_anil rfl) rfl)) (eg_tup S (egs_cons (eg_sub (XR := XR) S (ev_v (by kernel_rfl) (by kernel_rfl) (by kernel_rfl) (by kernel_rfl)) ev_kint (fun _ => rfl)) (egs_cons (eg_name S (nm_by (by kernel_rfl) (by kernel_rfl) (by kernel_rfl))) egs_nil rfl) rfl) rfl rfl) rfl rfl rfl) (ess_cons (es_ret (ev_v (by kernel_rfl) (by kernel_rfl) (by kernel_rfl) (by kernel_rfl))) ess_nil)) ess_nil) (ess_cons (es_asg (ev_bin (ev_ix S (ev_v (by kernel_rfl) (by kernel_rfl) (by kernel_rfl) (by kernel_rfl)) ev_kint (fun _ _ => rfl)) ev_kint) (eg_sub (XR := XR) S (ev_v (by kernel_rfl) (by kernel_rfl) (by kernel_rfl) (by kernel_rfl)) ev_kint (fun _ => rfl)) rfl rfl rfl) (ess_cons (es_asg (ev_bin (ev_bin (ev_bi S .int (by kernel_rfl) (gl_by (by kernel_rfl)) G.b_int (by kernel_rfl) (ev_acons (ev_ix S (ev_v (by kernel_rfl) (by kernel_rfl) (by kernel_rfl) (by kernel_rfl)) ev_kint (fun _ _ => rfl)) ev_anil rfl)) ev_kint) ev_kint) (eg_name S (nm_by (by kernel_rfl) (by kernel_rfl) (by kernel_rfl))) rfl rfl rfl) (ess_cons (es_asg (ev_bin (ev_bi S .int (by kernel_rfl) (gl_by (by kernel_rfl)) G.b_int (by kernel_rfl) (ev_acons (ev_bin (ev_bin (ev_bin (ev_ix S (ev_v (by kernel_rfl) (by kernel_rfl) (by kernel_rfl) (by kernel_rfl)) ev_kint (fun _ _ => rfl)) (ev_bin ev_kint (ev_ix S (ev_v (by kernel_rfl) (by kernel_rfl) (by kernel_rfl) (by kernel_rfl)) ev_kint (fun _ _ => rfl)))) (ev_v (by kernel_rfl) (by kernel_rfl) (by kernel_rfl) (by kernel_rfl))) ev_kint) ev_anil rfl)) ev_kint) (eg_sub (XR := XR) S (ev_v (by kernel_rfl) (by kernel_rfl) (by kernel_rfl) (by kernel_rfl)) ev_kint (fun _ => rfl)) rfl rfl rfl) (ess_cons (es_ret (ev_bin (ev_bi S .int (by kernel_rfl) (gl_by (by kernel_rfl)) G.b_int (by kernel_rfl) (ev_acons (ev_bin (ev_ix S (ev_v (by kernel_rfl) (by kernel_rfl) (by kernel_rfl) (by kernel_rfl)) ev_kint (fun _ _ => rfl)) ev_kint) ev_anil rfl)) (ev_v (by kernel_rfl) (by kernel_rfl) (by kernel_rfl) (by kernel_rfl)))) ess_nil)))))
theorem b__law_of (G : Gs mg) (Kw : Kws fds) (F : Fns P w K mg base XR k ad fds) (hg : A.guards = some []) (hr : Room k (A.deeper (envOfC "_law_of" (defScope s__law_of) s.heap.objs.size (ad 13) cdv))) :
    ESs (cxOf (L2.CX P w) P w K mg base N__law_of "_law_of" (defScope s__law_of) (ad 13) cdv A outer s H E) XR (fun cls d _ H' => E cls d H') (callN D k) (defBody s__law_of) c__law_of :=
  have S : Std (cxOf (L2.CX P w) P w K mg base N__law_of "_law_of" (defScope s__law_of) (ad 13) cdv A outer s H E) := std_cx sc__law_of.nd hg hr
  have tk : Takes (cxOf (L2.CX P w) P w K mg base N__law_of "_law_of" (defScope s__law_of) (ad 13) cdv A outer s H E) (fun cls d _ H' => E cls d H') := takes_cx
  (ess_cons (es_ret (ev_ix S (ev_v (by kernel_rfl) (by kernel_rfl) (by kernel_rfl) (by kernel_rfl)) (ev_call S (F.f1.at hr) tk (gl_by (by kernel_rfl)) (by kernel_rfl) (by kernel_rfl) (ev_acons (ev_v (by kernel_rfl) (by kernel_rfl) (by kernel_rfl) (by kernel_rfl)) (ev_acons (ev_bi S .len (by kernel_rfl) (gl_by (by kernel_rfl)) G.b_len (by kernel_rfl) (ev_acons (ev_v (by kernel_rfl) (by kernel_rfl) (by kernel_rfl) (by kernel_rfl)) ev_anil rfl)) ev_anil rfl) rfl)) (fun _ _ => rfl))) ess_nil)
theorem b__law_made_turn (G : Gs mg) (Kw : Kws fds) (F : Fns P w K mg base XR k ad fds) (hg : A.guards = some []) (hr : Room k (A.deeper (envOfC "_law_made_turn" (defScope s__law_made_turn) s.heap.objs.size (ad 0) cdv))) :
    ESs (cxOf (L2.CX P w) P w K mg base N__law_made_turn "_law_made_turn" (defScope s__law_made_turn) (ad 0) cdv A outer s H E) XR (fun cls d _ H' => E cls d H') (callN D k) (defBody s__law_made_turn) c__law_made_turn :=
  have S : Std (cxOf (L2.CX P w) P w K mg base N__law_made_turn "_law_made_turn" (defScope s__law_made_turn) (ad 0) cdv A outer s H E) := std_cx sc__law_made_turn.nd hg hr
  have tk : Takes (cxOf (L2.CX P w) P w K mg base N__law_made_turn "_law_made_turn" (defScope s__law_made_turn) (ad 0) cdv A outer s H E) (fun cls d _ H' => E cls d H') := takes_cx
  (ess_cons (es_asg (ev_tup (ev_acons ev_dnew (ev_acons ev_kint ev_anil rfl) rfl)) (eg_tup S (egs_cons (eg_name S (nm_by (by kernel_rfl) (by kernel_rfl) (by kernel_rfl))) (egs_cons (eg_name S (nm_by (by kernel_rfl) (by kernel_rfl) (by kernel_rfl))) egs_nil rfl) rfl) rfl rfl) rfl rfl rfl) (ess_cons (es_for S owns_cx (ei_seq (ev_v (by kernel_rfl) (by kernel_rfl) (by kernel_rfl) (by kernel_rfl))) (en_one S (nm_by (by kernel_rfl) (by kernel_rfl) (by kernel_rfl))) (ess_cons (es_asg (ev_sl (ev_v (by kernel_rfl) (by kernel_rfl) (by kernel_rfl) (by kernel_rfl)) (ev_osome (ev_v (by kernel_rfl) (by kernel_rfl) (by kernel_rfl) (by kernel_rfl))) (ev_osome (ev_bin (ev_v (by kernel_rfl) (by kernel_rfl) (by kernel_rfl) (by kernel_rfl)) (ev_v (by kernel_rfl) (by kernel_rfl) (by kernel_rfl) (by kernel_rfl))))) (eg_name S (nm_by (by kernel_rfl) (by kernel_rfl) (by kernel_rfl))) rfl rfl rfl) (ess_cons (es_for S owns_cx (ei_range1 (gl_by (by kernel_rfl)) G.b_range (ev_v (by kernel_rfl) (by kernel_rfl) (by kernel_rfl) (by kernel_rfl)) rfl) (en_one S (nm_by (by kernel_rfl) (by kernel_rfl) (by kernel_rfl))) (ess_cons (es_asg (ev_ix S (ev_v (by kernel_rfl) (by kernel_rfl) (by kernel_rfl) (by kernel_rfl)) (ev_bin (ev_bin (ev_v (by kernel_rfl) (by kernel_rfl) (by kernel_rfl) (by kernel_rfl)) ev_kint) (ev_v (by kernel_rfl) (by kernel_rfl) (by kernel_rfl) (by kernel_rfl))) (fun _ _ => rfl)) (eg_sub (XR := XR) S (ev_v (by kernel_rfl) (by kernel_rfl) (by kernel_rfl) (by kernel_rfl)) (ev_ix S (ev_v (by kernel_rfl) (by kernel_rfl) (by kernel_rfl) (by kernel_rfl)) (ev_v (by kernel_rfl) (by kernel_rfl) (by kernel_rfl) (by kernel_rfl)) (fun _ _ => rfl)) (fun _ => rfl)) rfl rfl rfl) ess_nil) (fun _ => rfl)) (ess_cons (es_asg (ev_bin (ev_v (by kernel_rfl) (by kernel_rfl) (by kernel_rfl) (by kernel_rfl)) (ev_v (by kernel_rfl) (by kernel_rfl) (by kernel_rfl) (by kernel_rfl))) (eg_name S (nm_by (by kernel_rfl) (by kernel_rfl) (by kernel_rfl))) rfl rfl rfl) ess_nil))) (fun _ => rfl)) (ess_cons (es_ret (ev_bi S .tuple (by kernel_rfl) (gl_by (by kernel_rfl)) G.b_tuple (by kernel_rfl) (ev_acons (ev_lc S (LcOk.mk (own := [("_law_seat", 7)]) (ei_range1 (gl_by (by kernel_rfl)) G.b_range (ev_bi S .len (by kernel_rfl) (gl_by (by kernel_rfl)) G.b_len (by kernel_rfl) (ev_acons (ev_v (by kernel_rfl) (by kernel_rfl) (by kernel_rfl) (by kernel_rfl)) ev_anil rfl)) rfl) (blkOk_by (by kernel_rfl)) (fun _ _ _ _ _ => (ew_one (S.blk) (nm_by (by kernel_rfl) (by kernel_rfl) (by kernel_rfl)) (by decide))) (fun _ _ _ _ _ => et_nil) (fun _ _ _ _ _ => (ev_ix (S.blk) (ev_v (by kernel_rfl) (by kernel_rfl) (by kernel_rfl) (by kernel_rfl)) (ev_v (by kernel_rfl) (by kernel_rfl) (by kernel_rfl) (by kernel_rfl)) (fun _ _ => rfl))) (fun _ => rfl))) ev_anil rfl))) ess_nil)))
theorem b__law_mixed (G : Gs mg) (Kw : Kws fds) (F : Fns P w K mg base XR k ad fds) (hg : A.guards = some []) (hr : Room k (A.deeper (envOfC "_law_mixed" (defScope s__law_mixed) s.heap.objs.size (ad 2) cdv))) :
    ESs (cxOf (L2.CX P w) P w K mg base N__law_mixed "_law_mixed" (defScope s__law_mixed) (ad 2) cdv A outer s H E) XR (fun cls d _ H' => E cls d H') (callN D k) (defBody s__law_mixed) c__law_mixed :=
  have S : Std (cxOf (L2.CX P w) P w K mg base N__law_mixed "_law_mixed" (defScope s__law_mixed) (ad 2) cdv A outer s H E) := std_cx sc__law_mixed.nd hg hr
  have tk : Takes (cxOf (L2.CX P w) P w K mg base N__law_mixed "_law_mixed" (defScope s__law_mixed) (ad 2) cdv A outer s H E) (fun cls d _ H' => E cls d H') := takes_cx
  (ess_cons (es_par S (by kernel_rfl) (by kernel_rfl) (by decide) (by kernel_rfl) (by kernel_rfl) (ev_acons (ev_bi S .list (by kernel_rfl) (gl_by (by kernel_rfl)) G.b_list (by kernel_rfl) (ev_acons (ev_v (by kernel_rfl) (by kernel_rfl) (by kernel_rfl) (by kernel_rfl)) ev_anil rfl)) (ev_acons (ev_lst ev_anil) ev_anil rfl) rfl) rfl rfl) (ess_cons (es_while owns_cx (eb_cmp S (ev_v (by kernel_rfl) (by kernel_rfl) (by kernel_rfl) (by kernel_rfl)) (ev_lst ev_anil) (by kernel_rfl)) (ess_cons (es_expr (ev_meth S .append (by kernel_rfl) rfl (by kernel_rfl) (by decide) (by kernel_rfl) (ev_v (by kernel_rfl) (by kernel_rfl) (by kernel_rfl) (by kernel_rfl)) (ev_acons (ev_meth S .pop (by kernel_rfl) rfl (by kernel_rfl) (by decide) (by kernel_rfl) (ev_v (by kernel_rfl) (by kernel_rfl) (by kernel_rfl) (by kernel_rfl)) (ev_acons (ev_call S (F.f1.at hr) tk (gl_by (by kernel_rfl)) (by kernel_rfl) (by kernel_rfl) (ev_acons (ev_v (by kernel_rfl) (by kernel_rfl) (by kernel_rfl) (by kernel_rfl)) (ev_acons (ev_bi S .len (by kernel_rfl) (gl_by (by kernel_rfl)) G.b_len (by kernel_rfl) (ev_acons (ev_v (by kernel_rfl) (by kernel_rfl) (by kernel_rfl) (by kernel_rfl)) ev_anil rfl)) ev_anil rfl) rfl)) ev_anil rfl)) ev_anil rfl)) rfl) ess_nil)) (ess_cons (es_ret (ev_v (by kernel_rfl) (by kernel_rfl) (by kernel_rfl) (by kernel_rfl))) ess_nil)))
theorem b__law_turn (G : Gs mg) (Kw : Kws fds) (F : Fns P w K mg base XR k ad fds) (hg : A.guards = some []) (hr : Room k (A.deeper (envOfC "_law_turn" (defScope s__law_turn) s.heap.objs.size (ad 3) cdv))) :
    ESs (cxOf (L2.CX P w) P w K mg base N__law_turn "_law_turn" (defScope s__law_turn) (ad 3) cdv A outer s H E) XR (fun cls d _ H' => E cls d H') (callN D k) (defBody s__law_turn) c__law_turn :=
  have S : Std (cxOf (L2.CX P w) P w K mg base N__law_turn "_law_turn" (defScope s__law_turn) (ad 3) cdv A outer s H E) := std_cx sc__law_turn.nd hg hr
  have tk : Takes (cxOf (L2.CX P w) P w K mg base N__law_turn "_law_turn" (defScope s__law_turn) (ad 3) cdv A outer s H E) (fun cls d _ H' => E cls d H') := takes_cx
  (ess_cons (es_ret (ev_call S (F.f0.at hr) tk (gl_by (by kernel_rfl)) (by kernel_rfl) (by kernel_rfl) (ev_acons (ev_v (by kernel_rfl) (by kernel_rfl) (by kernel_rfl) (by kernel_rfl)) (ev_acons (ev_call S (F.f2.at hr) tk (gl_by (by kernel_rfl)) (by kernel_rfl) (by kernel_rfl) (ev_acons (ev_v (by kernel_rfl) (by kernel_rfl) (by kernel_rfl) (by kernel_rfl)) (ev_acons (ev_lrange S (gl_by (by kernel_rfl)) G.b_list (prg1 (gl_by (by kernel_rfl)) G.b_range (ev_bi S .sum (by kernel_rfl) (gl_by (by kernel_rfl)) G.b_sum (by kernel_rfl) (ev_acons (ev_v (by kernel_rfl) (by kernel_rfl) (by kernel_rfl) (by kernel_rfl)) ev_anil rfl)) rfl) rfl) ev_anil rfl) rfl)) ev_anil rfl) rfl))) ess_nil)
theorem b__law_walked (G : Gs mg) (Kw : Kws fds) (F : Fns P w K mg base XR k ad fds) (hg : A.guards = some []) (hr : Room k (A.deeper (envOfC "_law_walked" (defScope s__law_walked) s.heap.objs.size (ad 8) cdv))) :
    ESs (cxOf (L2.CX P w) P w K mg base N__law_walked "_law_walked" (defScope s__law_walked) (ad 8) cdv A outer s H E) XR (fun cls d _ H' => E cls d H') (callN D k) (defBody s__law_walked) c__law_walked :=
  have S : Std (cxOf (L2.CX P w) P w K mg base N__law_walked "_law_walked" (defScope s__law_walked) (ad 8) cdv A outer s H E) := std_cx sc__law_walked.nd hg hr
  have tk : Takes (cxOf (L2.CX P w) P w K mg base N__law_walked "_law_walked" (defScope s__law_walked) (ad 8) cdv A outer s H E) (fun cls d _ H' => E cls d H') := takes_cx
  (ess_cons (es_par S (by kernel_rfl) (by kernel_rfl) (by decide) (by kernel_rfl) (by kernel_rfl) (ev_acons (ev_lst ev_anil) (ev_acons (ev_lst ev_anil) ev_anil rfl) rfl) rfl rfl) (ess_cons (es_for S owns_cx (ei_range1 (gl_by (by kernel_rfl)) G.b_range (ev_bi S .len (by kernel_rfl) (gl_by (by kernel_rfl)) G.b_len (by kernel_rfl) (ev_acons (ev_v (by kernel_rfl) (by kernel_rfl) (by kernel_rfl) (by kernel_rfl)) ev_anil rfl)) rfl) (en_one S (nm_by (by kernel_rfl) (by kernel_rfl) (by kernel_rfl))) (ess_cons (es_if (eb_cmp S (ev_v (by kernel_rfl) (by kernel_rfl) (by kernel_rfl) (by kernel_rfl)) (ev_v (by kernel_rfl) (by kernel_rfl) (by kernel_rfl) (by kernel_rfl)) (by kernel_rfl)) (ess_cons (es_asg (ev_lst (ev_acons (ev_v (by kernel_rfl) (by kernel_rfl) (by kernel_rfl) (by kernel_rfl)) ev_anil rfl)) (eg_name S (nm_by (by kernel_rfl) (by kernel_rfl) (by kernel_rfl))) rfl rfl rfl) (ess_cons (es_while owns_cx (eb_cmp S (ev_ix S (ev_v (by kernel_rfl) (by kernel_rfl) (by kernel_rfl) (by kernel_rfl)) (ev_ix S (ev_v (by kernel_rfl) (by kernel_rfl) (by kernel_rfl) (by kernel_rfl)) (ev_neg ev_kint) (fun _ _ => rfl)) (fun _ _ => rfl)) (ev_v (by kernel_rfl) (by kernel_rfl) (by kernel_rfl) (by kernel_rfl)) (by kernel_rfl)) (ess_cons (es_expr (ev_meth S .append (by kernel_rfl) rfl (by kernel_rfl) (by decide) (by kernel_rfl) (ev_v (by kernel_rfl) (by kernel_rfl) (by kernel_rfl) (by kernel_rfl)) (ev_acons (ev_ix S (ev_v (by kernel_rfl) (by kernel_rfl) (by kernel_rfl) (by kernel_rfl)) (ev_ix S (ev_v (by kernel_rfl) (by kernel_rfl) (by kernel_rfl) (by kernel_rfl)) (ev_neg ev_kint) (fun _ _ => rfl)) (fun _ _ => rfl)) ev_anil rfl)) rfl) ess_nil)) (ess_cons (es_asg (ev_bin (ev_v (by kernel_rfl) (by kernel_rfl) (by kernel_rfl) (by kernel_rfl)) (ev_v (by kernel_rfl) (by kernel_rfl) (by kernel_rfl) (by kernel_rfl))) (eg_name S (nm_by (by kernel_rfl) (by kernel_rfl) (by kernel_rfl))) rfl rfl rfl) (ess_cons (es_expr (ev_meth S .append (by kernel_rfl) rfl (by kernel_rfl) (by decide) (by kernel_rfl) (ev_v (by kernel_rfl) (by kernel_rfl) (by kernel_rfl) (by kernel_rfl)) (ev_acons (ev_bi S .tuple (by kernel_rfl) (gl_by (by kernel_rfl)) G.b_tuple (by kernel_rfl) (ev_acons (ev_v (by kernel_rfl) (by kernel_rfl) (by kernel_rfl) (by kernel_rfl)) ev_anil rfl)) ev_anil rfl)) rfl) ess_nil)))) ess_nil) ess_nil) (fun _ => rfl)) (ess_cons (es_ret (ev_v (by kernel_rfl) (by kernel_rfl) (by kernel_rfl) (by kernel_rfl))) ess_nil)))
theorem b__law_often (G : Gs mg) (Kw : Kws fds) (F : Fns P w K mg base XR k ad fds) (hg : A.guards = some []) (hr : Room k (A.deeper (envOfC "_law_often" (defScope s__law_often) s.heap.objs.size (ad 11) cdv))) :
    ESs (cxOf (L2.CX P w) P w K mg base N__law_often "_law_often" (defScope s__law_often) (ad 11) cdv A outer s H E) XR (fun cls d _ H' => E cls d H') (callN D k) (defBody s__law_often) c__law_often :=
  have S : Std (cxOf (L2.CX P w) P w K mg base N__law_often "_law_often" (defScope s__law_often) (ad 11) cdv A outer s H E) := std_cx sc__law_often.nd hg hr
  have tk : Takes (cxOf (L2.CX P w) P w K mg base N__law_often "_law_often" (defScope s__law_often) (ad 11) cdv A outer s H E) (fun cls d _ H' => E cls d H') := takes_cx
  (ess_cons (es_asg ev_dnew (eg_name S (nm_by (by kernel_rfl) (by kernel_rfl) (by kernel_rfl))) rfl rfl rfl) (ess_cons (es_for S owns_cx (ei_seq (ev_call S (F.f8.at hr) tk (gl_by (by kernel_rfl)) (by kernel_rfl) (by kernel_rfl) (ev_acons (ev_v (by kernel_rfl) (by kernel_rfl) (by kernel_rfl) (by kernel_rfl)) ev_anil rfl))) (en_one S (nm_by (by kernel_rfl) (by kernel_rfl) (by kernel_rfl))) (ess_cons (es_for S owns_cx (ei_range1 (gl_by (by kernel_rfl)) G.b_range (ev_bi S .len (by kernel_rfl) (gl_by (by kernel_rfl)) G.b_len (by kernel_rfl) (ev_acons (ev_v (by kernel_rfl) (by kernel_rfl) (by kernel_rfl) (by kernel_rfl)) ev_anil rfl)) rfl) (en_one S (nm_by (by kernel_rfl) (by kernel_rfl) (by kernel_rfl))) (ess_cons (es_asg (ev_ix S (ev_v (by kernel_rfl) (by kernel_rfl) (by kernel_rfl) (by kernel_rfl)) (ev_bin (ev_bi S .int (by kernel_rfl) (gl_by (by kernel_rfl)) G.b_int (by kernel_rfl) (ev_acons (ev_bin (ev_v (by kernel_rfl) (by kernel_rfl) (by kernel_rfl) (by kernel_rfl)) (ev_v (by kernel_rfl) (by kernel_rfl) (by kernel_rfl) (by kernel_rfl))) ev_anil rfl)) (ev_bi S .len (by kernel_rfl) (gl_by (by kernel_rfl)) G.b_len (by kernel_rfl) (ev_acons (ev_v (by kernel_rfl) (by kernel_rfl) (by kernel_rfl) (by kernel_rfl)) ev_anil rfl))) (fun _ _ => rfl)) (eg_sub (XR := XR) S (ev_v (by kernel_rfl) (by kernel_rfl) (by kernel_rfl) (by kernel_rfl)) (ev_ix S (ev_v (by kernel_rfl) (by kernel_rfl) (by kernel_rfl) (by kernel_rfl)) (ev_v (by kernel_rfl) (by kernel_rfl) (by kernel_rfl) (by kernel_rfl)) (fun _ _ => rfl)) (fun _ => rfl)) rfl rfl rfl) ess_nil) (fun _ => rfl)) ess_nil) (fun _ => rfl)) (ess_cons (es_ret (ev_bi S .tuple (by kernel_rfl) (gl_by (by kernel_rfl)) G.b_tuple (by kernel_rfl) (ev_acons (ev_lc S (LcOk.mk (own := [("_law_seat", 5)]) (ei_range1 (gl_by (by kernel_rfl)) G.b_range (ev_bi S .len (by kernel_rfl) (gl_by (by kernel_rfl)) G.b_len (by kernel_rfl) (ev_acons (ev_v (by kernel_rfl) (by kernel_rfl) (by kernel_rfl) (by kernel_rfl)) ev_anil rfl)) rfl) (blkOk_by (by kernel_rfl)) (fun _ _ _ _ _ => (ew_one (S.blk) (nm_by (by kernel_rfl) (by kernel_rfl) (by kernel_rfl)) (by decide))) (fun _ _ _ _ _ => et_nil) (fun _ _ _ _ _ => (ev_ix (S.blk) (ev_v (by kernel_rfl) (by kernel_rfl) (by kernel_rfl) (by kernel_rfl)) (ev_v (by kernel_rfl) (by kernel_rfl) (by kernel_rfl) (by kernel_rfl)) (fun _ _ => rfl))) (fun _ => rfl))) ev_anil rfl))) ess_nil)))
theorem b__law_lots (G : Gs mg) (Kw : Kws fds) (F : Fns P w K mg base XR k ad fds) (hg : A.guards = some []) (hr : Room k (A.deeper (envOfC "_law_lots" (defScope s__law_lots) s.heap.objs.size (ad 4) cdv))) :
    ESs (cxOf (L2.CX P w) P w K mg base N__law_lots "_law_lots" (defScope s__law_lots) (ad 4) cdv A outer s H E) XR (fun cls d _ H' => E cls d H') (callN D k) (defBody s__law_lots) c__law_lots :=
  have S : Std (cxOf (L2.CX P w) P w K mg base N__law_lots "_law_lots" (defScope s__law_lots) (ad 4) cdv A outer s H E) := std_cx sc__law_lots.nd hg hr
  have tk : Takes (cxOf (L2.CX P w) P w K mg base N__law_lots "_law_lots" (defScope s__law_lots) (ad 4) cdv A outer s H E) (fun cls d _ H' => E cls d H') := takes_cx
  (ess_cons (es_par3 S (by kernel_rfl) (by kernel_rfl) (by kernel_rfl) (by decide) (by decide) (by decide) (by kernel_rfl) (by kernel_rfl) (by kernel_rfl) (ev_acons (ev_call S (F.f1.at hr) tk (gl_by (by kernel_rfl)) (by kernel_rfl) (by kernel_rfl) (ev_acons (ev_v (by kernel_rfl) (by kernel_rfl) (by kernel_rfl) (by kernel_rfl)) (ev_acons ev_kint ev_anil rfl) rfl)) (ev_acons (ev_lst ev_anil) (ev_acons (ev_v (by kernel_rfl) (by kernel_rfl) (by kernel_rfl) (by kernel_rfl)) ev_anil rfl) rfl) rfl) rfl rfl) (ess_cons (es_while owns_cx (eb_cmp S (ev_v (by kernel_rfl) (by kernel_rfl) (by kernel_rfl) (by kernel_rfl)) ev_kint (by kernel_rfl)) (ess_cons (es_asg (ev_ix S (ev_lst (ev_acons (ev_v (by kernel_rfl) (by kernel_rfl) (by kernel_rfl) (by kernel_rfl)) (ev_acons (ev_v (by kernel_rfl) (by kernel_rfl) (by kernel_rfl) (by kernel_rfl)) (ev_acons (ev_bi S .min (by kernel_rfl) (gl_by (by kernel_rfl)) G.b_min (by kernel_rfl) (ev_acons (ev_v (by kernel_rfl) (by kernel_rfl) (by kernel_rfl) (by kernel_rfl)) (ev_acons ev_kint ev_anil rfl) rfl)) (ev_acons (ev_bi S .min (by kernel_rfl) (gl_by (by kernel_rfl)) G.b_min (by kernel_rfl) (ev_acons (ev_v (by kernel_rfl) (by kernel_rfl) (by kernel_rfl) (by kernel_rfl)) (ev_acons ev_kint ev_anil rfl) rfl)) (ev_acons (ev_bi S .min (by kernel_rfl) (gl_by (by kernel_rfl)) G.b_min (by kernel_rfl) (ev_acons (ev_v (by kernel_rfl) (by kernel_rfl) (by kernel_rfl) (by kernel_rfl)) (ev_acons (ev_bin ev_kint (ev_bin (ev_v (by kernel_rfl) (by kernel_rfl) (by kernel_rfl) (by kernel_rfl)) ev_kint)) ev_anil rfl) rfl)) ev_anil rfl) rfl) rfl) rfl) rfl)) (ev_v (by kernel_rfl) (by kernel_rfl) (by kernel_rfl) (by kernel_rfl)) (fun _ _ => rfl)) (eg_name S (nm_by (by kernel_rfl) (by kernel_rfl) (by kernel_rfl))) rfl rfl rfl) (ess_cons (es_expr (ev_meth S .append (by kernel_rfl) rfl (by kernel_rfl) (by decide) (by kernel_rfl) (ev_v (by kernel_rfl) (by kernel_rfl) (by kernel_rfl) (by kernel_rfl)) (ev_acons (ev_bin ev_kint (ev_call S (F.f1.at hr) tk (gl_by (by kernel_rfl)) (by kernel_rfl) (by kernel_rfl) (ev_acons (ev_v (by kernel_rfl) (by kernel_rfl) (by kernel_rfl) (by kernel_rfl)) (ev_acons (ev_v (by kernel_rfl) (by kernel_rfl) (by kernel_rfl) (by kernel_rfl)) ev_anil rfl) rfl))) ev_anil rfl)) rfl) (ess_cons (es_asg (ev_bin (ev_v (by kernel_rfl) (by kernel_rfl) (by kernel_rfl) (by kernel_rfl)) (ev_ix S (ev_v (by kernel_rfl) (by kernel_rfl) (by kernel_rfl) (by kernel_rfl)) (ev_neg ev_kint) (fun _ _ => rfl))) (eg_name S (nm_by (by kernel_rfl) (by kernel_rfl) (by kernel_rfl))) rfl rfl rfl) ess_nil)))) (ess_cons (es_ret (ev_bi S .tuple (by kernel_rfl) (gl_by (by kernel_rfl)) G.b_tuple (by kernel_rfl) (ev_acons (ev_rev (ev_bi S .sorted (by kernel_rfl) (gl_by (by kernel_rfl)) G.b_sorted (by kernel_rfl) (ev_acons (ev_v (by kernel_rfl) (by kernel_rfl) (by kernel_rfl) (by kernel_rfl)) ev_anil rfl))) ev_anil rfl))) ess_nil)))
theorem b_lengths_in (G : Gs mg) (Kw : Kws fds) (F : Fns P w K mg base XR k ad fds) (hg : A.guards = some []) (hr : Room k (A.deeper (envOfC "lengths_in" (defScope s_lengths_in) s.heap.objs.size (ad 15) cdv))) :
    ESs (cxOf (L2.CX P w) P w K mg base N_lengths_in "lengths_in" (defScope s_lengths_in) (ad 15) cdv A outer s H E) XR (fun cls d _ H' => E cls d H') (callN D k) (defBody s_lengths_in) c_lengths_in :=
  have S : Std (cxOf (L2.CX P w) P w K mg base N_lengths_in "lengths_in" (defScope s_lengths_in) (ad 15) cdv A outer s H E) := std_cx sc_lengths_in.nd hg hr
  have tk : Takes (cxOf (L2.CX P w) P w K mg base N_lengths_in "lengths_in" (defScope s_lengths_in) (ad 15) cdv A outer s H E) (fun cls d _ H' => E cls d H') := takes_cx
  (ess_cons (es_par S (by kernel_rfl) (by kernel_rfl) (by decide) (by kernel_rfl) (by kernel_rfl) (ev_acons (ev_lc S (LcOk.mk (own := [("seat", 3)]) (ei_seq (ev_v (by kernel_rfl) (by kernel_rfl) (by kernel_rfl) (by kernel_rfl))) (blkOk_by (by kernel_rfl)) (fun _ _ _ _ _ => (ew_one (S.blk) (nm_by (by kernel_rfl) (by kernel_rfl) (by kernel_rfl)) (by decide))) (fun _ _ _ _ _ => et_nil) (fun _ _ _ _ _ => ev_kbl) (fun _ => rfl))) (ev_acons (ev_lst ev_anil) ev_anil rfl) rfl) rfl rfl) (ess_cons (es_for S owns_cx (ei_range1 (gl_by (by kernel_rfl)) G.b_range (ev_bi S .len (by kernel_rfl) (gl_by (by kernel_rfl)) G.b_len (by kernel_rfl) (ev_acons (ev_v (by kernel_rfl) (by kernel_rfl) (by kernel_rfl) (by kernel_rfl)) ev_anil rfl)) rfl) (en_one S (nm_by (by kernel_rfl) (by kernel_rfl) (by kernel_rfl))) (ess_cons (es_asg ev_kint (eg_name S (nm_by (by kernel_rfl) (by kernel_rfl) (by kernel_rfl))) rfl rfl rfl) (ess_cons (es_while owns_cx (eb_val (ev_ix S (ev_v (by kernel_rfl) (by kernel_rfl) (by kernel_rfl) (by kernel_rfl)) (ev_v (by kernel_rfl) (by kernel_rfl) (by kernel_rfl) (by kernel_rfl)) (fun _ _ => rfl)) (fun _ => rfl)) (ess_cons (es_asg ev_kbl (eg_sub (XR := XR) S (ev_v (by kernel_rfl) (by kernel_rfl) (by kernel_rfl) (by kernel_rfl)) (ev_v (by kernel_rfl) (by kernel_rfl) (by kernel_rfl) (by kernel_rfl)) (fun _ => rfl)) rfl rfl rfl) (ess_cons (es_par S (by kernel_rfl) (by kernel_rfl) (by decide) (by kernel_rfl) (by kernel_rfl) (ev_acons (ev_ix S (ev_v (by kernel_rfl) (by kernel_rfl) (by kernel_rfl) (by kernel_rfl)) (ev_v (by kernel_rfl) (by kernel_rfl) (by kernel_rfl) (by kernel_rfl)) (fun _ _ => rfl)) (ev_acons (ev_bin (ev_v (by kernel_rfl) (by kernel_rfl) (by kernel_rfl) (by kernel_rfl)) ev_kint) ev_anil rfl) rfl) rfl rfl) ess_nil))) (ess_cons (es_if (eb_cmp S (ev_v (by kernel_rfl) (by kernel_rfl) (by kernel_rfl) (by kernel_rfl)) ev_kint (by kernel_rfl)) (ess_cons (es_expr (ev_meth S .append (by kernel_rfl) rfl (by kernel_rfl) (by decide) (by kernel_rfl) (ev_v (by kernel_rfl) (by kernel_rfl) (by kernel_rfl) (by kernel_rfl)) (ev_acons (ev_v (by kernel_rfl) (by kernel_rfl) (by kernel_rfl) (by kernel_rfl)) ev_anil rfl)) rfl) ess_nil) ess_nil) ess_nil))) (fun _ => rfl)) (ess_cons (es_ret (ev_bi S .tuple (by kernel_rfl) (gl_by (by kernel_rfl)) G.b_tuple (by kernel_rfl) (ev_acons (ev_rev (ev_bi S .sorted (by kernel_rfl) (gl_by (by kernel_rfl)) G.b_sorted (by kernel_rfl) (ev_acons (ev_v (by kernel_rfl) (by kernel_rfl) (by kernel_rfl) (by kernel_rfl)) ev_anil rfl))) ev_anil rfl))) ess_nil)))
theorem b_led_on (G : Gs mg) (Kw : Kws fds) (F : Fns P w K mg base XR k ad fds) (hg : A.guards = some []) (hr : Room k (A.deeper (envOfC "led_on" (defScope s_led_on) s.heap.objs.size (ad 16) cdv))) :
    ESs (cxOf (L2.CX P w) P w K mg base N_led_on "led_on" (defScope s_led_on) (ad 16) cdv A outer s H E) XR (fun cls d _ H' => E cls d H') (callN D k) (defBody s_led_on) c_led_on :=
  have S : Std (cxOf (L2.CX P w) P w K mg base N_led_on "led_on" (defScope s_led_on) (ad 16) cdv A outer s H E) := std_cx sc_led_on.nd hg hr
  have tk : Takes (cxOf (L2.CX P w) P w K mg base N_led_on "led_on" (defScope s_led_on) (ad 16) cdv A outer s H E) (fun cls d _ H' => E cls d H') := takes_cx
  (ess_cons (es_ret (ev_bi S .tuple (by kernel_rfl) (gl_by (by kernel_rfl)) G.b_tuple (by kernel_rfl) (ev_acons (ev_lc S (LcOk.mk (own := [("seat", 2)]) (ei_seq (ev_v (by kernel_rfl) (by kernel_rfl) (by kernel_rfl) (by kernel_rfl))) (blkOk_by (by kernel_rfl)) (fun _ _ _ _ _ => (ew_one (S.blk) (nm_by (by kernel_rfl) (by kernel_rfl) (by kernel_rfl)) (by decide))) (fun _ _ _ _ _ => et_nil) (fun _ _ _ _ _ => (ev_ix (S.blk) (ev_v (by kernel_rfl) (by kernel_rfl) (by kernel_rfl) (by kernel_rfl)) (ev_v (by kernel_rfl) (by kernel_rfl) (by kernel_rfl) (by kernel_rfl)) (fun _ _ => rfl))) (fun _ => rfl))) ev_anil rfl))) ess_nil)
theorem b_is_round (G : Gs mg) (Kw : Kws fds) (F : Fns P w K mg base XR k ad fds) (hg : A.guards = some []) (hr : Room k (A.deeper (envOfC "is_round" (defScope s_is_round) s.heap.objs.size (ad 17) cdv))) :
    ESs (cxOf (L2.CX P w) P w K mg base N_is_round "is_round" (defScope s_is_round) (ad 17) cdv A outer s H E) XR (fun cls d _ H' => E cls d H') (callN D k) (defBody s_is_round) c_is_round :=
  have S : Std (cxOf (L2.CX P w) P w K mg base N_is_round "is_round" (defScope s_is_round) (ad 17) cdv A outer s H E) := std_cx sc_is_round.nd hg hr
  have tk : Takes (cxOf (L2.CX P w) P w K mg base N_is_round "is_round" (defScope s_is_round) (ad 17) cdv A outer s H E) (fun cls d _ H' => E cls d H') := takes_cx
  (ess_cons (es_ret (ev_cmp S (ev_call S (F.f15.at hr) tk (gl_by (by kernel_rfl)) (by kernel_rfl) (by kernel_rfl) (ev_acons (ev_call S (F.f16.at hr) tk (gl_by (by kernel_rfl)) (by kernel_rfl) (by kernel_rfl) (ev_acons (ev_v (by kernel_rfl) (by kernel_rfl) (by kernel_rfl) (by kernel_rfl)) (ev_acons (ev_v (by kernel_rfl) (by kernel_rfl) (by kernel_rfl) (by kernel_rfl)) ev_anil rfl) rfl)) ev_anil rfl)) (ev_tup (ev_acons (ev_bi S .len (by kernel_rfl) (gl_by (by kernel_rfl)) G.b_len (by kernel_rfl) (ev_acons (ev_v (by kernel_rfl) (by kernel_rfl) (by kernel_rfl) (by kernel_rfl)) ev_anil rfl)) ev_anil rfl)) (by kernel_rfl))) ess_nil)
theorem b_is_whole (G : Gs mg) (Kw : Kws fds) (F : Fns P w K mg base XR k ad fds) (hg : A.guards = some []) (hr : Room k (A.deeper (envOfC "is_whole" (defScope s_is_whole) s.heap.objs.size (ad 18) cdv))) :
    ESs (cxOf (L2.CX P w) P w K mg base N_is_whole "is_whole" (defScope s_is_whole) (ad 18) cdv A outer s H E) XR (fun cls d _ H' => E cls d H') (callN D k) (defBody s_is_whole) c_is_whole :=
  have S : Std (cxOf (L2.CX P w) P w K mg base N_is_whole "is_whole" (defScope s_is_whole) (ad 18) cdv A outer s H E) := std_cx sc_is_whole.nd hg hr
  have tk : Takes (cxOf (L2.CX P w) P w K mg base N_is_whole "is_whole" (defScope s_is_whole) (ad 18) cdv A outer s H E) (fun cls d _ H' => E cls d H') := takes_cx
  (ess_cons (es_ret (ev_and (ev_isi S rfl rfl (by kernel_rfl) (gl_by (by kernel_rfl)) G.b_isinstance (gl_by (by kernel_rfl)) G.b_int (by decide +kernel) (by kernel_rfl) (by kernel_rfl) (ev_v (by kernel_rfl) (by kernel_rfl) (by kernel_rfl) (by kernel_rfl))) (ev_one (ev_not (ev_isi S rfl rfl (by kernel_rfl) (gl_by (by kernel_rfl)) G.b_isinstance (gl_by (by kernel_rfl)) G.b_bool (by decide +kernel) (by kernel_rfl) (by kernel_rfl) (ev_v (by kernel_rfl) (by kernel_rfl) (by kernel_rfl) (by kernel_rfl))))))) ess_nil)
theorem b_are_lengths (G : Gs mg) (Kw : Kws fds) (F : Fns P w K mg base XR k ad fds) (hg : A.guards = some []) (hr : Room k (A.deeper (envOfC "are_lengths" (defScope s_are_lengths) s.heap.objs.size (ad 19) cdv))) :
    ESs (cxOf (L2.CX P w) P w K mg base N_are_lengths "are_lengths" (defScope s_are_lengths) (ad 19) cdv A outer s H E) XR (fun cls d _ H' => E cls d H') (callN D k) (defBody s_are_lengths) c_are_lengths :=
  have S : Std (cxOf (L2.CX P w) P w K mg base N_are_lengths "are_lengths" (defScope s_are_lengths) (ad 19) cdv A outer s H E) := std_cx sc_are_lengths.nd hg hr
  have tk : Takes (cxOf (L2.CX P w) P w K mg base N_are_lengths "are_lengths" (defScope s_are_lengths) (ad 19) cdv A outer s H E) (fun cls d _ H' => E cls d H') := takes_cx
  (ess_cons (es_if (eb_w (eb_or (eb_not (eb_val (ev_isi S rfl rfl (by kernel_rfl) (gl_by (by kernel_rfl)) G.b_isinstance (gl_by (by kernel_rfl)) G.b_tuple (by decide +kernel) (by kernel_rfl) (by kernel_rfl) (ev_v (by kernel_rfl) (by kernel_rfl) (by kernel_rfl) (by kernel_rfl))) (fun _ => rfl))) (eb_or1 (eb_cmp S (ev_bi S .len (by kernel_rfl) (gl_by (by kernel_rfl)) G.b_len (by kernel_rfl) (ev_acons (ev_v (by kernel_rfl) (by kernel_rfl) (by kernel_rfl) (by kernel_rfl)) ev_anil rfl)) ev_kint (by kernel_rfl))))) (ess_cons (es_ret ev_kbl) ess_nil) ess_nil) (ess_cons (es_asg (ev_gint (gl_by (by kernel_rfl)) G.c_MOST_ROUND (by kernel_rfl)) (eg_name S (nm_by (by kernel_rfl) (by kernel_rfl) (by kernel_rfl))) rfl rfl rfl) (ess_cons (es_for S owns_cx (ei_seq (ev_v (by kernel_rfl) (by kernel_rfl) (by kernel_rfl) (by kernel_rfl))) (en_one S (nm_by (by kernel_rfl) (by kernel_rfl) (by kernel_rfl))) (ess_cons (es_if (eb_w (eb_or (eb_not (eb_val (ev_call S (F.f18.at hr) tk (gl_by (by kernel_rfl)) (by kernel_rfl) (by kernel_rfl) (ev_acons (ev_v (by kernel_rfl) (by kernel_rfl) (by kernel_rfl) (by kernel_rfl)) ev_anil rfl)) (fun _ => rfl))) (eb_or1 (eb_not (eb_chain S ev_kint (ev_v (by kernel_rfl) (by kernel_rfl) (by kernel_rfl) (by kernel_rfl)) (ev_v (by kernel_rfl) (by kernel_rfl) (by kernel_rfl) (by kernel_rfl)) (by kernel_rfl)))))) (ess_cons (es_ret ev_kbl) ess_nil) ess_nil) (ess_cons (es_asg (ev_v (by kernel_rfl) (by kernel_rfl) (by kernel_rfl) (by kernel_rfl)) (eg_name S (nm_by (by kernel_rfl) (by kernel_rfl) (by kernel_rfl))) rfl rfl rfl) ess_nil)) (fun _ => rfl)) (ess_cons (es_ret (ev_cmp S (ev_bi S .sum (by kernel_rfl) (gl_by (by kernel_rfl)) G.b_sum (by kernel_rfl) (ev_acons (ev_v (by kernel_rfl) (by kernel_rfl) (by kernel_rfl) (by kernel_rfl)) ev_anil rfl)) (ev_gint (gl_by (by kernel_rfl)) G.c_MOST_ROUND (by kernel_rfl)) (by kernel_rfl))) ess_nil))))
theorem b_are_one_size (G : Gs mg) (Kw : Kws fds) (F : Fns P w K mg base XR k ad fds) (hg : A.guards = some []) (hr : Room k (A.deeper (envOfC "are_one_size" (defScope s_are_one_size) s.heap.objs.size (ad 20) cdv))) :
    ESs (cxOf (L2.CX P w) P w K mg base N_are_one_size "are_one_size" (defScope s_are_one_size) (ad 20) cdv A outer s H E) XR (fun cls d _ H' => E cls d H') (callN D k) (defBody s_are_one_size) c_are_one_size :=
  have S : Std (cxOf (L2.CX P w) P w K mg base N_are_one_size "are_one_size" (defScope s_are_one_size) (ad 20) cdv A outer s H E) := std_cx sc_are_one_size.nd hg hr
  have tk : Takes (cxOf (L2.CX P w) P w K mg base N_are_one_size "are_one_size" (defScope s_are_one_size) (ad 20) cdv A outer s H E) (fun cls d _ H' => E cls d H') := takes_cx
  (ess_cons (es_ret (ev_and (ev_call S (F.f19.at hr) tk (gl_by (by kernel_rfl)) (by kernel_rfl) (by kernel_rfl) (ev_acons (ev_v (by kernel_rfl) (by kernel_rfl) (by kernel_rfl) (by kernel_rfl)) ev_anil rfl)) (ev_and (ev_call S (F.f19.at hr) tk (gl_by (by kernel_rfl)) (by kernel_rfl) (by kernel_rfl) (ev_acons (ev_v (by kernel_rfl) (by kernel_rfl) (by kernel_rfl) (by kernel_rfl)) ev_anil rfl)) (ev_one (ev_cmp S (ev_bi S .sum (by kernel_rfl) (gl_by (by kernel_rfl)) G.b_sum (by kernel_rfl) (ev_acons (ev_v (by kernel_rfl) (by kernel_rfl) (by kernel_rfl) (by kernel_rfl)) ev_anil rfl)) (ev_bi S .sum (by kernel_rfl) (gl_by (by kernel_rfl)) G.b_sum (by kernel_rfl) (ev_acons (ev_v (by kernel_rfl) (by kernel_rfl) (by kernel_rfl) (by kernel_rfl)) ev_anil rfl)) (by kernel_rfl)))))) ess_nil)
theorem b_is_row (G : Gs mg) (Kw : Kws fds) (F : Fns P w K mg base XR k ad fds) (hg : A.guards = some []) (hr : Room k (A.deeper (envOfC "is_row" (defScope s_is_row) s.heap.objs.size (ad 21) cdv))) :
    ESs (cxOf (L2.CX P w) P w K mg base N_is_row "is_row" (defScope s_is_row) (ad 21) cdv A outer s H E) XR (fun cls d _ H' => E cls d H') (callN D k) (defBody s_is_row) c_is_row :=
  have S : Std (cxOf (L2.CX P w) P w K mg base N_is_row "is_row" (defScope s_is_row) (ad 21) cdv A outer s H E) := std_cx sc_is_row.nd hg hr
  have tk : Takes (cxOf (L2.CX P w) P w K mg base N_is_row "is_row" (defScope s_is_row) (ad 21) cdv A outer s H E) (fun cls d _ H' => E cls d H') := takes_cx
  (ess_cons (es_if (eb_w (eb_or (eb_not (eb_val (ev_isi S rfl rfl (by kernel_rfl) (gl_by (by kernel_rfl)) G.b_isinstance (gl_by (by kernel_rfl)) G.b_tuple (by decide +kernel) (by kernel_rfl) (by kernel_rfl) (ev_v (by kernel_rfl) (by kernel_rfl) (by kernel_rfl) (by kernel_rfl))) (fun _ => rfl))) (eb_or1 (eb_not (eb_chain S ev_kint (ev_bi S .len (by kernel_rfl) (gl_by (by kernel_rfl)) G.b_len (by kernel_rfl) (ev_acons (ev_v (by kernel_rfl) (by kernel_rfl) (by kernel_rfl) (by kernel_rfl)) ev_anil rfl)) (ev_gint (gl_by (by kernel_rfl)) G.c_MOST_ROUND (by kernel_rfl)) (by kernel_rfl)))))) (ess_cons (es_ret ev_kbl) ess_nil) ess_nil) (ess_cons (es_setLc S (by kernel_rfl) (by kernel_rfl) (sw_true (by kernel_rfl) (by kernel_rfl) (by kernel_rfl) (by kernel_rfl)) (LcOk.mk (own := [("spare", 3)]) (ei_seq (ev_v (by kernel_rfl) (by kernel_rfl) (by kernel_rfl) (by kernel_rfl))) (blkOk_by (by kernel_rfl)) (fun _ _ _ _ _ => (ew_one (S.blk) (nm_by (by kernel_rfl) (by kernel_rfl) (by kernel_rfl)) (by decide))) (fun _ _ _ _ _ => et_nil) (fun _ _ _ _ _ => ev_kbl) (fun _ => rfl))) (ess_cons (es_for S owns_cx (ei_seq (ev_v (by kernel_rfl) (by kernel_rfl) (by kernel_rfl) (by kernel_rfl))) (en_one S (nm_by (by kernel_rfl) (by kernel_rfl) (by kernel_rfl))) (ess_cons (es_if (eb_w (eb_or (eb_not (eb_val (ev_call S (F.f18.at hr) tk (gl_by (by kernel_rfl)) (by kernel_rfl) (by kernel_rfl) (ev_acons (ev_v (by kernel_rfl) (by kernel_rfl) (by kernel_rfl) (by kernel_rfl)) ev_anil rfl)) (fun _ => rfl))) (eb_or (eb_not (eb_chain S ev_kint (ev_v (by kernel_rfl) (by kernel_rfl) (by kernel_rfl) (by kernel_rfl)) (ev_bi S .len (by kernel_rfl) (gl_by (by kernel_rfl)) G.b_len (by kernel_rfl) (ev_acons (ev_v (by kernel_rfl) (by kernel_rfl) (by kernel_rfl) (by kernel_rfl)) ev_anil rfl)) (by kernel_rfl))) (eb_or1 (eb_not (eb_val (ev_ix S (ev_v (by kernel_rfl) (by kernel_rfl) (by kernel_rfl) (by kernel_rfl)) (ev_v (by kernel_rfl) (by kernel_rfl) (by kernel_rfl) (by kernel_rfl)) (fun _ _ => rfl)) (fun _ => rfl))))))) (ess_cons (es_ret ev_kbl) ess_nil) ess_nil) (ess_cons (es_asg ev_kbl (eg_sub (XR := XR) S (ev_v (by kernel_rfl) (by kernel_rfl) (by kernel_rfl) (by kernel_rfl)) (ev_v (by kernel_rfl) (by kernel_rfl) (by kernel_rfl) (by kernel_rfl)) (fun _ => rfl)) rfl rfl rfl) ess_nil)) (fun _ => rfl)) (ess_cons (es_ret ev_kbl) ess_nil))))
theorem b_ring_shown (G : Gs mg) (Kw : Kws fds) (F : Fns P w K mg base XR k ad fds) (hg : A.guards = some []) (hr : Room k (A.deeper (envOfC "ring_shown" (defScope s_ring_shown) s.heap.objs.size (ad 22) cdv))) :
    ESs (cxOf (L2.CX P w) P w K mg base N_ring_shown "ring_shown" (defScope s_ring_shown) (ad 22) cdv A outer s H E) XR (fun cls d _ H' => E cls d H') (callN D k) (defBody s_ring_shown) c_ring_shown :=
  have S : Std (cxOf (L2.CX P w) P w K mg base N_ring_shown "ring_shown" (defScope s_ring_shown) (ad 22) cdv A outer s H E) := std_cx sc_ring_shown.nd hg hr
  have tk : Takes (cxOf (L2.CX P w) P w K mg base N_ring_shown "ring_shown" (defScope s_ring_shown) (ad 22) cdv A outer s H E) (fun cls d _ H' => E cls d H') := takes_cx
  (ess_cons (es_if (eb_w (eb_or (eb_not (eb_val (ev_call S (F.f20.at hr) tk (gl_by (by kernel_rfl)) (by kernel_rfl) (by kernel_rfl) (ev_acons (ev_v (by kernel_rfl) (by kernel_rfl) (by kernel_rfl) (by kernel_rfl)) (ev_acons (ev_v (by kernel_rfl) (by kernel_rfl) (by kernel_rfl) (by kernel_rfl)) ev_anil rfl) rfl)) (fun _ => rfl))) (eb_or (eb_not (eb_val (ev_isi S rfl rfl (by kernel_rfl) (gl_by (by kernel_rfl)) G.b_isinstance (gl_by (by kernel_rfl)) G.b_tuple (by decide +kernel) (by kernel_rfl) (by kernel_rfl) (ev_v (by kernel_rfl) (by kernel_rfl) (by kernel_rfl) (by kernel_rfl))) (fun _ => rfl))) (eb_or1 (eb_cmp S (ev_bi S .len (by kernel_rfl) (gl_by (by kernel_rfl)) G.b_len (by kernel_rfl) (ev_acons (ev_v (by kernel_rfl) (by kernel_rfl) (by kernel_rfl) (by kernel_rfl)) ev_anil rfl)) ev_kint (by kernel_rfl)))))) (ess_cons (es_ret ev_kbl) ess_nil) ess_nil) (ess_cons (es_if (eb_w (eb_or (eb_not (eb_val (ev_call S (F.f21.at hr) tk (gl_by (by kernel_rfl)) (by kernel_rfl) (by kernel_rfl) (ev_acons (ev_ix S (ev_v (by kernel_rfl) (by kernel_rfl) (by kernel_rfl) (by kernel_rfl)) ev_kint (fun _ _ => rfl)) ev_anil rfl)) (fun _ => rfl))) (eb_or1 (eb_not (eb_val (ev_call S (F.f21.at hr) tk (gl_by (by kernel_rfl)) (by kernel_rfl) (by kernel_rfl) (ev_acons (ev_ix S (ev_v (by kernel_rfl) (by kernel_rfl) (by kernel_rfl) (by kernel_rfl)) ev_kint (fun _ _ => rfl)) ev_anil rfl)) (fun _ => rfl)))))) (ess_cons (es_ret ev_kbl) ess_nil) ess_nil) (ess_cons (es_if (eb_w (eb_or (eb_cmp S (ev_call S (F.f15.at hr) tk (gl_by (by kernel_rfl)) (by kernel_rfl) (by kernel_rfl) (ev_acons (ev_ix S (ev_v (by kernel_rfl) (by kernel_rfl) (by kernel_rfl) (by kernel_rfl)) ev_kint (fun _ _ => rfl)) ev_anil rfl)) (ev_v (by kernel_rfl) (by kernel_rfl) (by kernel_rfl) (by kernel_rfl)) (by kernel_rfl)) (eb_or1 (eb_cmp S (ev_call S (F.f15.at hr) tk (gl_by (by kernel_rfl)) (by kernel_rfl) (by kernel_rfl) (ev_acons (ev_ix S (ev_v (by kernel_rfl) (by kernel_rfl) (by kernel_rfl) (by kernel_rfl)) ev_kint (fun _ _ => rfl)) ev_anil rfl)) (ev_v (by kernel_rfl) (by kernel_rfl) (by kernel_rfl) (by kernel_rfl)) (by kernel_rfl))))) (ess_cons (es_ret ev_kbl) ess_nil) ess_nil) (ess_cons (es_ret (ev_call S (F.f17.at hr) tk (gl_by (by kernel_rfl)) (by kernel_rfl) (by kernel_rfl) (ev_acons (ev_ix S (ev_v (by kernel_rfl) (by kernel_rfl) (by kernel_rfl) (by kernel_rfl)) ev_kint (fun _ _ => rfl)) (ev_acons (ev_ix S (ev_v (by kernel_rfl) (by kernel_rfl) (by kernel_rfl) (by kernel_rfl)) ev_kint (fun _ _ => rfl)) ev_anil rfl) rfl))) ess_nil))))
theorem b_hurdle (G : Gs mg) (Kw : Kws fds) (F : Fns P w K mg base XR k ad fds) (hg : A.guards = some []) (hr : Room k (A.deeper (envOfC "hurdle" (defScope s_hurdle) s.heap.objs.size (ad 23) cdv))) :
    ESs (cxOf (L2.CX P w) P w K mg base N_hurdle "hurdle" (defScope s_hurdle) (ad 23) cdv A outer s H E) XR (fun cls d _ H' => E cls d H') (callN D k) (defBody s_hurdle) c_hurdle :=
  have S : Std (cxOf (L2.CX P w) P w K mg base N_hurdle "hurdle" (defScope s_hurdle) (ad 23) cdv A outer s H E) := std_cx sc_hurdle.nd hg hr
  have tk : Takes (cxOf (L2.CX P w) P w K mg base N_hurdle "hurdle" (defScope s_hurdle) (ad 23) cdv A outer s H E) (fun cls d _ H' => E cls d H') := takes_cx
  (ess_cons (es_asg (ev_bin (ev_bin (ev_bin (ev_bi S .sum (by kernel_rfl) (gl_by (by kernel_rfl)) G.b_sum (by kernel_rfl) (ev_acons (ev_v (by kernel_rfl) (by kernel_rfl) (by kernel_rfl) (by kernel_rfl)) ev_anil rfl)) ev_kint) (ev_bi S .len (by kernel_rfl) (gl_by (by kernel_rfl)) G.b_len (by kernel_rfl) (ev_acons (ev_v (by kernel_rfl) (by kernel_rfl) (by kernel_rfl) (by kernel_rfl)) ev_anil rfl))) (ev_bi S .len (by kernel_rfl) (gl_by (by kernel_rfl)) G.b_len (by kernel_rfl) (ev_acons (ev_v (by kernel_rfl) (by kernel_rfl) (by kernel_rfl) (by kernel_rfl)) ev_anil rfl))) (eg_name S (nm_by (by kernel_rfl) (by kernel_rfl) (by kernel_rfl))) rfl rfl rfl) (ess_cons (es_if (eb_cmp S (ev_bin (ev_v (by kernel_rfl) (by kernel_rfl) (by kernel_rfl) (by kernel_rfl)) ev_kint) ev_kint (by kernel_rfl)) (ess_cons (es_ret ev_kstr) ess_nil) ess_nil) (ess_cons (es_ret (ev_ite (eb_cmp S (ev_v (by kernel_rfl) (by kernel_rfl) (by kernel_rfl) (by kernel_rfl)) ev_kint (by kernel_rfl)) ev_kstr ev_knon)) ess_nil)))
theorem b_no_ring_shown (G : Gs mg) (Kw : Kws fds) (F : Fns P w K mg base XR k ad fds) (hg : A.guards = some []) (hr : Room k (A.deeper (envOfC "no_ring_shown" (defScope s_no_ring_shown) s.heap.objs.size (ad 24) cdv))) :
    ESs (cxOf (L2.CX P w) P w K mg base N_no_ring_shown "no_ring_shown" (defScope s_no_ring_shown) (ad 24) cdv A outer s H E) XR (fun cls d _ H' => E cls d H') (callN D k) (defBody s_no_ring_shown) c_no_ring_shown :=
  have S : Std (cxOf (L2.CX P w) P w K mg base N_no_ring_shown "no_ring_shown" (defScope s_no_ring_shown) (ad 24) cdv A outer s H E) := std_cx sc_no_ring_shown.nd hg hr
  have tk : Takes (cxOf (L2.CX P w) P w K mg base N_no_ring_shown "no_ring_shown" (defScope s_no_ring_shown) (ad 24) cdv A outer s H E) (fun cls d _ H' => E cls d H') := takes_cx
  (ess_cons (es_if (eb_w (eb_or (eb_not (eb_val (ev_call S (F.f20.at hr) tk (gl_by (by kernel_rfl)) (by kernel_rfl) (by kernel_rfl) (ev_acons (ev_v (by kernel_rfl) (by kernel_rfl) (by kernel_rfl) (by kernel_rfl)) (ev_acons (ev_v (by kernel_rfl) (by kernel_rfl) (by kernel_rfl) (by kernel_rfl)) ev_anil rfl) rfl)) (fun _ => rfl))) (eb_or1 (eb_not (eb_val (ev_isi S rfl rfl (by kernel_rfl) (gl_by (by kernel_rfl)) G.b_isinstance (gl_by (by kernel_rfl)) G.b_str (by decide +kernel) (by kernel_rfl) (by kernel_rfl) (ev_v (by kernel_rfl) (by kernel_rfl) (by kernel_rfl) (by kernel_rfl))) (fun _ => rfl)))))) (ess_cons (es_ret ev_kbl) ess_nil) ess_nil) (ess_cons (es_ret (ev_cmp S (ev_call S (F.f23.at hr) tk (gl_by (by kernel_rfl)) (by kernel_rfl) (by kernel_rfl) (ev_acons (ev_v (by kernel_rfl) (by kernel_rfl) (by kernel_rfl) (by kernel_rfl)) (ev_acons (ev_v (by kernel_rfl) (by kernel_rfl) (by kernel_rfl) (by kernel_rfl)) ev_anil rfl) rfl)) (ev_v (by kernel_rfl) (by kernel_rfl) (by kernel_rfl) (by kernel_rfl)) (by kernel_rfl))) ess_nil))
theorem b_completed_shown (G : Gs mg) (Kw : Kws fds) (F : Fns P w K mg base XR k ad fds) (hg : A.guards = some []) (hr : Room k (A.deeper (envOfC "completed_shown" (defScope s_completed_shown) s.heap.objs.size (ad 25) cdv))) :
    ESs (cxOf (L2.CX P w) P w K mg base N_completed_shown "completed_shown" (defScope s_completed_shown) (ad 25) cdv A outer s H E) XR (fun cls d _ H' => E cls d H') (callN D k) (defBody s_completed_shown) c_completed_shown :=
  have S : Std (cxOf (L2.CX P w) P w K mg base N_completed_shown "completed_shown" (defScope s_completed_shown) (ad 25) cdv A outer s H E) := std_cx sc_completed_shown.nd hg hr
  have tk : Takes (cxOf (L2.CX P w) P w K mg base N_completed_shown "completed_shown" (defScope s_completed_shown) (ad 25) cdv A outer s H E) (fun cls d _ H' => E cls d H') := takes_cx
  (ess_cons (es_if (eb_w (eb_or (eb_not (eb_val (ev_call S (F.f21.at hr) tk (gl_by (by kernel_rfl)) (by kernel_rfl) (by kernel_rfl) (ev_acons (ev_v (by kernel_rfl) (by kernel_rfl) (by kernel_rfl) (by kernel_rfl)) ev_anil rfl)) (fun _ => rfl))) (eb_or (eb_not (eb_val (ev_call S (F.f19.at hr) tk (gl_by (by kernel_rfl)) (by kernel_rfl) (by kernel_rfl) (ev_acons (ev_v (by kernel_rfl) (by kernel_rfl) (by kernel_rfl) (by kernel_rfl)) ev_anil rfl)) (fun _ => rfl))) (eb_or (eb_not (eb_val (ev_call S (F.f21.at hr) tk (gl_by (by kernel_rfl)) (by kernel_rfl) (by kernel_rfl) (ev_acons (ev_v (by kernel_rfl) (by kernel_rfl) (by kernel_rfl) (by kernel_rfl)) ev_anil rfl)) (fun _ => rfl))) (eb_or1 (eb_cmp S (ev_bi S .len (by kernel_rfl) (gl_by (by kernel_rfl)) G.b_len (by kernel_rfl) (ev_acons (ev_v (by kernel_rfl) (by kernel_rfl) (by kernel_rfl) (by kernel_rfl)) ev_anil rfl)) (ev_bi S .len (by kernel_rfl) (gl_by (by kernel_rfl)) G.b_len (by kernel_rfl) (ev_acons (ev_v (by kernel_rfl) (by kernel_rfl) (by kernel_rfl) (by kernel_rfl)) ev_anil rfl)) (by kernel_rfl))))))) (ess_cons (es_ret ev_kbl) ess_nil) ess_nil) (ess_cons (es_ret (ev_and (ev_cmp S (ev_call S (F.f15.at hr) tk (gl_by (by kernel_rfl)) (by kernel_rfl) (by kernel_rfl) (ev_acons (ev_v (by kernel_rfl) (by kernel_rfl) (by kernel_rfl) (by kernel_rfl)) ev_anil rfl)) (ev_v (by kernel_rfl) (by kernel_rfl) (by kernel_rfl) (by kernel_rfl)) (by kernel_rfl)) (ev_one (ev_call S (F.f17.at hr) tk (gl_by (by kernel_rfl)) (by kernel_rfl) (by kernel_rfl) (ev_acons (ev_v (by kernel_rfl) (by kernel_rfl) (by kernel_rfl) (by kernel_rfl)) (ev_acons (ev_v (by kernel_rfl) (by kernel_rfl) (by kernel_rfl) (by kernel_rfl)) ev_anil rfl) rfl))))) ess_nil))
theorem b_are_lots (G : Gs mg) (Kw : Kws fds) (F : Fns P w K mg base XR k ad fds) (hg : A.guards = some []) (hr : Room k (A.deeper (envOfC "are_lots" (defScope s_are_lots) s.heap.objs.size (ad 26) cdv))) :
    ESs (cxOf (L2.CX P w) P w K mg base N_are_lots "are_lots" (defScope s_are_lots) (ad 26) cdv A outer s H E) XR (fun cls d _ H' => E cls d H') (callN D k) (defBody s_are_lots) c_are_lots :=
  have S : Std (cxOf (L2.CX P w) P w K mg base N_are_lots "are_lots" (defScope s_are_lots) (ad 26) cdv A outer s H E) := std_cx sc_are_lots.nd hg hr
  have tk : Takes (cxOf (L2.CX P w) P w K mg base N_are_lots "are_lots" (defScope s_are_lots) (ad 26) cdv A outer s H E) (fun cls d _ H' => E cls d H') := takes_cx
  (ess_cons (es_if (eb_w (eb_or (eb_not (eb_val (ev_isi S rfl rfl (by kernel_rfl) (gl_by (by kernel_rfl)) G.b_isinstance (gl_by (by kernel_rfl)) G.b_tuple (by decide +kernel) (by kernel_rfl) (by kernel_rfl) (ev_v (by kernel_rfl) (by kernel_rfl) (by kernel_rfl) (by kernel_rfl))) (fun _ => rfl))) (eb_or1 (eb_not (eb_chain S ev_kint (ev_bi S .len (by kernel_rfl) (gl_by (by kernel_rfl)) G.b_len (by kernel_rfl) (ev_acons (ev_v (by kernel_rfl) (by kernel_rfl) (by kernel_rfl) (by kernel_rfl)) ev_anil rfl)) (ev_gint (gl_by (by kernel_rfl)) G.c_MOST_FACTORS (by kernel_rfl)) (by kernel_rfl)))))) (ess_cons (es_ret ev_kbl) ess_nil) ess_nil) (ess_cons (es_if (eb_not (eb_val (ev_bi S .all (by kernel_rfl) (gl_by (by kernel_rfl)) G.b_all (by kernel_rfl) (ev_acons (ev_lc S (LcOk.mk (own := [("lengths", 1)]) (ei_seq (ev_v (by kernel_rfl) (by kernel_rfl) (by kernel_rfl) (by kernel_rfl))) (blkOk_by (by kernel_rfl)) (fun _ _ _ _ _ => (ew_one (S.blk) (nm_by (by kernel_rfl) (by kernel_rfl) (by kernel_rfl)) (by decide))) (fun _ _ _ _ _ => et_nil) (fun _ _ _ _ _ => (ev_call (S.blk) (F.f19.at hr) takesNo (gl_by (by kernel_rfl)) (by kernel_rfl) (by kernel_rfl) (ev_acons (ev_v (by kernel_rfl) (by kernel_rfl) (by kernel_rfl) (by kernel_rfl)) ev_anil rfl))) (fun _ => rfl))) ev_anil rfl)) (fun _ => rfl))) (ess_cons (es_ret ev_kbl) ess_nil) ess_nil) (ess_cons (es_ret (ev_and (ev_cmp S (ev_bi S .sum (by kernel_rfl) (gl_by (by kernel_rfl)) G.b_sum (by kernel_rfl) (ev_acons (ev_ix S (ev_v (by kernel_rfl) (by kernel_rfl) (by kernel_rfl) (by kernel_rfl)) ev_kint (fun _ _ => rfl)) ev_anil rfl)) (ev_gint (gl_by (by kernel_rfl)) G.c_MOST_SUMMED (by kernel_rfl)) (by kernel_rfl)) (ev_one (ev_bi S .all (by kernel_rfl) (gl_by (by kernel_rfl)) G.b_all (by kernel_rfl) (ev_acons (ev_lc S (LcOk.mk (own := [("lengths", 1)]) (ei_seq (ev_v (by kernel_rfl) (by kernel_rfl) (by kernel_rfl) (by kernel_rfl))) (blkOk_by (by kernel_rfl)) (fun _ _ _ _ _ => (ew_one (S.blk) (nm_by (by kernel_rfl) (by kernel_rfl) (by kernel_rfl)) (by decide))) (fun _ _ _ _ _ => et_nil) (fun _ _ _ _ _ => (ev_cmp (S.blk) (ev_bi (S.blk) .sum (by kernel_rfl) (gl_by (by kernel_rfl)) G.b_sum (by kernel_rfl) (ev_acons (ev_v (by kernel_rfl) (by kernel_rfl) (by kernel_rfl) (by kernel_rfl)) ev_anil rfl)) (ev_bi (S.blk) .sum (by kernel_rfl) (gl_by (by kernel_rfl)) G.b_sum (by kernel_rfl) (ev_acons (ev_ix (S.blk) (ev_v (by kernel_rfl) (by kernel_rfl) (by kernel_rfl) (by kernel_rfl)) ev_kint (fun _ _ => rfl)) ev_anil rfl)) (by kernel_rfl))) (fun _ => rfl))) ev_anil rfl))))) ess_nil)))
theorem b_is_empty (G : Gs mg) (Kw : Kws fds) (F : Fns P w K mg base XR k ad fds) (hg : A.guards = some []) (hr : Room k (A.deeper (envOfC "is_empty" (defScope s_is_empty) s.heap.objs.size (ad 27) cdv))) :
    ESs (cxOf (L2.CX P w) P w K mg base N_is_empty "is_empty" (defScope s_is_empty) (ad 27) cdv A outer s H E) XR (fun cls d _ H' => E cls d H') (callN D k) (defBody s_is_empty) c_is_empty :=
  have S : Std (cxOf (L2.CX P w) P w K mg base N_is_empty "is_empty" (defScope s_is_empty) (ad 27) cdv A outer s H E) := std_cx sc_is_empty.nd hg hr
  have tk : Takes (cxOf (L2.CX P w) P w K mg base N_is_empty "is_empty" (defScope s_is_empty) (ad 27) cdv A outer s H E) (fun cls d _ H' => E cls d H') := takes_cx
  (ess_cons (es_ret (ev_and (ev_isi S rfl rfl (by kernel_rfl) (gl_by (by kernel_rfl)) G.b_isinstance (gl_by (by kernel_rfl)) G.b_tuple (by decide +kernel) (by kernel_rfl) (by kernel_rfl) (ev_v (by kernel_rfl) (by kernel_rfl) (by kernel_rfl) (by kernel_rfl))) (ev_one (ev_cmp S (ev_bi S .len (by kernel_rfl) (gl_by (by kernel_rfl)) G.b_len (by kernel_rfl) (ev_acons (ev_v (by kernel_rfl) (by kernel_rfl) (by kernel_rfl) (by kernel_rfl)) ev_anil rfl)) ev_kint (by kernel_rfl))))) ess_nil)
theorem b_hook_row (G : Gs mg) (Kw : Kws fds) (F : Fns P w K mg base XR k ad fds) (hg : A.guards = some []) (hr : Room k (A.deeper (envOfC "hook_row" (defScope s_hook_row) s.heap.objs.size (ad 28) cdv))) :
    ESs (cxOf (L2.CX P w) P w K mg base N_hook_row "hook_row" (defScope s_hook_row) (ad 28) cdv A outer s H E) XR (fun cls d _ H' => E cls d H') (callN D k) (defBody s_hook_row) c_hook_row :=
  have S : Std (cxOf (L2.CX P w) P w K mg base N_hook_row "hook_row" (defScope s_hook_row) (ad 28) cdv A outer s H E) := std_cx sc_hook_row.nd hg hr
  have tk : Takes (cxOf (L2.CX P w) P w K mg base N_hook_row "hook_row" (defScope s_hook_row) (ad 28) cdv A outer s H E) (fun cls d _ H' => E cls d H') := takes_cx
  (ess_cons (es_asg (ev_lst (ev_acons ev_kint ev_anil rfl)) (eg_name S (nm_by (by kernel_rfl) (by kernel_rfl) (by kernel_rfl))) rfl rfl rfl) (ess_cons (es_for S owns_cx (ei_seq (ev_v (by kernel_rfl) (by kernel_rfl) (by kernel_rfl) (by kernel_rfl))) (en_one S (nm_by (by kernel_rfl) (by kernel_rfl) (by kernel_rfl))) (ess_cons (es_asg (ev_bin (ev_v (by kernel_rfl) (by kernel_rfl) (by kernel_rfl) (by kernel_rfl)) (ev_bin (ev_lst (ev_acons ev_kint ev_anil rfl)) (ev_v (by kernel_rfl) (by kernel_rfl) (by kernel_rfl) (by kernel_rfl)))) (eg_name S (nm_by (by kernel_rfl) (by kernel_rfl) (by kernel_rfl))) rfl rfl rfl) (ess_cons (es_for S owns_cx (ei_enum (gl_by (by kernel_rfl)) G.b_enumerate (ev_v (by kernel_rfl) (by kernel_rfl) (by kernel_rfl) (by kernel_rfl)) rfl) (en_many S (pgn_cons S (nm_by (by kernel_rfl) (by kernel_rfl) (by kernel_rfl)) (pgn_cons S (nm_by (by kernel_rfl) (by kernel_rfl) (by kernel_rfl)) pgn_nil rfl) rfl) rfl rfl) (ess_cons (es_augS S (ev_v (by kernel_rfl) (by kernel_rfl) (by kernel_rfl) (by kernel_rfl)) (ev_bin (ev_v (by kernel_rfl) (by kernel_rfl) (by kernel_rfl) (by kernel_rfl)) (ev_v (by kernel_rfl) (by kernel_rfl) (by kernel_rfl) (by kernel_rfl))) (ev_ite (eb_cmp S (ev_bin (ev_v (by kernel_rfl) (by kernel_rfl) (by kernel_rfl) (by kernel_rfl)) ev_kint) ev_kint (by kernel_rfl)) (ev_v (by kernel_rfl) (by kernel_rfl) (by kernel_rfl) (by kernel_rfl)) (ev_neg (ev_v (by kernel_rfl) (by kernel_rfl) (by kernel_rfl) (by kernel_rfl)))) (fun _ _ _ => rfl)) ess_nil) (fun _ => rfl)) (ess_cons (es_asg (ev_v (by kernel_rfl) (by kernel_rfl) (by kernel_rfl) (by kernel_rfl)) (eg_name S (nm_by (by kernel_rfl) (by kernel_rfl) (by kernel_rfl))) rfl rfl rfl) ess_nil))) (fun _ => rfl)) (ess_cons (es_par S (by kernel_rfl) (by kernel_rfl) (by decide) (by kernel_rfl) (by kernel_rfl) (ev_acons (ev_lst ev_anil) (ev_acons ev_kint ev_anil rfl) rfl) rfl rfl) (ess_cons (es_for S owns_cx (ei_seq (ev_sl (ev_v (by kernel_rfl) (by kernel_rfl) (by kernel_rfl) (by kernel_rfl)) ev_ono (ev_osome (ev_neg ev_kint)))) (en_one S (nm_by (by kernel_rfl) (by kernel_rfl) (by kernel_rfl))) (ess_cons (es_asg (ev_bin (ev_v (by kernel_rfl) (by kernel_rfl) (by kernel_rfl) (by kernel_rfl)) (ev_v (by kernel_rfl) (by kernel_rfl) (by kernel_rfl) (by kernel_rfl))) (eg_name S (nm_by (by kernel_rfl) (by kernel_rfl) (by kernel_rfl))) rfl rfl rfl) (ess_cons (es_expr (ev_meth S .append (by kernel_rfl) rfl (by kernel_rfl) (by decide) (by kernel_rfl) (ev_v (by kernel_rfl) (by kernel_rfl) (by kernel_rfl) (by kernel_rfl)) (ev_acons (ev_v (by kernel_rfl) (by kernel_rfl) (by kernel_rfl) (by kernel_rfl)) ev_anil rfl)) rfl) ess_nil)) (fun _ => rfl)) (ess_cons (es_ret (ev_v (by kernel_rfl) (by kernel_rfl) (by kernel_rfl) (by kernel_rfl))) ess_nil)))))
theorem b_stepped (G : Gs mg) (Kw : Kws fds) (F : Fns P w K mg base XR k ad fds) (hg : A.guards = some []) (hr : Room k (A.deeper (envOfC "stepped" (defScope s_stepped) s.heap.objs.size (ad 29) cdv))) :
    ESs (cxOf (L2.CX P w) P w K mg base N_stepped "stepped" (defScope s_stepped) (ad 29) cdv A outer s H E) XR (fun cls d _ H' => E cls d H') (callN D k) (defBody s_stepped) c_stepped :=
  have S : Std (cxOf (L2.CX P w) P w K mg base N_stepped "stepped" (defScope s_stepped) (ad 29) cdv A outer s H E) := std_cx sc_stepped.nd hg hr
  have tk : Takes (cxOf (L2.CX P w) P w K mg base N_stepped "stepped" (defScope s_stepped) (ad 29) cdv A outer s H E) (fun cls d _ H' => E cls d H') := takes_cx
  (ess_cons (es_asg ev_kint (eg_name S (nm_by (by kernel_rfl) (by kernel_rfl) (by kernel_rfl))) rfl rfl rfl) (ess_cons (es_for S owns_cx (ei_range2 (gl_by (by kernel_rfl)) G.b_range ev_kint (ev_bin (ev_v (by kernel_rfl) (by kernel_rfl) (by kernel_rfl) (by kernel_rfl)) ev_kint) rfl rfl) (en_one S (nm_by (by kernel_rfl) (by kernel_rfl) (by kernel_rfl))) (ess_cons (es_asg (ev_bin (ev_v (by kernel_rfl) (by kernel_rfl) (by kernel_rfl) (by kernel_rfl)) (ev_v (by kernel_rfl) (by kernel_rfl) (by kernel_rfl) (by kernel_rfl))) (eg_name S (nm_by (by kernel_rfl) (by kernel_rfl) (by kernel_rfl))) rfl rfl rfl) ess_nil) (fun _ => rfl)) (ess_cons (es_ret (ev_v (by kernel_rfl) (by kernel_rfl) (by kernel_rfl) (by kernel_rfl))) ess_nil)))
theorem b_turns_with (G : Gs mg) (Kw : Kws fds) (F : Fns P w K mg base XR k ad fds) (hg : A.guards = some []) (hr : Room k (A.deeper (envOfC "turns_with" (defScope s_turns_with) s.heap.objs.size (ad 30) cdv))) :
    ESs (cxOf (L2.CX P w) P w K mg base N_turns_with "turns_with" (defScope s_turns_with) (ad 30) cdv A outer s H E) XR (fun cls d _ H' => E cls d H') (callN D k) (defBody s_turns_with) c_turns_with :=
  have S : Std (cxOf (L2.CX P w) P w K mg base N_turns_with "turns_with" (defScope s_turns_with) (ad 30) cdv A outer s H E) := std_cx sc_turns_with.nd hg hr
  have tk : Takes (cxOf (L2.CX P w) P w K mg base N_turns_with "turns_with" (defScope s_turns_with) (ad 30) cdv A outer s H E) (fun cls d _ H' => E cls d H') := takes_cx
  (ess_cons (es_asg (ev_call S (F.f29.at hr) tk (gl_by (by kernel_rfl)) (by kernel_rfl) (by kernel_rfl) (ev_acons (ev_bi S .sum (by kernel_rfl) (gl_by (by kernel_rfl)) G.b_sum (by kernel_rfl) (ev_acons (ev_v (by kernel_rfl) (by kernel_rfl) (by kernel_rfl) (by kernel_rfl)) ev_anil rfl)) ev_anil rfl)) (eg_name S (nm_by (by kernel_rfl) (by kernel_rfl) (by kernel_rfl))) rfl rfl rfl) (ess_cons (es_for S owns_cx (ei_seq (ev_v (by kernel_rfl) (by kernel_rfl) (by kernel_rfl) (by kernel_rfl))) (en_one S (nm_by (by kernel_rfl) (by kernel_rfl) (by kernel_rfl))) (ess_cons (es_asg (ev_bin (ev_v (by kernel_rfl) (by kernel_rfl) (by kernel_rfl) (by kernel_rfl)) (ev_v (by kernel_rfl) (by kernel_rfl) (by kernel_rfl) (by kernel_rfl))) (eg_name S (nm_by (by kernel_rfl) (by kernel_rfl) (by kernel_rfl))) rfl rfl rfl) ess_nil) (fun _ => rfl)) (ess_cons (es_for S owns_cx (ei_range2 (gl_by (by kernel_rfl)) G.b_range ev_kint (ev_bin (ev_gint (gl_by (by kernel_rfl)) G.c_MOST_ROUND (by kernel_rfl)) ev_kint) rfl rfl) (en_one S (nm_by (by kernel_rfl) (by kernel_rfl) (by kernel_rfl))) (ess_cons (es_asg (ev_bin (ev_v (by kernel_rfl) (by kernel_rfl) (by kernel_rfl) (by kernel_rfl)) (ev_call S (F.f29.at hr) tk (gl_by (by kernel_rfl)) (by kernel_rfl) (by kernel_rfl) (ev_acons (ev_meth S .count (by kernel_rfl) rfl (by kernel_rfl) (by decide) (by kernel_rfl) (ev_v (by kernel_rfl) (by kernel_rfl) (by kernel_rfl) (by kernel_rfl)) (ev_acons (ev_v (by kernel_rfl) (by kernel_rfl) (by kernel_rfl) (by kernel_rfl)) ev_anil rfl)) ev_anil rfl))) (eg_name S (nm_by (by kernel_rfl) (by kernel_rfl) (by kernel_rfl))) rfl rfl rfl) ess_nil) (fun _ => rfl)) (ess_cons (es_ret (ev_v (by kernel_rfl) (by kernel_rfl) (by kernel_rfl) (by kernel_rfl))) ess_nil))))
theorem b_summed (G : Gs mg) (Kw : Kws fds) (F : Fns P w K mg base XR k ad fds) (hg : A.guards = some []) (hr : Room k (A.deeper (envOfC "summed" (defScope s_summed) s.heap.objs.size (ad 31) cdv))) :
    ESs (cxOf (L2.CX P w) P w K mg base N_summed "summed" (defScope s_summed) (ad 31) cdv A outer s H E) XR (fun cls d _ H' => E cls d H') (callN D k) (defBody s_summed) c_summed :=
  have S : Std (cxOf (L2.CX P w) P w K mg base N_summed "summed" (defScope s_summed) (ad 31) cdv A outer s H E) := std_cx sc_summed.nd hg hr
  have tk : Takes (cxOf (L2.CX P w) P w K mg base N_summed "summed" (defScope s_summed) (ad 31) cdv A outer s H E) (fun cls d _ H' => E cls d H') := takes_cx
  (ess_cons (es_par3 S (by kernel_rfl) (by kernel_rfl) (by kernel_rfl) (by decide) (by decide) (by decide) (by kernel_rfl) (by kernel_rfl) (by kernel_rfl) (ev_acons (ev_bi S .sum (by kernel_rfl) (gl_by (by kernel_rfl)) G.b_sum (by kernel_rfl) (ev_acons (ev_ix S (ev_v (by kernel_rfl) (by kernel_rfl) (by kernel_rfl) (by kernel_rfl)) ev_kint (fun _ _ => rfl)) ev_anil rfl)) (ev_acons ev_kint (ev_acons ev_kint ev_anil rfl) rfl) rfl) rfl rfl) (ess_cons (es_par S (by kernel_rfl) (by kernel_rfl) (by decide) (by kernel_rfl) (by kernel_rfl) (ev_acons (ev_lc S (LcOk.mk (own := [("lengths", 11)]) (ei_seq (ev_v (by kernel_rfl) (by kernel_rfl) (by kernel_rfl) (by kernel_rfl))) (blkOk_by (by kernel_rfl)) (fun _ _ _ _ _ => (ew_one (S.blk) (nm_by (by kernel_rfl) (by kernel_rfl) (by kernel_rfl)) (by decide))) (fun _ _ _ _ _ => et_nil) (fun _ _ _ _ _ => (ev_call (S.blk) (F.f28.at hr) takesNo (gl_by (by kernel_rfl)) (by kernel_rfl) (by kernel_rfl) (ev_acons (ev_v (by kernel_rfl) (by kernel_rfl) (by kernel_rfl) (by kernel_rfl)) ev_anil rfl))) (fun _ => rfl))) (ev_acons ev_kint ev_anil rfl) rfl) rfl rfl) (ess_cons (es_for S owns_cx (ei_range1 (gl_by (by kernel_rfl)) G.b_range (ev_v (by kernel_rfl) (by kernel_rfl) (by kernel_rfl) (by kernel_rfl)) rfl) (en_one S (nm_by (by kernel_rfl) (by kernel_rfl) (by kernel_rfl))) (ess_cons (es_par S (by kernel_rfl) (by kernel_rfl) (by decide) (by kernel_rfl) (by kernel_rfl) (ev_acons (ev_ite (eb_cmp S (ev_bin (ev_v (by kernel_rfl) (by kernel_rfl) (by kernel_rfl) (by kernel_rfl)) ev_kint) ev_kint (by kernel_rfl)) ev_kint (ev_neg ev_kint)) (ev_acons ev_kint ev_anil rfl) rfl) rfl rfl) (ess_cons (es_for S owns_cx (ei_seq (ev_v (by kernel_rfl) (by kernel_rfl) (by kernel_rfl) (by kernel_rfl))) (en_one S (nm_by (by kernel_rfl) (by kernel_rfl) (by kernel_rfl))) (ess_cons (es_asg (ev_bin (ev_v (by kernel_rfl) (by kernel_rfl) (by kernel_rfl) (by kernel_rfl)) (ev_ix S (ev_v (by kernel_rfl) (by kernel_rfl) (by kernel_rfl) (by kernel_rfl)) (ev_v (by kernel_rfl) (by kernel_rfl) (by kernel_rfl) (by kernel_rfl)) (fun _ _ => rfl))) (eg_name S (nm_by (by kernel_rfl) (by kernel_rfl) (by kernel_rfl))) rfl rfl rfl) ess_nil) (fun _ => rfl)) (ess_cons (es_for S owns_cx (ei_range1 (gl_by (by kernel_rfl)) G.b_range (ev_bin (ev_bi S .len (by kernel_rfl) (gl_by (by kernel_rfl)) G.b_len (by kernel_rfl) (ev_acons (ev_v (by kernel_rfl) (by kernel_rfl) (by kernel_rfl) (by kernel_rfl)) ev_anil rfl)) ev_kint) rfl) (en_one S (nm_by (by kernel_rfl) (by kernel_rfl) (by kernel_rfl))) (ess_cons (es_asg (ev_bin (ev_v (by kernel_rfl) (by kernel_rfl) (by kernel_rfl) (by kernel_rfl)) (ev_v (by kernel_rfl) (by kernel_rfl) (by kernel_rfl) (by kernel_rfl))) (eg_name S (nm_by (by kernel_rfl) (by kernel_rfl) (by kernel_rfl))) rfl rfl rfl) ess_nil) (fun _ => rfl)) (ess_cons (es_par S (by kernel_rfl) (by kernel_rfl) (by decide) (by kernel_rfl) (by kernel_rfl) (ev_acons (ev_bin (ev_bin (ev_v (by kernel_rfl) (by kernel_rfl) (by kernel_rfl) (by kernel_rfl)) (ev_v (by kernel_rfl) (by kernel_rfl) (by kernel_rfl) (by kernel_rfl))) (ev_bin (ev_v (by kernel_rfl) (by kernel_rfl) (by kernel_rfl) (by kernel_rfl)) (ev_v (by kernel_rfl) (by kernel_rfl) (by kernel_rfl) (by kernel_rfl)))) (ev_acons (ev_bin (ev_v (by kernel_rfl) (by kernel_rfl) (by kernel_rfl) (by kernel_rfl)) (ev_v (by kernel_rfl) (by kernel_rfl) (by kernel_rfl) (by kernel_rfl))) ev_anil rfl) rfl) rfl rfl) (ess_cons (es_asg (ev_bin (ev_bin (ev_v (by kernel_rfl) (by kernel_rfl) (by kernel_rfl) (by kernel_rfl)) (ev_bin (ev_bin (ev_v (by kernel_rfl) (by kernel_rfl) (by kernel_rfl) (by kernel_rfl)) ev_kint) (ev_v (by kernel_rfl) (by kernel_rfl) (by kernel_rfl) (by kernel_rfl)))) (ev_bin (ev_v (by kernel_rfl) (by kernel_rfl) (by kernel_rfl) (by kernel_rfl)) ev_kint)) (eg_name S (nm_by (by kernel_rfl) (by kernel_rfl) (by kernel_rfl))) rfl rfl rfl) ess_nil))))) (fun _ => rfl)) (ess_cons (es_for S owns_cx (ei_seq (ev_v (by kernel_rfl) (by kernel_rfl) (by kernel_rfl) (by kernel_rfl))) (en_one S (nm_by (by kernel_rfl) (by kernel_rfl) (by kernel_rfl))) (ess_cons (es_asg (ev_bin (ev_v (by kernel_rfl) (by kernel_rfl) (by kernel_rfl) (by kernel_rfl)) (ev_call S (F.f30.at hr) tk (gl_by (by kernel_rfl)) (by kernel_rfl) (by kernel_rfl) (ev_acons (ev_v (by kernel_rfl) (by kernel_rfl) (by kernel_rfl) (by kernel_rfl)) ev_anil rfl))) (eg_name S (nm_by (by kernel_rfl) (by kernel_rfl) (by kernel_rfl))) rfl rfl rfl) ess_nil) (fun _ => rfl)) (ess_cons (es_ret (ev_bin (ev_v (by kernel_rfl) (by kernel_rfl) (by kernel_rfl) (by kernel_rfl)) (ev_bin (ev_v (by kernel_rfl) (by kernel_rfl) (by kernel_rfl) (by kernel_rfl)) (ev_call S (F.f29.at hr) tk (gl_by (by kernel_rfl)) (by kernel_rfl) (by kernel_rfl) (ev_acons (ev_v (by kernel_rfl) (by kernel_rfl) (by kernel_rfl) (by kernel_rfl)) ev_anil rfl))))) ess_nil)))))
theorem b_count_shown (G : Gs mg) (Kw : Kws fds) (F : Fns P w K mg base XR k ad fds) (hg : A.guards = some []) (hr : Room k (A.deeper (envOfC "count_shown" (defScope s_count_shown) s.heap.objs.size (ad 32) cdv))) :
    ESs (cxOf (L2.CX P w) P w K mg base N_count_shown "count_shown" (defScope s_count_shown) (ad 32) cdv A outer s H E) XR (fun cls d _ H' => E cls d H') (callN D k) (defBody s_count_shown) c_count_shown :=
  have S : Std (cxOf (L2.CX P w) P w K mg base N_count_shown "count_shown" (defScope s_count_shown) (ad 32) cdv A outer s H E) := std_cx sc_count_shown.nd hg hr
  have tk : Takes (cxOf (L2.CX P w) P w K mg base N_count_shown "count_shown" (defScope s_count_shown) (ad 32) cdv A outer s H E) (fun cls d _ H' => E cls d H') := takes_cx
  (ess_cons (es_ret (ev_and (ev_call S (F.f26.at hr) tk (gl_by (by kernel_rfl)) (by kernel_rfl) (by kernel_rfl) (ev_acons (ev_v (by kernel_rfl) (by kernel_rfl) (by kernel_rfl) (by kernel_rfl)) ev_anil rfl)) (ev_and (ev_call S (F.f18.at hr) tk (gl_by (by kernel_rfl)) (by kernel_rfl) (by kernel_rfl) (ev_acons (ev_v (by kernel_rfl) (by kernel_rfl) (by kernel_rfl) (by kernel_rfl)) ev_anil rfl)) (ev_and (ev_call S (F.f27.at hr) tk (gl_by (by kernel_rfl)) (by kernel_rfl) (by kernel_rfl) (ev_acons (ev_v (by kernel_rfl) (by kernel_rfl) (by kernel_rfl) (by kernel_rfl)) ev_anil rfl)) (ev_one (ev_cmp S (ev_call S (F.f31.at hr) tk (gl_by (by kernel_rfl)) (by kernel_rfl) (by kernel_rfl) (ev_acons (ev_v (by kernel_rfl) (by kernel_rfl) (by kernel_rfl) (by kernel_rfl)) ev_anil rfl)) (ev_v (by kernel_rfl) (by kernel_rfl) (by kernel_rfl) (by kernel_rfl)) (by kernel_rfl))))))) ess_nil)
theorem b_often (G : Gs mg) (Kw : Kws fds) (F : Fns P w K mg base XR k ad fds) (hg : A.guards = some []) (hr : Room k (A.deeper (envOfC "often" (defScope s_often) s.heap.objs.size (ad 33) cdv))) :
    ESs (cxOf (L2.CX P w) P w K mg base N_often "often" (defScope s_often) (ad 33) cdv A outer s H E) XR (fun cls d _ H' => E cls d H') (callN D k) (defBody s_often) c_often :=
  have S : Std (cxOf (L2.CX P w) P w K mg base N_often "often" (defScope s_often) (ad 33) cdv A outer s H E) := std_cx sc_often.nd hg hr
  have tk : Takes (cxOf (L2.CX P w) P w K mg base N_often "often" (defScope s_often) (ad 33) cdv A outer s H E) (fun cls d _ H' => E cls d H') := takes_cx
  (ess_cons (es_par S (by kernel_rfl) (by kernel_rfl) (by decide) (by kernel_rfl) (by kernel_rfl) (ev_acons (ev_trange S (gl_by (by kernel_rfl)) G.b_tuple (prg1 (gl_by (by kernel_rfl)) G.b_range (ev_bi S .len (by kernel_rfl) (gl_by (by kernel_rfl)) G.b_len (by kernel_rfl) (ev_acons (ev_v (by kernel_rfl) (by kernel_rfl) (by kernel_rfl) (by kernel_rfl)) ev_anil rfl)) rfl) rfl) (ev_acons (ev_v (by kernel_rfl) (by kernel_rfl) (by kernel_rfl) (by kernel_rfl)) ev_anil rfl) rfl) rfl rfl) (ess_cons (es_while owns_cx (eb_cmp S (ev_v (by kernel_rfl) (by kernel_rfl) (by kernel_rfl) (by kernel_rfl)) ev_kint (by kernel_rfl)) (ess_cons (es_if (eb_cmp S (ev_bin (ev_v (by kernel_rfl) (by kernel_rfl) (by kernel_rfl) (by kernel_rfl)) ev_kint) ev_kint (by kernel_rfl)) (ess_cons (es_asg (ev_call S (F.f16.at hr) tk (gl_by (by kernel_rfl)) (by kernel_rfl) (by kernel_rfl) (ev_acons (ev_v (by kernel_rfl) (by kernel_rfl) (by kernel_rfl) (by kernel_rfl)) (ev_acons (ev_v (by kernel_rfl) (by kernel_rfl) (by kernel_rfl) (by kernel_rfl)) ev_anil rfl) rfl)) (eg_name S (nm_by (by kernel_rfl) (by kernel_rfl) (by kernel_rfl))) rfl rfl rfl) ess_nil) ess_nil) (ess_cons (es_par S (by kernel_rfl) (by kernel_rfl) (by decide) (by kernel_rfl) (by kernel_rfl) (ev_acons (ev_call S (F.f16.at hr) tk (gl_by (by kernel_rfl)) (by kernel_rfl) (by kernel_rfl) (ev_acons (ev_v (by kernel_rfl) (by kernel_rfl) (by kernel_rfl) (by kernel_rfl)) (ev_acons (ev_v (by kernel_rfl) (by kernel_rfl) (by kernel_rfl) (by kernel_rfl)) ev_anil rfl) rfl)) (ev_acons (ev_bin (ev_v (by kernel_rfl) (by kernel_rfl) (by kernel_rfl) (by kernel_rfl)) ev_kint) ev_anil rfl) rfl) rfl rfl) ess_nil))) (ess_cons (es_ret (ev_v (by kernel_rfl) (by kernel_rfl) (by kernel_rfl) (by kernel_rfl))) ess_nil)))
theorem b_root_shown (G : Gs mg) (Kw : Kws fds) (F : Fns P w K mg base XR k ad fds) (hg : A.guards = some []) (hr : Room k (A.deeper (envOfC "root_shown" (defScope s_root_shown) s.heap.objs.size (ad 34) cdv))) :
    ESs (cxOf (L2.CX P w) P w K mg base N_root_shown "root_shown" (defScope s_root_shown) (ad 34) cdv A outer s H E) XR (fun cls d _ H' => E cls d H') (callN D k) (defBody s_root_shown) c_root_shown :=
  have S : Std (cxOf (L2.CX P w) P w K mg base N_root_shown "root_shown" (defScope s_root_shown) (ad 34) cdv A outer s H E) := std_cx sc_root_shown.nd hg hr
  have tk : Takes (cxOf (L2.CX P w) P w K mg base N_root_shown "root_shown" (defScope s_root_shown) (ad 34) cdv A outer s H E) (fun cls d _ H' => E cls d H') := takes_cx
  (ess_cons (es_if (eb_w (eb_or (eb_not (eb_val (ev_call S (F.f21.at hr) tk (gl_by (by kernel_rfl)) (by kernel_rfl) (by kernel_rfl) (ev_acons (ev_v (by kernel_rfl) (by kernel_rfl) (by kernel_rfl) (by kernel_rfl)) ev_anil rfl)) (fun _ => rfl))) (eb_or (eb_not (eb_val (ev_call S (F.f18.at hr) tk (gl_by (by kernel_rfl)) (by kernel_rfl) (by kernel_rfl) (ev_acons (ev_v (by kernel_rfl) (by kernel_rfl) (by kernel_rfl) (by kernel_rfl)) ev_anil rfl)) (fun _ => rfl))) (eb_or1 (eb_not (eb_chain S ev_kint (ev_v (by kernel_rfl) (by kernel_rfl) (by kernel_rfl) (by kernel_rfl)) (ev_gint (gl_by (by kernel_rfl)) G.c_MOST_OFTEN (by kernel_rfl)) (by kernel_rfl))))))) (ess_cons (es_ret ev_kbl) ess_nil) ess_nil) (ess_cons (es_ret (ev_and (ev_call S (F.f21.at hr) tk (gl_by (by kernel_rfl)) (by kernel_rfl) (by kernel_rfl) (ev_acons (ev_v (by kernel_rfl) (by kernel_rfl) (by kernel_rfl) (by kernel_rfl)) ev_anil rfl)) (ev_and (ev_cmp S (ev_bi S .len (by kernel_rfl) (gl_by (by kernel_rfl)) G.b_len (by kernel_rfl) (ev_acons (ev_v (by kernel_rfl) (by kernel_rfl) (by kernel_rfl) (by kernel_rfl)) ev_anil rfl)) (ev_bi S .len (by kernel_rfl) (gl_by (by kernel_rfl)) G.b_len (by kernel_rfl) (ev_acons (ev_v (by kernel_rfl) (by kernel_rfl) (by kernel_rfl) (by kernel_rfl)) ev_anil rfl)) (by kernel_rfl)) (ev_one (ev_cmp S (ev_call S (F.f33.at hr) tk (gl_by (by kernel_rfl)) (by kernel_rfl) (by kernel_rfl) (ev_acons (ev_v (by kernel_rfl) (by kernel_rfl) (by kernel_rfl) (by kernel_rfl)) (ev_acons (ev_v (by kernel_rfl) (by kernel_rfl) (by kernel_rfl) (by kernel_rfl)) ev_anil rfl) rfl)) (ev_v (by kernel_rfl) (by kernel_rfl) (by kernel_rfl) (by kernel_rfl)) (by kernel_rfl)))))) ess_nil))
theorem b_accepts (G : Gs mg) (Kw : Kws fds) (F : Fns P w K mg base XR k ad fds) (hg : A.guards = some []) (hr : Room k (A.deeper (envOfC "accepts" (defScope s_accepts) s.heap.objs.size (ad 35) cdv))) :
    ESs (cxOf (L2.CX P w) P w K mg base N_accepts "accepts" (defScope s_accepts) (ad 35) cdv A outer s H E) XR (fun cls d _ H' => E cls d H') (callN D k) (defBody s_accepts) c_accepts :=
  have S : Std (cxOf (L2.CX P w) P w K mg base N_accepts "accepts" (defScope s_accepts) (ad 35) cdv A outer s H E) := std_cx sc_accepts.nd hg hr
  have tk : Takes (cxOf (L2.CX P w) P w K mg base N_accepts "accepts" (defScope s_accepts) (ad 35) cdv A outer s H E) (fun cls d _ H' => E cls d H') := takes_cx
  (ess_cons (es_if (eb_w (eb_or (eb_not (eb_val (ev_isi S rfl rfl (by kernel_rfl) (gl_by (by kernel_rfl)) G.b_isinstance (gl_by (by kernel_rfl)) G.b_tuple (by decide +kernel) (by kernel_rfl) (by kernel_rfl) (ev_v (by kernel_rfl) (by kernel_rfl) (by kernel_rfl) (by kernel_rfl))) (fun _ => rfl))) (eb_or (eb_cmp S (ev_bi S .len (by kernel_rfl) (gl_by (by kernel_rfl)) G.b_len (by kernel_rfl) (ev_acons (ev_v (by kernel_rfl) (by kernel_rfl) (by kernel_rfl) (by kernel_rfl)) ev_anil rfl)) ev_kint (by kernel_rfl)) (eb_or1 (eb_not (eb_val (ev_isi S rfl rfl (by kernel_rfl) (gl_by (by kernel_rfl)) G.b_isinstance (gl_by (by kernel_rfl)) G.b_str (by decide +kernel) (by kernel_rfl) (by kernel_rfl) (ev_ix S (ev_v (by kernel_rfl) (by kernel_rfl) (by kernel_rfl) (by kernel_rfl)) ev_kint (fun _ _ => rfl))) (fun _ => rfl))))))) (ess_cons (es_ret ev_kbl) ess_nil) ess_nil) (ess_cons (es_asg (ev_v (by kernel_rfl) (by kernel_rfl) (by kernel_rfl) (by kernel_rfl)) (eg_tup S (egs_cons (eg_name S (nm_by (by kernel_rfl) (by kernel_rfl) (by kernel_rfl))) (egs_cons (eg_name S (nm_by (by kernel_rfl) (by kernel_rfl) (by kernel_rfl))) (egs_cons (eg_name S (nm_by (by kernel_rfl) (by kernel_rfl) (by kernel_rfl))) egs_nil rfl) rfl) rfl) rfl rfl) rfl rfl rfl) (ess_cons (es_if (eb_cmp S (ev_v (by kernel_rfl) (by kernel_rfl) (by kernel_rfl) (by kernel_rfl)) ev_kstr (by kernel_rfl)) (ess_cons (es_ret (ev_call S (F.f22.at hr) tk (gl_by (by kernel_rfl)) (by kernel_rfl) (by kernel_rfl) (ev_acons (ev_v (by kernel_rfl) (by kernel_rfl) (by kernel_rfl) (by kernel_rfl)) (ev_acons (ev_v (by kernel_rfl) (by kernel_rfl) (by kernel_rfl) (by kernel_rfl)) (ev_acons (ev_v (by kernel_rfl) (by kernel_rfl) (by kernel_rfl) (by kernel_rfl)) ev_anil rfl) rfl) rfl))) ess_nil) ess_nil) (ess_cons (es_if (eb_cmp S (ev_v (by kernel_rfl) (by kernel_rfl) (by kernel_rfl) (by kernel_rfl)) ev_kstr (by kernel_rfl)) (ess_cons (es_ret (ev_call S (F.f24.at hr) tk (gl_by (by kernel_rfl)) (by kernel_rfl) (by kernel_rfl) (ev_acons (ev_v (by kernel_rfl) (by kernel_rfl) (by kernel_rfl) (by kernel_rfl)) (ev_acons (ev_v (by kernel_rfl) (by kernel_rfl) (by kernel_rfl) (by kernel_rfl)) (ev_acons (ev_v (by kernel_rfl) (by kernel_rfl) (by kernel_rfl) (by kernel_rfl)) ev_anil rfl) rfl) rfl))) ess_nil) ess_nil) (ess_cons (es_if (eb_cmp S (ev_v (by kernel_rfl) (by kernel_rfl) (by kernel_rfl) (by kernel_rfl)) ev_kstr (by kernel_rfl)) (ess_cons (es_ret (ev_call S (F.f25.at hr) tk (gl_by (by kernel_rfl)) (by kernel_rfl) (by kernel_rfl) (ev_acons (ev_v (by kernel_rfl) (by kernel_rfl) (by kernel_rfl) (by kernel_rfl)) (ev_acons (ev_v (by kernel_rfl) (by kernel_rfl) (by kernel_rfl) (by kernel_rfl)) (ev_acons (ev_v (by kernel_rfl) (by kernel_rfl) (by kernel_rfl) (by kernel_rfl)) ev_anil rfl) rfl) rfl))) ess_nil) ess_nil) (ess_cons (es_if (eb_cmp S (ev_v (by kernel_rfl) (by kernel_rfl) (by kernel_rfl) (by kernel_rfl)) ev_kstr (by kernel_rfl)) (ess_cons (es_ret (ev_call S (F.f32.at hr) tk (gl_by (by kernel_rfl)) (by kernel_rfl) (by kernel_rfl) (ev_acons (ev_v (by kernel_rfl) (by kernel_rfl) (by kernel_rfl) (by kernel_rfl)) (ev_acons (ev_v (by kernel_rfl) (by kernel_rfl) (by kernel_rfl) (by kernel_rfl)) (ev_acons (ev_v (by kernel_rfl) (by kernel_rfl) (by kernel_rfl) (by kernel_rfl)) ev_anil rfl) rfl) rfl))) ess_nil) ess_nil) (ess_cons (es_ret (ev_and (ev_cmp S (ev_v (by kernel_rfl) (by kernel_rfl) (by kernel_rfl) (by kernel_rfl)) ev_kstr (by kernel_rfl)) (ev_one (ev_call S (F.f34.at hr) tk (gl_by (by kernel_rfl)) (by kernel_rfl) (by kernel_rfl) (ev_acons (ev_v (by kernel_rfl) (by kernel_rfl) (by kernel_rfl) (by kernel_rfl)) (ev_acons (ev_v (by kernel_rfl) (by kernel_rfl) (by kernel_rfl) (by kernel_rfl)) (ev_acons (ev_v (by kernel_rfl) (by kernel_rfl) (by kernel_rfl) (by kernel_rfl)) ev_anil rfl) rfl) rfl))))) ess_nil)))))))
theorem b__law_back (G : Gs mg) (Kw : Kws fds) (F : Fns P w K mg base XR k ad fds) (hg : A.guards = some []) (hr : Room k (A.deeper (envOfC "_law_back" (defScope s__law_back) s.heap.objs.size (ad 6) cdv))) :
    ESs (cxOf (L2.CX P w) P w K mg base N__law_back "_law_back" (defScope s__law_back) (ad 6) cdv A outer s H E) XR (fun cls d _ H' => E cls d H') (callN D k) (defBody s__law_back) c__law_back :=
  have S : Std (cxOf (L2.CX P w) P w K mg base N__law_back "_law_back" (defScope s__law_back) (ad 6) cdv A outer s H E) := std_cx sc__law_back.nd hg hr
  have tk : Takes (cxOf (L2.CX P w) P w K mg base N__law_back "_law_back" (defScope s__law_back) (ad 6) cdv A outer s H E) (fun cls d _ H' => E cls d H') := takes_cx
  (ess_cons (es_ret (ev_bi S .tuple (by kernel_rfl) (gl_by (by kernel_rfl)) G.b_tuple (by kernel_rfl) (ev_acons (ev_lc S (LcOk.mk (own := [("_law_seat", 1)]) (ei_range1 (gl_by (by kernel_rfl)) G.b_range (ev_bi S .len (by kernel_rfl) (gl_by (by kernel_rfl)) G.b_len (by kernel_rfl) (ev_acons (ev_v (by kernel_rfl) (by kernel_rfl) (by kernel_rfl) (by kernel_rfl)) ev_anil rfl)) rfl) (blkOk_by (by kernel_rfl)) (fun _ _ _ _ _ => (ew_one (S.blk) (nm_by (by kernel_rfl) (by kernel_rfl) (by kernel_rfl)) (by decide))) (fun _ _ _ _ _ => et_nil) (fun _ _ _ _ _ => (ev_meth (S.blk) .index (by kernel_rfl) rfl (by kernel_rfl) (by decide) (by kernel_rfl) (ev_v (by kernel_rfl) (by kernel_rfl) (by kernel_rfl) (by kernel_rfl)) (ev_acons (ev_v (by kernel_rfl) (by kernel_rfl) (by kernel_rfl) (by kernel_rfl)) ev_anil rfl))) (fun _ => rfl))) ev_anil rfl))) ess_nil)
theorem b__law_led (G : Gs mg) (Kw : Kws fds) (F : Fns P w K mg base XR k ad fds) (hg : A.guards = some []) (hr : Room k (A.deeper (envOfC "_law_led" (defScope s__law_led) s.heap.objs.size (ad 5) cdv))) :
    ESs (cxOf (L2.CX P w) P w K mg base N__law_led "_law_led" (defScope s__law_led) (ad 5) cdv A outer s H E) XR (fun cls d _ H' => E cls d H') (callN D k) (defBody s__law_led) c__law_led :=
  have S : Std (cxOf (L2.CX P w) P w K mg base N__law_led "_law_led" (defScope s__law_led) (ad 5) cdv A outer s H E) := std_cx sc__law_led.nd hg hr
  have tk : Takes (cxOf (L2.CX P w) P w K mg base N__law_led "_law_led" (defScope s__law_led) (ad 5) cdv A outer s H E) (fun cls d _ H' => E cls d H') := takes_cx
  (ess_cons (es_ret (ev_bi S .tuple (by kernel_rfl) (gl_by (by kernel_rfl)) G.b_tuple (by kernel_rfl) (ev_acons (ev_lc S (LcOk.mk (own := [("_law_seat", 2)]) (ei_seq (ev_v (by kernel_rfl) (by kernel_rfl) (by kernel_rfl) (by kernel_rfl))) (blkOk_by (by kernel_rfl)) (fun _ _ _ _ _ => (ew_one (S.blk) (nm_by (by kernel_rfl) (by kernel_rfl) (by kernel_rfl)) (by decide))) (fun _ _ _ _ _ => et_nil) (fun _ _ _ _ _ => (ev_ix (S.blk) (ev_v (by kernel_rfl) (by kernel_rfl) (by kernel_rfl) (by kernel_rfl)) (ev_v (by kernel_rfl) (by kernel_rfl) (by kernel_rfl) (by kernel_rfl)) (fun _ _ => rfl))) (fun _ => rfl))) ev_anil rfl))) ess_nil)
theorem b__law_bent_turn (G : Gs mg) (Kw : Kws fds) (F : Fns P w K mg base XR k ad fds) (hg : A.guards = some []) (hr : Room k (A.deeper (envOfC "_law_bent_turn" (defScope s__law_bent_turn) s.heap.objs.size (ad 44) cdv))) :
    ESs (cxOf (L2.CX P w) P w K mg base N__law_bent_turn "_law_bent_turn" (defScope s__law_bent_turn) (ad 44) cdv A outer s H E) XR (fun cls d _ H' => E cls d H') (callN D k) (defBody s__law_bent_turn) c__law_bent_turn :=
  have S : Std (cxOf (L2.CX P w) P w K mg base N__law_bent_turn "_law_bent_turn" (defScope s__law_bent_turn) (ad 44) cdv A outer s H E) := std_cx sc__law_bent_turn.nd hg hr
  have tk : Takes (cxOf (L2.CX P w) P w K mg base N__law_bent_turn "_law_bent_turn" (defScope s__law_bent_turn) (ad 44) cdv A outer s H E) (fun cls d _ H' => E cls d H') := takes_cx
  (ess_cons (es_par3 S (by kernel_rfl) (by kernel_rfl) (by kernel_rfl) (by decide) (by decide) (by decide) (by kernel_rfl) (by kernel_rfl) (by kernel_rfl) (ev_acons (ev_call S (F.f1.at hr) tk (gl_by (by kernel_rfl)) (by kernel_rfl) (by kernel_rfl) (ev_acons (ev_v (by kernel_rfl) (by kernel_rfl) (by kernel_rfl) (by kernel_rfl)) (ev_acons ev_kint ev_anil rfl) rfl)) (ev_acons (ev_call S (F.f1.at hr) tk (gl_by (by kernel_rfl)) (by kernel_rfl) (by kernel_rfl) (ev_acons (ev_v (by kernel_rfl) (by kernel_rfl) (by kernel_rfl) (by kernel_rfl)) (ev_acons (ev_bi S .len (by kernel_rfl) (gl_by (by kernel_rfl)) G.b_len (by kernel_rfl) (ev_acons (ev_v (by kernel_rfl) (by kernel_rfl) (by kernel_rfl) (by kernel_rfl)) ev_anil rfl)) ev_anil rfl) rfl)) (ev_acons (ev_call S (F.f1.at hr) tk (gl_by (by kernel_rfl)) (by kernel_rfl) (by kernel_rfl) (ev_acons (ev_v (by kernel_rfl) (by kernel_rfl) (by kernel_rfl) (by kernel_rfl)) (ev_acons (ev_bi S .len (by kernel_rfl) (gl_by (by kernel_rfl)) G.b_len (by kernel_rfl) (ev_acons (ev_v (by kernel_rfl) (by kernel_rfl) (by kernel_rfl) (by kernel_rfl)) ev_anil rfl)) ev_anil rfl) rfl)) ev_anil rfl) rfl) rfl) rfl rfl) (ess_cons (es_if (eb_cmp S (ev_v (by kernel_rfl) (by kernel_rfl) (by kernel_rfl) (by kernel_rfl)) ev_kint (by kernel_rfl)) (ess_cons (es_asg (ev_bi S .list (by kernel_rfl) (gl_by (by kernel_rfl)) G.b_list (by kernel_rfl) (ev_acons (ev_v (by kernel_rfl) (by kernel_rfl) (by kernel_rfl) (by kernel_rfl)) ev_anil rfl)) (eg_name S (nm_by (by kernel_rfl) (by kernel_rfl) (by kernel_rfl))) rfl rfl rfl) (ess_cons (es_asg (ev_tup (ev_acons (ev_ix S (ev_v (by kernel_rfl) (by kernel_rfl) (by kernel_rfl) (by kernel_rfl)) (ev_v (by kernel_rfl) (by kernel_rfl) (by kernel_rfl) (by kernel_rfl)) (fun _ _ => rfl)) (ev_acons (ev_ix S (ev_v (by kernel_rfl) (by kernel_rfl) (by kernel_rfl) (by kernel_rfl)) (ev_v (by kernel_rfl) (by kernel_rfl) (by kernel_rfl) (by kernel_rfl)) (fun _ _ => rfl)) ev_anil rfl) rfl)) (eg_tup S (egs_cons (eg_sub (XR := XR) S (ev_v (by kernel_rfl) (by kernel_rfl) (by kernel_rfl) (by kernel_rfl)) (ev_v (by kernel_rfl) (by kernel_rfl) (by kernel_rfl) (by kernel_rfl)) (fun _ => rfl)) (egs_cons (eg_sub (XR := XR) S (ev_v (by kernel_rfl) (by kernel_rfl) (by kernel_rfl) (by kernel_rfl)) (ev_v (by kernel_rfl) (by kernel_rfl) (by kernel_rfl) (by kernel_rfl)) (fun _ => rfl)) egs_nil rfl) rfl) rfl rfl) rfl rfl rfl) (ess_cons (es_ret (ev_bi S .tuple (by kernel_rfl) (gl_by (by kernel_rfl)) G.b_tuple (by kernel_rfl) (ev_acons (ev_v (by kernel_rfl) (by kernel_rfl) (by kernel_rfl) (by kernel_rfl)) ev_anil rfl))) ess_nil))) ess_nil) (ess_cons (es_if (eb_cmp S (ev_v (by kernel_rfl) (by kernel_rfl) (by kernel_rfl) (by kernel_rfl)) ev_kint (by kernel_rfl)) (ess_cons (es_asg (ev_lst (ev_acons (ev_bi S .list (by kernel_rfl) (gl_by (by kernel_rfl)) G.b_list (by kernel_rfl) (ev_acons (ev_v (by kernel_rfl) (by kernel_rfl) (by kernel_rfl) (by kernel_rfl)) ev_anil rfl)) (ev_acons (ev_sl (ev_v (by kernel_rfl) (by kernel_rfl) (by kernel_rfl) (by kernel_rfl)) (ev_osome ev_kint) ev_ono) (ev_acons (ev_bin (ev_v (by kernel_rfl) (by kernel_rfl) (by kernel_rfl) (by kernel_rfl)) (ev_tup (ev_acons (ev_bi S .len (by kernel_rfl) (gl_by (by kernel_rfl)) G.b_len (by kernel_rfl) (ev_acons (ev_v (by kernel_rfl) (by kernel_rfl) (by kernel_rfl) (by kernel_rfl)) ev_anil rfl)) ev_anil rfl))) (ev_acons (ev_rev (ev_v (by kernel_rfl) (by kernel_rfl) (by kernel_rfl) (by kernel_rfl))) (ev_acons ev_knon (ev_acons (ev_tup ev_anil) (ev_acons ev_kstr (ev_acons (ev_tup (ev_acons (ev_v (by kernel_rfl) (by kernel_rfl) (by kernel_rfl) (by kernel_rfl)) ev_anil rfl)) ev_anil rfl) rfl) rfl) rfl) rfl) rfl) rfl) rfl)) (eg_name S (nm_by (by kernel_rfl) (by kernel_rfl) (by kernel_rfl))) rfl rfl rfl) (ess_cons (es_ret (ev_call S (F.f13.at hr) tk (gl_by (by kernel_rfl)) (by kernel_rfl) (by kernel_rfl) (ev_acons (ev_v (by kernel_rfl) (by kernel_rfl) (by kernel_rfl) (by kernel_rfl)) (ev_acons (ev_bin (ev_v (by kernel_rfl) (by kernel_rfl) (by kernel_rfl) (by kernel_rfl)) (ev_lst (ev_acons (ev_bin (ev_sl (ev_v (by kernel_rfl) (by kernel_rfl) (by kernel_rfl) (by kernel_rfl)) (ev_osome ev_kint) ev_ono) (ev_sl (ev_v (by kernel_rfl) (by kernel_rfl) (by kernel_rfl) (by kernel_rfl)) ev_ono (ev_osome ev_kint))) ev_anil rfl))) ev_anil rfl) rfl))) ess_nil)) ess_nil) (ess_cons (es_if (eb_cmp S (ev_v (by kernel_rfl) (by kernel_rfl) (by kernel_rfl) (by kernel_rfl)) ev_kint (by kernel_rfl)) (ess_cons (es_asg (ev_call S (F.f13.at hr) tk (gl_by (by kernel_rfl)) (by kernel_rfl) (by kernel_rfl) (ev_acons (ev_v (by kernel_rfl) (by kernel_rfl) (by kernel_rfl) (by kernel_rfl)) (ev_acons (ev_lst (ev_acons ev_kbl (ev_acons ev_knon (ev_acons ev_kstr (ev_acons (ev_neg ev_kint) (ev_acons (ev_bi S .len (by kernel_rfl) (gl_by (by kernel_rfl)) G.b_len (by kernel_rfl) (ev_acons (ev_v (by kernel_rfl) (by kernel_rfl) (by kernel_rfl) (by kernel_rfl)) ev_anil rfl)) (ev_acons (ev_ix S (ev_v (by kernel_rfl) (by kernel_rfl) (by kernel_rfl) (by kernel_rfl)) (ev_v (by kernel_rfl) (by kernel_rfl) (by kernel_rfl) (by kernel_rfl)) (fun _ _ => rfl)) (ev_acons (ev_tup (ev_acons ev_kint ev_anil rfl)) ev_anil rfl) rfl) rfl) rfl) rfl) rfl) rfl)) ev_anil rfl) rfl)) (eg_name S (nm_by (by kernel_rfl) (by kernel_rfl) (by kernel_rfl))) rfl rfl rfl) (ess_cons (es_ret (ev_bin (ev_bin (ev_sl (ev_v (by kernel_rfl) (by kernel_rfl) (by kernel_rfl) (by kernel_rfl)) ev_ono (ev_osome (ev_v (by kernel_rfl) (by kernel_rfl) (by kernel_rfl) (by kernel_rfl)))) (ev_tup (ev_acons (ev_v (by kernel_rfl) (by kernel_rfl) (by kernel_rfl) (by kernel_rfl)) ev_anil rfl))) (ev_sl (ev_v (by kernel_rfl) (by kernel_rfl) (by kernel_rfl) (by kernel_rfl)) (ev_osome (ev_bin (ev_v (by kernel_rfl) (by kernel_rfl) (by kernel_rfl) (by kernel_rfl)) ev_kint)) ev_ono))) ess_nil)) ess_nil) (ess_cons (es_if (eb_cmp S (ev_v (by kernel_rfl) (by kernel_rfl) (by kernel_rfl) (by kernel_rfl)) ev_kint (by kernel_rfl)) (ess_cons (es_ret (ev_call S (F.f6.at hr) tk (gl_by (by kernel_rfl)) (by kernel_rfl) (by kernel_rfl) (ev_acons (ev_v (by kernel_rfl) (by kernel_rfl) (by kernel_rfl) (by kernel_rfl)) ev_anil rfl))) ess_nil) ess_nil) (ess_cons (es_ret (ev_ite (eb_cmp S (ev_v (by kernel_rfl) (by kernel_rfl) (by kernel_rfl) (by kernel_rfl)) ev_kint (by kernel_rfl)) (ev_call S (F.f5.at hr) tk (gl_by (by kernel_rfl)) (by kernel_rfl) (by kernel_rfl) (ev_acons (ev_v (by kernel_rfl) (by kernel_rfl) (by kernel_rfl) (by kernel_rfl)) (ev_acons (ev_v (by kernel_rfl) (by kernel_rfl) (by kernel_rfl) (by kernel_rfl)) ev_anil rfl) rfl)) (ev_v (by kernel_rfl) (by kernel_rfl) (by kernel_rfl) (by kernel_rfl)))) ess_nil))))))
theorem b__law_odd_turn (G : Gs mg) (Kw : Kws fds) (F : Fns P w K mg base XR k ad fds) (hg : A.guards = some []) (hr : Room k (A.deeper (envOfC "_law_odd_turn" (defScope s__law_odd_turn) s.heap.objs.size (ad 51) cdv))) :
    ESs (cxOf (L2.CX P w) P w K mg base N__law_odd_turn "_law_odd_turn" (defScope s__law_odd_turn) (ad 51) cdv A outer s H E) XR (fun cls d _ H' => E cls d H') (callN D k) (defBody s__law_odd_turn) c__law_odd_turn :=
  have S : Std (cxOf (L2.CX P w) P w K mg base N__law_odd_turn "_law_odd_turn" (defScope s__law_odd_turn) (ad 51) cdv A outer s H E) := std_cx sc__law_odd_turn.nd hg hr
  have tk : Takes (cxOf (L2.CX P w) P w K mg base N__law_odd_turn "_law_odd_turn" (defScope s__law_odd_turn) (ad 51) cdv A outer s H E) (fun cls d _ H' => E cls d H') := takes_cx
  (ess_cons (es_asg (ev_trange S (gl_by (by kernel_rfl)) G.b_tuple (prg1 (gl_by (by kernel_rfl)) G.b_range (ev_v (by kernel_rfl) (by kernel_rfl) (by kernel_rfl) (by kernel_rfl)) rfl) rfl) (eg_name S (nm_by (by kernel_rfl) (by kernel_rfl) (by kernel_rfl))) rfl rfl rfl) (ess_cons (es_asg (ev_lst (ev_acons ev_knon (ev_acons ev_kstr (ev_acons ev_kint (ev_acons ev_kbl (ev_acons (ev_lst ev_anil) (ev_acons ev_dnew (ev_acons (ev_tup ev_anil) (ev_acons (ev_bi S .list (by kernel_rfl) (gl_by (by kernel_rfl)) G.b_list (by kernel_rfl) (ev_acons (ev_v (by kernel_rfl) (by kernel_rfl) (by kernel_rfl) (by kernel_rfl)) ev_anil rfl)) (ev_acons (ev_bin (ev_v (by kernel_rfl) (by kernel_rfl) (by kernel_rfl) (by kernel_rfl)) (ev_tup (ev_acons ev_kint ev_anil rfl))) (ev_acons (ev_bin (ev_sl (ev_v (by kernel_rfl) (by kernel_rfl) (by kernel_rfl) (by kernel_rfl)) (ev_osome ev_kint) ev_ono) (ev_tup (ev_acons (ev_v (by kernel_rfl) (by kernel_rfl) (by kernel_rfl) (by kernel_rfl)) ev_anil rfl))) (ev_acons (ev_bin (ev_tup (ev_acons ev_knon ev_anil rfl)) (ev_v (by kernel_rfl) (by kernel_rfl) (by kernel_rfl) (by kernel_rfl))) (ev_acons (ev_bin (ev_tup (ev_acons ev_kstr ev_anil rfl)) (ev_v (by kernel_rfl) (by kernel_rfl) (by kernel_rfl) (by kernel_rfl))) ev_anil rfl) rfl) rfl) rfl) rfl) rfl) rfl) rfl) rfl) rfl) rfl) rfl)) (eg_name S (nm_by (by kernel_rfl) (by kernel_rfl) (by kernel_rfl))) rfl rfl rfl) (ess_cons (es_ret (ev_call S (F.f13.at hr) tk (gl_by (by kernel_rfl)) (by kernel_rfl) (by kernel_rfl) (ev_acons (ev_v (by kernel_rfl) (by kernel_rfl) (by kernel_rfl) (by kernel_rfl)) (ev_acons (ev_bin (ev_v (by kernel_rfl) (by kernel_rfl) (by kernel_rfl) (by kernel_rfl)) (ev_lst (ev_acons (ev_bin (ev_tup (ev_acons ev_kbl ev_anil rfl)) (ev_sl (ev_v (by kernel_rfl) (by kernel_rfl) (by kernel_rfl) (by kernel_rfl)) (ev_osome ev_kint) ev_ono)) (ev_acons (ev_bin (ev_sl (ev_v (by kernel_rfl) (by kernel_rfl) (by kernel_rfl) (by kernel_rfl)) (ev_osome ev_kint) ev_ono) (ev_tup (ev_acons (ev_neg ev_kint) ev_anil rfl))) (ev_acons (ev_trange S (gl_by (by kernel_rfl)) G.b_tuple (prg1 (gl_by (by kernel_rfl)) G.b_range ev_kint rfl) rfl) (ev_acons (ev_tup (ev_acons (ev_v (by kernel_rfl) (by kernel_rfl) (by kernel_rfl) (by kernel_rfl)) ev_anil rfl)) (ev_acons (ev_bin (ev_v (by kernel_rfl) (by kernel_rfl) (by kernel_rfl) (by kernel_rfl)) (ev_tup (ev_acons (ev_bin (ev_v (by kernel_rfl) (by kernel_rfl) (by kernel_rfl) (by kernel_rfl)) ev_kint) ev_anil rfl))) ev_anil rfl) rfl) rfl) rfl) rfl))) ev_anil rfl) rfl))) ess_nil)))
theorem b__law_is_number (G : Gs mg) (Kw : Kws fds) (F : Fns P w K mg base XR k ad fds) (hg : A.guards = some []) (hr : Room k (A.deeper (envOfC "_law_is_number" (defScope s__law_is_number) s.heap.objs.size (ad 40) cdv))) :
    ESs (cxOf (L2.CX P w) P w K mg base N__law_is_number "_law_is_number" (defScope s__law_is_number) (ad 40) cdv A outer s H E) XR (fun cls d _ H' => E cls d H') (callN D k) (defBody s__law_is_number) c__law_is_number :=
  have S : Std (cxOf (L2.CX P w) P w K mg base N__law_is_number "_law_is_number" (defScope s__law_is_number) (ad 40) cdv A outer s H E) := std_cx sc__law_is_number.nd hg hr
  have tk : Takes (cxOf (L2.CX P w) P w K mg base N__law_is_number "_law_is_number" (defScope s__law_is_number) (ad 40) cdv A outer s H E) (fun cls d _ H' => E cls d H') := takes_cx
  (ess_cons (es_ret (ev_and (ev_isi S rfl rfl (by kernel_rfl) (gl_by (by kernel_rfl)) G.b_isinstance (gl_by (by kernel_rfl)) G.b_int (by decide +kernel) (by kernel_rfl) (by kernel_rfl) (ev_v (by kernel_rfl) (by kernel_rfl) (by kernel_rfl) (by kernel_rfl))) (ev_and (ev_not (ev_isi S rfl rfl (by kernel_rfl) (gl_by (by kernel_rfl)) G.b_isinstance (gl_by (by kernel_rfl)) G.b_bool (by decide +kernel) (by kernel_rfl) (by kernel_rfl) (ev_v (by kernel_rfl) (by kernel_rfl) (by kernel_rfl) (by kernel_rfl)))) (ev_one (ev_chain S (ev_v (by kernel_rfl) (by kernel_rfl) (by kernel_rfl) (by kernel_rfl)) (ev_v (by kernel_rfl) (by kernel_rfl) (by kernel_rfl) (by kernel_rfl)) (ev_v (by kernel_rfl) (by kernel_rfl) (by kernel_rfl) (by kernel_rfl)) (by kernel_rfl)))))) ess_nil)
theorem b__law_is_turn (G : Gs mg) (Kw : Kws fds) (F : Fns P w K mg base XR k ad fds) (hg : A.guards = some []) (hr : Room k (A.deeper (envOfC "_law_is_turn" (defScope s__law_is_turn) s.heap.objs.size (ad 42) cdv))) :
    ESs (cxOf (L2.CX P w) P w K mg base N__law_is_turn "_law_is_turn" (defScope s__law_is_turn) (ad 42) cdv A outer s H E) XR (fun cls d _ H' => E cls d H') (callN D k) (defBody s__law_is_turn) c__law_is_turn :=
  have S : Std (cxOf (L2.CX P w) P w K mg base N__law_is_turn "_law_is_turn" (defScope s__law_is_turn) (ad 42) cdv A outer s H E) := std_cx sc__law_is_turn.nd hg hr
  have tk : Takes (cxOf (L2.CX P w) P w K mg base N__law_is_turn "_law_is_turn" (defScope s__law_is_turn) (ad 42) cdv A outer s H E) (fun cls d _ H' => E cls d H') := takes_cx
  (ess_cons (es_if (eb_w (eb_or (eb_not (eb_val (ev_isi S rfl rfl (by kernel_rfl) (gl_by (by kernel_rfl)) G.b_isinstance (gl_by (by kernel_rfl)) G.b_tuple (by decide +kernel) (by kernel_rfl) (by kernel_rfl) (ev_v (by kernel_rfl) (by kernel_rfl) (by kernel_rfl) (by kernel_rfl))) (fun _ => rfl))) (eb_or1 (eb_not (eb_chain S ev_kint (ev_bi S .len (by kernel_rfl) (gl_by (by kernel_rfl)) G.b_len (by kernel_rfl) (ev_acons (ev_v (by kernel_rfl) (by kernel_rfl) (by kernel_rfl) (by kernel_rfl)) ev_anil rfl)) ev_kint (by kernel_rfl)))))) (ess_cons (es_ret ev_kbl) ess_nil) ess_nil) (ess_cons (es_if (eb_cmp S (ev_lc S (LcOk.mk (own := [("_law_each", 1)]) (ei_seq (ev_v (by kernel_rfl) (by kernel_rfl) (by kernel_rfl) (by kernel_rfl))) (blkOk_by (by kernel_rfl)) (fun _ _ _ _ _ => (ew_one (S.blk) (nm_by (by kernel_rfl) (by kernel_rfl) (by kernel_rfl)) (by decide))) (fun _ _ _ _ _ => (et_one (eb_not (eb_val (ev_call (S.blk) (F.f40.at hr) takesNo (gl_by (by kernel_rfl)) (by kernel_rfl) (by kernel_rfl) (ev_acons (ev_v (by kernel_rfl) (by kernel_rfl) (by kernel_rfl) (by kernel_rfl)) (ev_acons ev_kint (ev_acons (ev_bin (ev_bi (S.blk) .len (by kernel_rfl) (gl_by (by kernel_rfl)) G.b_len (by kernel_rfl) (ev_acons (ev_v (by kernel_rfl) (by kernel_rfl) (by kernel_rfl) (by kernel_rfl)) ev_anil rfl)) ev_kint) ev_anil rfl) rfl) rfl)) (fun _ => rfl))))) (fun _ _ _ _ _ => (ev_v (by kernel_rfl) (by kernel_rfl) (by kernel_rfl) (by kernel_rfl))) (fun _ => rfl))) (ev_lst ev_anil) (by kernel_rfl)) (ess_cons (es_ret ev_kbl) ess_nil) ess_nil) (ess_cons (es_ret (ev_cmp S (ev_lenset S (gl_by (by kernel_rfl)) G.b_len (gl_by (by kernel_rfl)) G.b_set (ev_v (by kernel_rfl) (by kernel_rfl) (by kernel_rfl) (by kernel_rfl)) rfl) (ev_bi S .len (by kernel_rfl) (gl_by (by kernel_rfl)) G.b_len (by kernel_rfl) (ev_acons (ev_v (by kernel_rfl) (by kernel_rfl) (by kernel_rfl) (by kernel_rfl)) ev_anil rfl)) (by kernel_rfl))) ess_nil)))
theorem b__law_due (G : Gs mg) (Kw : Kws fds) (F : Fns P w K mg base XR k ad fds) (hg : A.guards = some []) (hr : Room k (A.deeper (envOfC "_law_due" (defScope s__law_due) s.heap.objs.size (ad 55) cdv))) :
    ESs (cxOf (L2.CX P w) P w K mg base N__law_due "_law_due" (defScope s__law_due) (ad 55) cdv A outer s H E) XR (fun cls d _ H' => E cls d H') (callN D k) (defBody s__law_due) c__law_due__4 :=
  have S : Std (cxOf (L2.CX P w) P w K mg base N__law_due "_law_due" (defScope s__law_due) (ad 55) cdv A outer s H E) := std_cx sc__law_due.nd hg hr
  have tk : Takes (cxOf (L2.CX P w) P w K mg base N__law_due "_law_due" (defScope s__law_due) (ad 55) cdv A outer s H E) (fun cls d _ H' => E cls d H') := takes_cx
  (ess_cons (es_if (eb_w (eb_or (eb_not (eb_val (ev_call S (F.f42.at hr) tk (gl_by (by kernel_rfl)) (by kernel_rfl) (by kernel_rfl) (ev_acons (ev_v (by kernel_rfl) (by kernel_rfl) (by kernel_rfl) (by kernel_rfl)) ev_anil rfl)) (fun _ => rfl))) (eb_or1 (eb_not (eb_val (ev_call S (F.f40.at hr) tk (gl_by (by kernel_rfl)) (by kernel_rfl) (by kernel_rfl) (ev_acons (ev_v (by kernel_rfl) (by kernel_rfl) (by kernel_rfl) (by kernel_rfl)) (ev_acons ev_kint (ev_acons ev_kint ev_anil rfl) rfl) rfl)) (fun _ => rfl)))))) (ess_cons (es_ret ev_kbl) ess_nil) ess_nil) (ess_cons (es_ret (ev_and (ev_call S (F.f42.at hr) tk (gl_by (by kernel_rfl)) (by kernel_rfl) (by kernel_rfl) (ev_acons (ev_v (by kernel_rfl) (by kernel_rfl) (by kernel_rfl) (by kernel_rfl)) ev_anil rfl)) (ev_and (ev_cmp S (ev_bi S .len (by kernel_rfl) (gl_by (by kernel_rfl)) G.b_len (by kernel_rfl) (ev_acons (ev_v (by kernel_rfl) (by kernel_rfl) (by kernel_rfl) (by kernel_rfl)) ev_anil rfl)) (ev_bi S .len (by kernel_rfl) (gl_by (by kernel_rfl)) G.b_len (by kernel_rfl) (ev_acons (ev_v (by kernel_rfl) (by kernel_rfl) (by kernel_rfl) (by kernel_rfl)) ev_anil rfl)) (by kernel_rfl)) (ev_one (ev_cmp S (ev_call S (F.f11.at hr) tk (gl_by (by kernel_rfl)) (by kernel_rfl) (by kernel_rfl) (ev_acons (ev_v (by kernel_rfl) (by kernel_rfl) (by kernel_rfl) (by kernel_rfl)) (ev_acons (ev_v (by kernel_rfl) (by kernel_rfl) (by kernel_rfl) (by kernel_rfl)) ev_anil rfl) rfl)) (ev_v (by kernel_rfl) (by kernel_rfl) (by kernel_rfl) (by kernel_rfl)) (by kernel_rfl)))))) ess_nil))
theorem b__law_right (G : Gs mg) (Kw : Kws fds) (F : Fns P w K mg base XR k ad fds) (hg : A.guards = some []) (hr : Room k (A.deeper (envOfC "_law_right" (defScope s__law_right) s.heap.objs.size (ad 56) cdv))) :
    ESs (cxOf (L2.CX P w) P w K mg base N__law_right "_law_right" (defScope s__law_right) (ad 56) cdv A outer s H E) XR (fun cls d _ H' => E cls d H') (callN D k) (defBody s__law_right) c__law_right__5 :=
  have S : Std (cxOf (L2.CX P w) P w K mg base N__law_right "_law_right" (defScope s__law_right) (ad 56) cdv A outer s H E) := std_cx sc__law_right.nd hg hr
  have tk : Takes (cxOf (L2.CX P w) P w K mg base N__law_right "_law_right" (defScope s__law_right) (ad 56) cdv A outer s H E) (fun cls d _ H' => E cls d H') := takes_cx
  (ess_cons (es_for S owns_cx (ei_seq (ev_lst (ev_acons (ev_bin ev_kint (ev_call S (F.f1.at hr) tk (gl_by (by kernel_rfl)) (by kernel_rfl) (by kernel_rfl) (ev_acons (ev_v (by kernel_rfl) (by kernel_rfl) (by kernel_rfl) (by kernel_rfl)) (ev_acons ev_kint ev_anil rfl) rfl))) (ev_acons (ev_bin ev_kint (ev_call S (F.f1.at hr) tk (gl_by (by kernel_rfl)) (by kernel_rfl) (by kernel_rfl) (ev_acons (ev_v (by kernel_rfl) (by kernel_rfl) (by kernel_rfl) (by kernel_rfl)) (ev_acons ev_kint ev_anil rfl) rfl))) (ev_acons (ev_call S (F.f13.at hr) tk (gl_by (by kernel_rfl)) (by kernel_rfl) (by kernel_rfl) (ev_acons (ev_v (by kernel_rfl) (by kernel_rfl) (by kernel_rfl) (by kernel_rfl)) (ev_acons (ev_lst (ev_acons ev_kint (ev_acons ev_kint (ev_acons ev_kint ev_anil rfl) rfl) rfl)) ev_anil rfl) rfl)) ev_anil rfl) rfl) rfl))) (en_one S (nm_by (by kernel_rfl) (by kernel_rfl) (by kernel_rfl))) (ess_cons (es_asg (ev_call S (F.f3.at hr) tk (gl_by (by kernel_rfl)) (by kernel_rfl) (by kernel_rfl) (ev_acons (ev_v (by kernel_rfl) (by kernel_rfl) (by kernel_rfl) (by kernel_rfl)) (ev_acons (ev_call S (F.f4.at hr) tk (gl_by (by kernel_rfl)) (by kernel_rfl) (by kernel_rfl) (ev_acons (ev_v (by kernel_rfl) (by kernel_rfl) (by kernel_rfl) (by kernel_rfl)) (ev_acons (ev_v (by kernel_rfl) (by kernel_rfl) (by kernel_rfl) (by kernel_rfl)) ev_anil rfl) rfl)) ev_anil rfl) rfl)) (eg_name S (nm_by (by kernel_rfl) (by kernel_rfl) (by kernel_rfl))) rfl rfl rfl) (ess_cons (es_asg (ev_call S (F.f13.at hr) tk (gl_by (by kernel_rfl)) (by kernel_rfl) (by kernel_rfl) (ev_acons (ev_v (by kernel_rfl) (by kernel_rfl) (by kernel_rfl) (by kernel_rfl)) (ev_acons (ev_lst (ev_acons ev_kint (ev_acons ev_kint (ev_acons ev_kint (ev_acons ev_kint (ev_acons (ev_bin ev_kint (ev_call S (F.f1.at hr) tk (gl_by (by kernel_rfl)) (by kernel_rfl) (by kernel_rfl) (ev_acons (ev_v (by kernel_rfl) (by kernel_rfl) (by kernel_rfl) (by kernel_rfl)) (ev_acons ev_kint ev_anil rfl) rfl))) ev_anil rfl) rfl) rfl) rfl) rfl)) ev_anil rfl) rfl)) (eg_name S (nm_by (by kernel_rfl) (by kernel_rfl) (by kernel_rfl))) rfl rfl rfl) (ess_cons (es_asg (ev_call S (F.f11.at hr) tk (gl_by (by kernel_rfl)) (by kernel_rfl) (by kernel_rfl) (ev_acons (ev_v (by kernel_rfl) (by kernel_rfl) (by kernel_rfl) (by kernel_rfl)) (ev_acons (ev_v (by kernel_rfl) (by kernel_rfl) (by kernel_rfl) (by kernel_rfl)) ev_anil rfl) rfl)) (eg_name S (nm_by (by kernel_rfl) (by kernel_rfl) (by kernel_rfl))) rfl rfl rfl) (ess_cons (es_if (eb_cmp S (ev_call S (F.f35.at hr) tk (gl_by (by kernel_rfl)) (by kernel_rfl) (by kernel_rfl) (ev_acons (ev_tup (ev_acons ev_kstr (ev_acons (ev_v (by kernel_rfl) (by kernel_rfl) (by kernel_rfl) (by kernel_rfl)) (ev_acons (ev_v (by kernel_rfl) (by kernel_rfl) (by kernel_rfl) (by kernel_rfl)) ev_anil rfl) rfl) rfl)) (ev_acons (ev_v (by kernel_rfl) (by kernel_rfl) (by kernel_rfl) (by kernel_rfl)) ev_anil rfl) rfl)) ev_kbl (by kernel_rfl)) (ess_cons (es_ret ev_kbl) ess_nil) ess_nil) (ess_cons (es_for S owns_cx (ei_range1 (gl_by (by kernel_rfl)) G.b_range ev_kint rfl) (en_one S (nm_by (by kernel_rfl) (by kernel_rfl) (by kernel_rfl))) (ess_cons (es_asg (ev_call S (F.f13.at hr) tk (gl_by (by kernel_rfl)) (by kernel_rfl) (by kernel_rfl) (ev_acons (ev_v (by kernel_rfl) (by kernel_rfl) (by kernel_rfl) (by kernel_rfl)) (ev_acons (ev_lst (ev_acons (ev_bin (ev_v (by kernel_rfl) (by kernel_rfl) (by kernel_rfl) (by kernel_rfl)) ev_kint) (ev_acons (ev_bin (ev_v (by kernel_rfl) (by kernel_rfl) (by kernel_rfl) (by kernel_rfl)) ev_kint) (ev_acons ev_kint (ev_acons (ev_neg ev_kint) (ev_acons ev_kint (ev_acons ev_knon (ev_acons ev_kbl (ev_acons ev_kstr (ev_acons (ev_tup (ev_acons ev_kint ev_anil rfl)) (ev_acons (ev_bin ev_kint ev_kint) (ev_acons ev_kint (ev_acons ev_kint ev_anil rfl) rfl) rfl) rfl) rfl) rfl) rfl) rfl) rfl) rfl) rfl) rfl)) ev_anil rfl) rfl)) (eg_name S (nm_by (by kernel_rfl) (by kernel_rfl) (by kernel_rfl))) rfl rfl rfl) (ess_cons (es_asg (ev_call S (F.f44.at hr) tk (gl_by (by kernel_rfl)) (by kernel_rfl) (by kernel_rfl) (ev_acons (ev_v (by kernel_rfl) (by kernel_rfl) (by kernel_rfl) (by kernel_rfl)) (ev_acons (ev_v (by kernel_rfl) (by kernel_rfl) (by kernel_rfl) (by kernel_rfl)) ev_anil rfl) rfl)) (eg_name S (nm_by (by kernel_rfl) (by kernel_rfl) (by kernel_rfl))) rfl rfl rfl) (ess_cons (es_for S owns_cx (ei_seq (ev_lst (ev_acons (ev_tup (ev_acons ev_kstr (ev_acons (ev_v (by kernel_rfl) (by kernel_rfl) (by kernel_rfl) (by kernel_rfl)) (ev_acons (ev_v (by kernel_rfl) (by kernel_rfl) (by kernel_rfl) (by kernel_rfl)) ev_anil rfl) rfl) rfl)) (ev_acons (ev_tup (ev_acons ev_kstr (ev_acons (ev_v (by kernel_rfl) (by kernel_rfl) (by kernel_rfl) (by kernel_rfl)) (ev_acons (ev_v (by kernel_rfl) (by kernel_rfl) (by kernel_rfl) (by kernel_rfl)) ev_anil rfl) rfl) rfl)) (ev_acons (ev_tup (ev_acons ev_kstr (ev_acons (ev_v (by kernel_rfl) (by kernel_rfl) (by kernel_rfl) (by kernel_rfl)) (ev_acons (ev_v (by kernel_rfl) (by kernel_rfl) (by kernel_rfl) (by kernel_rfl)) ev_anil rfl) rfl) rfl)) ev_anil rfl) rfl) rfl))) (en_one S (nm_by (by kernel_rfl) (by kernel_rfl) (by kernel_rfl))) (ess_cons (es_for S owns_cx (ei_seq (ev_lst (ev_acons (ev_v (by kernel_rfl) (by kernel_rfl) (by kernel_rfl) (by kernel_rfl)) (ev_acons (ev_call S (F.f44.at hr) tk (gl_by (by kernel_rfl)) (by kernel_rfl) (by kernel_rfl) (ev_acons (ev_v (by kernel_rfl) (by kernel_rfl) (by kernel_rfl) (by kernel_rfl)) (ev_acons (ev_v (by kernel_rfl) (by kernel_rfl) (by kernel_rfl) (by kernel_rfl)) ev_anil rfl) rfl)) (ev_acons (ev_v (by kernel_rfl) (by kernel_rfl) (by kernel_rfl) (by kernel_rfl)) (ev_acons (ev_call S (F.f51.at hr) tk (gl_by (by kernel_rfl)) (by kernel_rfl) (by kernel_rfl) (ev_acons (ev_v (by kernel_rfl) (by kernel_rfl) (by kernel_rfl) (by kernel_rfl)) (ev_acons (ev_v (by kernel_rfl) (by kernel_rfl) (by kernel_rfl) (by kernel_rfl)) ev_anil rfl) rfl)) ev_anil rfl) rfl) rfl) rfl))) (en_one S (nm_by (by kernel_rfl) (by kernel_rfl) (by kernel_rfl))) (ess_cons (es_if (eb_cmp S (ev_bi S .repr (by kernel_rfl) (gl_by (by kernel_rfl)) G.b_repr (by kernel_rfl) (ev_acons (ev_call S (F.f35.at hr) tk (gl_by (by kernel_rfl)) (by kernel_rfl) (by kernel_rfl) (ev_acons (ev_v (by kernel_rfl) (by kernel_rfl) (by kernel_rfl) (by kernel_rfl)) (ev_acons (ev_v (by kernel_rfl) (by kernel_rfl) (by kernel_rfl) (by kernel_rfl)) ev_anil rfl) rfl)) ev_anil rfl)) (ev_bi S .repr (by kernel_rfl) (gl_by (by kernel_rfl)) G.b_repr (by kernel_rfl) (ev_acons (ev_call S (F.f55.at hr) tk (gl_by (by kernel_rfl)) (by kernel_rfl) (by kernel_rfl) (ev_acons (ev_ix S (ev_v (by kernel_rfl) (by kernel_rfl) (by kernel_rfl) (by kernel_rfl)) ev_kint (fun _ _ => rfl)) (ev_acons (ev_ix S (ev_v (by kernel_rfl) (by kernel_rfl) (by kernel_rfl) (by kernel_rfl)) ev_kint (fun _ _ => rfl)) (ev_acons (ev_v (by kernel_rfl) (by kernel_rfl) (by kernel_rfl) (by kernel_rfl)) ev_anil rfl) rfl) rfl)) ev_anil rfl)) (by kernel_rfl)) (ess_cons (es_ret ev_kbl) ess_nil) ess_nil) ess_nil) (fun _ => rfl)) ess_nil) (fun _ => rfl)) ess_nil))) (fun _ => rfl)) ess_nil))))) (fun _ => rfl)) (ess_cons (es_ret (ev_and (ev_cmp S (ev_call S (F.f35.at hr) tk (gl_by (by kernel_rfl)) (by kernel_rfl) (by kernel_rfl) (ev_acons (ev_tup (ev_acons ev_kstr (ev_acons (ev_tup (ev_acons ev_kint ev_anil rfl)) (ev_acons ev_kint ev_anil rfl) rfl) rfl)) (ev_acons (ev_tup (ev_acons ev_kint ev_anil rfl)) ev_anil rfl) rfl)) ev_kbl (by kernel_rfl)) (ev_one (ev_cmp S (ev_call S (F.f35.at hr) tk (gl_by (by kernel_rfl)) (by kernel_rfl) (by kernel_rfl) (ev_acons (ev_tup (ev_acons ev_kstr (ev_acons (ev_tup (ev_acons ev_kint ev_anil rfl)) (ev_acons ev_kint ev_anil rfl) rfl) rfl)) (ev_acons (ev_tup (ev_acons ev_kint ev_anil rfl)) ev_anil rfl) rfl)) ev_kbl (by kernel_rfl))))) ess_nil))
theorem b__law_vat (G : Gs mg) (Kw : Kws fds) (F : Fns P w K mg base XR k ad fds) (hg : A.guards = some []) (hr : Room k (A.deeper (envOfC "_law_vat" (defScope s__law_vat) s.heap.objs.size (ad 37) cdv))) :
    ESs (cxOf (L2.CX P w) P w K mg base N__law_vat "_law_vat" (defScope s__law_vat) (ad 37) cdv A outer s H E) XR (fun cls d _ H' => E cls d H') (callN D k) (defBody s__law_vat) c__law_vat :=
  have S : Std (cxOf (L2.CX P w) P w K mg base N__law_vat "_law_vat" (defScope s__law_vat) (ad 37) cdv A outer s H E) := std_cx sc__law_vat.nd hg hr
  have tk : Takes (cxOf (L2.CX P w) P w K mg base N__law_vat "_law_vat" (defScope s__law_vat) (ad 37) cdv A outer s H E) (fun cls d _ H' => E cls d H') := takes_cx
  (ess_cons (es_asg (ev_ite (eb_cmp S (ev_v (by kernel_rfl) (by kernel_rfl) (by kernel_rfl) (by kernel_rfl)) (ev_bi S .len (by kernel_rfl) (gl_by (by kernel_rfl)) G.b_len (by kernel_rfl) (ev_acons (ev_v (by kernel_rfl) (by kernel_rfl) (by kernel_rfl) (by kernel_rfl)) ev_anil rfl)) (by kernel_rfl)) (ev_bi S .int (by kernel_rfl) (gl_by (by kernel_rfl)) G.b_int (by kernel_rfl) (ev_acons (ev_ix S (ev_v (by kernel_rfl) (by kernel_rfl) (by kernel_rfl) (by kernel_rfl)) (ev_v (by kernel_rfl) (by kernel_rfl) (by kernel_rfl) (by kernel_rfl)) (fun _ _ => rfl)) ev_anil rfl)) (ev_bin (ev_bin ev_kint (ev_v (by kernel_rfl) (by kernel_rfl) (by kernel_rfl) (by kernel_rfl))) ev_kint)) (eg_name S (nm_by (by kernel_rfl) (by kernel_rfl) (by kernel_rfl))) rfl rfl rfl) (ess_cons (es_asg (ev_bin ev_kint (ev_bin ev_kint (ev_v (by kernel_rfl) (by kernel_rfl) (by kernel_rfl) (by kernel_rfl)))) (eg_name S (nm_by (by kernel_rfl) (by kernel_rfl) (by kernel_rfl))) rfl rfl rfl) (ess_cons (es_for S owns_cx (ei_seq (ev_bin (ev_sl (ev_v (by kernel_rfl) (by kernel_rfl) (by kernel_rfl) (by kernel_rfl)) ev_ono (ev_osome ev_kint)) (ev_lst (ev_acons (ev_v (by kernel_rfl) (by kernel_rfl) (by kernel_rfl) (by kernel_rfl)) ev_anil rfl)))) (en_one S (nm_by (by kernel_rfl) (by kernel_rfl) (by kernel_rfl))) (ess_cons (es_asg (ev_bin (ev_bi S .int (by kernel_rfl) (gl_by (by kernel_rfl)) G.b_int (by kernel_rfl) (ev_acons (ev_bin (ev_bin (ev_bin (ev_v (by kernel_rfl) (by kernel_rfl) (by kernel_rfl) (by kernel_rfl)) ev_kint) (ev_bi S .int (by kernel_rfl) (gl_by (by kernel_rfl)) G.b_int (by kernel_rfl) (ev_acons (ev_v (by kernel_rfl) (by kernel_rfl) (by kernel_rfl) (by kernel_rfl)) ev_anil rfl))) ev_kint) ev_anil rfl)) ev_kint) (eg_name S (nm_by (by kernel_rfl) (by kernel_rfl) (by kernel_rfl))) rfl rfl rfl) ess_nil) (fun _ => rfl)) (ess_cons (es_ret (ev_lst (ev_acons (ev_ite (eb_w (eb_or (eb_cmp S (ev_v (by kernel_rfl) (by kernel_rfl) (by kernel_rfl) (by kernel_rfl)) ev_kint (by kernel_rfl)) (eb_or1 (eb_cmp S (ev_v (by kernel_rfl) (by kernel_rfl) (by kernel_rfl) (by kernel_rfl)) (ev_bin ev_kint ev_kint) (by kernel_rfl))))) (ev_bi S .abs (by kernel_rfl) (gl_by (by kernel_rfl)) G.b_abs (by kernel_rfl) (ev_acons (ev_v (by kernel_rfl) (by kernel_rfl) (by kernel_rfl) (by kernel_rfl)) ev_anil rfl)) ev_kint) (ev_acons (ev_v (by kernel_rfl) (by kernel_rfl) (by kernel_rfl) (by kernel_rfl)) (ev_acons ev_kint ev_anil rfl) rfl) rfl))) ess_nil))))
theorem b_law (G : Gs mg) (Kw : Kws fds) (F : Fns P w K mg base XR k ad fds) (hg : A.guards = some []) (hr : Room k (A.deeper (envOfC "law" (defScope s_law) s.heap.objs.size (ad 57) cdv))) :
    ESs (cxOf (L2.CX P w) P w K mg base N_law "law" (defScope s_law) (ad 57) cdv A outer s H E) XR (fun cls d _ H' => E cls d H') (callN D k) (defBody s_law) c_law__5 :=
  have S : Std (cxOf (L2.CX P w) P w K mg base N_law "law" (defScope s_law) (ad 57) cdv A outer s H E) := std_cx sc_law.nd hg hr
  have tk : Takes (cxOf (L2.CX P w) P w K mg base N_law "law" (defScope s_law) (ad 57) cdv A outer s H E) (fun cls d _ H' => E cls d H') := takes_cx
  (ess_cons (es_ret (ev_cmp S (ev_lc S (LcOk.mk (own := [("_law_k", 1)]) (ei_range1 (gl_by (by kernel_rfl)) G.b_range (ev_bi S .max (by kernel_rfl) (gl_by (by kernel_rfl)) G.b_max (by kernel_rfl) (ev_acons ev_kint (ev_acons (ev_bi S .min (by kernel_rfl) (gl_by (by kernel_rfl)) G.b_min (by kernel_rfl) (ev_acons (ev_bi S .len (by kernel_rfl) (gl_by (by kernel_rfl)) G.b_len (by kernel_rfl) (ev_acons (ev_v (by kernel_rfl) (by kernel_rfl) (by kernel_rfl) (by kernel_rfl)) ev_anil rfl)) (ev_acons ev_kint ev_anil rfl) rfl)) ev_anil rfl) rfl)) rfl) (blkOk_by (by kernel_rfl)) (fun _ _ _ _ _ => (ew_one (S.blk) (nm_by (by kernel_rfl) (by kernel_rfl) (by kernel_rfl)) (by decide))) (fun _ _ _ _ _ => (et_one (eb_not (eb_val (ev_call (S.blk) (F.f56.at hr) takesNo (gl_by (by kernel_rfl)) (by kernel_rfl) (by kernel_rfl) (ev_acons (ev_call (S.blk) (F.f37.at hr) takesNo (gl_by (by kernel_rfl)) (by kernel_rfl) (by kernel_rfl) (ev_acons (ev_v (by kernel_rfl) (by kernel_rfl) (by kernel_rfl) (by kernel_rfl)) (ev_acons (ev_v (by kernel_rfl) (by kernel_rfl) (by kernel_rfl) (by kernel_rfl)) ev_anil rfl) rfl)) ev_anil rfl)) (fun _ => rfl))))) (fun _ _ _ _ _ => (ev_v (by kernel_rfl) (by kernel_rfl) (by kernel_rfl) (by kernel_rfl))) (fun _ => rfl))) (ev_lst ev_anil) (by kernel_rfl))) ess_nil)
end
section
variable {P : Program} {w : World} {K : PySem.W.Frag} {mg : Str → Option Value} {base : Heap} {XR : XRel} {ad : Nat → Addr} {fds : Nat → FuncData}
/-- the defs stand -/
structure Txt (K : PySem.W.Frag) (mg : Str → Option Value) (ad : Nat → Addr) (fds : Nat → FuncData) : Prop where
  t1 : FunD K "_law_dip" "_law_dip" (defArgs s__law_dip) (defBody s__law_dip) (defScope s__law_dip) [] [] (ad 1) (fds 1)
  m1 : mg "_law_dip" = some (.ref (ad 1))
  t13 : FunD K "_law_of" "_law_of" (defArgs s__law_of) (defBody s__law_of) (defScope s__law_of) [] [] (ad 13) (fds 13)
  m13 : mg "_law_of" = some (.ref (ad 13))
  t0 : FunD K "_law_made_turn" "_law_made_turn" (defArgs s__law_made_turn) (defBody s__law_made_turn) (defScope s__law_made_turn) [] [] (ad 0) (fds 0)
  m0 : mg "_law_made_turn" = some (.ref (ad 0))
  t2 : FunD K "_law_mixed" "_law_mixed" (defArgs s__law_mixed) (defBody s__law_mixed) (defScope s__law_mixed) [] [] (ad 2) (fds 2)
  m2 : mg "_law_mixed" = some (.ref (ad 2))
  t3 : FunD K "_law_turn" "_law_turn" (defArgs s__law_turn) (defBody s__law_turn) (defScope s__law_turn) [] [] (ad 3) (fds 3)
  m3 : mg "_law_turn" = some (.ref (ad 3))
  t8 : FunD K "_law_walked" "_law_walked" (defArgs s__law_walked) (defBody s__law_walked) (defScope s__law_walked) [] [] (ad 8) (fds 8)
  m8 : mg "_law_walked" = some (.ref (ad 8))
  t11 : FunD K "_law_often" "_law_often" (defArgs s__law_often) (defBody s__law_often) (defScope s__law_often) [] [] (ad 11) (fds 11)
  m11 : mg "_law_often" = some (.ref (ad 11))
  t4 : FunD K "_law_lots" "_law_lots" (defArgs s__law_lots) (defBody s__law_lots) (defScope s__law_lots) [] [] (ad 4) (fds 4)
  m4 : mg "_law_lots" = some (.ref (ad 4))
  t15 : FunD K "lengths_in" "lengths_in" (defArgs s_lengths_in) (defBody s_lengths_in) (defScope s_lengths_in) [] [] (ad 15) (fds 15)
  m15 : mg "lengths_in" = some (.ref (ad 15))
  t16 : FunD K "led_on" "led_on" (defArgs s_led_on) (defBody s_led_on) (defScope s_led_on) [] [] (ad 16) (fds 16)
  m16 : mg "led_on" = some (.ref (ad 16))
  t17 : FunD K "is_round" "is_round" (defArgs s_is_round) (defBody s_is_round) (defScope s_is_round) [] [] (ad 17) (fds 17)
  m17 : mg "is_round" = some (.ref (ad 17))
  t18 : FunD K "is_whole" "is_whole" (defArgs s_is_whole) (defBody s_is_whole) (defScope s_is_whole) [] [] (ad 18) (fds 18)
  m18 : mg "is_whole" = some (.ref (ad 18))
  t19 : FunD K "are_lengths" "are_lengths" (defArgs s_are_lengths) (defBody s_are_lengths) (defScope s_are_lengths) [] [] (ad 19) (fds 19)
  m19 : mg "are_lengths" = some (.ref (ad 19))
  t20 : FunD K "are_one_size" "are_one_size" (defArgs s_are_one_size) (defBody s_are_one_size) (defScope s_are_one_size) [] [] (ad 20) (fds 20)
  m20 : mg "are_one_size" = some (.ref (ad 20))
  t21 : FunD K "is_row" "is_row" (defArgs s_is_row) (defBody s_is_row) (defScope s_is_row) [] [] (ad 21) (fds 21)
  m21 : mg "is_row" = some (.ref (ad 21))
  t22 : FunD K "ring_shown" "ring_shown" (defArgs s_ring_shown) (defBody s_ring_shown) (defScope s_ring_shown) [] [] (ad 22) (fds 22)
  m22 : mg "ring_shown" = some (.ref (ad 22))
  t23 : FunD K "hurdle" "hurdle" (defArgs s_hurdle) (defBody s_hurdle) (defScope s_hurdle) [] [] (ad 23) (fds 23)
  m23 : mg "hurdle" = some (.ref (ad 23))
  t24 : FunD K "no_ring_shown" "no_ring_shown" (defArgs s_no_ring_shown) (defBody s_no_ring_shown) (defScope s_no_ring_shown) [] [] (ad 24) (fds 24)
  m24 : mg "no_ring_shown" = some (.ref (ad 24))
  t25 : FunD K "completed_shown" "completed_shown" (defArgs s_completed_shown) (defBody s_completed_shown) (defScope s_completed_shown) [] [] (ad 25) (fds 25)
  m25 : mg "completed_shown" = some (.ref (ad 25))
  t26 : FunD K "are_lots" "are_lots" (defArgs s_are_lots) (defBody s_are_lots) (defScope s_are_lots) [] [] (ad 26) (fds 26)
  m26 : mg "are_lots" = some (.ref (ad 26))
  t27 : FunD K "is_empty" "is_empty" (defArgs s_is_empty) (defBody s_is_empty) (defScope s_is_empty) [] [] (ad 27) (fds 27)
  m27 : mg "is_empty" = some (.ref (ad 27))
  t28 : FunD K "hook_row" "hook_row" (defArgs s_hook_row) (defBody s_hook_row) (defScope s_hook_row) [] [] (ad 28) (fds 28)
  m28 : mg "hook_row" = some (.ref (ad 28))
  t29 : FunD K "stepped" "stepped" (defArgs s_stepped) (defBody s_stepped) (defScope s_stepped) [] [] (ad 29) (fds 29)
  m29 : mg "stepped" = some (.ref (ad 29))
  t30 : FunD K "turns_with" "turns_with" (defArgs s_turns_with) (defBody s_turns_with) (defScope s_turns_with) [] [] (ad 30) (fds 30)
  m30 : mg "turns_with" = some (.ref (ad 30))
  t31 : FunD K "summed" "summed" (defArgs s_summed) (defBody s_summed) (defScope s_summed) [] [] (ad 31) (fds 31)
  m31 : mg "summed" = some (.ref (ad 31))
  t32 : FunD K "count_shown" "count_shown" (defArgs s_count_shown) (defBody s_count_shown) (defScope s_count_shown) [] [] (ad 32) (fds 32)
  m32 : mg "count_shown" = some (.ref (ad 32))
  t33 : FunD K "often" "often" (defArgs s_often) (defBody s_often) (defScope s_often) [] [] (ad 33) (fds 33)
  m33 : mg "often" = some (.ref (ad 33))
  t34 : FunD K "root_shown" "root_shown" (defArgs s_root_shown) (defBody s_root_shown) (defScope s_root_shown) [] [] (ad 34) (fds 34)
  m34 : mg "root_shown" = some (.ref (ad 34))
  t35 : FunD K "accepts" "accepts" (defArgs s_accepts) (defBody s_accepts) (defScope s_accepts) [] [] (ad 35) (fds 35)
  m35 : mg "accepts" = some (.ref (ad 35))
  t6 : FunD K "_law_back" "_law_back" (defArgs s__law_back) (defBody s__law_back) (defScope s__law_back) [] [] (ad 6) (fds 6)
  m6 : mg "_law_back" = some (.ref (ad 6))
  t5 : FunD K "_law_led" "_law_led" (defArgs s__law_led) (defBody s__law_led) (defScope s__law_led) [] [] (ad 5) (fds 5)
  m5 : mg "_law_led" = some (.ref (ad 5))
  t44 : FunD K "_law_bent_turn" "_law_bent_turn" (defArgs s__law_bent_turn) (defBody s__law_bent_turn) (defScope s__law_bent_turn) [] [] (ad 44) (fds 44)
  m44 : mg "_law_bent_turn" = some (.ref (ad 44))
  t51 : FunD K "_law_odd_turn" "_law_odd_turn" (defArgs s__law_odd_turn) (defBody s__law_odd_turn) (defScope s__law_odd_turn) [] [] (ad 51) (fds 51)
  m51 : mg "_law_odd_turn" = some (.ref (ad 51))
  t40 : FunD K "_law_is_number" "_law_is_number" (defArgs s__law_is_number) (defBody s__law_is_number) (defScope s__law_is_number) [] [] (ad 40) (fds 40)
  m40 : mg "_law_is_number" = some (.ref (ad 40))
  t42 : FunD K "_law_is_turn" "_law_is_turn" (defArgs s__law_is_turn) (defBody s__law_is_turn) (defScope s__law_is_turn) [] [] (ad 42) (fds 42)
  m42 : mg "_law_is_turn" = some (.ref (ad 42))
  t55 : FunD K "_law_due" "_law_due" (defArgs s__law_due) (defBody s__law_due) (defScope s__law_due) [] [] (ad 55) (fds 55)
  m55 : mg "_law_due" = some (.ref (ad 55))
  t56 : FunD K "_law_right" "_law_right" (defArgs s__law_right) (defBody s__law_right) (defScope s__law_right) [] [] (ad 56) (fds 56)
  m56 : mg "_law_right" = some (.ref (ad 56))
  t37 : FunD K "_law_vat" "_law_vat" (defArgs s__law_vat) (defBody s__law_vat) (defScope s__law_vat) [] [] (ad 37) (fds 37)
  m37 : mg "_law_vat" = some (.ref (ad 37))
  t57 : FunD K "law" "law" (defArgs s_law) (defBody s_law) (defScope s_law) [] [] (ad 57) (fds 57)
  m57 : mg "law" = some (.ref (ad 57))
theorem bd__law_dip (T : Txt K mg ad fds) (s : Shared) (us : List Value) (hl : us.length = P__law_dip.length) : BindsTo s (fds 1) ⟨us, []⟩ (P__law_dip.zip us) :=
  FunD.bindsA (ps := P__law_dip) T.t1 (fun _ _ _ _ _ _ us hl => match us, hl with | [_, _], _ => rfl) s us hl
theorem bd__law_of (T : Txt K mg ad fds) (s : Shared) (us : List Value) (hl : us.length = P__law_of.length) : BindsTo s (fds 13) ⟨us, []⟩ (P__law_of.zip us) :=
  FunD.bindsA (ps := P__law_of) T.t13 (fun _ _ _ _ _ _ us hl => match us, hl with | [_, _], _ => rfl) s us hl
theorem bd__law_made_turn (T : Txt K mg ad fds) (s : Shared) (us : List Value) (hl : us.length = P__law_made_turn.length) : BindsTo s (fds 0) ⟨us, []⟩ (P__law_made_turn.zip us) :=
  FunD.bindsA (ps := P__law_made_turn) T.t0 (fun _ _ _ _ _ _ us hl => match us, hl with | [_, _], _ => rfl) s us hl
theorem bd__law_mixed (T : Txt K mg ad fds) (s : Shared) (us : List Value) (hl : us.length = P__law_mixed.length) : BindsTo s (fds 2) ⟨us, []⟩ (P__law_mixed.zip us) :=
  FunD.bindsA (ps := P__law_mixed) T.t2 (fun _ _ _ _ _ _ us hl => match us, hl with | [_, _], _ => rfl) s us hl
theorem bd__law_turn (T : Txt K mg ad fds) (s : Shared) (us : List Value) (hl : us.length = P__law_turn.length) : BindsTo s (fds 3) ⟨us, []⟩ (P__law_turn.zip us) :=
  FunD.bindsA (ps := P__law_turn) T.t3 (fun _ _ _ _ _ _ us hl => match us, hl with | [_, _], _ => rfl) s us hl
theorem bd__law_walked (T : Txt K mg ad fds) (s : Shared) (us : List Value) (hl : us.length = P__law_walked.length) : BindsTo s (fds 8) ⟨us, []⟩ (P__law_walked.zip us) :=
  FunD.bindsA (ps := P__law_walked) T.t8 (fun _ _ _ _ _ _ us hl => match us, hl with | [_], _ => rfl) s us hl
theorem bd__law_often (T : Txt K mg ad fds) (s : Shared) (us : List Value) (hl : us.length = P__law_often.length) : BindsTo s (fds 11) ⟨us, []⟩ (P__law_often.zip us) :=
  FunD.bindsA (ps := P__law_often) T.t11 (fun _ _ _ _ _ _ us hl => match us, hl with | [_, _], _ => rfl) s us hl
theorem bd__law_lots (T : Txt K mg ad fds) (s : Shared) (us : List Value) (hl : us.length = P__law_lots.length) : BindsTo s (fds 4) ⟨us, []⟩ (P__law_lots.zip us) :=
  FunD.bindsA (ps := P__law_lots) T.t4 (fun _ _ _ _ _ _ us hl => match us, hl with | [_, _], _ => rfl) s us hl
theorem bd_lengths_in (T : Txt K mg ad fds) (s : Shared) (us : List Value) (hl : us.length = P_lengths_in.length) : BindsTo s (fds 15) ⟨us, []⟩ (P_lengths_in.zip us) :=
  FunD.bindsA (ps := P_lengths_in) T.t15 (fun _ _ _ _ _ _ us hl => match us, hl with | [_], _ => rfl) s us hl
theorem bd_led_on (T : Txt K mg ad fds) (s : Shared) (us : List Value) (hl : us.length = P_led_on.length) : BindsTo s (fds 16) ⟨us, []⟩ (P_led_on.zip us) :=
  FunD.bindsA (ps := P_led_on) T.t16 (fun _ _ _ _ _ _ us hl => match us, hl with | [_, _], _ => rfl) s us hl
theorem bd_is_round (T : Txt K mg ad fds) (s : Shared) (us : List Value) (hl : us.length = P_is_round.length) : BindsTo s (fds 17) ⟨us, []⟩ (P_is_round.zip us) :=
  FunD.bindsA (ps := P_is_round) T.t17 (fun _ _ _ _ _ _ us hl => match us, hl with | [_, _], _ => rfl) s us hl
theorem bd_is_whole (T : Txt K mg ad fds) (s : Shared) (us : List Value) (hl : us.length = P_is_whole.length) : BindsTo s (fds 18) ⟨us, []⟩ (P_is_whole.zip us) :=
  FunD.bindsA (ps := P_is_whole) T.t18 (fun _ _ _ _ _ _ us hl => match us, hl with | [_], _ => rfl) s us hl
theorem bd_are_lengths (T : Txt K mg ad fds) (s : Shared) (us : List Value) (hl : us.length = P_are_lengths.length) : BindsTo s (fds 19) ⟨us, []⟩ (P_are_lengths.zip us) :=
  FunD.bindsA (ps := P_are_lengths) T.t19 (fun _ _ _ _ _ _ us hl => match us, hl with | [_], _ => rfl) s us hl
theorem bd_are_one_size (T : Txt K mg ad fds) (s : Shared) (us : List Value) (hl : us.length = P_are_one_size.length) : BindsTo s (fds 20) ⟨us, []⟩ (P_are_one_size.zip us) :=
  FunD.bindsA (ps := P_are_one_size) T.t20 (fun _ _ _ _ _ _ us hl => match us, hl with | [_, _], _ => rfl) s us hl
theorem bd_is_row (T : Txt K mg ad fds) (s : Shared) (us : List Value) (hl : us.length = P_is_row.length) : BindsTo s (fds 21) ⟨us, []⟩ (P_is_row.zip us) :=
  FunD.bindsA (ps := P_is_row) T.t21 (fun _ _ _ _ _ _ us hl => match us, hl with | [_], _ => rfl) s us hl
theorem bd_ring_shown (T : Txt K mg ad fds) (s : Shared) (us : List Value) (hl : us.length = P_ring_shown.length) : BindsTo s (fds 22) ⟨us, []⟩ (P_ring_shown.zip us) :=
  FunD.bindsA (ps := P_ring_shown) T.t22 (fun _ _ _ _ _ _ us hl => match us, hl with | [_, _, _], _ => rfl) s us hl
theorem bd_hurdle (T : Txt K mg ad fds) (s : Shared) (us : List Value) (hl : us.length = P_hurdle.length) : BindsTo s (fds 23) ⟨us, []⟩ (P_hurdle.zip us) :=
  FunD.bindsA (ps := P_hurdle) T.t23 (fun _ _ _ _ _ _ us hl => match us, hl with | [_, _], _ => rfl) s us hl
theorem bd_no_ring_shown (T : Txt K mg ad fds) (s : Shared) (us : List Value) (hl : us.length = P_no_ring_shown.length) : BindsTo s (fds 24) ⟨us, []⟩ (P_no_ring_shown.zip us) :=
  FunD.bindsA (ps := P_no_ring_shown) T.t24 (fun _ _ _ _ _ _ us hl => match us, hl with | [_, _, _], _ => rfl) s us hl
theorem bd_completed_shown (T : Txt K mg ad fds) (s : Shared) (us : List Value) (hl : us.length = P_completed_shown.length) : BindsTo s (fds 25) ⟨us, []⟩ (P_completed_shown.zip us) :=
  FunD.bindsA (ps := P_completed_shown) T.t25 (fun _ _ _ _ _ _ us hl => match us, hl with | [_, _, _], _ => rfl) s us hl
theorem bd_are_lots (T : Txt K mg ad fds) (s : Shared) (us : List Value) (hl : us.length = P_are_lots.length) : BindsTo s (fds 26) ⟨us, []⟩ (P_are_lots.zip us) :=
  FunD.bindsA (ps := P_are_lots) T.t26 (fun _ _ _ _ _ _ us hl => match us, hl with | [_], _ => rfl) s us hl
theorem bd_is_empty (T : Txt K mg ad fds) (s : Shared) (us : List Value) (hl : us.length = P_is_empty.length) : BindsTo s (fds 27) ⟨us, []⟩ (P_is_empty.zip us) :=
  FunD.bindsA (ps := P_is_empty) T.t27 (fun _ _ _ _ _ _ us hl => match us, hl with | [_], _ => rfl) s us hl
theorem bd_hook_row (T : Txt K mg ad fds) (s : Shared) (us : List Value) (hl : us.length = P_hook_row.length) : BindsTo s (fds 28) ⟨us, []⟩ (P_hook_row.zip us) :=
  FunD.bindsA (ps := P_hook_row) T.t28 (fun _ _ _ _ _ _ us hl => match us, hl with | [_], _ => rfl) s us hl
theorem bd_stepped (T : Txt K mg ad fds) (s : Shared) (us : List Value) (hl : us.length = P_stepped.length) : BindsTo s (fds 29) ⟨us, []⟩ (P_stepped.zip us) :=
  FunD.bindsA (ps := P_stepped) T.t29 (fun _ _ _ _ _ _ us hl => match us, hl with | [_], _ => rfl) s us hl
theorem bd_turns_with (T : Txt K mg ad fds) (s : Shared) (us : List Value) (hl : us.length = P_turns_with.length) : BindsTo s (fds 30) ⟨us, []⟩ (P_turns_with.zip us) :=
  FunD.bindsA (ps := P_turns_with) T.t30 (fun _ _ _ _ _ _ us hl => match us, hl with | [_], _ => rfl) s us hl
theorem bd_summed (T : Txt K mg ad fds) (s : Shared) (us : List Value) (hl : us.length = P_summed.length) : BindsTo s (fds 31) ⟨us, []⟩ (P_summed.zip us) :=
  FunD.bindsA (ps := P_summed) T.t31 (fun _ _ _ _ _ _ us hl => match us, hl with | [_], _ => rfl) s us hl
theorem bd_count_shown (T : Txt K mg ad fds) (s : Shared) (us : List Value) (hl : us.length = P_count_shown.length) : BindsTo s (fds 32) ⟨us, []⟩ (P_count_shown.zip us) :=
  FunD.bindsA (ps := P_count_shown) T.t32 (fun _ _ _ _ _ _ us hl => match us, hl with | [_, _, _], _ => rfl) s us hl
theorem bd_often (T : Txt K mg ad fds) (s : Shared) (us : List Value) (hl : us.length = P_often.length) : BindsTo s (fds 33) ⟨us, []⟩ (P_often.zip us) :=
  FunD.bindsA (ps := P_often) T.t33 (fun _ _ _ _ _ _ us hl => match us, hl with | [_, _], _ => rfl) s us hl
theorem bd_root_shown (T : Txt K mg ad fds) (s : Shared) (us : List Value) (hl : us.length = P_root_shown.length) : BindsTo s (fds 34) ⟨us, []⟩ (P_root_shown.zip us) :=
  FunD.bindsA (ps := P_root_shown) T.t34 (fun _ _ _ _ _ _ us hl => match us, hl with | [_, _, _], _ => rfl) s us hl
theorem bd_accepts (T : Txt K mg ad fds) (s : Shared) (us : List Value) (hl : us.length = P_accepts.length) : BindsTo s (fds 35) ⟨us, []⟩ (P_accepts.zip us) :=
  FunD.bindsA (ps := P_accepts) T.t35 (fun _ _ _ _ _ _ us hl => match us, hl with | [_, _], _ => rfl) s us hl
theorem bd__law_back (T : Txt K mg ad fds) (s : Shared) (us : List Value) (hl : us.length = P__law_back.length) : BindsTo s (fds 6) ⟨us, []⟩ (P__law_back.zip us) :=
  FunD.bindsA (ps := P__law_back) T.t6 (fun _ _ _ _ _ _ us hl => match us, hl with | [_], _ => rfl) s us hl
theorem bd__law_led (T : Txt K mg ad fds) (s : Shared) (us : List Value) (hl : us.length = P__law_led.length) : BindsTo s (fds 5) ⟨us, []⟩ (P__law_led.zip us) :=
  FunD.bindsA (ps := P__law_led) T.t5 (fun _ _ _ _ _ _ us hl => match us, hl with | [_, _], _ => rfl) s us hl
theorem bd__law_bent_turn (T : Txt K mg ad fds) (s : Shared) (us : List Value) (hl : us.length = P__law_bent_turn.length) : BindsTo s (fds 44) ⟨us, []⟩ (P__law_bent_turn.zip us) :=
  FunD.bindsA (ps := P__law_bent_turn) T.t44 (fun _ _ _ _ _ _ us hl => match us, hl with | [_, _], _ => rfl) s us hl
theorem bd__law_odd_turn (T : Txt K mg ad fds) (s : Shared) (us : List Value) (hl : us.length = P__law_odd_turn.length) : BindsTo s (fds 51) ⟨us, []⟩ (P__law_odd_turn.zip us) :=
  FunD.bindsA (ps := P__law_odd_turn) T.t51 (fun _ _ _ _ _ _ us hl => match us, hl with | [_, _], _ => rfl) s us hl
theorem bd__law_is_number (T : Txt K mg ad fds) (s : Shared) (us : List Value) (hl : us.length = P__law_is_number.length) : BindsTo s (fds 40) ⟨us, []⟩ (P__law_is_number.zip us) :=
  FunD.bindsA (ps := P__law_is_number) T.t40 (fun _ _ _ _ _ _ us hl => match us, hl with | [_, _, _], _ => rfl) s us hl
theorem bd__law_is_turn (T : Txt K mg ad fds) (s : Shared) (us : List Value) (hl : us.length = P__law_is_turn.length) : BindsTo s (fds 42) ⟨us, []⟩ (P__law_is_turn.zip us) :=
  FunD.bindsA (ps := P__law_is_turn) T.t42 (fun _ _ _ _ _ _ us hl => match us, hl with | [_], _ => rfl) s us hl
theorem bd__law_due (T : Txt K mg ad fds) (s : Shared) (us : List Value) (hl : us.length = P__law_due.length) : BindsTo s (fds 55) ⟨us, []⟩ (P__law_due.zip us) :=
  FunD.bindsA (ps := P__law_due) T.t55 (fun _ _ _ _ _ _ us hl => match us, hl with | [_, _, _], _ => rfl) s us hl
theorem bd__law_right (T : Txt K mg ad fds) (s : Shared) (us : List Value) (hl : us.length = P__law_right.length) : BindsTo s (fds 56) ⟨us, []⟩ (P__law_right.zip us) :=
  FunD.bindsA (ps := P__law_right) T.t56 (fun _ _ _ _ _ _ us hl => match us, hl with | [_], _ => rfl) s us hl
theorem bd__law_vat (T : Txt K mg ad fds) (s : Shared) (us : List Value) (hl : us.length = P__law_vat.length) : BindsTo s (fds 37) ⟨us, []⟩ (P__law_vat.zip us) :=
  FunD.bindsA (ps := P__law_vat) T.t37 (fun _ _ _ _ _ _ us hl => match us, hl with | [_, _], _ => rfl) s us hl
theorem bd_law (T : Txt K mg ad fds) (s : Shared) (us : List Value) (hl : us.length = P_law.length) : BindsTo s (fds 57) ⟨us, []⟩ (P_law.zip us) :=
  FunD.bindsA (ps := P_law) T.t57 (fun _ _ _ _ _ _ us hl => match us, hl with | [_], _ => rfl) s us hl
theorem kws (T : Txt K mg ad fds) : Kws fds := by
  refine ⟨trivial⟩
theorem fns (G : Gs mg) (T : Txt K mg ad fds) : ∀ k, Fns P w K mg base XR k ad fds
  | 0 => ⟨⟨fn_zero, T.m1, T.t1.kp, bd__law_dip T, callN_len (d := ⟨2, 4, c__law_dip⟩) rfl rfl⟩,
    ⟨fn_zero, T.m13, T.t13.kp, bd__law_of T, callN_len (d := ⟨2, 2, c__law_of⟩) rfl rfl⟩,
    ⟨fn_zero, T.m0, T.t0.kp, bd__law_made_turn T, callN_len (d := ⟨2, 8, c__law_made_turn⟩) rfl rfl⟩,
    ⟨fn_zero, T.m2, T.t2.kp, bd__law_mixed T, callN_len (d := ⟨2, 4, c__law_mixed⟩) rfl rfl⟩,
    ⟨fn_zero, T.m3, T.t3.kp, bd__law_turn T, callN_len (d := ⟨2, 2, c__law_turn⟩) rfl rfl⟩,
    ⟨fn_zero, T.m8, T.t8.kp, bd__law_walked T, callN_len (d := ⟨1, 5, c__law_walked⟩) rfl rfl⟩,
    ⟨fn_zero, T.m11, T.t11.kp, bd__law_often T, callN_len (d := ⟨2, 6, c__law_often⟩) rfl rfl⟩,
    ⟨fn_zero, T.m4, T.t4.kp, bd__law_lots T, callN_len (d := ⟨2, 6, c__law_lots⟩) rfl rfl⟩,
    ⟨fn_zero, T.m15, T.t15.kp, bd_lengths_in T, callN_len (d := ⟨1, 5, c_lengths_in⟩) rfl rfl⟩,
    ⟨fn_zero, T.m16, T.t16.kp, bd_led_on T, callN_len (d := ⟨2, 3, c_led_on⟩) rfl rfl⟩,
    ⟨fn_zero, T.m17, T.t17.kp, bd_is_round T, callN_len (d := ⟨2, 2, c_is_round⟩) rfl rfl⟩,
    ⟨fn_zero, T.m18, T.t18.kp, bd_is_whole T, callN_len (d := ⟨1, 1, c_is_whole⟩) rfl rfl⟩,
    ⟨fn_zero, T.m19, T.t19.kp, bd_are_lengths T, callN_len (d := ⟨1, 3, c_are_lengths⟩) rfl rfl⟩,
    ⟨fn_zero, T.m20, T.t20.kp, bd_are_one_size T, callN_len (d := ⟨2, 2, c_are_one_size⟩) rfl rfl⟩,
    ⟨fn_zero, T.m21, T.t21.kp, bd_is_row T, callN_len (d := ⟨1, 4, c_is_row⟩) rfl rfl⟩,
    ⟨fn_zero, T.m22, T.t22.kp, bd_ring_shown T, callN_len (d := ⟨3, 3, c_ring_shown⟩) rfl rfl⟩,
    ⟨fn_zero, T.m23, T.t23.kp, bd_hurdle T, callN_len (d := ⟨2, 3, c_hurdle⟩) rfl rfl⟩,
    ⟨fn_zero, T.m24, T.t24.kp, bd_no_ring_shown T, callN_len (d := ⟨3, 3, c_no_ring_shown⟩) rfl rfl⟩,
    ⟨fn_zero, T.m25, T.t25.kp, bd_completed_shown T, callN_len (d := ⟨3, 3, c_completed_shown⟩) rfl rfl⟩,
    ⟨fn_zero, T.m26, T.t26.kp, bd_are_lots T, callN_len (d := ⟨1, 2, c_are_lots⟩) rfl rfl⟩,
    ⟨fn_zero, T.m27, T.t27.kp, bd_is_empty T, callN_len (d := ⟨1, 1, c_is_empty⟩) rfl rfl⟩,
    ⟨fn_zero, T.m28, T.t28.kp, bd_hook_row T, callN_len (d := ⟨1, 8, c_hook_row⟩) rfl rfl⟩,
    ⟨fn_zero, T.m29, T.t29.kp, bd_stepped T, callN_len (d := ⟨1, 3, c_stepped⟩) rfl rfl⟩,
    ⟨fn_zero, T.m30, T.t30.kp, bd_turns_with T, callN_len (d := ⟨1, 3, c_turns_with⟩) rfl rfl⟩,
    ⟨fn_zero, T.m31, T.t31.kp, bd_summed T, callN_len (d := ⟨1, 12, c_summed⟩) rfl rfl⟩,
    ⟨fn_zero, T.m32, T.t32.kp, bd_count_shown T, callN_len (d := ⟨3, 3, c_count_shown⟩) rfl rfl⟩,
    ⟨fn_zero, T.m33, T.t33.kp, bd_often T, callN_len (d := ⟨2, 4, c_often⟩) rfl rfl⟩,
    ⟨fn_zero, T.m34, T.t34.kp, bd_root_shown T, callN_len (d := ⟨3, 3, c_root_shown⟩) rfl rfl⟩,
    ⟨fn_zero, T.m35, T.t35.kp, bd_accepts T, callN_len (d := ⟨2, 5, c_accepts⟩) rfl rfl⟩,
    ⟨fn_zero, T.m6, T.t6.kp, bd__law_back T, callN_len (d := ⟨1, 2, c__law_back⟩) rfl rfl⟩,
    ⟨fn_zero, T.m5, T.t5.kp, bd__law_led T, callN_len (d := ⟨2, 3, c__law_led⟩) rfl rfl⟩,
    ⟨fn_zero, T.m44, T.t44.kp, bd__law_bent_turn T, callN_len (d := ⟨2, 8, c__law_bent_turn⟩) rfl rfl⟩,
    ⟨fn_zero, T.m51, T.t51.kp, bd__law_odd_turn T, callN_len (d := ⟨2, 4, c__law_odd_turn⟩) rfl rfl⟩,
    ⟨fn_zero, T.m40, T.t40.kp, bd__law_is_number T, callN_len (d := ⟨3, 3, c__law_is_number⟩) rfl rfl⟩,
    ⟨fn_zero, T.m42, T.t42.kp, bd__law_is_turn T, callN_len (d := ⟨1, 2, c__law_is_turn⟩) rfl rfl⟩,
    ⟨fn_zero, T.m55, T.t55.kp, bd__law_due T, callN_len (d := ⟨3, 3, c__law_due__4⟩) rfl rfl⟩,
    ⟨fn_zero, T.m56, T.t56.kp, bd__law_right T, callN_len (d := ⟨1, 10, c__law_right__5⟩) rfl rfl⟩,
    ⟨fn_zero, T.m37, T.t37.kp, bd__law_vat T, callN_len (d := ⟨2, 5, c__law_vat⟩) rfl rfl⟩,
    ⟨fn_zero, T.m57, T.t57.kp, bd_law T, callN_len (d := ⟨1, 2, c_law__5⟩) rfl rfl⟩⟩
  | k + 1 =>
    have F : Fns P w K mg base XR k ad fds := fns G T k
    ⟨⟨fn_step (d := ⟨2, 4, c__law_dip⟩) T.t1 sc__law_dip rfl rfl rfl (fun _ _ _ _ _ _ hg hr => b__law_dip G (kws T) F hg hr), T.m1, T.t1.kp, bd__law_dip T, callN_len (d := ⟨2, 4, c__law_dip⟩) rfl rfl⟩,
    ⟨fn_step (d := ⟨2, 2, c__law_of⟩) T.t13 sc__law_of rfl rfl rfl (fun _ _ _ _ _ _ hg hr => b__law_of G (kws T) F hg hr), T.m13, T.t13.kp, bd__law_of T, callN_len (d := ⟨2, 2, c__law_of⟩) rfl rfl⟩,
    ⟨fn_step (d := ⟨2, 8, c__law_made_turn⟩) T.t0 sc__law_made_turn rfl rfl rfl (fun _ _ _ _ _ _ hg hr => b__law_made_turn G (kws T) F hg hr), T.m0, T.t0.kp, bd__law_made_turn T, callN_len (d := ⟨2, 8, c__law_made_turn⟩) rfl rfl⟩,
    ⟨fn_step (d := ⟨2, 4, c__law_mixed⟩) T.t2 sc__law_mixed rfl rfl rfl (fun _ _ _ _ _ _ hg hr => b__law_mixed G (kws T) F hg hr), T.m2, T.t2.kp, bd__law_mixed T, callN_len (d := ⟨2, 4, c__law_mixed⟩) rfl rfl⟩,
    ⟨fn_step (d := ⟨2, 2, c__law_turn⟩) T.t3 sc__law_turn rfl rfl rfl (fun _ _ _ _ _ _ hg hr => b__law_turn G (kws T) F hg hr), T.m3, T.t3.kp, bd__law_turn T, callN_len (d := ⟨2, 2, c__law_turn⟩) rfl rfl⟩,
    ⟨fn_step (d := ⟨1, 5, c__law_walked⟩) T.t8 sc__law_walked rfl rfl rfl (fun _ _ _ _ _ _ hg hr => b__law_walked G (kws T) F hg hr), T.m8, T.t8.kp, bd__law_walked T, callN_len (d := ⟨1, 5, c__law_walked⟩) rfl rfl⟩,
    ⟨fn_step (d := ⟨2, 6, c__law_often⟩) T.t11 sc__law_often rfl rfl rfl (fun _ _ _ _ _ _ hg hr => b__law_often G (kws T) F hg hr), T.m11, T.t11.kp, bd__law_often T, callN_len (d := ⟨2, 6, c__law_often⟩) rfl rfl⟩,
    ⟨fn_step (d := ⟨2, 6, c__law_lots⟩) T.t4 sc__law_lots rfl rfl rfl (fun _ _ _ _ _ _ hg hr => b__law_lots G (kws T) F hg hr), T.m4, T.t4.kp, bd__law_lots T, callN_len (d := ⟨2, 6, c__law_lots⟩) rfl rfl⟩,
    ⟨fn_step (d := ⟨1, 5, c_lengths_in⟩) T.t15 sc_lengths_in rfl rfl rfl (fun _ _ _ _ _ _ hg hr => b_lengths_in G (kws T) F hg hr), T.m15, T.t15.kp, bd_lengths_in T, callN_len (d := ⟨1, 5, c_lengths_in⟩) rfl rfl⟩,
    ⟨fn_step (d := ⟨2, 3, c_led_on⟩) T.t16 sc_led_on rfl rfl rfl (fun _ _ _ _ _ _ hg hr => b_led_on G (kws T) F hg hr), T.m16, T.t16.kp, bd_led_on T, callN_len (d := ⟨2, 3, c_led_on⟩) rfl rfl⟩,
    ⟨fn_step (d := ⟨2, 2, c_is_round⟩) T.t17 sc_is_round rfl rfl rfl (fun _ _ _ _ _ _ hg hr => b_is_round G (kws T) F hg hr), T.m17, T.t17.kp, bd_is_round T, callN_len (d := ⟨2, 2, c_is_round⟩) rfl rfl⟩,
    ⟨fn_step (d := ⟨1, 1, c_is_whole⟩) T.t18 sc_is_whole rfl rfl rfl (fun _ _ _ _ _ _ hg hr => b_is_whole G (kws T) F hg hr), T.m18, T.t18.kp, bd_is_whole T, callN_len (d := ⟨1, 1, c_is_whole⟩) rfl rfl⟩,
    ⟨fn_step (d := ⟨1, 3, c_are_lengths⟩) T.t19 sc_are_lengths rfl rfl rfl (fun _ _ _ _ _ _ hg hr => b_are_lengths G (kws T) F hg hr), T.m19, T.t19.kp, bd_are_lengths T, callN_len (d := ⟨1, 3, c_are_lengths⟩) rfl rfl⟩,
    ⟨fn_step (d := ⟨2, 2, c_are_one_size⟩) T.t20 sc_are_one_size rfl rfl rfl (fun _ _ _ _ _ _ hg hr => b_are_one_size G (kws T) F hg hr), T.m20, T.t20.kp, bd_are_one_size T, callN_len (d := ⟨2, 2, c_are_one_size⟩) rfl rfl⟩,
    ⟨fn_step (d := ⟨1, 4, c_is_row⟩) T.t21 sc_is_row rfl rfl rfl (fun _ _ _ _ _ _ hg hr => b_is_row G (kws T) F hg hr), T.m21, T.t21.kp, bd_is_row T, callN_len (d := ⟨1, 4, c_is_row⟩) rfl rfl⟩,
    ⟨fn_step (d := ⟨3, 3, c_ring_shown⟩) T.t22 sc_ring_shown rfl rfl rfl (fun _ _ _ _ _ _ hg hr => b_ring_shown G (kws T) F hg hr), T.m22, T.t22.kp, bd_ring_shown T, callN_len (d := ⟨3, 3, c_ring_shown⟩) rfl rfl⟩,
    ⟨fn_step (d := ⟨2, 3, c_hurdle⟩) T.t23 sc_hurdle rfl rfl rfl (fun _ _ _ _ _ _ hg hr => b_hurdle G (kws T) F hg hr), T.m23, T.t23.kp, bd_hurdle T, callN_len (d := ⟨2, 3, c_hurdle⟩) rfl rfl⟩,
    ⟨fn_step (d := ⟨3, 3, c_no_ring_shown⟩) T.t24 sc_no_ring_shown rfl rfl rfl (fun _ _ _ _ _ _ hg hr => b_no_ring_shown G (kws T) F hg hr), T.m24, T.t24.kp, bd_no_ring_shown T, callN_len (d := ⟨3, 3, c_no_ring_shown⟩) rfl rfl⟩,
    ⟨fn_step (d := ⟨3, 3, c_completed_shown⟩) T.t25 sc_completed_shown rfl rfl rfl (fun _ _ _ _ _ _ hg hr => b_completed_shown G (kws T) F hg hr), T.m25, T.t25.kp, bd_completed_shown T, callN_len (d := ⟨3, 3, c_completed_shown⟩) rfl rfl⟩,
    ⟨fn_step (d := ⟨1, 2, c_are_lots⟩) T.t26 sc_are_lots rfl rfl rfl (fun _ _ _ _ _ _ hg hr => b_are_lots G (kws T) F hg hr), T.m26, T.t26.kp, bd_are_lots T, callN_len (d := ⟨1, 2, c_are_lots⟩) rfl rfl⟩,
    ⟨fn_step (d := ⟨1, 1, c_is_empty⟩) T.t27 sc_is_empty rfl rfl rfl (fun _ _ _ _ _ _ hg hr => b_is_empty G (kws T) F hg hr), T.m27, T.t27.kp, bd_is_empty T, callN_len (d := ⟨1, 1, c_is_empty⟩) rfl rfl⟩,
    ⟨fn_step (d := ⟨1, 8, c_hook_row⟩) T.t28 sc_hook_row rfl rfl rfl (fun _ _ _ _ _ _ hg hr => b_hook_row G (kws T) F hg hr), T.m28, T.t28.kp, bd_hook_row T, callN_len (d := ⟨1, 8, c_hook_row⟩) rfl rfl⟩,
    ⟨fn_step (d := ⟨1, 3, c_stepped⟩) T.t29 sc_stepped rfl rfl rfl (fun _ _ _ _ _ _ hg hr => b_stepped G (kws T) F hg hr), T.m29, T.t29.kp, bd_stepped T, callN_len (d := ⟨1, 3, c_stepped⟩) rfl rfl⟩,
    ⟨fn_step (d := ⟨1, 3, c_turns_with⟩) T.t30 sc_turns_with rfl rfl rfl (fun _ _ _ _ _ _ hg hr => b_turns_with G (kws T) F hg hr), T.m30, T.t30.kp, bd_turns_with T, callN_len (d := ⟨1, 3, c_turns_with⟩) rfl rfl⟩,
    ⟨fn_step (d := ⟨1, 12, c_summed⟩) T.t31 sc_summed rfl rfl rfl (fun _ _ _ _ _ _ hg hr => b_summed G (kws T) F hg hr), T.m31, T.t31.kp, bd_summed T, callN_len (d := ⟨1, 12, c_summed⟩) rfl rfl⟩,
    ⟨fn_step (d := ⟨3, 3, c_count_shown⟩) T.t32 sc_count_shown rfl rfl rfl (fun _ _ _ _ _ _ hg hr => b_count_shown G (kws T) F hg hr), T.m32, T.t32.kp, bd_count_shown T, callN_len (d := ⟨3, 3, c_count_shown⟩) rfl rfl⟩,
    ⟨fn_step (d := ⟨2, 4, c_often⟩) T.t33 sc_often rfl rfl rfl (fun _ _ _ _ _ _ hg hr => b_often G (kws T) F hg hr), T.m33, T.t33.kp, bd_often T, callN_len (d := ⟨2, 4, c_often⟩) rfl rfl⟩,
    ⟨fn_step (d := ⟨3, 3, c_root_shown⟩) T.t34 sc_root_shown rfl rfl rfl (fun _ _ _ _ _ _ hg hr => b_root_shown G (kws T) F hg hr), T.m34, T.t34.kp, bd_root_shown T, callN_len (d := ⟨3, 3, c_root_shown⟩) rfl rfl⟩,
    ⟨fn_step (d := ⟨2, 5, c_accepts⟩) T.t35 sc_accepts rfl rfl rfl (fun _ _ _ _ _ _ hg hr => b_accepts G (kws T) F hg hr), T.m35, T.t35.kp, bd_accepts T, callN_len (d := ⟨2, 5, c_accepts⟩) rfl rfl⟩,
    ⟨fn_step (d := ⟨1, 2, c__law_back⟩) T.t6 sc__law_back rfl rfl rfl (fun _ _ _ _ _ _ hg hr => b__law_back G (kws T) F hg hr), T.m6, T.t6.kp, bd__law_back T, callN_len (d := ⟨1, 2, c__law_back⟩) rfl rfl⟩,
    ⟨fn_step (d := ⟨2, 3, c__law_led⟩) T.t5 sc__law_led rfl rfl rfl (fun _ _ _ _ _ _ hg hr => b__law_led G (kws T) F hg hr), T.m5, T.t5.kp, bd__law_led T, callN_len (d := ⟨2, 3, c__law_led⟩) rfl rfl⟩,
    ⟨fn_step (d := ⟨2, 8, c__law_bent_turn⟩) T.t44 sc__law_bent_turn rfl rfl rfl (fun _ _ _ _ _ _ hg hr => b__law_bent_turn G (kws T) F hg hr), T.m44, T.t44.kp, bd__law_bent_turn T, callN_len (d := ⟨2, 8, c__law_bent_turn⟩) rfl rfl⟩,
    ⟨fn_step (d := ⟨2, 4, c__law_odd_turn⟩) T.t51 sc__law_odd_turn rfl rfl rfl (fun _ _ _ _ _ _ hg hr => b__law_odd_turn G (kws T) F hg hr), T.m51, T.t51.kp, bd__law_odd_turn T, callN_len (d := ⟨2, 4, c__law_odd_turn⟩) rfl rfl⟩,
    ⟨fn_step (d := ⟨3, 3, c__law_is_number⟩) T.t40 sc__law_is_number rfl rfl rfl (fun _ _ _ _ _ _ hg hr => b__law_is_number G (kws T) F hg hr), T.m40, T.t40.kp, bd__law_is_number T, callN_len (d := ⟨3, 3, c__law_is_number⟩) rfl rfl⟩,
    ⟨fn_step (d := ⟨1, 2, c__law_is_turn⟩) T.t42 sc__law_is_turn rfl rfl rfl (fun _ _ _ _ _ _ hg hr => b__law_is_turn G (kws T) F hg hr), T.m42, T.t42.kp, bd__law_is_turn T, callN_len (d := ⟨1, 2, c__law_is_turn⟩) rfl rfl⟩,
    ⟨fn_step (d := ⟨3, 3, c__law_due__4⟩) T.t55 sc__law_due rfl rfl rfl (fun _ _ _ _ _ _ hg hr => b__law_due G (kws T) F hg hr), T.m55, T.t55.kp, bd__law_due T, callN_len (d := ⟨3, 3, c__law_due__4⟩) rfl rfl⟩,
    ⟨fn_step (d := ⟨1, 10, c__law_right__5⟩) T.t56 sc__law_right rfl rfl rfl (fun _ _ _ _ _ _ hg hr => b__law_right G (kws T) F hg hr), T.m56, T.t56.kp, bd__law_right T, callN_len (d := ⟨1, 10, c__law_right__5⟩) rfl rfl⟩,
    ⟨fn_step (d := ⟨2, 5, c__law_vat⟩) T.t37 sc__law_vat rfl rfl rfl (fun _ _ _ _ _ _ hg hr => b__law_vat G (kws T) F hg hr), T.m37, T.t37.kp, bd__law_vat T, callN_len (d := ⟨2, 5, c__law_vat⟩) rfl rfl⟩,
    ⟨fn_step (d := ⟨1, 2, c_law__5⟩) T.t57 sc_law rfl rfl rfl (fun _ _ _ _ _ _ hg hr => b_law G (kws T) F hg hr), T.m57, T.t57.kp, bd_law T, callN_len (d := ⟨1, 2, c_law__5⟩) rfl rfl⟩⟩
end
/-! ### the head -/
def dds : List He.DefD := [⟨("_law_dip", none), "_law_dip", "_law_dip", defArgs s__law_dip, defBody s__law_dip, defScope s__law_dip, [], []⟩,
  ⟨("_law_of", none), "_law_of", "_law_of", defArgs s__law_of, defBody s__law_of, defScope s__law_of, [], []⟩,
  ⟨("_law_made_turn", none), "_law_made_turn", "_law_made_turn", defArgs s__law_made_turn, defBody s__law_made_turn, defScope s__law_made_turn, [], []⟩,
  ⟨("_law_mixed", none), "_law_mixed", "_law_mixed", defArgs s__law_mixed, defBody s__law_mixed, defScope s__law_mixed, [], []⟩,
  ⟨("_law_turn", none), "_law_turn", "_law_turn", defArgs s__law_turn, defBody s__law_turn, defScope s__law_turn, [], []⟩,
  ⟨("_law_walked", none), "_law_walked", "_law_walked", defArgs s__law_walked, defBody s__law_walked, defScope s__law_walked, [], []⟩,
  ⟨("_law_often", none), "_law_often", "_law_often", defArgs s__law_often, defBody s__law_often, defScope s__law_often, [], []⟩,
  ⟨("_law_lots", none), "_law_lots", "_law_lots", defArgs s__law_lots, defBody s__law_lots, defScope s__law_lots, [], []⟩,
  ⟨("lengths_in", none), "lengths_in", "lengths_in", defArgs s_lengths_in, defBody s_lengths_in, defScope s_lengths_in, [], []⟩,
  ⟨("led_on", none), "led_on", "led_on", defArgs s_led_on, defBody s_led_on, defScope s_led_on, [], []⟩,
  ⟨("is_round", none), "is_round", "is_round", defArgs s_is_round, defBody s_is_round, defScope s_is_round, [], []⟩,
  ⟨("is_whole", none), "is_whole", "is_whole", defArgs s_is_whole, defBody s_is_whole, defScope s_is_whole, [], []⟩,
  ⟨("are_lengths", none), "are_lengths", "are_lengths", defArgs s_are_lengths, defBody s_are_lengths, defScope s_are_lengths, [], []⟩,
  ⟨("are_one_size", none), "are_one_size", "are_one_size", defArgs s_are_one_size, defBody s_are_one_size, defScope s_are_one_size, [], []⟩,
  ⟨("is_row", none), "is_row", "is_row", defArgs s_is_row, defBody s_is_row, defScope s_is_row, [], []⟩,
  ⟨("ring_shown", none), "ring_shown", "ring_shown", defArgs s_ring_shown, defBody s_ring_shown, defScope s_ring_shown, [], []⟩,
  ⟨("hurdle", none), "hurdle", "hurdle", defArgs s_hurdle, defBody s_hurdle, defScope s_hurdle, [], []⟩,
  ⟨("no_ring_shown", none), "no_ring_shown", "no_ring_shown", defArgs s_no_ring_shown, defBody s_no_ring_shown, defScope s_no_ring_shown, [], []⟩,
  ⟨("completed_shown", none), "completed_shown", "completed_shown", defArgs s_completed_shown, defBody s_completed_shown, defScope s_completed_shown, [], []⟩,
  ⟨("are_lots", none), "are_lots", "are_lots", defArgs s_are_lots, defBody s_are_lots, defScope s_are_lots, [], []⟩,
  ⟨("is_empty", none), "is_empty", "is_empty", defArgs s_is_empty, defBody s_is_empty, defScope s_is_empty, [], []⟩,
  ⟨("hook_row", none), "hook_row", "hook_row", defArgs s_hook_row, defBody s_hook_row, defScope s_hook_row, [], []⟩,
  ⟨("stepped", none), "stepped", "stepped", defArgs s_stepped, defBody s_stepped, defScope s_stepped, [], []⟩,
  ⟨("turns_with", none), "turns_with", "turns_with", defArgs s_turns_with, defBody s_turns_with, defScope s_turns_with, [], []⟩,
  ⟨("summed", none), "summed", "summed", defArgs s_summed, defBody s_summed, defScope s_summed, [], []⟩,
  ⟨("count_shown", none), "count_shown", "count_shown", defArgs s_count_shown, defBody s_count_shown, defScope s_count_shown, [], []⟩,
  ⟨("often", none), "often", "often", defArgs s_often, defBody s_often, defScope s_often, [], []⟩,
  ⟨("root_shown", none), "root_shown", "root_shown", defArgs s_root_shown, defBody s_root_shown, defScope s_root_shown, [], []⟩,
  ⟨("accepts", none), "accepts", "accepts", defArgs s_accepts, defBody s_accepts, defScope s_accepts, [], []⟩,
  ⟨("_law_back", none), "_law_back", "_law_back", defArgs s__law_back, defBody s__law_back, defScope s__law_back, [], []⟩,
  ⟨("_law_led", none), "_law_led", "_law_led", defArgs s__law_led, defBody s__law_led, defScope s__law_led, [], []⟩,
  ⟨("_law_bent_turn", none), "_law_bent_turn", "_law_bent_turn", defArgs s__law_bent_turn, defBody s__law_bent_turn, defScope s__law_bent_turn, [], []⟩,
  ⟨("_law_odd_turn", none), "_law_odd_turn", "_law_odd_turn", defArgs s__law_odd_turn, defBody s__law_odd_turn, defScope s__law_odd_turn, [], []⟩,
  ⟨("_law_is_number", none), "_law_is_number", "_law_is_number", defArgs s__law_is_number, defBody s__law_is_number, defScope s__law_is_number, [], []⟩,
  ⟨("_law_is_turn", none), "_law_is_turn", "_law_is_turn", defArgs s__law_is_turn, defBody s__law_is_turn, defScope s__law_is_turn, [], []⟩,
  ⟨("_law_due", none), "_law_due", "_law_due", defArgs s__law_due, defBody s__law_due, defScope s__law_due, [], []⟩,
  ⟨("_law_right", none), "_law_right", "_law_right", defArgs s__law_right, defBody s__law_right, defScope s__law_right, [], []⟩,
  ⟨("_law_vat", none), "_law_vat", "_law_vat", defArgs s__law_vat, defBody s__law_vat, defScope s__law_vat, [], []⟩,
  ⟨("law", none), "law", "law", defArgs s_law, defBody s_law, defScope s_law, [], []⟩]
def fa : List He.Fa := [.glo "_law_dip", .glo "_law_of", .glo "_law_made_turn", .glo "_law_mixed", .glo "_law_turn", .glo "_law_walked", .glo "_law_often", .glo "_law_lots", .glo "lengths_in", .glo "led_on", .glo "is_round", .glo "is_whole", .glo "are_lengths", .glo "are_one_size", .glo "is_row", .glo "ring_shown", .glo "hurdle", .glo "no_ring_shown", .glo "completed_shown", .glo "are_lots", .glo "is_empty", .glo "hook_row", .glo "stepped", .glo "turns_with", .glo "summed", .glo "count_shown", .glo "often", .glo "root_shown", .glo "accepts", .glo "_law_back", .glo "_law_led", .glo "_law_bent_turn", .glo "_law_odd_turn", .glo "_law_is_number", .glo "_law_is_turn", .glo "_law_due", .glo "_law_right", .glo "_law_vat", .glo "law", .free "abs", .free "all", .free "bool", .free "divmod", .free "enumerate", .free "int", .free "isinstance", .free "len", .free "list", .free "max", .free "min", .free "range", .free "repr", .free "set", .free "sorted", .free "str", .free "sum", .free "tuple", .int "MOST_FACTORS" 4, .int "MOST_OFTEN" 1000, .int "MOST_ROUND" 40, .int "MOST_SUMMED" 12]
def loose0 : List Str := ["__name__", "MOST_ROUND", "MOST_OFTEN", "MOST_SUMMED", "MOST_FACTORS", "is_whole", "is_row", "are_lengths", "lengths_in", "led_on", "is_round", "often", "hurdle", "hook_row", "stepped", "turns_with", "summed", "are_lots", "is_empty", "are_one_size", "ring_shown", "no_ring_shown", "completed_shown", "count_shown", "root_shown", "accepts", "_law_vat", "_law_dip", "_law_of", "_law_mixed"]
def loose1 : List Str := ["_law_lots", "_law_made_turn", "_law_turn", "_law_led", "_law_back", "_law_walked", "_law_often", "_law_is_number", "_law_is_turn", "_law_odd_turn", "_law_bent_turn", "_law_due", "_law_right"]
def loose : List Str := loose0 ++ loose1
def lawAt : Nat := 45
/- defs: 39; free: 18; consts: 4 -/
abbrev Rw : PySem.W.OpenRow := PySem.W.OpenLaw.row PySem.Challenge.rw_ringproducts_k72_whole_root_claims
abbrev hk : PySem.W.Hook := He.hookD 4 fa dds
def ob (s : PySem.W.SharedT) : He.AlD := He.obsDG 4 fa dds (HandSHeadRun.getT s)
theorem ob_eq (s : PySem.W.SharedT) : ob s = hk.obs s.abs := He.obsDG_eq (HandSHeadRun.getT_eq s)
theorem run (w : World) : HandSHeadRun.RunEq Rw (PySem.W.view Rw.prog [45]) hk ob 4000 loose w := by
  intro os
  kernel_rfl
theorem facts {K : PySem.W.Frag} {h : Heap} {mg : Str → Option Value} (X : K.In h) (G : h.Ns mainGlobals mg) (c : He.SaysD fa dds K) : ∃ (ad : Nat → Addr) (fds : Nat → FuncData), Txt K mg ad fds ∧ Gs mg := by
  obtain ⟨fd0, F0⟩ := c.def_ 0 rfl
  obtain ⟨fd1, F1⟩ := c.def_ 1 rfl
  obtain ⟨fd2, F2⟩ := c.def_ 2 rfl
  obtain ⟨fd3, F3⟩ := c.def_ 3 rfl
  obtain ⟨fd4, F4⟩ := c.def_ 4 rfl
  obtain ⟨fd5, F5⟩ := c.def_ 5 rfl
  obtain ⟨fd6, F6⟩ := c.def_ 6 rfl
  obtain ⟨fd7, F7⟩ := c.def_ 7 rfl
  obtain ⟨fd8, F8⟩ := c.def_ 8 rfl
  obtain ⟨fd9, F9⟩ := c.def_ 9 rfl
  obtain ⟨fd10, F10⟩ := c.def_ 10 rfl
  obtain ⟨fd11, F11⟩ := c.def_ 11 rfl
  obtain ⟨fd12, F12⟩ := c.def_ 12 rfl
  obtain ⟨fd13, F13⟩ := c.def_ 13 rfl
  obtain ⟨fd14, F14⟩ := c.def_ 14 rfl
  obtain ⟨fd15, F15⟩ := c.def_ 15 rfl
  obtain ⟨fd16, F16⟩ := c.def_ 16 rfl
  obtain ⟨fd17, F17⟩ := c.def_ 17 rfl
  obtain ⟨fd18, F18⟩ := c.def_ 18 rfl
  obtain ⟨fd19, F19⟩ := c.def_ 19 rfl
  obtain ⟨fd20, F20⟩ := c.def_ 20 rfl
  obtain ⟨fd21, F21⟩ := c.def_ 21 rfl
  obtain ⟨fd22, F22⟩ := c.def_ 22 rfl
  obtain ⟨fd23, F23⟩ := c.def_ 23 rfl
  obtain ⟨fd24, F24⟩ := c.def_ 24 rfl
  obtain ⟨fd25, F25⟩ := c.def_ 25 rfl
  obtain ⟨fd26, F26⟩ := c.def_ 26 rfl
  obtain ⟨fd27, F27⟩ := c.def_ 27 rfl
  obtain ⟨fd28, F28⟩ := c.def_ 28 rfl
  obtain ⟨fd29, F29⟩ := c.def_ 29 rfl
  obtain ⟨fd30, F30⟩ := c.def_ 30 rfl
  obtain ⟨fd31, F31⟩ := c.def_ 31 rfl
  obtain ⟨fd32, F32⟩ := c.def_ 32 rfl
  obtain ⟨fd33, F33⟩ := c.def_ 33 rfl
  obtain ⟨fd34, F34⟩ := c.def_ 34 rfl
  obtain ⟨fd35, F35⟩ := c.def_ 35 rfl
  obtain ⟨fd36, F36⟩ := c.def_ 36 rfl
  obtain ⟨fd37, F37⟩ := c.def_ 37 rfl
  obtain ⟨fd38, F38⟩ := c.def_ 38 rfl
  have g0 := He.glo_ok X G (c.fact 0 (f := .glo "_law_dip") rfl)
  have g1 := He.glo_ok X G (c.fact 1 (f := .glo "_law_of") rfl)
  have g2 := He.glo_ok X G (c.fact 2 (f := .glo "_law_made_turn") rfl)
  have g3 := He.glo_ok X G (c.fact 3 (f := .glo "_law_mixed") rfl)
  have g4 := He.glo_ok X G (c.fact 4 (f := .glo "_law_turn") rfl)
  have g5 := He.glo_ok X G (c.fact 5 (f := .glo "_law_walked") rfl)
  have g6 := He.glo_ok X G (c.fact 6 (f := .glo "_law_often") rfl)
  have g7 := He.glo_ok X G (c.fact 7 (f := .glo "_law_lots") rfl)
  have g8 := He.glo_ok X G (c.fact 8 (f := .glo "lengths_in") rfl)
  have g9 := He.glo_ok X G (c.fact 9 (f := .glo "led_on") rfl)
  have g10 := He.glo_ok X G (c.fact 10 (f := .glo "is_round") rfl)
  have g11 := He.glo_ok X G (c.fact 11 (f := .glo "is_whole") rfl)
  have g12 := He.glo_ok X G (c.fact 12 (f := .glo "are_lengths") rfl)
  have g13 := He.glo_ok X G (c.fact 13 (f := .glo "are_one_size") rfl)
  have g14 := He.glo_ok X G (c.fact 14 (f := .glo "is_row") rfl)
  have g15 := He.glo_ok X G (c.fact 15 (f := .glo "ring_shown") rfl)
  have g16 := He.glo_ok X G (c.fact 16 (f := .glo "hurdle") rfl)
  have g17 := He.glo_ok X G (c.fact 17 (f := .glo "no_ring_shown") rfl)
  have g18 := He.glo_ok X G (c.fact 18 (f := .glo "completed_shown") rfl)
  have g19 := He.glo_ok X G (c.fact 19 (f := .glo "are_lots") rfl)
  have g20 := He.glo_ok X G (c.fact 20 (f := .glo "is_empty") rfl)
  have g21 := He.glo_ok X G (c.fact 21 (f := .glo "hook_row") rfl)
  have g22 := He.glo_ok X G (c.fact 22 (f := .glo "stepped") rfl)
  have g23 := He.glo_ok X G (c.fact 23 (f := .glo "turns_with") rfl)
  have g24 := He.glo_ok X G (c.fact 24 (f := .glo "summed") rfl)
  have g25 := He.glo_ok X G (c.fact 25 (f := .glo "count_shown") rfl)
  have g26 := He.glo_ok X G (c.fact 26 (f := .glo "often") rfl)
  have g27 := He.glo_ok X G (c.fact 27 (f := .glo "root_shown") rfl)
  have g28 := He.glo_ok X G (c.fact 28 (f := .glo "accepts") rfl)
  have g29 := He.glo_ok X G (c.fact 29 (f := .glo "_law_back") rfl)
  have g30 := He.glo_ok X G (c.fact 30 (f := .glo "_law_led") rfl)
  have g31 := He.glo_ok X G (c.fact 31 (f := .glo "_law_bent_turn") rfl)
  have g32 := He.glo_ok X G (c.fact 32 (f := .glo "_law_odd_turn") rfl)
  have g33 := He.glo_ok X G (c.fact 33 (f := .glo "_law_is_number") rfl)
  have g34 := He.glo_ok X G (c.fact 34 (f := .glo "_law_is_turn") rfl)
  have g35 := He.glo_ok X G (c.fact 35 (f := .glo "_law_due") rfl)
  have g36 := He.glo_ok X G (c.fact 36 (f := .glo "_law_right") rfl)
  have g37 := He.glo_ok X G (c.fact 37 (f := .glo "_law_vat") rfl)
  have g38 := He.glo_ok X G (c.fact 38 (f := .glo "law") rfl)
  refine ⟨fun i => [He.fAd K ("_law_made_turn", none), He.fAd K ("_law_dip", none), He.fAd K ("_law_mixed", none), He.fAd K ("_law_turn", none), He.fAd K ("_law_lots", none), He.fAd K ("_law_led", none), He.fAd K ("_law_back", none), 0, He.fAd K ("_law_walked", none), 0, 0, He.fAd K ("_law_often", none), 0, He.fAd K ("_law_of", none), 0, He.fAd K ("lengths_in", none), He.fAd K ("led_on", none), He.fAd K ("is_round", none), He.fAd K ("is_whole", none), He.fAd K ("are_lengths", none), He.fAd K ("are_one_size", none), He.fAd K ("is_row", none), He.fAd K ("ring_shown", none), He.fAd K ("hurdle", none), He.fAd K ("no_ring_shown", none), He.fAd K ("completed_shown", none), He.fAd K ("are_lots", none), He.fAd K ("is_empty", none), He.fAd K ("hook_row", none), He.fAd K ("stepped", none), He.fAd K ("turns_with", none), He.fAd K ("summed", none), He.fAd K ("count_shown", none), He.fAd K ("often", none), He.fAd K ("root_shown", none), He.fAd K ("accepts", none), 0, He.fAd K ("_law_vat", none), 0, 0, He.fAd K ("_law_is_number", none), 0, He.fAd K ("_law_is_turn", none), 0, He.fAd K ("_law_bent_turn", none), 0, 0, 0, 0, 0, 0, He.fAd K ("_law_odd_turn", none), 0, 0, 0, He.fAd K ("_law_due", none), He.fAd K ("_law_right", none), He.fAd K ("law", none)].getD i 0, fun i => [fd2, fd0, fd3, fd4, fd7, fd30, fd29, fd0, fd5, fd0, fd0, fd6, fd0, fd1, fd0, fd8, fd9, fd10, fd11, fd12, fd13, fd14, fd15, fd16, fd17, fd18, fd19, fd20, fd21, fd22, fd23, fd24, fd25, fd26, fd27, fd28, fd0, fd37, fd0, fd0, fd33, fd0, fd34, fd0, fd31, fd0, fd0, fd0, fd0, fd0, fd0, fd32, fd0, fd0, fd0, fd35, fd36, fd38].getD i fd0, ⟨F0, g0, F1, g1, F2, g2, F3, g3, F4, g4, F5, g5, F6, g6, F7, g7, F8, g8, F9, g9, F10, g10, F11, g11, F12, g12, F13, g13, F14, g14, F15, g15, F16, g16, F17, g17, F18, g18, F19, g19, F20, g20, F21, g21, F22, g22, F23, g23, F24, g24, F25, g25, F26, g26, F27, g27, F28, g28, F29, g29, F30, g30, F31, g31, F32, g32, F33, g33, F34, g34, F35, g35, F36, g36, F37, g37, F38, g38⟩, ⟨He.free_ok X G (c.fact 39 (f := .free "abs") rfl), He.free_ok X G (c.fact 40 (f := .free "all") rfl), He.free_ok X G (c.fact 41 (f := .free "bool") rfl), He.free_ok X G (c.fact 42 (f := .free "divmod") rfl), He.free_ok X G (c.fact 43 (f := .free "enumerate") rfl), He.free_ok X G (c.fact 44 (f := .free "int") rfl), He.free_ok X G (c.fact 45 (f := .free "isinstance") rfl), He.free_ok X G (c.fact 46 (f := .free "len") rfl), He.free_ok X G (c.fact 47 (f := .free "list") rfl), He.free_ok X G (c.fact 48 (f := .free "max") rfl), He.free_ok X G (c.fact 49 (f := .free "min") rfl), He.free_ok X G (c.fact 50 (f := .free "range") rfl), He.free_ok X G (c.fact 51 (f := .free "repr") rfl), He.free_ok X G (c.fact 52 (f := .free "set") rfl), He.free_ok X G (c.fact 53 (f := .free "sorted") rfl), He.free_ok X G (c.fact 54 (f := .free "str") rfl), He.free_ok X G (c.fact 55 (f := .free "sum") rfl), He.free_ok X G (c.fact 56 (f := .free "tuple") rfl), He.int_ok X G (c.fact 57 (f := .int "MOST_FACTORS" 4) rfl), He.int_ok X G (c.fact 58 (f := .int "MOST_OFTEN" 1000) rfl), He.int_ok X G (c.fact 59 (f := .int "MOST_ROUND" 40) rfl), He.int_ok X G (c.fact 60 (f := .int "MOST_SUMMED" 12) rfl)⟩⟩
abbrev LV : Nat := 12
def Plain : Prop := ∀ ns : List Int, ns.length ≤ 63 → ∃ M, callN D LV 57 [.ref 0] [.rol (ns.map W.int)] = .ok (.bl true) M
end L72
open PySem PySem.W PySem.Calls PyProof.Rows in
theorem L72.holds_of (plain : L72.Plain) : PySem.Challenge.rw_ringproducts_k72_whole_root_claims.Holds := by
  w_on; o_law
  refine HandSHeadRun.head_any (r := OpenLaw.row PySem.Challenge.rw_ringproducts_k72_whole_root_claims) (q := view (OpenLaw.row PySem.Challenge.rw_ringproducts_k72_whole_root_claims).prog [45]) (H := L72.hk) (ob := L72.ob) (M := 4000) (loose := L72.loose) (d := HandSHeadRun.topDef (OpenLaw.row PySem.Challenge.rw_ringproducts_k72_whole_root_claims).prog 45) (kwd := []) L72.ob_eq
    (by kernel_rfl) (fun s => by kernel_rfl) L72.run (by kernel_rfl) (by kernel_rfl) (by kernel_rfl) (by rfl) (by first | assumption | decide +kernel) (by decide +kernel) ⟨rfl, rfl, rfl, rfl, rfl, by decide +kernel⟩ ?hw ?hc
  case hw => w_witness2
  case hc =>
    refine EV.walkG (l := PySem.Challenge.rw_ringproducts_k72_whole_root_claims) (n := 63) (k := L72.LV) (x := "_law_script") rfl (by decide) (by kernel_rfl) ⟨rfl, by decide, by decide⟩ ?F
    intro w mg fa h Y G hmg0
    obtain ⟨K, KX, c⟩ := Y
    have hmg : mg ("law" : PySem.Str) = some (.ref fa) := by
      have e : (HandSHeadRun.topDef (OpenLaw.row PySem.Challenge.rw_ringproducts_k72_whole_root_claims).prog 45).name = ("law" : PySem.Str) := by kernel_rfl
      rw [← e]
      exact hmg0
    obtain ⟨ad, fds, T, Gm⟩ := L72.facts KX G c
    have e := hmg.symm.trans T.m57
    cases e
    exact ⟨K, fds 57, EV.XR0, EV.callN GD.D L72.LV 57, KX, fun s v => L72.bd_law T s [v] rfl, plain, fun base _ _ => (L72.fns Gm T L72.LV).f57.fn⟩

namespace L72
open PySem PySem.Spec PyProof.Rows L2 EV GD
theorem plain : Plain := fun ns hn => law_plain (k := 10) (li := 57) (ri := 56) (c := 5) rfl (by decide) (by decide) hn fun M r h => right72 (k := 6) h
end L72

theorem PySem.Challenge.cw_ringproducts_k72_whole_root_claims_holds : PySem.Challenge.rw_ringproducts_k72_whole_root_claims.Holds := by
  exact L72.holds_of L72.plain
